import PyProof.Rows.All
import Wide.All
import OpenK.AllK
import Wide.FinOn
import HandS.ForMost
import HandS.ForExc
import HandS.TupLe
import HandS.IsInst
import HandS.TupAny
import HandS.TupMul
import HandS.Deep
import HandS.Wide
import HandS.Zip
import HandS.Walk
import HandS.ExcIs
import HandS.Strs
import HandS.SetFor
import KE.GoesMore
import KE.GoesEnum
import HandS.Style
import HandS.Ends
import HandS.More
import HandS.Words
import HandS.WordsExc
import HandS.Defaults
import HandS.EndBits
import HandS.Head0
import HandS.Head1
import HandS.Head2
import HandS.HeadEnd
import HandS.HeadHook1
import HandS.HeadHook2
import HandS.HeadHook3
import HandS.HeadHook4
import PySem.Challenge.RW_weighplans_k50_whole_best_plans
set_option Elab.async false
set_option linter.all false
/-! Mi0: a small evaluator: values, syntax, meaning. -/
namespace Mi
open PySem

inductive Kd where
  | imm | own | brw | scr
  deriving DecidableEq
/-- values: lists that nothing changes any more (imm), fresh ones that nobody else holds (own), one read out of a slot (brw), the script (scr); ref: an object of the heap -/
inductive Val where
  | non | bl (b : Bool) | int (i : Int) | str (x : Str) | tup (xs : List Val) | lst (k : Kd) (xs : List Val)
  | ref (a : Nat) | fn (f : Nat) | cls (c : Nat) | ty (t : String) | exc (c : Nat)
inductive Obj where
  | lst (xs : List Val)
  | ins (c : Nat) (fs : List (Str × Val))
abbrev Heap := List Obj
abbrev Slots := List (Option Val)
inductive R (α : Type) where
  | ok (a : α) (h : Heap)
  | exc (c : Nat) (h : Heap)
  | bad
@[inline] def R.bind {α β : Type} (r : R α) (k : α → Heap → R β) : R β :=
  match r with
  | .ok a h => k a h
  | .exc c h => .exc c h
  | .bad => .bad
def R.of {α : Type} (o : Option α) (h : Heap) : R α := match o with
  | some a => .ok a h
  | none => .bad

inductive Bop where
  | add | sub | mul | fdiv | mod | pow
  deriving DecidableEq
inductive Cop where
  | eq | ne | lt | le | gt | ge | is | isnot | «in» | notin
  deriving DecidableEq
/-- built-ins called by name, of one and of two values -/
inductive P1 where
  | len | abs | all | any | sum | max | min | list | tuple | int | sorted | lenset
  deriving DecidableEq
inductive P2 where
  | isin | min
  deriving DecidableEq
/-- methods of built-in types that change nothing, with one argument -/
inductive M1 where
  | index | count | join | split
  deriving DecidableEq
/-- targets -/
inductive Tg where
  | nm (i : Nat) | tp2 (a b : Tg) | tp3 (a b c : Tg)
mutual
inductive E where
  | int (i : Int) | bl (b : Bool) | non | str (x : Str)
  | var (i : Nat)
  | fn (f : Nat) | cls (c : Nat) | ty (t : String)
  | bin (o : Bop) (a b : E)
  | neg (a : E)
  | cmp (o : Cop) (a b : E)
  | chn (o p : Cop) (a b c : E)
  | not (a : E)
  | bo (and : Bool) (es : Es)
  | ite (c a b : E)
  | tup (es : Es) | lst (es : Es)
  | idx (a i : E)
  | slc (a : E) (lo hi : Oe)
  | call (f : E) (es : Es)
  | p1 (p : P1) (a : E)
  | p2 (p : P2) (a b : E)
  | m1 (m : M1) (a b : E)
  | comp (t : Tg) (it : It) (c : Oe) (e : E)
  | comp2 (t : Tg) (it : It) (t2 : Tg) (it2 : It) (c : Oe) (e : E)
inductive Es where
  | nil | cons (e : E) (es : Es)
inductive Oe where
  | no | so (e : E)
inductive It where
  | seq (e : E) | rng1 (e : E) | rng2 (a b : E) | enum (e : E) | zip (a b : E) | ezip (a b : E)
end
/-- how a value is stored in a slot: frozen; as a list of the slot's own; as a list of the heap -/
inductive Sk where
  | fz | own | heap
  deriving DecidableEq
mutual
inductive S where
  | set (i : Nat) (k : Sk) (e : E)
  | par2 (i : Nat) (k : Sk) (j : Nat) (l : Sk) (a b : E)
  | par3 (i : Nat) (k : Sk) (j : Nat) (l : Sk) (m : Nat) (n : Sk) (a b c : E)
  | unp (t : Tg) (e : E)
  | six (i : Nat) (ie ve : E)
  | sixr (oe ie ve : E)
  | app (i : Nat) (e : E)
  | appr (oe e : E)
  | ex (e : E)
  | cond (c : E) (a b : Ss)
  | forr (t : Tg) (it : It) (b : Ss)
  | forv (t : Tg) (i : Nat) (b : Ss)
  | whil (c : E) (b : Ss)
  | ret (e : E)
  | rais (c : Nat)
  | tryx (i : Nat) (k : Sk) (e : E) (n j : Nat) (kl : List Nat)
  | pas
  | bad
inductive Ss where
  | nil | cons (s : S) (ss : Ss)
end

/-! ### equality of values -/
mutual
def Val.beq : Val → Val → Bool
  | .non, .non => true
  | .bl a, .bl b => a == b
  | .int a, .int b => a == b
  | .str a, .str b => a == b
  | .tup a, .tup b => Val.beqs a b
  | .lst k a, .lst l b => decide (k = l) && Val.beqs a b
  | .ref a, .ref b => a == b
  | .fn a, .fn b => a == b
  | .cls a, .cls b => a == b
  | .ty a, .ty b => a == b
  | .exc a, .exc b => a == b
  | _, _ => false
def Val.beqs : List Val → List Val → Bool
  | [], [] => true
  | x :: xs, y :: ys => Val.beq x y && Val.beqs xs ys
  | _, _ => false
end
mutual
theorem Val.beq_eq : ∀ (x y : Val), Val.beq x y = true → x = y
  | .non, y, h => by cases y <;> simp_all [Val.beq]
  | .bl a, y, h => by cases y <;> simp_all [Val.beq]
  | .int a, y, h => by cases y <;> simp_all [Val.beq]
  | .str a, y, h => by cases y <;> simp_all [Val.beq]
  | .tup a, y, h => by
    cases y <;> first | (simp [Val.beq] at h; done) | skip
    rw [Val.beqs_eq a _ (by simpa [Val.beq] using h)]
  | .lst k a, y, h => by
    cases y <;> first | (simp [Val.beq] at h; done) | skip
    simp only [Val.beq, Bool.and_eq_true, decide_eq_true_eq] at h
    rw [Val.beqs_eq a _ h.2, h.1]
  | .ref a, y, h => by cases y <;> simp_all [Val.beq]
  | .fn a, y, h => by cases y <;> simp_all [Val.beq]
  | .cls a, y, h => by cases y <;> simp_all [Val.beq]
  | .ty a, y, h => by cases y <;> simp_all [Val.beq]
  | .exc a, y, h => by cases y <;> simp_all [Val.beq]
theorem Val.beqs_eq : ∀ (xs ys : List Val), Val.beqs xs ys = true → xs = ys
  | [], ys, h => by cases ys <;> simp_all [Val.beqs]
  | x :: xs, [], h => by simp [Val.beqs] at h
  | x :: xs, y :: ys, h => by
    simp only [Val.beqs, Bool.and_eq_true] at h
    rw [Val.beq_eq x y h.1, Val.beqs_eq xs ys h.2]
end
mutual
theorem Val.beq_refl : ∀ (x : Val), Val.beq x x = true
  | .non => rfl
  | .bl a => by simp [Val.beq]
  | .int a => by simp [Val.beq]
  | .str a => by simp [Val.beq]
  | .tup a => by simp [Val.beq, Val.beqs_refl a]
  | .lst k a => by simp [Val.beq, Val.beqs_refl a]
  | .ref a => by simp [Val.beq]
  | .fn a => by simp [Val.beq]
  | .cls a => by simp [Val.beq]
  | .ty a => by simp [Val.beq]
  | .exc a => by simp [Val.beq]
theorem Val.beqs_refl : ∀ (xs : List Val), Val.beqs xs xs = true
  | [] => rfl
  | x :: xs => by simp [Val.beqs, Val.beq_refl x, Val.beqs_refl xs]
end

/-! ### reading values -/
/-- a value as it may be kept: a fresh list is kept as it is for ever; a slot's own list is not kept -/
def fz : Val → Option Val
  | .lst .own xs => some (.lst .imm xs)
  | .lst .brw _ => none
  | v => some v
def lstOf (h : Heap) : Val → Option (List Val)
  | .lst _ xs => some xs
  | .ref a => match h[a]? with
    | some (.lst xs) => some xs
    | _ => none
  | _ => none
def seqOf (h : Heap) : Val → Option (List Val)
  | .tup xs => some xs
  | .lst _ xs => some xs
  | .ref a => match h[a]? with
    | some (.lst xs) => some xs
    | _ => none
  | _ => none
def truth (h : Heap) : Val → Option Bool
  | .non => some false
  | .bl b => some b
  | .int i => some (i != 0)
  | .str x => if x.length ≤ sizeLine then some ((x.length : Int) != 0) else none
  | .tup xs => some (!xs.isEmpty)
  | .lst _ xs => some (!xs.isEmpty)
  | .ref a => match h[a]? with
    | some (.lst xs) => some (!xs.isEmpty)
    | _ => none
  | _ => none
mutual
/-- as plain data -/
def toD : Val → Option PyData
  | .non => some .none
  | .bl b => some (.bool b)
  | .int i => some (.int i)
  | .str x => some (.str x)
  | .tup xs => match toDs xs with
    | some ds => some (.tuple ds)
    | none => none
  | .lst _ xs => match toDs xs with
    | some ds => some (.list ds)
    | none => none
  | _ => none
def toDs : List Val → Option (List PyData)
  | [] => some []
  | x :: xs => match toD x with
    | none => none
    | some d => match toDs xs with
      | none => none
      | some ds => some (d :: ds)
end
def toDh (h : Heap) : Val → Option PyData
  | .ref a => match h[a]? with
    | some (.lst xs) => match toDs xs with
      | some ds => some (.list ds)
      | none => none
    | _ => none
  | v => toD v
def intsOf : List Val → Option (List Int)
  | [] => some []
  | .int i :: xs => match intsOf xs with
    | some is => some (i :: is)
    | none => none
  | _ :: _ => none
def strsOf : List Val → Option (List Str)
  | [] => some []
  | .str i :: xs => match strsOf xs with
    | some is => some (i :: is)
    | none => none
  | _ :: _ => none
/-- truths of bools and ints -/
def trusOf : List Val → Option (List Bool)
  | [] => some []
  | .int i :: xs => match trusOf xs with
    | some bs => some ((i != 0) :: bs)
    | none => none
  | .bl b :: xs => match trusOf xs with
    | some bs => some (b :: bs)
    | none => none
  | _ :: _ => none

/-! ### operations -/
def cut {α : Type} (xs : List α) (lo hi : Option Int) : List α := (xs.drop (HT.sIx xs.length 0 lo)).take (HT.sIx xs.length xs.length hi - HT.sIx xs.length 0 lo)
def wideMul (i j : Int) : Bool := decide (i.natAbs.log2 + j.natAbs.log2 < 1000000)
def wideDiv (j : Int) : Bool := decide (j ≠ 0) && decide (j.natAbs.log2 < 9000)
def fits (n : Nat) : Bool := decide (n ≤ sizeLine)
def rep {α : Type} (k : Nat) (xs : List α) : List α := (List.replicate k xs).flatten
def bop (o : Bop) (x y : Val) (h : Heap) : Option Val :=
  match o, x, y with
  | .add, .int i, .int j => some (.int (i + j))
  | .sub, .int i, .int j => some (.int (i - j))
  | .mul, .int i, .int j => if wideMul i j then some (.int (i * j)) else none
  | .fdiv, .int i, .int j => if wideDiv j then some (.int (i.fdiv j)) else none
  | .mod, .int i, .int j => if decide (j ≠ 0) then some (.int (i.fmod j)) else none
  | .pow, .int i, .int j => if decide (0 ≤ j) && decide (j ≤ 1000000) && decide (i.natAbs < 2 ^ 64) then some (.int (i ^ j.toNat)) else none
  | .add, .tup xs, .tup ys => if fits (xs.length + ys.length) then some (.tup (xs ++ ys)) else none
  | .add, .lst k xs, .lst l ys => if decide (k ≠ .scr) && decide (l ≠ .scr) && fits (xs.length + ys.length) then some (.lst .own (xs ++ ys)) else none
  | .add, .str a, .str b => if fits (a.length + b.length) then some (.str (a ++ b)) else none
  | .mul, .lst l xs, .int k => if decide (l ≠ .scr) && decide (k < 1000) && decide (-1000 < k) && fits (xs.length * k.toNat) then some (.lst .own (rep k.toNat xs)) else none
  | .mul, .tup xs, .int k => if decide (k ≤ 1000) && decide (0 ≤ k) && decide (xs.length ≤ 1000) && !xs.isEmpty then some (.tup (rep k.toNat xs)) else none
  | _, _, _ => none
def eqD (h : Heap) (x y : Val) : Option Bool := match toDh h x, toDh h y with
  | some d, some e => if SeqAt.shaped d && SeqAt.shaped e then some (PyData.eqv d e) else none
  | _, _ => none
def flat : Val → Bool
  | .non | .bl _ | .int _ | .str _ => true
  | _ => false
def inSeq (h : Heap) (x y : Val) : Option Bool := match y with
  | .str b => match x with
    | .str a => some (!(Builtin.Str.occurrences b a 0 b.length 1).isEmpty)
    | _ => none
  | .tup ys => if flat x && ys.all flat then match toD x, toDs ys with
      | some d, some ds => some (ds.any fun z => PyData.eqv z d)
      | _, _ => none
    else none
  | .lst _ ys => match toD x, toDs ys with
      | some d, some ds => if SeqAt.shaped d && SeqAt.shaped (.list ds) then some (ds.any fun z => PyData.eqv z d) else none
      | _, _ => none
  | _ => none
def isV (x y : Val) : Option Bool := match y with
  | .non => match x with
    | .non => some true
    | _ => some false
  | .bl b => match x with
    | .bl a => some (decide (a = b))
    | _ => none
  | _ => none
def rowsOf : List Val → Option (List (List Int))
  | [] => some []
  | .tup v :: xs => match intsOf v with
    | none => none
    | some is => match rowsOf xs with
      | some iss => some (is :: iss)
      | none => none
  | _ :: _ => none
/-- <= of tuples of ints, < of tuples of such -/
def leT (is js : List Int) : Bool := Ob.lexAt (fun j => decide (is.getD j 0 = js.getD j 0)) (fun j => decide (is.getD j 0 ≤ js.getD j 0)) (decide (is.length ≤ js.length)) 0 (min is.length js.length)
def ltTT (a b : List (List Int)) : Bool := Ob.lexAt (fun j => decide (a.getD j [] = b.getD j [])) (fun j => HT.lexLt (a.getD j []) (b.getD j [])) (decide (a.length < b.length)) 0 (min a.length b.length)
def cop (o : Cop) (x y : Val) (h : Heap) : Option Bool :=
  match o with
  | .eq => eqD h x y
  | .ne => (eqD h x y).map (!·)
  | .lt => match x, y with
    | .int i, .int j => some (decide (i < j))
    | .tup xs, .tup ys => match intsOf xs, intsOf ys with
      | some is, some js => some (HT.lexLt is js)
      | _, _ => match rowsOf xs, rowsOf ys with
        | some is, some js => some (ltTT is js)
        | _, _ => none
    | _, _ => none
  | .le => match x, y with
    | .int i, .int j => some (decide (i ≤ j))
    | .tup xs, .tup ys => match intsOf xs, intsOf ys with
      | some is, some js => some (leT is js)
      | _, _ => none
    | _, _ => none
  | .gt => match x, y with
    | .int i, .int j => some (decide (j < i))
    | _, _ => none
  | .ge => match x, y with
    | .int i, .int j => some (decide (j ≤ i))
    | _, _ => none
  | .is => isV x y
  | .isnot => (isV x y).map (!·)
  | .in => inSeq h x y
  | .notin => (inSeq h x y).map (!·)
def idxV (x y : Val) (h : Heap) : Option Val := match y with
  | .int i => match x with
    | .str z => if fits z.length then (L2.atI z.cps.toList i).map fun c => .str ⟨#[c]⟩ else none
    | _ => match seqOf h x with
      | some xs => L2.atI xs i
      | none => none
  | _ => none
def slcV (x : Val) (lo hi : Option Int) (h : Heap) : Option Val := match x with
  | .tup xs => some (.tup (cut xs lo hi))
  | .lst _ xs => some (.lst .own (cut xs lo hi))
  | .str z => if fits z.length then some (.str ⟨(cut z.cps.toList lo hi).toArray⟩) else none
  | _ => none
/-- is a class of exceptions below another one: the class 0 is above all others; ValueError above all -/
def isin (x y : Val) : Option Bool := match y with
  | .ty t => match x with
    | .non => if t = "int" ∨ t = "bool" ∨ t = "tuple" ∨ t = "str" then some false else none
    | .bl _ => if t = "int" ∨ t = "bool" then some true else if t = "tuple" ∨ t = "str" then some false else none
    | .int _ => if t = "int" then some true else if t = "bool" ∨ t = "tuple" ∨ t = "str" then some false else none
    | .str _ => if t = "str" then some true else if t = "int" ∨ t = "bool" ∨ t = "tuple" then some false else none
    | .tup _ => if t = "tuple" then some true else if t = "int" ∨ t = "bool" ∨ t = "str" then some false else none
    | .lst _ _ => if t = "int" ∨ t = "bool" ∨ t = "tuple" ∨ t = "str" then some false else none
    | .exc _ => if t = "ValueError" then some true else none
    | _ => none
  | .cls c => match x with
    | .exc d => if c < 100 then some (c == 0 || c == d) else none
    | _ => none
  | _ => none
def lexLe (xs ys : List Int) : Bool := !HT.lexLt ys xs
def maxI : List Int → Option Int
  | [] => none
  | x :: xs => match maxI xs with
    | none => some x
    | some m => some (if m > x then m else x)
def minI : List Int → Option Int
  | [] => none
  | x :: xs => match minI xs with
    | none => some x
    | some m => some (if m < x then m else x)
def p1V (p : P1) (x : Val) (h : Heap) : Option Val :=
  match p with
  | .len => match x with
    | .str z => if fits z.length then some (.int z.length) else none
    | _ => match seqOf h x with
      | some xs => some (.int xs.length)
      | none => none
  | .abs => match x with
    | .int i => some (.int (if i < 0 then -i else i))
    | _ => none
  | .all => match x with
    | .lst _ xs => (trusOf xs).map fun bs => .bl (bs.all id)
    | _ => none
  | .any => match x with
    | .lst _ xs => (trusOf xs).map fun bs => .bl (bs.any id)
    | .tup xs => (trusOf xs).map fun bs => .bl (bs.any id)
    | _ => none
  | .sum => match x with
    | .lst _ xs => (intsOf xs).map fun is => .int is.sum
    | .tup xs => (intsOf xs).map fun is => .int is.sum
    | _ => none
  | .max => match x with
    | .lst _ xs => ((intsOf xs).bind maxI).map Val.int
    | _ => none
  | .min => match x with
    | .lst _ xs => ((intsOf xs).bind minI).map Val.int
    | _ => none
  | .list => match seqOf h x with
    | some xs => some (.lst .own xs)
    | none => none
  | .tuple => match seqOf h x with
    | some xs => some (.tup xs)
    | none => none
  | .int => match x with
    | .int i => some (.int i)
    | .bl b => some (.int (if b then 1 else 0))
    | _ => none
  | .sorted => none
  | .lenset => none
def p2V (p : P2) (x y : Val) : Option Val :=
  match p with
  | .isin => (isin x y).map Val.bl
  | .min => match x, y with
    | .int i, .int j => some (.int (if j < i then j else i))
    | _, _ => none
def findI (d : PyData) : List PyData → Option Nat
  | [] => none
  | e :: es => if PyData.eqv e d then some 0 else (findI d es).map (· + 1)
def countT : List Val → Option Nat
  | [] => some 0
  | .bl b :: xs => (countT xs).map fun n => if b then n + 1 else n
  | _ :: _ => none
def m1V (m : M1) (x y : Val) : Option Val :=
  match m with
  | .index => match x with
    | .lst _ xs => match toD y, toDs xs with
      | some d, some ds => if flat y && xs.all flat then (findI d ds).map fun j => .int j else none
      | _, _ => none
    | .tup xs => match y, intsOf xs with
      | .int k, some is => (is.findIdx? (· == k)).map fun j => .int j
      | _, _ => none
    | _ => none
  | .count => match x, y with
    | .lst _ xs, .bl true => (countT xs).map fun n => .int n
    | _, _ => none
  | .join => none
  | .split => none

/-- what has the method -/
def m1T : M1 → Val → Bool
  | .index, .lst _ _ => true
  | .count, .lst _ _ => true
  | .join, .str _ => true
  | .split, .str _ => true
  | _, _ => false

/-! ### targets -/
def Tg.slots : Tg → List Nat
  | .nm i => [i]
  | .tp2 a b => a.slots ++ b.slots
  | .tp3 a b c => a.slots ++ (b.slots ++ c.slots)
/-- a value (kept already) goes to a target -/
def bindT : Tg → Val → Slots → Option Slots
  | .nm i, v, ρ => some (ρ.set i (some v))
  | .tp2 a b, .tup [x, y], ρ => (bindT a x ρ).bind fun ρ => bindT b y ρ
  | .tp3 a b c, .tup [x, y, z], ρ => (bindT a x ρ).bind fun ρ => (bindT b y ρ).bind fun ρ => bindT c z ρ
  | _, _, _ => none
def wipe (ρ : Slots) : List Nat → Slots
  | [] => ρ
  | v :: vs => (wipe ρ vs).set v none

/-! ### what is walked -/
def rng (lo : Int) : Nat → List Val
  | 0 => []
  | n + 1 => .int lo :: rng (lo + 1) n
def smallR (i : Int) : Bool := decide (-4611686018427387904 ≤ i) && decide (i < 4611686018427387904)
def enumL (k : Nat) : List Val → List Val
  | [] => []
  | x :: xs => .tup [.int k, x] :: enumL (k + 1) xs
def zipL : List Val → List Val → List Val
  | x :: xs, y :: ys => .tup [x, y] :: zipL xs ys
  | _, _ => []
def chars : List Nat → List Val
  | [] => []
  | c :: cs => .str ⟨#[c]⟩ :: chars cs
/-- items that stand still: those of a tuple, of a list that nobody changes while it is walked, of a text -/
def itemsOf (v : Val) : Option (List Val) := match v with
  | .tup xs => some xs
  | .lst _ xs => some xs
  | .str z => some (chars z.cps.toList)
  | _ => none
def seqsOf (v : Val) : Option (List Val) := match v with
  | .tup xs => some xs
  | .lst .imm xs => some xs
  | .lst .own xs => some xs
  | _ => none
def isBrw : Val → Bool
  | .lst .brw _ => true
  | _ => false
def noexc {α : Type} : R α → R α
  | .exc _ _ => .bad
  | r => r

section
variable (cf : Nat → List Val → Heap → R Val)
/-- [elt for .. in items if ..] -/
def compL (bd : Val → Option Slots) (tt : Slots → Heap → R Bool) (el : Slots → Heap → R Val) : List Val → Heap → R (List Val)
  | [], h => .ok [] h
  | x :: xs, h => match bd x with
    | none => .bad
    | some ρ => (tt ρ h).bind fun b h => if b then (el ρ h).bind fun v h => match fz v with
        | none => .bad
        | some v => (compL bd tt el xs h).bind fun vs h => .ok (v :: vs) h
      else compL bd tt el xs h
/-- the outer clause of two -/
def compO (bd : Val → Option Slots) (inn : Slots → Heap → R (List Val)) : List Val → Heap → R (List Val)
  | [], h => .ok [] h
  | x :: xs, h => match bd x with
    | none => .bad
    | some ρ => (inn ρ h).bind fun us h => (compO bd inn xs h).bind fun vs h => .ok (us ++ vs) h
mutual
def ev : E → Slots → Heap → R Val
  | .int i, _, h => .ok (.int i) h
  | .bl b, _, h => .ok (.bl b) h
  | .non, _, h => .ok .non h
  | .str x, _, h => .ok (.str x) h
  | .var i, ρ, h => match ρ[i]? with
    | some (some (.lst .own xs)) => .ok (.lst .brw xs) h
    | some (some (.lst .brw _)) => .bad
    | some (some v) => .ok v h
    | _ => .bad
  | .fn f, _, h => .ok (.fn f) h
  | .cls c, _, h => .ok (.cls c) h
  | .ty t, _, h => .ok (.ty t) h
  | .bin o a b, ρ, h => (ev a ρ h).bind fun x h => (ev b ρ h).bind fun y h => .of (bop o x y h) h
  | .neg a, ρ, h => (ev a ρ h).bind fun x h => match x with
    | .int i => .ok (.int (-i)) h
    | _ => .bad
  | .cmp o a b, ρ, h => (ev a ρ h).bind fun x h => (ev b ρ h).bind fun y h => .of ((cop o x y h).map Val.bl) h
  | .chn o p a b c, ρ, h => (ev a ρ h).bind fun x h => (ev b ρ h).bind fun y h => match cop o x y h with
    | none => .bad
    | some false => .ok (.bl false) h
    | some true => (ev c ρ h).bind fun z h => .of ((cop p y z h).map Val.bl) h
  | .not a, ρ, h => (ev a ρ h).bind fun x h => .of ((truth h x).map fun b => .bl (!b)) h
  | .bo k es, ρ, h => evBo k es ρ h
  | .ite c a b, ρ, h => (ev c ρ h).bind fun x h => match truth h x with
    | none => .bad
    | some true => ev a ρ h
    | some false => ev b ρ h
  | .tup es, ρ, h => (evs es ρ h).bind fun xs h => if fits xs.length then .ok (.tup xs) h else .bad
  | .lst es, ρ, h => (evs es ρ h).bind fun xs h => if fits xs.length then .ok (.lst .own xs) h else .bad
  | .idx a i, ρ, h => (ev a ρ h).bind fun x h => (ev i ρ h).bind fun y h => .of (idxV x y h) h
  | .slc a lo hi, ρ, h => (ev a ρ h).bind fun x h => (evo lo ρ h).bind fun l h => (evo hi ρ h).bind fun u h => .of (slcV x l u h) h
  | .call f es, ρ, h => (ev f ρ h).bind fun x h => match x with
    | .fn k => (evs es ρ h).bind fun xs h => cf k xs h
    | _ => .bad
  | .p1 p a, ρ, h => (ev a ρ h).bind fun x h => .of (p1V p x h) h
  | .p2 p a b, ρ, h => (ev a ρ h).bind fun x h => (ev b ρ h).bind fun y h => .of (p2V p x y) h
  | .m1 m a b, ρ, h => (ev a ρ h).bind fun x h => if m1T m x then (ev b ρ h).bind fun y h => .of (m1V m x y) h else .bad
  | .comp t it c e, ρ, h => (evIt false it ρ h).bind fun xs h =>
      (noexc (compL (fun x => bindT t x (wipe ρ t.slots)) (evT c) (ev e) xs h)).bind fun vs h => if fits vs.length then .ok (.lst .own vs) h else .bad
  | .comp2 t it u jt c e, ρ, h => (evIt false it ρ h).bind fun xs h =>
      (noexc (compO (fun x => bindT t x (wipe ρ (t.slots ++ u.slots))) (fun ρ' h => (evIt false jt ρ' h).bind fun ys h => compL (fun y => bindT u y (wipe ρ' u.slots)) (evT c) (ev e) ys h) xs h)).bind fun vs h =>
        if fits vs.length then .ok (.lst .own vs) h else .bad
def evs : Es → Slots → Heap → R (List Val)
  | .nil, _, h => .ok [] h
  | .cons e es, ρ, h => (ev e ρ h).bind fun x h => match fz x with
    | none => .bad
    | some x => (evs es ρ h).bind fun xs h => .ok (x :: xs) h
def evBo (k : Bool) : Es → Slots → Heap → R Val
  | .nil, _, _ => .bad
  | .cons e es, ρ, h => (ev e ρ h).bind fun x h => match es with
    | .nil => .ok x h
    | .cons _ _ => match truth h x with
      | none => .bad
      | some b => if b == k then evBo k es ρ h else .ok x h
def evo : Oe → Slots → Heap → R (Option Int)
  | .no, _, h => .ok none h
  | .so e, ρ, h => (ev e ρ h).bind fun x h => match x with
    | .int i => .ok (some i) h
    | _ => .bad
/-- a clause's test -/
def evT : Oe → Slots → Heap → R Bool
  | .no, _, h => .ok true h
  | .so e, ρ, h => (ev e ρ h).bind fun x h => .of (truth h x) h
def evIt (b : Bool) : It → Slots → Heap → R (List Val)
  | .seq e, ρ, h => (ev e ρ h).bind fun x h => if isBrw x && b then .bad else .of (itemsOf x) h
  | .rng1 e, ρ, h => (ev e ρ h).bind fun x h => match x with
    | .int j => if smallR j then .ok (rng 0 j.toNat) h else .bad
    | _ => .bad
  | .rng2 a b, ρ, h => (ev a ρ h).bind fun x h => (ev b ρ h).bind fun y h => match x, y with
    | .int i, .int j => if smallR i && smallR j then .ok (rng i (j - i).toNat) h else .bad
    | _, _ => .bad
  | .enum e, ρ, h => (ev e ρ h).bind fun x h => .of ((seqsOf x).map (enumL 0)) h
  | .zip a b, ρ, h => (ev a ρ h).bind fun x h => (ev b ρ h).bind fun y h => match seqsOf x, seqsOf y with
    | some xs, some ys => .ok (zipL xs ys) h
    | _, _ => .bad
  | .ezip a b, ρ, h => (ev a ρ h).bind fun x h => (ev b ρ h).bind fun y h => match seqsOf x, seqsOf y with
    | some xs, some ys => .ok (enumL 0 (zipL xs ys)) h
    | _, _ => .bad
end

/-! ### statements -/
/-- a slot whose list a loop walks -/
abbrev lck : Val := .lst .brw []
inductive Fl where
  | nx (ρ : Slots)
  | rt (v : Val)
/-- a value into a slot -/
def keep (i : Nat) (k : Sk) (v : Val) (ρ : Slots) (h : Heap) : R Slots :=
  match k with
  | .fz => match fz v with
    | some v => .ok (ρ.set i (some v)) h
    | none => .bad
  | .own => match v with
    | .lst .own xs => .ok (ρ.set i (some (.lst .own xs))) h
    | _ => .bad
  | .heap => match v with
    | .lst .own xs => .ok (ρ.set i (some (.ref h.length))) (h ++ [.lst xs])
    | _ => .bad
def forL (bd : Val → Slots → Option Slots) (body : Slots → Heap → R Fl) : List Val → Slots → Heap → R Fl
  | [], ρ, h => .ok (.nx ρ) h
  | x :: xs, ρ, h => match bd x ρ with
    | none => .bad
    | some ρ => match body ρ h with
      | .ok (.nx ρ) h => forL bd body xs ρ h
      | .ok (.rt v) h => .ok (.rt v) h
      | _ => .bad
def whileL (tt : Slots → Heap → R Bool) (body : Slots → Heap → R Fl) : Nat → Slots → Heap → R Fl
  | 0, _, _ => .bad
  | n + 1, ρ, h => match tt ρ h with
    | .ok false h => .ok (.nx ρ) h
    | .ok true h => match body ρ h with
      | .ok (.nx ρ) h => whileL tt body n ρ h
      | .ok (.rt v) h => .ok (.rt v) h
      | _ => .bad
    | _ => .bad
variable (N : Nat)
mutual
def ex : S → Slots → Heap → R Fl
  | .set i k e, ρ, h => (ev cf e ρ h).bind fun v h => (keep i k v ρ h).bind fun ρ h => .ok (.nx ρ) h
  | .par2 i k j l a b, ρ, h => (ev cf a ρ h).bind fun x h => (ev cf b ρ h).bind fun y h => (keep i k x ρ h).bind fun ρ h => (keep j l y ρ h).bind fun ρ h => .ok (.nx ρ) h
  | .par3 i k j l m n a b c, ρ, h => (ev cf a ρ h).bind fun x h => (ev cf b ρ h).bind fun y h => (ev cf c ρ h).bind fun z h =>
      (keep i k x ρ h).bind fun ρ h => (keep j l y ρ h).bind fun ρ h => (keep m n z ρ h).bind fun ρ h => .ok (.nx ρ) h
  | .unp t e, ρ, h => (ev cf e ρ h).bind fun v h => match bindT t v ρ with
    | some ρ => .ok (.nx ρ) h
    | none => .bad
  | .six i ie ve, ρ, h => (ev cf ve ρ h).bind fun v h => match ρ[i]? with
    | some (some (.lst .own xs)) => (ev cf ie ρ h).bind fun j h => match fz v, j with
      | some v, .int j => match L2.ixN xs.length j with
        | some n => .ok (.nx (ρ.set i (some (.lst .own (xs.set n v))))) h
        | none => .bad
      | _, _ => .bad
    | _ => .bad
  | .sixr oe ie ve, ρ, h => (ev cf ve ρ h).bind fun v h => match fz v with
    | none => .bad
    | some v => (ev cf oe ρ h).bind fun o h => (ev cf ie ρ h).bind fun j h => match o, j with
      | .ref a, .int j => match h[a]? with
        | some (.lst xs) => match L2.ixN xs.length j with
          | some n => .ok (.nx ρ) (h.set a (.lst (xs.set n v)))
          | none => .bad
        | _ => .bad
      | _, _ => .bad
  | .app i e, ρ, h => match ρ[i]? with
    | some (some (.lst .own xs)) => (ev cf e ρ h).bind fun v h => match fz v with
      | some v => if decide (xs.length < sizeLine) then .ok (.nx (ρ.set i (some (.lst .own (xs ++ [v]))))) h else .bad
      | none => .bad
    | _ => .bad
  | .appr oe e, ρ, h => (ev cf oe ρ h).bind fun o h => match o with
    | .ref a => match h[a]? with
      | some (.lst _) => (ev cf e ρ h).bind fun v h => match fz v, h[a]? with
        | some v, some (.lst xs) => if decide (xs.length < sizeLine) then .ok (.nx ρ) (h.set a (.lst (xs ++ [v]))) else .bad
        | _, _ => .bad
      | _ => .bad
    | _ => .bad
  | .ex e, ρ, h => (ev cf e ρ h).bind fun _ h => .ok (.nx ρ) h
  | .cond c a b, ρ, h => (ev cf c ρ h).bind fun x h => match truth h x with
    | some true => exs a ρ h
    | some false => exs b ρ h
    | none => .bad
  | .forr t it b, ρ, h => match evIt cf true it ρ h with
    | .ok xs h => forL (bindT t) (exs b) xs ρ h
    | _ => .bad
  | .forv t i b, ρ, h => match ρ[i]? with
    | some (some (.lst .own xs)) => match forL (bindT t) (exs b) xs (ρ.set i (some lck)) h with
      | .ok (.nx ρ') h => match ρ'[i]? with
        | some (some (.lst .brw [])) => .ok (.nx (ρ'.set i (some (.lst .own xs)))) h
        | _ => .bad
      | .ok (.rt v) h => .ok (.rt v) h
      | _ => .bad
    | _ => .bad
  | .whil c b, ρ, h => whileL (fun ρ h => (ev cf c ρ h).bind fun x h => .of (truth h x) h) (exs b) N ρ h
  | .ret e, ρ, h => (ev cf e ρ h).bind fun v h => match v with
    | .lst .brw xs => .ok (.rt (.lst .own xs)) h
    | v => .ok (.rt v) h
  | .rais c, _, h => .exc c h
  | .tryx i k e n j kl, ρ, h => match ρ[n]? with
    | some none => match ev cf e ρ h with
      | .ok v h => (keep i k v ρ h).bind fun ρ h => .ok (.nx ρ) h
      | .exc d h => if kl.contains d then .ok (.nx (ρ.set j (some (.exc d)))) h else .bad
      | .bad => .bad
    | _ => .bad
  | .pas, ρ, h => .ok (.nx ρ) h
  | .bad, _, _ => .bad
def exs : Ss → Slots → Heap → R Fl
  | .nil, ρ, h => .ok (.nx ρ) h
  | .cons s ss, ρ, h => (ex s ρ h).bind fun f h => match f with
    | .nx ρ => exs ss ρ h
    | .rt v => .ok (.rt v) h
end
end
/-- a def: how many parameters, how many slots, its body -/
structure FD where
  np : Nat
  ns : Nat
  body : Ss
/-- calls of a depth of at most n, whiles of at most N turns -/
def callF (G : Nat → Option FD) (N : Nat) : Nat → Nat → List Val → Heap → R Val
  | 0, _, _, _ => .bad
  | n + 1, f, args, h => match G f with
    | none => .bad
    | some d => if args.length = d.np then
        match exs (callF G N n) N d.body (args.map some ++ List.replicate (d.ns - d.np) none) h with
        | .ok (.nx _) h => .ok .non h
        | .ok (.rt v) h => .ok v h
        | .exc c h => .exc c h
        | .bad => .bad
      else .bad
end Mi

set_option Elab.async false
set_option linter.all false
set_option autoImplicit false
/-! Mi1: how the evaluator's values and heap stand in the layer's abstract heap. -/
namespace Mi
open PySem L2

/-- where a text's defs and classes stand; which classes there are (exceptions: below 100) -/
structure Sig where
  fa : Nat → Addr
  ca : Nat → Addr
  kn : Nat → Bool
/-- who holds a list: everybody, for ever; an object of the evaluator's heap; the slot i; a comprehension that fills it -/
inductive Ow where
  | imm | obj | slot (i : Nat) | acc
structure Gh where
  am : List Addr
  ow : Addr → Option Ow
def Gh.put (g : Gh) (p : Addr) (w : Ow) : Gh := { g with ow := fun q => if q = p then some w else g.ow q }
theorem Gh.put_same {g : Gh} {p : Addr} {w : Ow} : (g.put p w).ow p = some w := by simp [Gh.put]
theorem Gh.put_ne {g : Gh} {p q : Addr} {w : Ow} (h : q ≠ p) : (g.put p w).ow q = g.ow q := by simp [Gh.put, h]
def Gh.bare (g : Gh) : Gh := { g with ow := fun q => match g.ow q with
  | some (.slot _) => none
  | w => w }
/-- a caught exception of the class at C, at a -/
def excH (C a : Addr) : HO := .ext fun h => ∃ oe, h.get? a = some oe ∧ Zc (.ref C) none oe ∧ ∃ vs, oe.data = .fields vs

mutual
/-- values that may be kept -/
inductive RK (Γ : Sig) (g : Gh) (H : Hp) : Val → V → Prop
  | non : RK Γ g H .non .non
  | bl (b : Bool) : RK Γ g H (.bl b) (.bl b)
  | int (i : Int) : RK Γ g H (.int i) (.int i)
  | str (x : Str) : RK Γ g H (.str x) (.str x)
  | tup {p : Addr} {xs : List Val} {ys : List V} : H p = some (.tup ys) → g.ow p = none → RKs Γ g H xs ys → RK Γ g H (.tup xs) (.ref p)
  | imm {p : Addr} {xs : List Val} {ys : List V} : H p = some (.lst ys) → g.ow p = some .imm → RKs Γ g H xs ys → RK Γ g H (.lst .imm xs) (.ref p)
  | frz {p : Addr} {o : PySem.Obj} {xs : List Val} {ys : List V} : H p = some (.frz o (.lst ys)) → g.ow p = none → RKs Γ g H xs ys → RK Γ g H (.lst .scr xs) (.ref p)
  | ref {a : Nat} {p : Addr} : g.am[a]? = some p → RK Γ g H (.ref a) (.ref p)
  | fn (f : Nat) : RK Γ g H (.fn f) (.ref (Γ.fa f))
  | cls (c : Nat) : Γ.kn c = true → RK Γ g H (.cls c) (.ref (Γ.ca c))
  | ty (t : String) : RK Γ g H (.ty t) (.ty t)
  | exc {c : Nat} {p : Addr} : H p = some (excH (Γ.ca c) p) → g.ow p = none → Γ.kn c = true → c < 100 → RK Γ g H (.exc c) (.ref p)
inductive RKs (Γ : Sig) (g : Gh) (H : Hp) : List Val → List V → Prop
  | nil : RKs Γ g H [] []
  | cons {v : Val} {x : V} {vs : List Val} {xs : List V} : RK Γ g H v x → RKs Γ g H vs xs → RKs Γ g H (v :: vs) (x :: xs)
end
/-- values as an expression gives them -/
inductive RV (Γ : Sig) (g : Gh) (H : Hp) : Val → V → Prop
  | kept {v : Val} {x : V} : RK Γ g H v x → RV Γ g H v x
  | own {p : Addr} {xs : List Val} {ys : List V} : H p = some (.lst ys) → g.ow p = none → RKs Γ g H xs ys → RV Γ g H (.lst .own xs) (.ref p)
  | brw {p : Addr} {i : Nat} {xs : List Val} {ys : List V} : H p = some (.lst ys) → g.ow p = some (.slot i) → RKs Γ g H xs ys → RV Γ g H (.lst .brw xs) (.ref p)

/-- what may be kept stays -/
structure Keep (g : Gh) (H : Hp) (g' : Gh) (H' : Hp) : Prop where
  am : ∃ l, g'.am = g.am ++ l
  kept : ∀ p o, H p = some o → (g.ow p = none ∨ g.ow p = some .imm) → g'.ow p = g.ow p ∧ H' p = some o
mutual
theorem RK.mono {Γ : Sig} {g g' : Gh} {H H' : Hp} (k : Keep g H g' H') : ∀ {v : Val} {x : V}, RK Γ g H v x → RK Γ g' H' v x
  | _, _, .non => .non
  | _, _, .bl b => .bl b
  | _, _, .int i => .int i
  | _, _, .str x => .str x
  | _, _, .tup h w r => let z := k.kept _ _ h (.inl w); .tup z.2 (z.1.trans w) (RKs.mono k r)
  | _, _, .imm h w r => let z := k.kept _ _ h (.inr w); .imm z.2 (z.1.trans w) (RKs.mono k r)
  | _, _, .frz h w r => let z := k.kept _ _ h (.inl w); .frz z.2 (z.1.trans w) (RKs.mono k r)
  | _, _, .ref h => .ref (by
      obtain ⟨l, e⟩ := k.am
      rw [e, List.getElem?_append_left (List.getElem?_eq_some_iff.mp h).1]; exact h)
  | _, _, .fn f => .fn f
  | _, _, .cls c k => .cls c k
  | _, _, .ty t => .ty t
  | _, _, .exc h w a b => let z := k.kept _ _ h (.inl w); .exc z.2 (z.1.trans w) a b
theorem RKs.mono {Γ : Sig} {g g' : Gh} {H H' : Hp} (k : Keep g H g' H') : ∀ {vs : List Val} {xs : List V}, RKs Γ g H vs xs → RKs Γ g' H' vs xs
  | _, _, .nil => .nil
  | _, _, .cons a r => .cons (RK.mono k a) (RKs.mono k r)
end
theorem Keep.refl {g : Gh} {H : Hp} : Keep g H g H := ⟨⟨[], by simp⟩, fun _ _ h _ => ⟨rfl, h⟩⟩
theorem Keep.trans {g g1 g2 : Gh} {H H1 H2 : Hp} (a : Keep g H g1 H1) (b : Keep g1 H1 g2 H2) : Keep g H g2 H2 := by
  refine ⟨?_, fun p o h w => ?_⟩
  · obtain ⟨l, e⟩ := a.am
    obtain ⟨m, e'⟩ := b.am
    exact ⟨l ++ m, by rw [e', e, List.append_assoc]⟩
  · obtain ⟨w1, h1⟩ := a.kept p o h w
    obtain ⟨w2, h2⟩ := b.kept p o h1 (by rw [w1]; exact w)
    exact ⟨w2.trans w1, h2⟩

/-- a step of an expression: slots' lists stay too -/
structure Stp (g : Gh) (H : Hp) (g' : Gh) (H' : Hp) : Prop extends Keep g H g' H' where
  slot : ∀ p o i, H p = some o → g.ow p = some (.slot i) → g'.ow p = some (.slot i) ∧ H' p = some o
  obj : ∀ p o, H p = some o → g.ow p = some .obj → g'.ow p = some .obj ∧ ∃ o', H' p = some o'
  acc : ∀ p o, H p = some o → g.ow p = some .acc → g'.ow p = some .acc ∧ H' p = some o
  ns : ∀ p i, g'.ow p = some (.slot i) → g.ow p = some (.slot i)
theorem Stp.refl {g : Gh} {H : Hp} : Stp g H g H := ⟨Keep.refl, fun _ _ _ h w => ⟨w, h⟩, fun _ o h w => ⟨w, o, h⟩, fun _ _ h w => ⟨w, h⟩, fun _ _ w => w⟩
theorem Stp.trans {g g1 g2 : Gh} {H H1 H2 : Hp} (a : Stp g H g1 H1) (b : Stp g1 H1 g2 H2) : Stp g H g2 H2 := by
  refine ⟨a.toKeep.trans b.toKeep, fun p o i h w => ?_, fun p o h w => ?_, fun p o h w => let ⟨w1, h1⟩ := a.acc p o h w; b.acc p o h1 w1, fun p i w => a.ns p i (b.ns p i w)⟩
  · obtain ⟨w1, h1⟩ := a.slot p o i h w
    exact b.slot p o i h1 w1
  · obtain ⟨w1, o1, h1⟩ := a.obj p o h w
    exact b.obj p o1 h1 w1
theorem Stp.there {g g' : Gh} {H H' : Hp} (s : Stp g H g' H') {p : Addr} {o : HO} (h : H p = some o) : ∃ o', H' p = some o' := by
  cases w : g.ow p with
  | none => exact ⟨o, (s.kept p o h (.inl w)).2⟩
  | some k => cases k with
    | imm => exact ⟨o, (s.kept p o h (.inr w)).2⟩
    | obj => exact (s.obj p o h w).2
    | slot i => exact ⟨o, (s.slot p o i h w).2⟩
    | acc => exact ⟨o, (s.acc p o h w).2⟩
theorem Stp.back {g g' : Gh} {H H' : Hp} (s : Stp g H g' H') {p : Addr} (h : H' p = none) : H p = none := by
  cases e : H p with
  | none => rfl
  | some o =>
    obtain ⟨o', e'⟩ := s.there e
    rw [h] at e'; cases e'
theorem RV.mono {Γ : Sig} {g g' : Gh} {H H' : Hp} (s : Stp g H g' H') {v : Val} {x : V} (h : RV Γ g H v x) : RV Γ g' H' v x := by
  cases h with
  | kept r => exact .kept (r.mono s.toKeep)
  | own h w r => let z := s.kept _ _ h (.inl w); exact .own z.2 (z.1.trans w) (r.mono s.toKeep)
  | brw h w r => let z := s.slot _ _ _ h w; exact .brw z.2 z.1 (r.mono s.toKeep)

/-! ### the heap, the slots -/
inductive FR (Γ : Sig) (g : Gh) (H : Hp) : List (Str × Val) → List (Str × V) → Prop
  | nil : FR Γ g H [] []
  | cons {n : Str} {v : Val} {x : V} {vs : List (Str × Val)} {xs : List (Str × V)} : RK Γ g H v x → FR Γ g H vs xs → FR Γ g H ((n, v) :: vs) ((n, x) :: xs)
theorem FR.mono {Γ : Sig} {g g' : Gh} {H H' : Hp} (k : Keep g H g' H') : ∀ {vs : List (Str × Val)} {xs : List (Str × V)}, FR Γ g H vs xs → FR Γ g' H' vs xs
  | _, _, .nil => .nil
  | _, _, .cons a r => .cons (a.mono k) (FR.mono k r)
def ObjR (Γ : Sig) (g : Gh) (H : Hp) (o : Obj) (p : Addr) : Prop := match o with
  | .lst xs => ∃ ys, H p = some (.lst ys) ∧ RKs Γ g H xs ys
  | .ins c fs => ∃ dx fs', H p = some (.ins (Γ.ca c) dx fs') ∧ FR Γ g H fs fs'
structure HR (Γ : Sig) (g : Gh) (hp : Heap) (H : Hp) : Prop where
  len : g.am.length = hp.length
  nd : g.am.Nodup
  obj : ∀ (a : Nat) (o : Obj), hp[a]? = some o → ∃ p, g.am[a]? = some p ∧ g.ow p = some .obj ∧ ObjR Γ g H o p
  dom : ∀ p, H p = none → g.ow p = none
  sl : ∀ p i, g.ow p = some (.slot i) → ∃ ys, H p = some (.lst ys)
/-- a slot's value -/
def SlotV (Γ : Sig) (g : Gh) (H : Hp) (i : Nat) (v : Val) (x : V) : Prop := match v with
  | .lst .own xs => ∃ p ys, x = .ref p ∧ H p = some (.lst ys) ∧ g.ow p = some (.slot i) ∧ RKs Γ g H xs ys
  | .lst .brw _ => True
  | v => RK Γ g H v x
structure SR (Γ : Sig) (g : Gh) (H : Hp) (ρ : Slots) (σ : St) : Prop where
  len : ρ.length = σ.length
  at_ : ∀ (i : Nat) (v : Val), ρ[i]? = some (some v) → ∃ x, σ[i]? = some (some x) ∧ SlotV Γ g H i v x
theorem SlotV.mono {Γ : Sig} {g g' : Gh} {H H' : Hp} (s : Stp g H g' H') {i : Nat} {v : Val} {x : V} (h : SlotV Γ g H i v x) : SlotV Γ g' H' i v x := by
  unfold SlotV at *
  split at h
  · obtain ⟨p, ys, e, hp, w, r⟩ := h
    obtain ⟨w', hp'⟩ := s.slot _ _ _ hp w
    exact ⟨p, ys, e, hp', w', r.mono s.toKeep⟩
  · trivial
  · exact h.mono s.toKeep
theorem SR.mono {Γ : Sig} {g g' : Gh} {H H' : Hp} {ρ : Slots} {σ : St} (s : Stp g H g' H') (h : SR Γ g H ρ σ) : SR Γ g' H' ρ σ :=
  ⟨h.len, fun i v e => let ⟨x, e1, r⟩ := h.at_ i v e; ⟨x, e1, r.mono s⟩⟩
theorem SlotV.kept {Γ : Sig} {g : Gh} {H : Hp} {i : Nat} {v : Val} {x : V} (h : RK Γ g H v x) : SlotV Γ g H i v x := by
  unfold SlotV
  split
  · cases h
  · trivial
  · exact h

/-! ### a fresh list gets a holder -/
section
variable {Γ : Sig} {g : Gh} {H : Hp} {p : Addr} {ys : List V} {w : Ow}
mutual
theorem RK.put (hw : g.ow p = none) (hp : H p = some (.lst ys)) : ∀ {v : Val} {x : V}, RK Γ g H v x → RK Γ (g.put p w) H v x
  | _, _, .non => .non
  | _, _, .bl b => .bl b
  | _, _, .int i => .int i
  | _, _, .str x => .str x
  | _, _, .tup h e r => .tup h (by rw [Gh.put_ne (by rintro rfl; rw [hp] at h; cases h)]; exact e) (RKs.put hw hp r)
  | _, _, .imm h e r => .imm h (by rw [Gh.put_ne (by rintro rfl; rw [hw] at e; cases e)]; exact e) (RKs.put hw hp r)
  | _, _, .frz h e r => .frz h (by rw [Gh.put_ne (by rintro rfl; rw [hp] at h; cases h)]; exact e) (RKs.put hw hp r)
  | _, _, .ref h => .ref h
  | _, _, .fn f => .fn f
  | _, _, .cls c k => .cls c k
  | _, _, .ty t => .ty t
  | _, _, .exc h e a b => .exc h (by rw [Gh.put_ne (by rintro rfl; rw [hp] at h; cases h)]; exact e) a b
theorem RKs.put (hw : g.ow p = none) (hp : H p = some (.lst ys)) : ∀ {vs : List Val} {xs : List V}, RKs Γ g H vs xs → RKs Γ (g.put p w) H vs xs
  | _, _, .nil => .nil
  | _, _, .cons a r => .cons (RK.put hw hp a) (RKs.put hw hp r)
end
theorem FR.put (hw : g.ow p = none) (hp : H p = some (.lst ys)) : ∀ {vs : List (Str × Val)} {xs : List (Str × V)}, FR Γ g H vs xs → FR Γ (g.put p w) H vs xs
  | _, _, .nil => .nil
  | _, _, .cons a r => .cons (a.put hw hp) (FR.put hw hp r)
theorem HR.put {hp : Heap} (h : HR Γ g hp H) (hw : g.ow p = none) (hl : H p = some (.lst ys)) : HR Γ (g.put p w) hp H := by
  refine ⟨h.len, h.nd, fun a o e => ?_, fun q hq => ?_, fun q i hq => ?_⟩
  · obtain ⟨q, e1, e2, r⟩ := h.obj a o e
    refine ⟨q, e1, by rw [Gh.put_ne (by rintro rfl; rw [hw] at e2; cases e2)]; exact e2, ?_⟩
    cases o with
    | lst xs => obtain ⟨ys, e3, r⟩ := r; exact ⟨ys, e3, r.put hw hl⟩
    | ins c fs => obtain ⟨dx, fs', e3, r⟩ := r; exact ⟨dx, fs', e3, r.put hw hl⟩
  · rw [Gh.put_ne (by rintro rfl; rw [hl] at hq; cases hq)]
    exact h.dom q hq
  · by_cases e : q = p
    · rw [e]; exact ⟨_, hl⟩
    · rw [Gh.put_ne e] at hq; exact h.sl q i hq
theorem SR.put {ρ : Slots} {σ : St} (h : SR Γ g H ρ σ) (hw : g.ow p = none) (hl : H p = some (.lst ys)) : SR Γ (g.put p w) H ρ σ := by
  refine ⟨h.len, fun i v e => ?_⟩
  obtain ⟨x, e1, r⟩ := h.at_ i v e
  refine ⟨x, e1, ?_⟩
  unfold SlotV at *
  split at r
  · obtain ⟨q, zs, e2, e3, e4, r⟩ := r
    exact ⟨q, zs, e2, e3, by rw [Gh.put_ne (by rintro rfl; rw [hw] at e4; cases e4)]; exact e4, r.put hw hl⟩
  · trivial
  · exact r.put hw hl
theorem Stp.put {g0 : Gh} {H0 : Hp} (s : Stp g0 H0 g H) (h0 : H0 p = none) (hw : ∀ i, w ≠ .slot i) : Stp g0 H0 (g.put p w) H := by
  have ne : ∀ q o, H0 q = some o → q ≠ p := fun q o e z => by rw [z, h0] at e; cases e
  refine ⟨⟨s.am, fun q o e z => ?_⟩, fun q o i e z => ?_, fun q o e z => ?_, fun q o e z => ?_, fun q i z => ?_⟩
  · rw [Gh.put_ne (ne q o e)]; exact s.kept q o e z
  · rw [Gh.put_ne (ne q o e)]; exact s.slot q o i e z
  · rw [Gh.put_ne (ne q o e)]; exact s.obj q o e z
  · rw [Gh.put_ne (ne q o e)]; exact s.acc q o e z
  · by_cases e : q = p
    · rw [e, Gh.put_same] at z; cases z; exact (hw i rfl).elim
    · rw [Gh.put_ne e] at z; exact s.ns q i z
end
/-- fresh since H -/
def Frs (H : Hp) (v : Val) (x : V) : Prop := match v, x with
  | .lst .own _, .ref p => H p = none
  | _, _ => True
theorem Frs.mono {g g' : Gh} {H H' : Hp} (s : Stp g H g' H') {v : Val} {x : V} (h : Frs H' v x) : Frs H v x := by
  unfold Frs at *
  split at h <;> first | exact s.back h | trivial

/-! ### a new object of the layer's heap -/
section
variable {Γ : Sig} {g : Gh} {H : Hp} {p : Addr} {o : HO}
theorem Keep.new (hp : H p = none) : Keep g H g (upd H p o) := ⟨⟨[], by simp⟩, fun q o' e _ => ⟨rfl, by rw [upd_ne (ne_of_none e hp)]; exact e⟩⟩
theorem Stp.new (hp : H p = none) : Stp g H g (upd H p o) :=
  ⟨Keep.new hp, fun q o' i e w => ⟨w, by rw [upd_ne (ne_of_none e hp)]; exact e⟩, fun q o' e w => ⟨w, o', by rw [upd_ne (ne_of_none e hp)]; exact e⟩, fun q o' e w => ⟨w, by rw [upd_ne (ne_of_none e hp)]; exact e⟩, fun _ _ w => w⟩
theorem HR.keep {hp : Heap} {g' : Gh} {H' : Hp} (h : HR Γ g hp H) (k : Keep g H g' H') (am : g'.am = g.am) (ob : ∀ q o, g.ow q = some .obj → H q = some o → g'.ow q = some .obj ∧ H' q = some o) (dom : ∀ q, H' q = none → g'.ow q = none) (sl : ∀ q i, g'.ow q = some (.slot i) → ∃ ys, H' q = some (.lst ys)) : HR Γ g' hp H' := by
  refine ⟨by rw [am]; exact h.len, by rw [am]; exact h.nd, fun a o e => ?_, dom, sl⟩
  obtain ⟨q, e1, e2, r⟩ := h.obj a o e
  refine ⟨q, by rw [am]; exact e1, ?_⟩
  cases o with
  | lst xs => obtain ⟨ys, e3, r⟩ := r; obtain ⟨z1, z2⟩ := ob q _ e2 e3; exact ⟨z1, ys, z2, r.mono k⟩
  | ins c fs => obtain ⟨dx, fs', e3, r⟩ := r; obtain ⟨z1, z2⟩ := ob q _ e2 e3; exact ⟨z1, dx, fs', z2, r.mono k⟩
theorem HR.new {hp : Heap} (h : HR Γ g hp H) (e : H p = none) : HR Γ g hp (upd H p o) :=
  h.keep (Keep.new e) rfl (fun q o' w z => ⟨w, by rw [upd_ne (ne_of_none z e)]; exact z⟩) (fun q z => by
    by_cases hq : q = p
    · subst hq; rw [upd_same] at z; cases z
    · rw [upd_ne hq] at z; exact h.dom q z) fun q i z => by
      obtain ⟨ys, e1⟩ := h.sl q i z
      exact ⟨ys, by rw [upd_ne (ne_of_none e1 e)]; exact e1⟩
theorem HR.free {hp : Heap} (h : HR Γ g hp H) (e : H p = none) : g.ow p = none := h.dom p e
end

/-! ### lists of values -/
section
variable {Γ : Sig} {g : Gh} {H : Hp}
theorem RKs.length : ∀ {vs : List Val} {xs : List V}, RKs Γ g H vs xs → vs.length = xs.length
  | _, _, .nil => rfl
  | _, _, .cons _ r => by rw [List.length_cons, List.length_cons, RKs.length r]
theorem RKs.append : ∀ {vs ws : List Val} {xs ys : List V}, RKs Γ g H vs xs → RKs Γ g H ws ys → RKs Γ g H (vs ++ ws) (xs ++ ys)
  | _, _, _, _, .nil, s => s
  | _, _, _, _, .cons a r, s => .cons a (RKs.append r s)
theorem RKs.take : ∀ (n : Nat) {vs : List Val} {xs : List V}, RKs Γ g H vs xs → RKs Γ g H (vs.take n) (xs.take n)
  | 0, _, _, _ => by simp; exact .nil
  | n + 1, _, _, .nil => .nil
  | n + 1, _, _, .cons a r => .cons a (RKs.take n r)
theorem RKs.drop : ∀ (n : Nat) {vs : List Val} {xs : List V}, RKs Γ g H vs xs → RKs Γ g H (vs.drop n) (xs.drop n)
  | 0, _, _, r => r
  | n + 1, _, _, .nil => .nil
  | n + 1, _, _, .cons a r => RKs.drop n r
theorem RKs.get : ∀ {vs : List Val} {xs : List V} {i : Nat} {v : Val}, RKs Γ g H vs xs → vs[i]? = some v → ∃ x, xs[i]? = some x ∧ RK Γ g H v x
  | _, _, _, _, .nil, e => by simp at e
  | _, _, 0, _, .cons a _, e => by simp at e; subst e; exact ⟨_, rfl, a⟩
  | _, _, i + 1, _, .cons _ r, e => by
    obtain ⟨x, h1, h2⟩ := RKs.get (i := i) r (by simpa using e)
    exact ⟨x, by simpa using h1, h2⟩
theorem RKs.set {v : Val} {x : V} (a : RK Γ g H v x) : ∀ {vs : List Val} {xs : List V} (i : Nat), RKs Γ g H vs xs → RKs Γ g H (vs.set i v) (xs.set i x)
  | _, _, _, .nil => .nil
  | _, _, 0, .cons _ r => .cons a r
  | _, _, i + 1, .cons b r => .cons b (RKs.set a i r)
theorem RKs.flat {vs : List Val} {xs : List V} (r : RKs Γ g H vs xs) : ∀ n : Nat, RKs Γ g H (rep n vs) (List.replicate n xs).flatten
  | 0 => .nil
  | n + 1 => by
    unfold rep
    rw [List.replicate_succ, List.flatten_cons, List.replicate_succ, List.flatten_cons]
    exact r.append (RKs.flat r n)
theorem RKs.cut {vs : List Val} {xs : List V} (r : RKs Γ g H vs xs) (lo hi : Option Int) : RKs Γ g H (cut vs lo hi) (cutV xs lo hi) := by
  unfold Mi.cut cutV
  rw [r.length]
  exact (r.drop _).take _
theorem RKs.atI {vs : List Val} {xs : List V} {i : Int} {v : Val} (r : RKs Γ g H vs xs) (h : L2.atI vs i = some v) : ∃ x, L2.atI xs i = some x ∧ RK Γ g H v x := by
  unfold L2.atI at *
  rw [← r.length]
  cases e : L2.ixN vs.length i with
  | none => rw [e] at h; cases h
  | some j =>
    rw [e] at h
    exact r.get h
theorem RKs.ints : ∀ {vs : List Val} {xs : List V} {is : List Int}, RKs Γ g H vs xs → intsOf vs = some is → xs = is.map V.int
  | _, _, _, .nil, e => by simp [intsOf] at e; subst e; rfl
  | _, _, _, .cons a r, e => by
    cases a <;> first | (simp [intsOf] at e; done) | skip
    simp only [intsOf] at e
    split at e
    · rename_i js ej
      cases e
      rw [RKs.ints r ej]; rfl
    · cases e
theorem RKs.strs : ∀ {vs : List Val} {xs : List V} {is : List Str}, RKs Γ g H vs xs → strsOf vs = some is → xs = is.map V.str
  | _, _, _, .nil, e => by simp [strsOf] at e; subst e; rfl
  | _, _, _, .cons a r, e => by
    cases a <;> first | (simp [strsOf] at e; done) | skip
    simp only [strsOf] at e
    split at e
    · rename_i js ej
      cases e
      rw [RKs.strs r ej]; rfl
    · cases e
end
end Mi

set_option Elab.async false
set_option linter.all false
set_option autoImplicit false
/-! Mi2: what is wanted of a run; the judgement; the checker of expressions. -/
namespace Mi
open PySem L2 PyProof.Rows

/-! ### what is wanted behind a run -/
def PostR {α β : Type} (Γ : Sig) (Rel : Gh → Hp → α → β → Prop) (g : Gh) (H : Hp) (r : R α) (Q : β → Hp → Prop) (W : Nat → Hp → Prop) : Prop := match r with
  | .ok a hp => ∀ g' b H', Stp g H g' H' → HR Γ g' hp H' → Rel g' H' a b → Q b H'
  | .exc c hp => ∀ g' H', Stp g H g' H' → HR Γ g' hp H' → W c H'
  | .bad => False
def Post (Γ : Sig) (g : Gh) (H : Hp) (r : R Val) (Q : VK) (W : Nat → Hp → Prop) : Prop := match r with
  | .ok v hp => ∀ g' x H', Stp g H g' H' → HR Γ g' hp H' → RV Γ g' H' v x → Frs H v x → Q x H'
  | .exc c hp => ∀ g' H', Stp g H g' H' → HR Γ g' hp H' → W c H'
  | .bad => False
section
variable {Γ : Sig} {g g1 : Gh} {H H1 : Hp} {W : Nat → Hp → Prop}
theorem Post.rebase {r : R Val} {Q : VK} (h : Post Γ g H r Q W) (s : Stp g H g1 H1) : Post Γ g1 H1 r Q W := by
  cases r with
  | ok v hp => exact fun g' x H' s' hr rv fr => h g' x H' (s.trans s') hr rv (Frs.mono s fr)
  | exc c hp => exact fun g' H' s' hr => h g' H' (s.trans s') hr
  | bad => exact h
theorem PostR.rebase {α β : Type} {Rel : Gh → Hp → α → β → Prop} {r : R α} {Q : β → Hp → Prop} (h : PostR Γ Rel g H r Q W) (s : Stp g H g1 H1) : PostR Γ Rel g1 H1 r Q W := by
  cases r with
  | ok v hp => exact fun g' x H' s' hr rv => h g' x H' (s.trans s') hr rv
  | exc c hp => exact fun g' H' s' hr => h g' H' (s.trans s') hr
  | bad => exact h
/-- a value first, then what hangs on it -/
def After (Γ : Sig) (g : Gh) (H : Hp) (K : Val → Heap → Gh → Hp → Prop) (x : V) (H1 : Hp) : Prop :=
  ∃ g1 hp1 v, Stp g H g1 H1 ∧ HR Γ g1 hp1 H1 ∧ RV Γ g1 H1 v x ∧ Frs H v x ∧ K v hp1 g1 H1
theorem Post.bind {r : R Val} {k : Val → Heap → R Val} {Q : VK} (h : Post Γ g H (r.bind k) Q W) :
    Post Γ g H r (After Γ g H fun v hp1 g1 H1 => Post Γ g1 H1 (k v hp1) Q W) W := by
  cases r with
  | ok v hp => exact fun g' x H' s hr rv fr => ⟨g', hp, v, s, hr, rv, fr, Post.rebase (r := k v hp) h s⟩
  | exc c hp => exact h
  | bad => exact h
theorem PostR.bindV {α β : Type} {Rel : Gh → Hp → α → β → Prop} {r : R Val} {k : Val → Heap → R α} {Q : β → Hp → Prop} (h : PostR Γ Rel g H (r.bind k) Q W) :
    Post Γ g H r (After Γ g H fun v hp1 g1 H1 => PostR Γ Rel g1 H1 (k v hp1) Q W) W := by
  cases r with
  | ok v hp => exact fun g' x H' s hr rv fr => ⟨g', hp, v, s, hr, rv, fr, PostR.rebase (r := k v hp) h s⟩
  | exc c hp => exact h
  | bad => exact h
def AfterR {α β : Type} (Γ : Sig) (Rel : Gh → Hp → α → β → Prop) (g : Gh) (H : Hp) (K : α → Heap → Gh → Hp → Prop) (b : β) (H1 : Hp) : Prop :=
  ∃ g1 hp1 a, Stp g H g1 H1 ∧ HR Γ g1 hp1 H1 ∧ Rel g1 H1 a b ∧ K a hp1 g1 H1
theorem Post.bindR {α β : Type} {Rel : Gh → Hp → α → β → Prop} {r : R α} {k : α → Heap → R Val} {Q : VK} (h : Post Γ g H (r.bind k) Q W) :
    PostR Γ Rel g H r (AfterR Γ Rel g H fun a hp1 g1 H1 => Post Γ g1 H1 (k a hp1) Q W) W := by
  cases r with
  | ok v hp => exact fun g' x H' s hr rel => ⟨g', hp, v, s, hr, rel, Post.rebase (r := k v hp) h s⟩
  | exc c hp => exact h
  | bad => exact h
theorem PostR.bindR {α β α' β' : Type} {Rel : Gh → Hp → α → β → Prop} {Rel' : Gh → Hp → α' → β' → Prop} {r : R α} {k : α → Heap → R α'} {Q : β' → Hp → Prop} (h : PostR Γ Rel' g H (r.bind k) Q W) :
    PostR Γ Rel g H r (AfterR Γ Rel g H fun a hp1 g1 H1 => PostR Γ Rel' g1 H1 (k a hp1) Q W) W := by
  cases r with
  | ok v hp => exact fun g' x H' s hr rel => ⟨g', hp, v, s, hr, rel, PostR.rebase (r := k v hp) h s⟩
  | exc c hp => exact h
  | bad => exact h
/-- the run's end is at hand -/
theorem Post.here {v : Val} {hp : Heap} {Q : VK} {x : V} (h : Post Γ g H (.ok v hp) Q W) (hr : HR Γ g hp H) (rv : RV Γ g H v x) (fr : Frs H v x) : Q x H := h g x H Stp.refl hr rv fr
theorem Post.new {v : Val} {hp : Heap} {Q : VK} {p : Addr} {o : HO} (h : Post Γ g H (.ok v hp) Q W) (hr : HR Γ g hp H) (hn : H p = none) (rv : RV Γ g (upd H p o) v (.ref p)) : Q (.ref p) (upd H p o) :=
  h g (.ref p) (upd H p o) (Stp.new hn) (hr.new hn) rv (by unfold Frs; split <;> first | (rename_i e; cases e; exact hn) | trivial)
theorem Post.of {o : Option Val} {hp : Heap} {Q : VK} (h : Post Γ g H (.of o hp) Q W) : ∃ v, o = some v ∧ Post Γ g H (.ok v hp) Q W := by
  cases o with
  | none => exact h.elim
  | some v => exact ⟨v, rfl, h⟩
end

/-! ### the law's static facts -/
inductive Gv where
  | fn (f : Nat) | cls (c : Nat)
  deriving DecidableEq
structure Tab where
  gn : Str → Option Gv
  kc : Nat → Bool
def bnames : List String := ["len", "abs", "all", "any", "sum", "max", "min", "list", "tuple", "int", "isinstance", "sorted", "range", "enumerate", "zip", "bool", "str", "ValueError", "set"]
/-- names by slot, the scope that runs, the names whose cells are the block's own -/
structure Cs where
  N : List Str
  sc : Scope
  fk : Str → Bool
  tp : Bool
def isVis : Option NameKind → Bool
  | some .local => true
  | some .cell => true
  | some .free => true
  | _ => false
def okName (x : Str) : Bool := !(x == ("__debug__" : Str)) && !(x == ("__classdict__" : Str)) && !(x == ("__name__" : Str))
def Cs.vis (cs : Cs) (i : Nat) (x : Str) : Bool := decide (cs.N[i]? = some x) && isVis (cs.sc.names.lookup x) && okName x
def Cs.gl (cs : Cs) (x : Str) : Bool := decide (cs.sc.names.lookup x = some .globalImplicit) && okName x
def Cs.tgt (cs : Cs) (i : Nat) (x : Str) : Bool := decide (cs.N[i]? = some x) && okName x && match cs.sc.names.lookup x with
  | some .local => true
  | some .cell => cs.fk x
  | _ => false
/-- a call of a def keeps its promise -/
def spF (Γ : Sig) (cf : Nat → List Val → Heap → R Val) (f : Nat) : Sp := fun vs H Q E => ∃ g hp args, HR Γ g hp H ∧ (∀ p i, g.ow p ≠ some (.slot i)) ∧ RKs Γ g H args vs ∧ Post Γ g H (cf f args hp) Q (fun c H' => E (.ref (Γ.ca c)) none H')
structure FnX (P : Program) (w : World) (K : PySem.W.Frag) (mg : Str → Option Value) (base : PySem.Heap) (Γ : Sig) (cf : Nat → List Val → Heap → R Val) (k f : Nat) : Prop where
  ex : ∃ fd ps, FnOk P w K mg base (L2.CX P w) k (Γ.fa f) fd ps (spF Γ cf f) ∧ Binds K fd ps []
/-- a class of exceptions -/
structure ExcF (K : PySem.W.Frag) (Γ : Sig) (c : Nat) : Prop where
  is : ExcC K (Γ.ca c)
  val : PySem.W.kitOne K (.ref (Γ.ca c)) (.type "ValueError") = some true
  one : ∀ d : Nat, Γ.kn d = true → d < 100 → PySem.W.kitOne K (.ref (Γ.ca c)) (.ref (Γ.ca d)) = some (d == 0 || d == c)
  exm : PySem.W.exmOne K (.ref (Γ.ca c)) (.ref (Γ.ca 0)) = some true
  exc : PySem.W.excIn K (Γ.ca c) [.type "ValueError", .type "Exception", .type "BaseException", .type "object"] "ValueError.__new__" = true
  keep : PySem.W.keepIn K (.ref (Γ.ca c)) = true
  sub : PySem.W.subIn K (.ref (Γ.ca c)) (.type "BaseException") = some true
  typ : PySem.W.typeIn K (.ref (Γ.ca c)) = some (.type "type")
structure LwOk (P : Program) (w : World) (K : PySem.W.Frag) (mg : Str → Option Value) (base : PySem.Heap) (Γ : Sig) (T : Tab) (cf : Nat → List Val → Heap → R Val) (k : Nat) : Prop where
  fn : ∀ x f, T.gn x = some (.fn f) → mg x = some (.ref (Γ.fa f))
  cls : ∀ x c, T.gn x = some (.cls c) → mg x = some (.ref (Γ.ca c)) ∧ Γ.kn c = true
  bi : ∀ s, bnames.contains s = true → mg (Str.ofString s) = none
  call : ∀ f args hp, cf f args hp ≠ .bad → FnX P w K mg base Γ cf k f
  kf : ∀ f, PySem.W.keepIn K (.ref (Γ.fa f)) = true
  exc : ∀ c : Nat, Γ.kn c = true → c < 100 → ExcF K Γ c
  kc : ∀ c : Nat, T.kc c = true → Γ.kn c = true ∧ c < 100
structure XOk (Γ : Sig) (T : Tab) (cf : Nat → List Val → Heap → R Val) (k : Nat) (cs : Cs) (X : Cx) : Prop where
  N : X.N = cs.N
  sc : X.env.scope = cs.sc
  fn : ∀ x, cs.fk x = true → X.fn x = true
  nd : X.N.Nodup
  calm : X.calm = true
  room : Room k X.A
  lw : LwOk X.prog X.w X.K X.mg X.base Γ T cf k
  tp : cs.tp = true → X.stack = X.env :: X.outer ∧ X.env.frame = some X.env.locals ∧ X.ex = []

/-! ### the judgement -/
def tEv (Γ : Sig) (cf : Nat → List Val → Heap → R Val) (Wx : WX) (m : E) : TE := fun σ H Q => ∃ g ρ hp, HR Γ g hp H ∧ SR Γ g H ρ σ ∧ Post Γ g H (ev cf m ρ hp) Q (fun c H' => Wx (.ref (Γ.ca c)) none σ H')
def tEvs (Γ : Sig) (cf : Nat → List Val → Heap → R Val) (Wx : WX) (m : Es) : TA := fun σ H Q => ∃ g ρ hp, HR Γ g hp H ∧ SR Γ g H ρ σ ∧ PostR Γ (RKs Γ) g H (evs cf m ρ hp) Q (fun c H' => Wx (.ref (Γ.ca c)) none σ H')
def tTst (Γ : Sig) (cf : Nat → List Val → Heap → R Val) (Wx : WX) (m : E) : TT := fun σ H Q => ∃ g ρ hp, HR Γ g hp H ∧ SR Γ g H ρ σ ∧ PostR Γ (fun _ _ (a b : Bool) => a = b) g H ((ev cf m ρ hp).bind fun x h => .of (truth h x) h) Q (fun c H' => Wx (.ref (Γ.ca c)) none σ H')

section
variable {Γ : Sig} {T : Tab} {cf : Nat → List Val → Heap → R Val} {k : Nat} {cs : Cs} {X : Cx} {Wx : WX}
theorem XOk.hu (ok : XOk Γ T cf k cs X) : X.A.units + 200 < cLine := by have := ok.room.un; omega
theorem okName.a {x : Str} (h : okName x = true) : (x == ("__debug__" : Str)) = false := by
  unfold okName at h; simp only [Bool.and_eq_true, Bool.not_eq_true'] at h; exact h.1.1
theorem okName.b {x : Str} (h : okName x = true) : (x == ("__classdict__" : Str)) = false := by
  unfold okName at h; simp only [Bool.and_eq_true, Bool.not_eq_true'] at h; exact h.1.2
theorem okName.c {x : Str} (h : okName x = true) : x ≠ ("__name__" : Str) := by
  unfold okName at h; simp only [Bool.and_eq_true, Bool.not_eq_true'] at h
  intro e; rw [e] at h; simp at h
theorem XOk.vis (ok : XOk Γ T cf k cs X) {i : Nat} {x : Str} (h : cs.vis i x = true) : X.N[i]? = some x ∧ Vis X.env.scope x ∧ okName x = true := by
  unfold Cs.vis at h
  simp only [Bool.and_eq_true, decide_eq_true_eq] at h
  refine ⟨by rw [ok.N]; exact h.1.1, ?_, h.2⟩
  unfold Vis
  rw [ok.sc]
  revert h
  cases cs.sc.names.lookup x with
  | none => intro h; exact absurd h.1.2 (by decide)
  | some n => cases n <;> intro h <;> first | exact .inl rfl | exact .inr (.inl rfl) | exact .inr (.inr rfl) | exact absurd h.1.2 (by decide)
theorem XOk.gl (ok : XOk Γ T cf k cs X) {x : Str} (h : cs.gl x = true) : Gl X x ∧ okName x = true := by
  unfold Cs.gl at h
  simp only [Bool.and_eq_true, decide_eq_true_eq] at h
  exact ⟨by unfold Gl Env.kindOf; rw [ok.sc]; exact h.1, h.2⟩
theorem XOk.tgt (ok : XOk Γ T cf k cs X) {i : Nat} {x : Str} (h : cs.tgt i x = true) : X.N[i]? = some x ∧ L2.Loc X.env.scope x ∧ (X.fn x = true ∨ X.env.scope.names.lookup x = some .local) := by
  unfold Cs.tgt at h
  simp only [Bool.and_eq_true, decide_eq_true_eq] at h
  refine ⟨by rw [ok.N]; exact h.1.1, ?_⟩
  unfold L2.Loc
  rw [ok.sc]
  revert h
  cases cs.sc.names.lookup x with
  | none => intro h; exact absurd h.2 (by simp)
  | some n => cases n <;> intro h <;> first | exact ⟨.inl rfl, .inr rfl⟩ | exact ⟨.inr rfl, .inl (ok.fn x h.2)⟩ | exact absurd h.2 (by simp)

/-! ### atoms -/
theorem se_const {e : Expr} {m : E} {v : Val} {x : V} (he : PE X e (tC x)) (hm : ∀ ρ h, ev cf m ρ h = .ok v h) (hv : ∀ g H, RK Γ g H v x) : PE X e (tEv Γ cf Wx m) := by
  refine ⟨fun pins s σ H Q I h => ?_⟩
  obtain ⟨g, ρ, hp, hr, sr, h⟩ := h
  rw [hm] at h
  refine he.run pins s σ H Q I (h.here hr (.kept (hv g H)) ?_)
  cases hv g H <;> trivial
theorem se_var {i : Nat} {x : Str} {pos : Pos} (ok : XOk Γ T cf k cs X) (h : cs.vis i x = true) : PE X (.Name x pos) (tEv Γ cf Wx (.var i)) := by
  obtain ⟨h1, h2, h3⟩ := ok.vis h
  refine ⟨fun pins s σ H Q I h => ?_⟩
  obtain ⟨g, ρ, hp, hr, sr, h⟩ := h
  refine (pe_var h1 h2 (okName.a h3) (okName.b h3)).run pins s σ H Q I ?_
  unfold ev at h
  cases e : ρ[i]? with
  | none => rw [e] at h; exact h.elim
  | some o =>
    rw [e] at h
    cases o with
    | none => exact h.elim
    | some v =>
      obtain ⟨y, ey, r⟩ := sr.at_ i v e
      refine ⟨y, ey, ?_⟩
      unfold SlotV at r
      split at r
      · obtain ⟨p, ys, rfl, hp', w, r⟩ := r
        exact Post.here (v := .lst .brw _) h hr (.brw hp' w r) trivial
      · exact h.elim
      · rename_i hn hnb
        have h' : Post Γ g H (.ok v hp) Q (fun c H' => Wx (.ref (Γ.ca c)) none σ H') := by
          revert h
          cases v with
          | lst kd xs => cases kd <;> first | exact (hn _ rfl).elim | exact (hnb _ rfl).elim | exact id
          | _ => exact id
        refine h'.here hr (.kept r) ?_
        unfold Frs
        split
        · exact (hn _ rfl).elim
        · trivial
theorem se_glob {m : E} {v : Val} {x : V} {n : Str} {u : Value} {pos : Pos} (ok : XOk Γ T cf k cs X) (hn : cs.gl n = true) (hm : X.mg n = some u) (r : RelV x u) (hv : ∀ g H, RK Γ g H v x) (he : ∀ ρ h, ev cf m ρ h = .ok v h) :
    PE X (.Name n pos) (tEv Γ cf Wx m) := by
  obtain ⟨h1, h2⟩ := ok.gl hn
  exact se_const (pe_glob h1 hm r (okName.a h2)) he hv

/-! ### operators -/
/-- a two-place operation on values, by the evaluator's own -/
def OkO (Γ : Sig) (X : Cx) (f : Value → Value → Sem Value) (op : Val → Val → Heap → Option Val) : Prop :=
  ∀ (pins : List (Addr × PySem.Obj)) (s : Shared) (σ : L2.St) (H : Hp) (g : Gh) (hp : Heap) (x y : V) (vx vy : Val) (v u : Value) (Q : VK) (W : Nat → Hp → Prop),
    Inv X pins σ H s → HR Γ g hp H → RV Γ g H vx x → RV Γ g H vy y → RelV x v → RelV y u → Post Γ g H (.of (op vx vy hp) hp) Q W →
    wpAny (model X.prog X.w) X.A (f v u) (EP X pins σ Q) X.xe s
/-- two expressions in a row -/
theorem se_two {a b : Expr} {ma mb : E} {kk : Val → Val → Heap → R Val} (ha : PE X a (tEv Γ cf Wx ma)) (hb : PE X b (tEv Γ cf Wx mb))
    {pins : List (Addr × PySem.Obj)} {s : Shared} {σ : L2.St} {H : Hp} {Q : VK} {g : Gh} {ρ : Slots} {hp : Heap} (I : Inv X pins σ H s) (hr : HR Γ g hp H) (sr : SR Γ g H ρ σ)
    (h : Post Γ g H ((ev cf ma ρ hp).bind fun x h => (ev cf mb ρ h).bind fun y h => kk x y h) Q (fun c H' => Wx (.ref (Γ.ca c)) none σ H'))
    {β : Type} {f : Value → Value → Sem β} {F : β → Shared → Prop}
    (hf : ∀ (v u : Value) (s2 : Shared) (x y : V) (H2 : Hp) (g2 : Gh) (hp2 : Heap) (vx vy : Val), Inv X pins σ H2 s2 → HR Γ g2 hp2 H2 → SR Γ g2 H2 ρ σ → RV Γ g2 H2 vx x → RV Γ g2 H2 vy y → RelV x v → RelV y u → Stp g H g2 H2 →
      Post Γ g2 H2 (kk vx vy hp2) Q (fun c H' => Wx (.ref (Γ.ca c)) none σ H') → wpAny (model X.prog X.w) X.A (f v u) F X.xe s2) :
    wpAny (model X.prog X.w) X.A (eval a X.env) (fun v s₁ => wpAny (model X.prog X.w) X.A (eval b X.env) (fun u s₂ => wpAny (model X.prog X.w) X.A (f v u) F X.xe s₂) X.xe s₁) X.xe s := by
  refine thn (ha.run pins s σ H _ I ⟨g, ρ, hp, hr, sr, Post.bind h⟩) fun v s1 ⟨x, H1, I1, r1, g1, hp1, vx, st1, hr1, rv1, fr1, h1⟩ => ?_
  refine thn (hb.run pins s1 σ H1 _ I1 ⟨g1, ρ, hp1, hr1, sr.mono st1, Post.bind h1⟩) fun u s2 ⟨y, H2, I2, r2, g2, hp2, vy, st2, hr2, rv2, fr2, h2⟩ => ?_
  exact hf v u s2 x y H2 g2 hp2 vx vy I2 hr2 ((sr.mono st1).mono st2) (rv1.mono st2) rv2 r1 r2 (st1.trans st2) h2
theorem se_bin {a b : Expr} {ma mb : E} {o : Bop} {op : Operator} {pos : Pos} (ho : OkO Γ X (binaryOp op) (bop o)) (ha : PE X a (tEv Γ cf Wx ma)) (hb : PE X b (tEv Γ cf Wx mb)) : PE X (.BinOp a op b pos) (tEv Γ cf Wx (.bin o ma mb)) := by
  refine ⟨fun pins s σ H Q I h => ?_⟩
  obtain ⟨g, ρ, hp, hr, sr, h⟩ := h
  unfold ev at h
  exact wpAny_BinOp (se_two ha hb I hr sr h fun v u s2 x y H2 g2 hp2 vx vy I2 hr2 _ rx ry r1 r2 _ h2 => ho pins s2 σ H2 g2 hp2 x y vx vy v u Q _ I2 hr2 rx ry r1 r2 h2)
theorem se_cmp {a b : Expr} {ma mb : E} {o : Cop} {op : CmpOp} {pos : Pos} (ho : OkO Γ X (compareOp op) (fun x y h => (cop o x y h).map Val.bl)) (ha : PE X a (tEv Γ cf Wx ma)) (hb : PE X b (tEv Γ cf Wx mb)) (hm : behindInMarks op b = false) :
    PE X (.Compare a [op] [b] pos) (tEv Γ cf Wx (.cmp o ma mb)) := by
  refine ⟨fun pins s σ H Q I h => ?_⟩
  obtain ⟨g, ρ, hp, hr, sr, h⟩ := h
  unfold ev at h
  exact wpAny_Compare1 (se_two ha hb I hr sr h fun v u s2 x y H2 g2 hp2 vx vy I2 hr2 _ rx ry r1 r2 _ h2 => ho pins s2 σ H2 g2 hp2 x y vx vy v u Q _ I2 hr2 rx ry r1 r2 h2) hm
end
end Mi

set_option Elab.async false
set_option linter.all false
set_option autoImplicit false
/-! Mi3: operators, comparisons, subscripts, built-ins on values. -/
namespace Mi
open PySem PySem.Spec L2 PyProof.Rows
section
variable {Γ : Sig} {g : Gh} {H : Hp} {hp : Heap} {x y : V} {K : PySem.W.Frag}
theorem RV.int {i : Int} (r : RV Γ g H (.int i) x) : x = .int i := by cases r with | kept r => cases r; rfl
theorem RV.bl {i : Bool} (r : RV Γ g H (.bl i) x) : x = .bl i := by cases r with | kept r => cases r; rfl
theorem RV.str {i : Str} (r : RV Γ g H (.str i) x) : x = .str i := by cases r with | kept r => cases r; rfl
theorem RV.non (r : RV Γ g H .non x) : x = .non := by cases r with | kept r => cases r; rfl
theorem RV.ty {t : String} (r : RV Γ g H (.ty t) x) : x = .ty t := by cases r with | kept r => cases r; rfl
theorem RV.tup {xs : List Val} (r : RV Γ g H (.tup xs) x) : ∃ p ys, x = .ref p ∧ H p = some (.tup ys) ∧ g.ow p = none ∧ RKs Γ g H xs ys := by
  cases r with | kept r => cases r with | tup a b c => exact ⟨_, _, rfl, a, b, c⟩
theorem RV.lst {k : Kd} {xs : List Val} (r : RV Γ g H (.lst k xs) x) : ∃ p ys, x = .ref p ∧ SqL K H p ys ∧ RKs Γ g H xs ys := by
  cases r with
  | kept r => cases r with
    | imm a b c => exact ⟨_, _, rfl, SqL.of a, c⟩
    | frz a b c => exact ⟨_, _, rfl, .inl (.inr ⟨_, a⟩), c⟩
  | own a b c => exact ⟨_, _, rfl, SqL.of a, c⟩
  | brw a b c => exact ⟨_, _, rfl, SqL.of a, c⟩
theorem RV.lstT {k : Kd} {xs : List Val} (r : RV Γ g H (.lst k xs) x) (hk : k ≠ .scr) : ∃ p ys, x = .ref p ∧ H p = some (.lst ys) ∧ RKs Γ g H xs ys := by
  cases r with
  | kept r => cases r with
    | imm a b c => exact ⟨_, _, rfl, a, c⟩
    | frz a b c => exact absurd rfl hk
  | own a b c => exact ⟨_, _, rfl, a, c⟩
  | brw a b c => exact ⟨_, _, rfl, a, c⟩
theorem RV.refL {a : Nat} {xs : List Val} (r : RV Γ g H (.ref a) x) (hr : HR Γ g hp H) (e : hp[a]? = some (.lst xs)) : ∃ p ys, x = .ref p ∧ g.am[a]? = some p ∧ g.ow p = some .obj ∧ H p = some (.lst ys) ∧ RKs Γ g H xs ys := by
  cases r with
  | kept r => cases r with
    | ref h =>
      obtain ⟨p, e1, e2, ys, e3, r⟩ := hr.obj a _ e
      rw [h] at e1; cases e1
      exact ⟨_, ys, rfl, h, e2, e3, r⟩
theorem RV.seq {v : Val} {xs : List Val} (r : RV Γ g H v x) (hr : HR Γ g hp H) (e : seqOf hp v = some xs) : ∃ p ys, x = .ref p ∧ (SqL K H p ys ∨ SqT K H p ys) ∧ RKs Γ g H xs ys := by
  cases v with
  | tup zs =>
    cases e
    obtain ⟨p, ys, rfl, h, _, r⟩ := r.tup
    exact ⟨p, ys, rfl, .inr (SqT.of h), r⟩
  | lst k zs =>
    cases e
    obtain ⟨p, ys, rfl, h, r⟩ := r.lst (K := K)
    exact ⟨p, ys, rfl, .inl h, r⟩
  | ref a =>
    simp only [seqOf] at e
    split at e
    · cases e
      rename_i e1
      obtain ⟨p, ys, rfl, _, _, h, r⟩ := r.refL hr e1
      exact ⟨p, ys, rfl, .inl (SqL.of h), r⟩
    · cases e
  | _ => cases e
theorem rkTup {xs : List Val} {ys : List V} {p : Addr} (hr : HR Γ g hp H) (hn : H p = none) (r : RKs Γ g H xs ys) : RV Γ g (upd H p (.tup ys)) (.tup xs) (.ref p) :=
  .kept (.tup upd_same (hr.free hn) (r.mono (Keep.new hn)))
theorem rvOwn {xs : List Val} {ys : List V} {p : Addr} (hr : HR Γ g hp H) (hn : H p = none) (r : RKs Γ g H xs ys) : RV Γ g (upd H p (.lst ys)) (.lst .own xs) (.ref p) :=
  .own upd_same (hr.free hn) (r.mono (Keep.new hn))
theorem frsK {v : Val} {x : V} (r : RK Γ g H v x) (H' : Hp) : Frs H' v x := by
  unfold Frs
  split
  · cases r
  · trivial
end

section
variable {Γ : Sig} {X : Cx}
/-! ### + - * // % ** -/
theorem tuple_mul1 (l : Addr) (items : Array Value) (n : Nat) (dd : Option Addr) (sl : Array (Option Value)) (x : Int) (u : Tok) (c0 : (decide (x < -(2 ^ 63)) || decide (x ≥ 2 ^ 63)) = false) (c1 : (items.isEmpty || x == 1) = true) :
    Meets (Builtin.«tuple.__mul__» ⟨[.ref l, .int x u], []⟩) (fun _ R s => s.heap.get? l = some { cls := .type "tuple", dict := dd, data := .seq items n, slots := sl } ∧ R (.ok (.ret (Value.ref l))) s) :=
  .of_wp fun prog w A R s h => by
    obtain ⟨hp, g, d, tk, os⟩ := s
    obtain ⟨hl, h⟩ := h
    have f1 := AutoSeq1.idx_int
    wp_walk using wpAny_loadPart' hl
    repeat (first
      | (refine wpAny_ite_false (decide_eq_false (by rw [c0]; exact Bool.false_ne_true)) ?_; wp_walk using wpAny_loadPart' hl)
      | (refine wpAny_ite_true (decide_eq_true (by rw [c1])) ?_; wp_walk using wpAny_loadPart' hl))
    exact ⟨_, rfl, h⟩
theorem tuple_mul0 (l : Addr) (items : Array Value) (n : Nat) (dd : Option Addr) (sl : Array (Option Value)) (x : Int) (u : Tok) (c0 : (decide (x < -(2 ^ 63)) || decide (x ≥ 2 ^ 63)) = false) (c1 : (items.isEmpty || x == 1) = false) (c2 : (decide (x ≤ 0) || items.isEmpty) = true) :
    Meets (Builtin.«tuple.__mul__» ⟨[.ref l, .int x u], []⟩) (fun _ R s => s.heap.get? l = some { cls := .type "tuple", dict := dd, data := .seq items n, slots := sl } ∧
      R (.ok (.ret (Value.ref s.heap.objs.size))) { s with heap := s.heap.push { cls := Value.type "tuple", data := Data.seq #[] }, toks := s.toks }) :=
  .of_wp fun prog w A R s h => by
    obtain ⟨hp, g, d, tk, os⟩ := s
    obtain ⟨hl, h⟩ := h
    have f1 := AutoSeq1.idx_int
    wp_walk using wpAny_loadPart' hl
    repeat (first
      | (refine wpAny_ite_false (decide_eq_false (by rw [c0]; exact Bool.false_ne_true)) ?_; wp_walk using wpAny_loadPart' hl)
      | (refine wpAny_ite_false (decide_eq_false (by rw [c1]; exact Bool.false_ne_true)) ?_; wp_walk using wpAny_loadPart' hl)
      | (refine wpAny_ite_true (decide_eq_true (by rw [c2])) ?_; wp_walk using wpAny_loadPart' hl))
    exact ⟨_, rfl, h⟩
/-- t * k, 0 ≤ k ≤ 1000, t not empty -/
def rRepA (K : PySem.W.Frag) : R2 := fun x y H Q => ∃ l k xs, x = .ref l ∧ y = .int k ∧ SqT K H l xs ∧ xs ≠ [] ∧ 0 ≤ k ∧ k ≤ 1000 ∧ xs.length ≤ 1000 ∧ (k = 1 → Q (.ref l) H) ∧ (k ≠ 1 → ∀ p, H p = none → Q (.ref p) (upd H p (.tup (List.replicate k.toNat xs).flatten)))
theorem op_repA : OpR X (binaryOp .Mult) (rRepA X.K) := by
  intro pins s σ H x y v u Q I rx ry h
  obtain ⟨l, k, xs, rfl, rfl, hT, hne, h1, h2, hz, q1, q2⟩ := h
  by_cases hk2 : 2 ≤ k
  · exact op_repT pins s σ H _ _ v u Q I rx ry ⟨l, k, xs, rfl, rfl, hT, hne, hk2, h2, hz, q2 (by omega)⟩
  cases rx
  obtain ⟨t, rfl⟩ := ry
  obtain ⟨its, r, ⟨⟨cls, dd, data, sl⟩, ho, hc, n, hd⟩, hs⟩ := I.tuple hT
  simp only at hc hd
  subst hc hd
  have hle : its.length = xs.length := r.length.symm
  have hi : its.toArray.isEmpty = false := by
    cases its with
    | nil => exact absurd (List.eq_nil_of_length_eq_zero hle.symm) hne
    | cons a b => rfl
  have c0 : (decide (k < -(2 ^ 63)) || decide (k ≥ 2 ^ 63)) = false := by
    rw [decide_eq_false (by omega), decide_eq_false (by omega)] <;> rfl
  by_cases hk : k = 1
  · refine wpAny_binaryOp_repeat_ref (T := "tuple") (U := "int") (by decide) ⟨_, ho, rfl⟩ (fun s' => typeIs_int s' k t) noFill_tuple_mul F.fills_int_mul F.slot_int_rmul repeat_tuple F.slot_int_index.lookup
      (call_meets F.slot_int_rmul (typeIs_int s k t) F.entry_int_rmul (F.args_int_rmul_2 _ _) (int_rmul_tuple k t l its.toArray n dd sl)
        ⟨ho, rfl, ⟨_, ho, rfl⟩, call_meets F.slot_tuple_mul ⟨_, ho, rfl⟩ F.entry_tuple_mul (F.args_tuple_mul_2 _ _) (tuple_mul1 l its.toArray n dd sl k t c0 (by rw [hk]; simp)) ⟨ho, ?_⟩⟩)
    exact ⟨.ref l, H, I, rfl, q1 hk⟩
  · have hk0 : k = 0 := by omega
    refine wpAny_binaryOp_repeat_ref (T := "tuple") (U := "int") (by decide) ⟨_, ho, rfl⟩ (fun s' => typeIs_int s' k t) noFill_tuple_mul F.fills_int_mul F.slot_int_rmul repeat_tuple F.slot_int_index.lookup
      (call_meets F.slot_int_rmul (typeIs_int s k t) F.entry_int_rmul (F.args_int_rmul_2 _ _) (int_rmul_tuple k t l its.toArray n dd sl)
        ⟨ho, rfl, ⟨_, ho, rfl⟩, call_meets F.slot_tuple_mul ⟨_, ho, rfl⟩ F.entry_tuple_mul (F.args_tuple_mul_2 _ _) (tuple_mul0 l its.toArray n dd sl k t c0 (by rw [hi, hk0]; rfl) (by rw [hk0]; rfl)) ⟨ho, ?_⟩⟩)
    have hf : H s.heap.objs.size = none := I.hok.fresh (Nat.le_refl _)
    have q := q2 hk _ hf
    rw [hk0] at q
    refine ⟨.ref s.heap.objs.size, _, I.laid (t' := s.toks) (fun b u e => Heap.get?_push_of_some _ e) (Nat.le_refl _) ?_, rfl, q⟩
    exact ⟨Nat.zero_le _, [], .nil, ⟨_, Heap.get?_push_size _ rfl, rfl, _, rfl⟩⟩
theorem CDivA.op : OpR X (binaryOp .FloorDiv) (rI (fun _ j => j ≠ 0 ∧ j.natAbs.log2 < 9000) fun i j => .int (i.fdiv j)) := opI fun _ _ _ _ _ _ _ hc q => floordiv_int hc.1 q (.inl (PyProof.noPylong_of_log2 hc.2))

theorem ok_add : OkO Γ X (binaryOp .Add) (bop .add) := by
  intro pins s σ H g hp x y vx vy v u Q W I hr rx ry r1 r2 h
  obtain ⟨z, e, h⟩ := Post.of h
  cases vx with
  | int i => cases vy with
    | int j =>
      cases e
      exact op_add pins s σ H x y v u Q I r1 r2 ⟨i, j, rx.int, ry.int, h.here hr (.kept (.int _)) trivial⟩
    | _ => cases e
  | str a => cases vy with
    | str b =>
      simp only [bop] at e
      split at e
      · rename_i hf
        cases e
        exact op_add_str pins s σ H x y v u Q I r1 r2 ⟨a, b, rx.str, ry.str, of_decide_eq_true hf, h.here hr (.kept (.str _)) trivial⟩
      · cases e
    | _ => cases e
  | tup xs => cases vy with
    | tup ys =>
      simp only [bop] at e
      split at e
      · rename_i hf
        cases e
        have hf : xs.length + ys.length ≤ sizeLine := of_decide_eq_true hf
        obtain ⟨p, xs', rfl, hx, wx, kx⟩ := rx.tup
        obtain ⟨q, ys', rfl, hy, wy, ky⟩ := ry.tup
        refine op_catA pins s σ H _ _ v u Q I r1 r2 ⟨p, q, xs', ys', rfl, rfl, SqT.of hx, SqT.of hy, by rw [← kx.length, ← ky.length]; exact hf, fun e => ?_, fun _ e => ?_, fun _ _ r hn => h.new hr hn (rkTup hr hn (kx.append ky))⟩
        · subst e
          cases kx
          exact h.here hr (.kept (.tup hy wy ky)) trivial
        · subst e
          cases ky
          rw [List.append_nil] at h
          exact h.here hr (.kept (.tup hx wx kx)) trivial
      · cases e
    | _ => cases e
  | lst k xs => cases vy with
    | lst l ys =>
      simp only [bop] at e
      split at e
      · rename_i hf
        cases e
        simp only [Bool.and_eq_true, decide_eq_true_eq] at hf
        have hf2 : xs.length + ys.length ≤ sizeLine := of_decide_eq_true hf.2
        obtain ⟨p, xs', rfl, hx, kx⟩ := rx.lstT hf.1.1
        obtain ⟨q, ys', rfl, hy, ky⟩ := ry.lstT hf.1.2
        exact op_cat pins s σ H _ _ v u Q I r1 r2 ⟨p, q, xs', ys', rfl, rfl, hx, hy, by rw [← kx.length, ← ky.length]; exact hf2, fun r hn => h.new hr hn (rvOwn hr hn (kx.append ky))⟩
      · cases e
    | _ => cases e
  | _ => cases e
theorem ok_sub : OkO Γ X (binaryOp .Sub) (bop .sub) := by
  intro pins s σ H g hp x y vx vy v u Q W I hr rx ry r1 r2 h
  obtain ⟨z, e, h⟩ := Post.of h
  cases vx with
  | int i => cases vy with
    | int j =>
      cases e
      exact op_sub pins s σ H x y v u Q I r1 r2 ⟨i, j, rx.int, ry.int, h.here hr (.kept (.int _)) trivial⟩
    | _ => cases e
  | _ => cases e
theorem ok_mul : OkO Γ X (binaryOp .Mult) (bop .mul) := by
  intro pins s σ H g hp x y vx vy v u Q W I hr rx ry r1 r2 h
  obtain ⟨z, e, h⟩ := Post.of h
  cases vx with
  | int i => cases vy with
    | int j =>
      simp only [bop] at e
      split at e
      · rename_i hf
        cases e
        exact op_mulW pins s σ H x y v u Q I r1 r2 ⟨i, j, rx.int, ry.int, (show i.natAbs.log2 + j.natAbs.log2 < 1000000 from of_decide_eq_true hf), h.here hr (.kept (.int _)) trivial⟩
      · cases e
    | _ => cases e
  | lst k xs => cases vy with
    | int j =>
      simp only [bop] at e
      split at e
      · rename_i hf
        cases e
        simp only [Bool.and_eq_true, decide_eq_true_eq] at hf
        have hf2 : xs.length * j.toNat ≤ sizeLine := of_decide_eq_true hf.2
        obtain ⟨p, xs', rfl, hx, kx⟩ := rx.lstT hf.1.1.1
        exact op_rep pins s σ H _ _ v u Q I r1 r2 ⟨p, j, xs', rfl, ry.int, hx, by omega, by omega, by rw [← kx.length]; exact hf2, fun r hn => h.new hr hn (rvOwn hr hn (kx.flat _))⟩
      · cases e
    | _ => cases e
  | tup xs => cases vy with
    | int j =>
      simp only [bop] at e
      split at e
      · rename_i hf
        cases e
        simp only [Bool.and_eq_true, decide_eq_true_eq, Bool.not_eq_true'] at hf
        obtain ⟨⟨⟨h1, h2⟩, h3⟩, h4⟩ := hf
        obtain ⟨p, xs', rfl, hx, wx, kx⟩ := rx.tup
        refine op_repA pins s σ H _ _ v u Q I r1 r2 ⟨p, j, xs', rfl, ry.int, SqT.of hx, ?_, h2, h1, by rw [← kx.length]; exact h3, fun e => ?_, fun _ r hn => h.new hr hn (rkTup hr hn (kx.flat _))⟩
        · rintro rfl
          cases kx
          cases h4
        · subst e
          have e1 : rep (Int.toNat 1) xs = xs := by simp [rep]
          rw [e1] at h
          exact h.here hr (.kept (.tup hx wx kx)) trivial
      · cases e
    | _ => cases e
  | _ => cases e
theorem ok_fdiv : OkO Γ X (binaryOp .FloorDiv) (bop .fdiv) := by
  intro pins s σ H g hp x y vx vy v u Q W I hr rx ry r1 r2 h
  obtain ⟨z, e, h⟩ := Post.of h
  cases vx with
  | int i => cases vy with
    | int j =>
      simp only [bop] at e
      split at e
      · rename_i hf
        cases e
        unfold wideDiv at hf
        simp only [Bool.and_eq_true, decide_eq_true_eq] at hf
        exact CDivA.op pins s σ H x y v u Q I r1 r2 ⟨i, j, rx.int, ry.int, hf, h.here hr (.kept (.int _)) trivial⟩
      · cases e
    | _ => cases e
  | _ => cases e
theorem ok_mod : OkO Γ X (binaryOp .Mod) (bop .mod) := by
  intro pins s σ H g hp x y vx vy v u Q W I hr rx ry r1 r2 h
  obtain ⟨z, e, h⟩ := Post.of h
  cases vx with
  | int i => cases vy with
    | int j =>
      simp only [bop] at e
      split at e
      · rename_i hf
        cases e
        exact op_modN pins s σ H x y v u Q I r1 r2 ⟨i, j, rx.int, ry.int, of_decide_eq_true hf, h.here hr (.kept (.int _)) trivial⟩
      · cases e
    | _ => cases e
  | _ => cases e
theorem ok_pow : OkO Γ X (binaryOp .Pow) (bop .pow) := by
  intro pins s σ H g hp x y vx vy v u Q W I hr rx ry r1 r2 h
  obtain ⟨z, e, h⟩ := Post.of h
  cases vx with
  | int i => cases vy with
    | int j =>
      simp only [bop] at e
      split at e
      · rename_i hf
        cases e
        simp only [Bool.and_eq_true, decide_eq_true_eq] at hf
        exact op_pow pins s σ H x y v u Q I r1 r2 ⟨i, j, rx.int, ry.int, ⟨hf.1.1, hf.1.2, hf.2⟩, h.here hr (.kept (.int _)) trivial⟩
      · cases e
    | _ => cases e
  | _ => cases e
end
end Mi

set_option Elab.async false
set_option linter.all false
set_option autoImplicit false
/-! Mi4: comparisons. -/
namespace Mi
open PySem PySem.Spec L2 PyProof.Rows
section
variable {Γ : Sig} {g : Gh} {H : Hp} {hp : Heap} {K : PySem.W.Frag}
mutual
theorem RK.dp : ∀ {v : Val} {x : V} {d : PyData}, RK Γ g H v x → toD v = some d → Dp K H x d
  | _, _, _, .non, e => by cases e; exact .non
  | _, _, _, .bl b, e => by cases e; exact .bl b
  | _, _, _, .int i, e => by cases e; exact .int i
  | _, _, _, .str x, e => by cases e; exact .str x
  | _, _, _, .tup h w r, e => by
    simp only [toD] at e
    split at e
    · cases e; exact .tup (SqT.of h) (RKs.dp r (by assumption))
    · cases e
  | _, _, _, .imm h w r, e => by
    simp only [toD] at e
    split at e
    · cases e; exact .lst (SqL.of h) (RKs.dp r (by assumption))
    · cases e
  | _, _, _, .frz h w r, e => by
    simp only [toD] at e
    split at e
    · cases e; exact .lst (.inl (.inr ⟨_, h⟩)) (RKs.dp r (by assumption))
    · cases e
  | _, _, _, .ref h, e => by cases e
  | _, _, _, .fn f, e => by cases e
  | _, _, _, .cls c _, e => by cases e
  | _, _, _, .ty t, e => by cases e
  | _, _, _, .exc h w _ _, e => by cases e
theorem RKs.dp : ∀ {vs : List Val} {xs : List V} {ds : List PyData}, RKs Γ g H vs xs → toDs vs = some ds → DpAll K H xs ds
  | _, _, _, .nil, e => by cases e; exact .nil
  | _, _, _, .cons a r, e => by
    simp only [toDs] at e
    split at e
    · cases e
    · rename_i d ed
      split at e
      · cases e
      · rename_i ds eds
        cases e
        exact .cons (RK.dp a ed) (RKs.dp r eds)
end
theorem RV.dp {v : Val} {x : V} {d : PyData} (r : RV Γ g H v x) (hr : HR Γ g hp H) (e : toDh hp v = some d) : Dp K H x d := by
  cases r with
  | kept r =>
    cases r with
    | ref h =>
      simp only [toDh] at e
      split at e
      · rename_i xs e1
        obtain ⟨p, e2, _, ys, e3, r⟩ := hr.obj _ _ e1
        rw [h] at e2; cases e2
        split at e
        · cases e; exact .lst (SqL.of e3) (r.dp (by assumption))
        · cases e
      · cases e
    | non => exact RK.non (Γ := Γ) (g := g) |>.dp e
    | bl b => exact RK.bl (Γ := Γ) (g := g) b |>.dp e
    | int b => exact RK.int (Γ := Γ) (g := g) b |>.dp e
    | str b => exact RK.str (Γ := Γ) (g := g) b |>.dp e
    | tup a b c => exact (RK.tup a b c).dp e
    | imm a b c => exact (RK.imm a b c).dp e
    | frz a b c => exact (RK.frz a b c).dp e
    | fn f => cases e
    | cls f _ => cases e
    | ty f => cases e
    | exc a b _ _ => cases e
  | own h w r =>
    simp only [toDh, toD] at e
    split at e
    · cases e; exact .lst (SqL.of h) (r.dp (by assumption))
    · cases e
  | brw h w r =>
    simp only [toDh, toD] at e
    split at e
    · cases e; exact .lst (SqL.of h) (r.dp (by assumption))
    · cases e
/-- flat values -/
theorem flat_dp {v : Val} {x : V} {d : PyData} (r : RV Γ g H v x) (f : flat v = true) (e : toD v = some d) : flatV x = true ∧ ∀ {w : Val} {y : V} {c : PyData}, RK Γ g H w y → flat w = true → toD w = some c → eqV y x = PyData.eqv c d := by
  cases v with
  | non => cases e; rw [r.non]; exact ⟨rfl, fun {w y c} q f e => by cases q <;> first | (cases f; done) | (cases e; rfl)⟩
  | bl b => cases e; rw [r.bl]; exact ⟨rfl, fun {w y c} q f e => by cases q <;> first | (cases f; done) | (cases e; rfl)⟩
  | int b => cases e; rw [r.int]; exact ⟨rfl, fun {w y c} q f e => by cases q <;> first | (cases f; done) | (cases e; rfl)⟩
  | str b => cases e; rw [r.str]; exact ⟨rfl, fun {w y c} q f e => by cases q <;> first | (cases f; done) | (cases e; rfl)⟩
  | _ => cases f
theorem flats : ∀ {vs : List Val} {xs : List V} {ds : List PyData}, RKs Γ g H vs xs → vs.all flat = true → toDs vs = some ds → xs.all flatV = true ∧ ∀ {v : Val} {x : V} {d : PyData}, RV Γ g H v x → flat v = true → toD v = some d → inV x xs = ds.any fun z => PyData.eqv z d
  | _, _, _, .nil, _, e => by cases e; exact ⟨rfl, fun _ _ _ => rfl⟩
  | _, _, _, .cons a r, f, e => by
    simp only [toDs] at e
    split at e
    · cases e
    · rename_i d ed
      split at e
      · cases e
      · rename_i ds eds
        cases e
        simp only [List.all_cons, Bool.and_eq_true] at f
        obtain ⟨h1, h2⟩ := flats r f.2 eds
        refine ⟨by simp only [List.all_cons, (flat_dp (.kept a) f.1 ed).1, h1, Bool.and_self], fun {v x d'} rv fv ev => ?_⟩
        have e1 := (flat_dp rv fv ev).2 a f.1 ed
        have e2 := h2 rv fv ev
        simp only [inV, List.any_cons] at e2 ⊢
        rw [e1, e2]
end
/-! tuples of tuples of ints -/
theorem rkRow {Γ : Sig} {g : Gh} {H : Hp} : ∀ {vs : List Val} {xs : List V} {iss : List (List Int)}, RKs Γ g H vs xs → rowsOf vs = some iss → ∃ ps : List Addr, xs = ps.map V.ref ∧ ps.length = iss.length ∧ ∀ j, (h : j < ps.length) → H ps[j] = some (.tup ((iss.getD j []).map V.int))
  | _, _, _, .nil, e => by
    simp [rowsOf] at e
    subst e
    exact ⟨[], rfl, rfl, fun j h => by simp at h⟩
  | _, _, _, .cons a r, e => by
    cases a <;> first | (simp [rowsOf] at e; done) | skip
    rename_i hp hw hr
    simp only [rowsOf] at e
    split at e
    · cases e
    · rename_i is ei
      split at e
      · rename_i iss' ej
        cases e
        obtain ⟨ps, h1, h2, h3⟩ := rkRow r ej
        have z := hr.ints ei
        subst z
        refine ⟨_ :: ps, by rw [h1]; rfl, by simp [h2], fun j h => ?_⟩
        cases j with
        | zero => exact hp
        | succ j => exact h3 j (by simpa using h)
      · cases e
theorem all_beq {ns ms : List Int} : ((List.range (min ns.length ms.length)).all (fun j => ns.getD j 0 == ms.getD j 0) && ns.length == ms.length) = decide (ns = ms) := by
  by_cases e : ns = ms
  · subst e
    rw [decide_eq_true rfl]
    simp
  · rw [decide_eq_false e]
    rw [Bool.and_eq_false_iff]
    by_cases l : ns.length = ms.length
    · left
      refine Bool.eq_false_iff.mpr fun z => e ?_
      have z := List.all_eq_true.mp z
      refine List.ext_getElem l fun j h1 h2 => ?_
      have q := z j (List.mem_range.mpr (by omega))
      have q := beq_iff_eq.mp q
      simpa [List.getD, List.getElem?_eq_getElem h1, List.getElem?_eq_getElem h2] using q
    · right
      simpa using l
theorem eqAt_tups {X : Cx} {pins : List (Addr × PySem.Obj)} {σ : L2.St} {H : Hp} {s : Shared} {A : Around} {a b : Addr} {ns ms : List Int} (I : L2.Inv X pins σ H s) (ha : SqT X.K H a (ns.map V.int)) (hb : SqT X.K H b (ms.map V.int)) (hu : A.units + 4 < cLine) : SeqAt.EqAt A s (.ref a) (.ref b) (decide (ns = ms)) := by
  by_cases hab : a = b
  · subst hab
    have e := I.tuple_inj ha hb
    have : ns = ms := by
      have := congrArg (List.map fun v => match v with | V.int i => i | _ => 0) e
      simpa [List.map_map, Function.comp_def] using this
    rw [decide_eq_true this]
    exact SeqAt.EqAt.same _
  · obtain ⟨its, r1, p1, _⟩ := I.tuple ha
    obtain ⟨its2, r2, p2, _⟩ := I.tuple hb
    have i1 : IntsAre its ns := Vals.ints r1
    have i2 : IntsAre its2 ms := Vals.ints r2
    have e1 : its.toArray.size = ns.length := by rw [List.size_toArray]; exact i1.length
    have e2 : its2.toArray.size = ms.length := by rw [List.size_toArray]; exact i2.length
    have at1 : ∀ j (h1 : j < its.toArray.size), ∃ t, its.toArray[j] = .int (ns.getD j 0) t := fun j h1 => PyProof.Rows.IntsAre.int_at i1 _ _ (by simp at h1; simp [h1])
    have at2 : ∀ j (h1 : j < its2.toArray.size), ∃ t, its2.toArray[j] = .int (ms.getD j 0) t := fun j h1 => PyProof.Rows.IntsAre.int_at i2 _ _ (by simp at h1; simp [h1])
    have R := SeqAt.RcAt.tuples (A := A) (s := s) (e := fun j => ns.getD j 0 == ms.getD j 0) p1 p2 (by omega) (fun j h1 h2 => by
      obtain ⟨t, et⟩ := at1 j h1
      obtain ⟨t', et'⟩ := at2 j h2
      rw [et, et']
      exact SeqAt.EqAt.int_int _ _ _ _)
    rw [e1, e2, all_beq] at R
    exact SeqAt.EqAt.of_refs hab R
theorem rcLt_tups {X : Cx} {pins : List (Addr × PySem.Obj)} {σ : L2.St} {H : Hp} {s : Shared} {A : Around} {a b : Addr} {ns ms : List Int} (I : L2.Inv X pins σ H s) (ha : SqT X.K H a (ns.map V.int)) (hb : SqT X.K H b (ms.map V.int)) (hu : A.units + 4 < cLine) : Ob.RcOp .Lt A s (.ref a) (.ref b) (HT.lexLt ns ms) := by
  intro prog w E Q hq
  obtain ⟨its, r1, p1, _⟩ := I.tuple ha
  obtain ⟨its2, r2, p2, _⟩ := I.tuple hb
  have i1 : IntsAre its.toArray.toList ns := intsAre_of r1
  have i2 : IntsAre its2.toArray.toList ms := intsAre_of r2
  exact HT.lt_tupInts p1 p2 i1 i2 (by omega) hq
theorem op_ltTT {X : Cx} (hu : X.A.units + 10 < cLine) : OpR X (compareOp .Lt) (fun x y H Q => ∃ (a b : Addr) (ps qs : List Addr) (ns ms : List (List Int)), x = .ref a ∧ y = .ref b ∧ SqT X.K H a (ps.map V.ref) ∧ SqT X.K H b (qs.map V.ref) ∧ ps.length = ns.length ∧ qs.length = ms.length ∧ (∀ j, (h : j < ps.length) → SqT X.K H ps[j] ((ns.getD j []).map V.int)) ∧ (∀ j, (h : j < qs.length) → SqT X.K H qs[j] ((ms.getD j []).map V.int)) ∧ Q (.bl (ltTT ns ms)) H) := by
  intro pins s σ H x y v u Q I rx ry h
  obtain ⟨a, b, ps, qs, ns, ms, rfl, rfl, ha, hb, l1, l2, k1, k2, q⟩ := h
  cases rx
  cases ry
  obtain ⟨its, r1, p1, _⟩ := I.tuple ha
  obtain ⟨its2, r2, p2, _⟩ := I.tuple hb
  have refs : ∀ (ps : List Addr) (its : List Value), Vals (ps.map V.ref) its → its = ps.map Value.ref := fun ps => by
    induction ps with
    | nil => intro its r; cases r; rfl
    | cons p ps ih =>
      intro its r
      cases r with
      | cons r1 r2 =>
        cases r1
        rw [ih _ r2]
        rfl
  have e1 := refs ps its r1
  have e2 := refs qs its2 r2
  subst e1 e2
  have s1 : (ps.map Value.ref).toArray.size = ns.length := by simp [l1]
  have s2 : (qs.map Value.ref).toArray.size = ms.length := by simp [l2]
  have R := Ob.RcOp.tuples_lt (A := X.A) (s := s) (e := fun j => decide (ns.getD j [] = ms.getD j [])) (r := fun j => HT.lexLt (ns.getD j []) (ms.getD j [])) p1 p2 (by omega) (fun j h1 h2 => by
    have h1' : j < ps.length := by simpa using h1
    have h2' : j < qs.length := by simpa using h2
    have z1 : (ps.map Value.ref).toArray[j] = .ref ps[j] := by simp
    have z2 : (qs.map Value.ref).toArray[j] = .ref qs[j] := by simp
    rw [z1, z2]
    exact eqAt_tups I (k1 j h1') (k2 j h2') (by simp; omega)) (fun j h1 h2 _ => by
    have h1' : j < ps.length := by simpa using h1
    have h2' : j < qs.length := by simpa using h2
    have z1 : (ps.map Value.ref).toArray[j] = .ref ps[j] := by simp
    have z2 : (qs.map Value.ref).toArray[j] = .ref qs[j] := by simp
    rw [z1, z2]
    exact rcLt_tups I (k1 j h1') (k2 j h2') (by simp; omega))
  rw [s1, s2] at R
  have z : wpAny (model X.prog X.w) X.A (compareOp .Lt (.ref a) (.ref b)) (EP X pins σ Q) X.xe s := R X.prog X.w X.xe (EP X pins σ Q) ⟨.bl _, H, I, rfl, q⟩
  exact z
section
variable {Γ : Sig} {X : Cx}
theorem Post.ofB {g : Gh} {H : Hp} {W : Nat → Hp → Prop} {o : Option Bool} {hp : Heap} {Q : VK} (h : Post Γ g H (.of (o.map Val.bl) hp) Q W) (hr : HR Γ g hp H) : ∃ b, o = some b ∧ Q (.bl b) H := by
  obtain ⟨v, e, h⟩ := Post.of h
  cases o with
  | none => cases e
  | some b => cases e; exact ⟨b, rfl, h.here hr (.kept (.bl b)) trivial⟩
theorem ok_eq (hu : X.A.units + 200 < cLine) : OkO Γ X (compareOp .Eq) (fun x y h => (cop .eq x y h).map Val.bl) := by
  intro pins s σ H g hp x y vx vy v u Q W I hr rx ry r1 r2 h
  obtain ⟨b, e, q⟩ := h.ofB hr
  simp only [cop, eqD] at e
  split at e
  · rename_i d d' e1 e2
    split at e
    · rename_i hs
      cases e
      simp only [Bool.and_eq_true] at hs
      exact op_eqD (by omega) pins s σ H x y v u Q I r1 r2 ⟨d, d', rx.dp hr e1, ry.dp hr e2, hs.1, hs.2, q⟩
    · cases e
  · cases e
theorem ok_ne (hu : X.A.units + 200 < cLine) : OkO Γ X (compareOp .NotEq) (fun x y h => (cop .ne x y h).map Val.bl) := by
  intro pins s σ H g hp x y vx vy v u Q W I hr rx ry r1 r2 h
  obtain ⟨b, e, q⟩ := h.ofB hr
  simp only [cop, eqD] at e
  split at e
  · rename_i d d' e1 e2
    split at e
    · rename_i hs
      cases e
      simp only [Bool.and_eq_true] at hs
      exact op_neD (by omega) pins s σ H x y v u Q I r1 r2 ⟨d, d', rx.dp hr e1, ry.dp hr e2, hs.1, hs.2, q⟩
    · cases e
  · cases e
theorem ok_lt (hu : X.A.units + 200 < cLine) : OkO Γ X (compareOp .Lt) (fun x y h => (cop .lt x y h).map Val.bl) := by
  intro pins s σ H g hp x y vx vy v u Q W I hr rx ry r1 r2 h
  obtain ⟨b, e, q⟩ := h.ofB hr
  simp only [cop] at e
  split at e
  · cases e
    exact op_lt pins s σ H x y v u Q I r1 r2 ⟨_, _, rx.int, ry.int, q⟩
  · rename_i xs ys
    split at e
    · rename_i is js e1 e2
      cases e
      obtain ⟨p, xs', rfl, hx, _, kx⟩ := rx.tup
      obtain ⟨p', ys', rfl, hy, _, ky⟩ := ry.tup
      have z1 := kx.ints e1
      have z2 := ky.ints e2
      subst z1 z2
      exact op_ltT (by omega) pins s σ H _ _ v u Q I r1 r2 ⟨p, p', is, js, rfl, rfl, SqT.of hx, SqT.of hy, q⟩
    · split at e
      · rename_i is js e1 e2
        cases e
        obtain ⟨p, xs', rfl, hx, _, kx⟩ := rx.tup
        obtain ⟨p', ys', rfl, hy, _, ky⟩ := ry.tup
        obtain ⟨ps, rfl, l1, k1⟩ := rkRow kx e1
        obtain ⟨qs, rfl, l2, k2⟩ := rkRow ky e2
        exact op_ltTT (by omega) pins s σ H _ _ v u Q I r1 r2 ⟨p, p', ps, qs, is, js, rfl, rfl, SqT.of hx, SqT.of hy, l1, l2, fun j h => SqT.of (k1 j h), fun j h => SqT.of (k2 j h), q⟩
      · cases e
  · cases e
theorem ok_le (hu : X.A.units + 200 < cLine) : OkO Γ X (compareOp .LtE) (fun x y h => (cop .le x y h).map Val.bl) := by
  intro pins s σ H g hp x y vx vy v u Q W I hr rx ry r1 r2 h
  obtain ⟨b, e, q⟩ := h.ofB hr
  simp only [cop] at e
  split at e
  · cases e
    exact op_le pins s σ H x y v u Q I r1 r2 ⟨_, _, rx.int, ry.int, q⟩
  · rename_i xs ys
    split at e
    · rename_i is js e1 e2
      cases e
      obtain ⟨p, xs', rfl, hx, _, kx⟩ := rx.tup
      obtain ⟨p', ys', rfl, hy, _, ky⟩ := ry.tup
      have z1 := kx.ints e1
      have z2 := ky.ints e2
      subst z1 z2
      exact op_leT (by omega) pins s σ H _ _ v u Q I r1 r2 ⟨p, p', is, js, rfl, rfl, SqT.of hx, SqT.of hy, q⟩
    · cases e
  · cases e
theorem ok_gt : OkO Γ X (compareOp .Gt) (fun x y h => (cop .gt x y h).map Val.bl) := by
  intro pins s σ H g hp x y vx vy v u Q W I hr rx ry r1 r2 h
  obtain ⟨b, e, q⟩ := h.ofB hr
  simp only [cop] at e
  split at e
  · cases e
    exact op_gt pins s σ H x y v u Q I r1 r2 ⟨_, _, rx.int, ry.int, q⟩
  · cases e
theorem ok_ge : OkO Γ X (compareOp .GtE) (fun x y h => (cop .ge x y h).map Val.bl) := by
  intro pins s σ H g hp x y vx vy v u Q W I hr rx ry r1 r2 h
  obtain ⟨b, e, q⟩ := h.ofB hr
  simp only [cop] at e
  split at e
  · cases e
    exact op_ge pins s σ H x y v u Q I r1 r2 ⟨_, _, rx.int, ry.int, q⟩
  · cases e
theorem isN_of {g : Gh} {H : Hp} {v : Val} {x : V} (r : RV Γ g H v x) : isV v .non = some (decide (x = .non)) := by
  cases r with
  | kept r => cases r <;> simp [isV]
  | own => simp [isV]
  | brw => simp [isV]
theorem ok_is : OkO Γ X (compareOp .Is) (fun x y h => (cop .is x y h).map Val.bl) := by
  intro pins s σ H g hp x y vx vy v u Q W I hr rx ry r1 r2 h
  obtain ⟨b, e, q⟩ := h.ofB hr
  simp only [cop] at e
  cases vy with
  | non =>
    rw [isN_of rx] at e
    cases e
    exact op_isN pins s σ H x y v u Q I r1 r2 ⟨ry.non, q⟩
  | bl c => cases vx with
    | bl a => cases e; exact op_is_bl pins s σ H x y v u Q I r1 r2 ⟨a, c, rx.bl, ry.bl, q⟩
    | _ => cases e
  | _ => cases e
theorem ok_isnot : OkO Γ X (compareOp .IsNot) (fun x y h => (cop .isnot x y h).map Val.bl) := by
  intro pins s σ H g hp x y vx vy v u Q W I hr rx ry r1 r2 h
  obtain ⟨b, e, q⟩ := h.ofB hr
  simp only [cop] at e
  cases vy with
  | non =>
    rw [isN_of rx] at e
    cases e
    exact op_notN pins s σ H x y v u Q I r1 r2 ⟨ry.non, q⟩
  | bl c => cases vx with
    | bl a => cases e; exact op_isnot_bl pins s σ H x y v u Q I r1 r2 ⟨a, c, rx.bl, ry.bl, q⟩
    | _ => cases e
  | _ => cases e
theorem toDh_of {hp : Heap} {v : Val} {d : PyData} (e : toD v = some d) : toDh hp v = some d := by
  cases v <;> first | exact e | cases e
theorem ok_in (hu : X.A.units + 200 < cLine) : OkO Γ X (compareOp .In) (fun x y h => (cop .in x y h).map Val.bl) := by
  intro pins s σ H g hp x y vx vy v u Q W I hr rx ry r1 r2 h
  obtain ⟨b, e, q⟩ := h.ofB hr
  simp only [cop, inSeq] at e
  cases vy with
  | str z =>
    simp only at e
    split at e
    · cases e
      exact op_in_str pins s σ H x y v u Q I r1 r2 ⟨_, _, rx.str, ry.str, q⟩
    · cases e
  | tup ys =>
    simp only at e
    split at e
    · rename_i hf
      simp only [Bool.and_eq_true] at hf
      split at e
      · rename_i d ds e1 e2
        cases e
        obtain ⟨p, ys', rfl, hy, _, ky⟩ := ry.tup
        obtain ⟨f1, f2⟩ := flats ky hf.2 e2
        refine op_in_seq pins s σ H x _ v u Q I r1 r2 ⟨p, ys', rfl, .inr (SqT.of hy), (flat_dp rx hf.1 e1).1, f1, ?_⟩
        rw [f2 rx hf.1 e1]
        exact q
      · cases e
    · cases e
  | lst k ys =>
    simp only at e
    split at e
    · rename_i d ds e1 e2
      split at e
      · rename_i hs
        cases e
        simp only [Bool.and_eq_true] at hs
        exact op_inD (by omega) pins s σ H x y v u Q I r1 r2 ⟨d, ds, rx.dp hr (toDh_of e1), ry.dp hr (by simp only [toDh, toD, e2]), hs.1, hs.2, q⟩
      · cases e
    · cases e
  | _ => cases e
theorem ok_notin (hu : X.A.units + 200 < cLine) : OkO Γ X (compareOp .NotIn) (fun x y h => (cop .notin x y h).map Val.bl) := by
  intro pins s σ H g hp x y vx vy v u Q W I hr rx ry r1 r2 h
  obtain ⟨b, e, q⟩ := h.ofB hr
  simp only [cop, inSeq] at e
  cases vy with
  | str z =>
    simp only at e
    split at e
    · cases e
      exact op_notin_str pins s σ H x y v u Q I r1 r2 ⟨_, _, rx.str, ry.str, q⟩
    · cases e
  | tup ys =>
    simp only at e
    split at e
    · rename_i hf
      simp only [Bool.and_eq_true] at hf
      split at e
      · rename_i d ds e1 e2
        cases e
        obtain ⟨p, ys', rfl, hy, _, ky⟩ := ry.tup
        obtain ⟨f1, f2⟩ := flats ky hf.2 e2
        refine op_notIn_seq pins s σ H x _ v u Q I r1 r2 ⟨p, ys', rfl, .inr (SqT.of hy), (flat_dp rx hf.1 e1).1, f1, ?_⟩
        rw [f2 rx hf.1 e1]
        exact q
      · cases e
    · cases e
  | lst k ys =>
    simp only at e
    split at e
    · rename_i d ds e1 e2
      split at e
      · rename_i hs
        cases e
        simp only [Bool.and_eq_true] at hs
        exact op_notInD (by omega) pins s σ H x y v u Q I r1 r2 ⟨d, ds, rx.dp hr (toDh_of e1), ry.dp hr (by simp only [toDh, toD, e2]), hs.1, hs.2, q⟩
      · cases e
    · cases e
  | _ => cases e
end
end Mi

set_option Elab.async false
set_option linter.all false
set_option autoImplicit false
/-! Mi5: built-ins called with values; methods of built-in types; subscripts. -/
namespace Mi
open PySem PySem.Spec L2 PyProof.Rows
section
variable {Γ : Sig} {g : Gh} {H : Hp} {hp : Heap}
/-- truths of the items -/
def TruA : Value → Bool → Prop
  | .int i _, b => b = (i != 0)
  | .bool c, b => b = c
  | _, _ => False
theorem trus_at : ∀ {vs : List Val} {xs : List V} {us : List Value} {bs : List Bool}, RKs Γ g H vs xs → trusOf vs = some bs → Vals xs us → bs.length = us.length ∧ ∀ (i : Nat) (u : Value), us[i]? = some u → TruA u (bs.getD i false)
  | _, _, _, _, .nil, e, .nil => by cases e; exact ⟨rfl, fun i u h => by simp at h⟩
  | _, _, _, _, .cons a r, e, .cons q t => by
    cases a <;> first | (cases e; done) | skip
    · cases q
      simp only [trusOf] at e
      split at e
      · rename_i bs eb
        cases e
        obtain ⟨h1, h2⟩ := trus_at r eb t
        refine ⟨by simp [h1], fun i u h => ?_⟩
        cases i with
        | zero => simp at h; subst h; rfl
        | succ i => exact h2 i u (by simpa using h)
      · cases e
    · obtain ⟨tk, rfl⟩ := q
      simp only [trusOf] at e
      split at e
      · rename_i bs eb
        cases e
        obtain ⟨h1, h2⟩ := trus_at r eb t
        refine ⟨by simp [h1], fun i u h => ?_⟩
        cases i with
        | zero => simp at h; subst h; rfl
        | succ i => exact h2 i u (by simpa using h)
      · cases e
theorem truth_all {prog : Program} {w : World} {A : Around} {bs : List Bool} {us : List Value} (h : ∀ (i : Nat) (u : Value), us[i]? = some u → TruA u (bs.getD i false)) :
    TruthOf prog w A (fun i v => us.toArray[i]? = some v) (fun i => bs.getD i false) := fun i v s Q E hv hq => by
  have hv' : us[i]? = some v := by simpa using hv
  have z := h i v hv'
  have hq' : Q (bs.getD i false) s := hq
  cases v with
  | int n t => rw [show bs.getD i false = (n != 0) from z] at hq'; exact PySem.P.truthy_int hq'
  | bool b => rw [show bs.getD i false = b from z] at hq'; exact wpAny_truthy_bool hq'
  | _ => exact z.elim
theorem iter_tup {prog : Program} {w : World} {A : Around} {E : Value → Shared → Prop} {s : Shared} {l : Addr} {items : Array Value} {Q : Value → Shared → Prop} (hl : s.heap.IsTuple l items)
    (h : ∀ s₂ : Shared, s₂ = { s with heap := s.heap.push { cls := .type "tuple_iterator", data := .fields #[.ref l, .int 0 0] } } →
      (s₂.heap.IsTupleIter s.heap.objs.size l 0 ∧ s₂.heap.IsTuple l items) → l ≠ s.heap.objs.size → (∀ b ∈ [s.heap.objs.size, l], b < s₂.heap.objs.size) → Q (.ref s.heap.objs.size) s₂) : wpAny (model prog w) A (pyIter (.ref l)) Q E s := by
  have hlt : l < s.heap.objs.size := by obtain ⟨_, e, _⟩ := hl; exact Heap.lt_size e
  refine wpAny_pyIter_tuple hl (h _ rfl ⟨⟨_, Heap.get?_push_size _ rfl, rfl, rfl⟩, ?_⟩ (Nat.ne_of_lt hlt) fun b hb => ?_)
  · obtain ⟨o, e, c, d⟩ := hl
    exact ⟨o, Heap.get?_push_of_some _ e, c, d⟩
  · show b < (s.heap.push _).objs.size
    rw [Heap.size_push]
    simp only [List.mem_cons, List.not_mem_nil, or_false] at hb
    rcases hb with hb | hb
    · rw [hb]; exact Nat.lt_succ_self _
    · rw [hb]; exact Nat.lt_succ_of_lt hlt
end
section
variable {Γ : Sig} {X : Cx}
theorem oldK {h h' : PySem.Heap} {o : PySem.Obj} (hk : ∀ b u, b ∉ [h.objs.size] → (h.push o).get? b = some u → h'.get? b = some u) : ∀ b u, h.get? b = some u → h'.get? b = some u := fun b u eo => hk b u (fun hm => by
  rcases List.mem_cons.mp hm with e1 | hm
  · exact absurd (e1 ▸ Heap.lt_size eo) (Nat.lt_irrefl _)
  · cases hm) (Heap.get?_push_of_some _ eo)
theorem cr_allA (hc : X.calm = true) : CallR X (.builtin "all") (fun vs H Q => ∃ (g : Gh) (a : Addr) (xs : List Val) (ys : List V) (bs : List Bool), vs = [V.ref a] ∧ SqL X.K H a ys ∧ RKs Γ g H xs ys ∧ trusOf xs = some bs ∧ Q (.bl (bs.all id)) H) := by
  intro pins s σ H vs us Q I r h
  obtain ⟨g, a, xs, ys, bs, rfl, hs, rk, eb, q⟩ := h
  obtain ⟨its, rv, hl, _⟩ := I.list hs
  rw [Vals.ref1 r]
  obtain ⟨hb1, hb2⟩ := trus_at rk eb rv
  refine call_all_walk (iter_any hl.isList fun s₂ e2 st hne => ?_)
  subst e2
  refine ⟨_, _, _, _, _, _, _, rfl, Walks.list (A := X.A.in1) (I.ok.hd hc) _ a hne its.toArray, st, truth_all hb2, fun h' tk hk => ?_⟩
  refine ⟨.bl _, H, I.kept (oldK hk), ?_, q⟩
  show Value.bool _ = Value.bool _
  rw [← L2.all_range, List.size_toArray, hb1]
theorem cr_anyA (hc : X.calm = true) : CallR X (.builtin "any") (fun vs H Q => ∃ (g : Gh) (a : Addr) (xs : List Val) (ys : List V) (bs : List Bool), vs = [V.ref a] ∧ (SqL X.K H a ys ∨ SqT X.K H a ys) ∧ RKs Γ g H xs ys ∧ trusOf xs = some bs ∧ Q (.bl (bs.any id)) H) := by
  intro pins s σ H vs us Q I r h
  obtain ⟨g, a, xs, ys, bs, rfl, hs, rk, eb, q⟩ := h
  rw [Vals.ref1 r]
  rcases hs with hs | hs
  · obtain ⟨its, rv, hl, _⟩ := I.list hs
    obtain ⟨hb1, hb2⟩ := trus_at rk eb rv
    refine call_any_walk (iter_any hl.isList fun s₂ e2 st hne => ?_)
    subst e2
    refine ⟨_, _, _, _, _, _, _, rfl, Walks.list (A := X.A.in1) (I.ok.hd hc) _ a hne its.toArray, st, truth_all hb2, fun h' tk hk => ?_⟩
    refine ⟨.bl _, H, I.kept (oldK hk), ?_, q⟩
    show Value.bool _ = Value.bool _
    rw [← L2.any_range, List.size_toArray, hb1]
  · obtain ⟨its, rv, hl, _⟩ := I.tuple hs
    obtain ⟨hb1, hb2⟩ := trus_at rk eb rv
    refine call_any_walk (iter_tup hl fun s₂ e2 st hne hlt => ?_)
    subst e2
    refine ⟨_, _, _, _, _, _, _, rfl, Walks.tuple (A := X.A.in1) (I.ok.hd hc) _ a hne its.toArray, st, truth_all hb2, fun h' tk hk => ?_⟩
    refine ⟨.bl _, H, I.kept (oldK hk), ?_, q⟩
    show Value.bool _ = Value.bool _
    rw [← L2.any_range, List.size_toArray, hb1]
theorem preSum_list (ns : List Int) : ∀ j, preSum (fun i => ns.getD i 0) j = (ns.take j).sum
  | 0 => by simp [preSum]
  | j + 1 => by
    rw [preSum, preSum_list ns j]
    by_cases hj : j < ns.length
    · rw [List.take_add_one, List.getElem?_eq_getElem hj, List.sum_append]; simp [hj]
    · rw [List.take_of_length_le (by omega), List.take_of_length_le (by omega)]; simp [List.getD, List.getElem?_eq_none (Nat.le_of_not_lt hj)]
theorem cr_sumT (hc : X.calm = true) : CallR X (.builtin "sum") (fun vs H Q => ∃ (a : Addr) (ns : List Int), vs = [V.ref a] ∧ SqT X.K H a (ns.map V.int) ∧ Q (.int ns.sum) H) := by
  intro pins s σ H vs us Q I r h
  obtain ⟨a, ns, rfl, hs, q⟩ := h
  rw [Vals.ref1 r]
  obtain ⟨its, rv, hl, _⟩ := I.tuple hs
  have hlen := rv.length
  rw [List.length_map] at hlen
  refine call_sum_walkG (iter_tup hl fun s₂ e2 st hne hlt => ?_)
  subst e2
  refine ⟨_, _, _, _, _, _, fun i => ns.getD i 0, rfl, Walks.tuple (A := X.A.in1) (I.ok.hd hc) _ a hne its.toArray, st, hlt, fun i v hv => ?_, fun h' tk t' hk => ?_⟩
  · have hv' : its[i]? = some v := by simpa using hv
    have hi : i < ns.length := by rw [hlen]; exact (List.getElem?_eq_some_iff.mp hv').1
    obtain ⟨u, hu, t, ht⟩ := rv.get (i := i) (x := .int ns[i]) (by simp [hi])
    rw [hv'] at hu; cases hu
    exact ⟨t, by rw [ht]; simp [hi]⟩
  · refine ⟨.int _, H, I.kept (oldK hk), ⟨t', ?_⟩, q⟩
    rw [preSum_list, List.size_toArray, ← hlen, List.take_length]
theorem maxI_spec : ∀ {is : List Int} {m : Int}, maxI is = some m → m ∈ is ∧ ∀ y ∈ is, y ≤ m
  | [], _, e => by cases e
  | x :: xs, m, e => by
    simp only [maxI] at e
    split at e
    · rename_i en
      cases e
      cases xs with
      | nil => simp
      | cons z zs =>
        simp only [maxI] at en
        split at en <;> cases en
    · rename_i k ek
      cases e
      obtain ⟨h1, h2⟩ := maxI_spec ek
      split
      · exact ⟨List.mem_cons_of_mem _ h1, fun y hy => by rcases List.mem_cons.mp hy with rfl | hy; omega; exact h2 y hy⟩
      · exact ⟨List.mem_cons_self, fun y hy => by rcases List.mem_cons.mp hy with rfl | hy; omega; have := h2 y hy; omega⟩
theorem minI_spec : ∀ {is : List Int} {m : Int}, minI is = some m → m ∈ is ∧ ∀ y ∈ is, m ≤ y
  | [], _, e => by cases e
  | x :: xs, m, e => by
    simp only [minI] at e
    split at e
    · rename_i en
      cases e
      cases xs with
      | nil => simp
      | cons z zs =>
        simp only [minI] at en
        split at en <;> cases en
    · rename_i k ek
      cases e
      obtain ⟨h1, h2⟩ := minI_spec ek
      split
      · exact ⟨List.mem_cons_of_mem _ h1, fun y hy => by rcases List.mem_cons.mp hy with rfl | hy; omega; exact h2 y hy⟩
      · exact ⟨List.mem_cons_self, fun y hy => by rcases List.mem_cons.mp hy with rfl | hy; omega; have := h2 y hy; omega⟩

/-! ### a built-in called with one value, with two -/
def OkC1 (Γ : Sig) (X : Cx) (f : Value) (op : Val → Heap → Option Val) : Prop :=
  ∀ (pins : List (Addr × PySem.Obj)) (s : Shared) (σ : L2.St) (H : Hp) (g : Gh) (hp : Heap) (x : V) (vx : Val) (v : Value) (Q : VK) (W : Nat → Hp → Prop),
    Inv X pins σ H s → HR Γ g hp H → RV Γ g H vx x → RelV x v → Post Γ g H (.of (op vx hp) hp) Q W → wpAny (model X.prog X.w) X.A (call f [v]) (EP X pins σ Q) X.xe s
theorem okc_len : OkC1 Γ X (.builtin "len") (p1V .len) := by
  intro pins s σ H g hp x vx v Q W I hr rx r1 h
  obtain ⟨z, e, h⟩ := Post.of h
  cases vx with
  | str a =>
    simp only [p1V] at e
    split at e
    · rename_i hf
      cases e
      exact call_len_str pins s σ H [x] [v] Q I (.cons r1 .nil) ⟨a, by rw [rx.str], of_decide_eq_true hf, h.here hr (.kept (.int _)) trivial⟩
    · cases e
  | _ =>
    simp only [p1V] at e
    split at e
    · rename_i xs es
      cases e
      obtain ⟨p, ys, rfl, hs, rk⟩ := rx.seq (K := X.K) hr es
      refine call_len_seq pins s σ H _ [v] Q I (.cons r1 .nil) ⟨p, ys, rfl, hs, ?_⟩
      rw [← rk.length]
      exact h.here hr (.kept (.int _)) trivial
    · cases e
theorem okc_abs : OkC1 Γ X (.builtin "abs") (p1V .abs) := by
  intro pins s σ H g hp x vx v Q W I hr rx r1 h
  obtain ⟨z, e, h⟩ := Post.of h
  cases vx with
  | int i =>
    cases e
    exact call_abs pins s σ H [x] [v] Q I (.cons r1 .nil) ⟨i, by rw [rx.int], h.here hr (.kept (.int _)) trivial⟩
  | _ => cases e
theorem okc_all (hc : X.calm = true) : OkC1 Γ X (.builtin "all") (p1V .all) := by
  intro pins s σ H g hp x vx v Q W I hr rx r1 h
  obtain ⟨z, e, h⟩ := Post.of h
  cases vx with
  | lst k xs =>
    simp only [p1V] at e
    cases eb : trusOf xs with
    | none => rw [eb] at e; cases e
    | some bs =>
      rw [eb] at e; cases e
      obtain ⟨p, ys, rfl, hs, rk⟩ := rx.lst (K := X.K)
      exact cr_allA (Γ := Γ) hc pins s σ H _ [v] Q I (.cons r1 .nil) ⟨g, p, xs, ys, bs, rfl, hs, rk, eb, h.here hr (.kept (.bl _)) trivial⟩
  | _ => cases e
theorem okc_any (hc : X.calm = true) : OkC1 Γ X (.builtin "any") (p1V .any) := by
  intro pins s σ H g hp x vx v Q W I hr rx r1 h
  obtain ⟨z, e, h⟩ := Post.of h
  cases vx with
  | lst k xs =>
    simp only [p1V] at e
    cases eb : trusOf xs with
    | none => rw [eb] at e; cases e
    | some bs =>
      rw [eb] at e; cases e
      obtain ⟨p, ys, rfl, hs, rk⟩ := rx.lst (K := X.K)
      exact cr_anyA (Γ := Γ) hc pins s σ H _ [v] Q I (.cons r1 .nil) ⟨g, p, xs, ys, bs, rfl, .inl hs, rk, eb, h.here hr (.kept (.bl _)) trivial⟩
  | tup xs =>
    simp only [p1V] at e
    cases eb : trusOf xs with
    | none => rw [eb] at e; cases e
    | some bs =>
      rw [eb] at e; cases e
      obtain ⟨p, ys, rfl, hs, _, rk⟩ := rx.tup
      exact cr_anyA (Γ := Γ) hc pins s σ H _ [v] Q I (.cons r1 .nil) ⟨g, p, xs, ys, bs, rfl, .inr (SqT.of hs), rk, eb, h.here hr (.kept (.bl _)) trivial⟩
  | _ => cases e
theorem okc_sum (hc : X.calm = true) : OkC1 Γ X (.builtin "sum") (p1V .sum) := by
  intro pins s σ H g hp x vx v Q W I hr rx r1 h
  obtain ⟨z, e, h⟩ := Post.of h
  cases vx with
  | lst k xs =>
    simp only [p1V] at e
    cases eb : intsOf xs with
    | none => rw [eb] at e; cases e
    | some bs =>
      rw [eb] at e; cases e
      obtain ⟨p, ys, rfl, hs, rk⟩ := rx.lst (K := X.K)
      have z := rk.ints eb
      subst z
      exact cr_sum hc pins s σ H _ [v] Q I (.cons r1 .nil) ⟨p, bs, rfl, hs, h.here hr (.kept (.int _)) trivial⟩
  | tup xs =>
    simp only [p1V] at e
    cases eb : intsOf xs with
    | none => rw [eb] at e; cases e
    | some bs =>
      rw [eb] at e; cases e
      obtain ⟨p, ys, rfl, hs, _, rk⟩ := rx.tup
      have z := rk.ints eb
      subst z
      exact cr_sumT hc pins s σ H _ [v] Q I (.cons r1 .nil) ⟨p, bs, rfl, SqT.of hs, h.here hr (.kept (.int _)) trivial⟩
  | _ => cases e
theorem okc_max (hc : X.calm = true) : OkC1 Γ X (.builtin "max") (p1V .max) := by
  intro pins s σ H g hp x vx v Q W I hr rx r1 h
  obtain ⟨z, e, h⟩ := Post.of h
  cases vx with
  | lst k xs =>
    simp only [p1V] at e
    cases eb : intsOf xs with
    | none => rw [eb] at e; cases e
    | some bs =>
      rw [eb] at e
      cases em : maxI bs with
      | none => simp [em] at e
      | some m =>
        simp only [Option.bind_some, em, Option.map_some, Option.some.injEq] at e
        subst e
        obtain ⟨p, ys, rfl, hs, rk⟩ := rx.lst (K := X.K)
        have z := rk.ints eb
        subst z
        obtain ⟨h1, h2⟩ := maxI_spec em
        refine cr_max hc pins s σ H _ [v] Q I (.cons r1 .nil) ⟨p, bs, rfl, hs, List.length_pos_of_mem h1, fun n h3 h4 => ?_⟩
        have : n = m := Int.le_antisymm (h2 n h3) (h4 m h1)
        subst this
        exact h.here hr (.kept (.int _)) trivial
  | _ => cases e
theorem okc_min (hc : X.calm = true) : OkC1 Γ X (.builtin "min") (p1V .min) := by
  intro pins s σ H g hp x vx v Q W I hr rx r1 h
  obtain ⟨z, e, h⟩ := Post.of h
  cases vx with
  | lst k xs =>
    simp only [p1V] at e
    cases eb : intsOf xs with
    | none => rw [eb] at e; cases e
    | some bs =>
      rw [eb] at e
      cases em : minI bs with
      | none => simp [em] at e
      | some m =>
        simp only [Option.bind_some, em, Option.map_some, Option.some.injEq] at e
        subst e
        obtain ⟨p, ys, rfl, hs, rk⟩ := rx.lst (K := X.K)
        have z := rk.ints eb
        subst z
        obtain ⟨h1, h2⟩ := minI_spec em
        refine cr_min hc pins s σ H _ [v] Q I (.cons r1 .nil) ⟨p, bs, rfl, hs, List.length_pos_of_mem h1, fun n h3 h4 => ?_⟩
        have : n = m := Int.le_antisymm (h4 m h1) (h2 n h3)
        subst this
        exact h.here hr (.kept (.int _)) trivial
  | _ => cases e
theorem okc_list : OkC1 Γ X (.type "list") (p1V .list) := by
  intro pins s σ H g hp x vx v Q W I hr rx r1 h
  obtain ⟨z, e, h⟩ := Post.of h
  simp only [p1V] at e
  split at e
  · rename_i xs es
    cases e
    obtain ⟨p, ys, rfl, hs, rk⟩ := rx.seq (K := X.K) hr es
    exact call_list_of pins s σ H _ [v] Q I (.cons r1 .nil) ⟨p, ys, rfl, hs, fun l hn => h.new hr hn (rvOwn hr hn rk)⟩
  · cases e
theorem okc_tuple : OkC1 Γ X (.type "tuple") (p1V .tuple) := by
  intro pins s σ H g hp x vx v Q W I hr rx r1 h
  obtain ⟨z, e, h⟩ := Post.of h
  cases vx with
  | tup xs =>
    cases e
    obtain ⟨p, ys, rfl, hs, wx, rk⟩ := rx.tup
    exact call_tuple_of pins s σ H _ [v] Q I (.cons r1 .nil) ⟨p, ys, rfl, .inr ⟨SqT.of hs, h.here hr (.kept (.tup hs wx rk)) trivial⟩⟩
  | lst k xs =>
    cases e
    obtain ⟨p, ys, rfl, hs, rk⟩ := rx.lst (K := X.K)
    exact call_tuple_of pins s σ H _ [v] Q I (.cons r1 .nil) ⟨p, ys, rfl, .inl ⟨hs, fun l hn => h.new hr hn (rkTup hr hn rk)⟩⟩
  | ref a =>
    simp only [p1V, seqOf] at e
    split at e
    · rename_i xs es
      split at es
      · cases es; cases e
        rename_i e1
        obtain ⟨p, ys, rfl, _, _, hs, rk⟩ := rx.refL hr e1
        exact call_tuple_of pins s σ H _ [v] Q I (.cons r1 .nil) ⟨p, ys, rfl, .inl ⟨SqL.of hs, fun l hn => h.new hr hn (rkTup hr hn rk)⟩⟩
      · cases es
    · cases e
  | _ => cases e
theorem okc_int : OkC1 Γ X (.type "int") (p1V .int) := by
  intro pins s σ H g hp x vx v Q W I hr rx r1 h
  obtain ⟨z, e, h⟩ := Post.of h
  cases vx with
  | int i => cases e; exact call_int1 pins s σ H [x] [v] Q I (.cons r1 .nil) (.inl ⟨i, by rw [rx.int], h.here hr (.kept (.int _)) trivial⟩)
  | bl i => cases e; exact call_int1 pins s σ H [x] [v] Q I (.cons r1 .nil) (.inr ⟨i, by rw [rx.bl], h.here hr (.kept (.int _)) trivial⟩)
  | _ => cases e
end
end Mi

set_option Elab.async false
set_option linter.all false
set_option autoImplicit false
/-! Mi6: isinstance, min of two, list.index, list.count, tuple.index; subscripts and slices. -/
namespace Mi
open PySem PySem.Spec L2 PyProof.Rows
section
variable {Γ : Sig} {X : Cx}
def OkC2 (Γ : Sig) (X : Cx) (f : Value) (op : Val → Val → Option Val) : Prop :=
  ∀ (pins : List (Addr × PySem.Obj)) (s : Shared) (σ : L2.St) (H : Hp) (g : Gh) (hp : Heap) (x y : V) (vx vy : Val) (v u : Value) (Q : VK) (W : Nat → Hp → Prop),
    Inv X pins σ H s → HR Γ g hp H → RV Γ g H vx x → RV Γ g H vy y → RelV x v → RelV y u → Post Γ g H (.of (op vx vy) hp) Q W → wpAny (model X.prog X.w) X.A (call f [v, u]) (EP X pins σ Q) X.xe s
theorem kit_all : ∀ (a b : String) (r : Bool), kitB a b = some r → ∀ K : PySem.W.Frag, PySem.W.kitOne K (.type a) (.type b) = some r := fun a b r h K => kit_ty h
/-- a value's built-in type -/
theorem isin_ty {g : Gh} {H : Hp} {vx : Val} {x : V} {t : String} {b : Bool} (rx : RV Γ g H vx x) (e : isin vx (.ty t) = some b) (hn : ∀ c, vx ≠ .exc c) : ∃ a, TyX X.K H x (.type a) ∧ kitB a t = some b := by
  have dec : ∀ {a : String} {p q : Prop} [Decidable p] [Decidable q], True := fun {_ _ _} _ _ => trivial
  cases vx with
  | non =>
    rw [rx.non]
    refine ⟨"NoneType", .base .non, ?_⟩
    simp only [isin] at e
    split at e
    · rename_i h
      cases e
      rcases h with rfl | rfl | rfl | rfl <;> decide +kernel
    · cases e
  | bl c =>
    rw [rx.bl]
    refine ⟨"bool", .base (.bl c), ?_⟩
    simp only [isin] at e
    split at e
    · rename_i h
      cases e
      rcases h with rfl | rfl <;> decide +kernel
    · split at e
      · rename_i h
        cases e
        rcases h with rfl | rfl <;> decide +kernel
      · cases e
  | int c =>
    rw [rx.int]
    refine ⟨"int", .base (.int c), ?_⟩
    simp only [isin] at e
    split at e
    · rename_i h
      cases e
      subst h
      decide +kernel
    · split at e
      · rename_i h
        cases e
        rcases h with rfl | rfl | rfl <;> decide +kernel
      · cases e
  | str c =>
    rw [rx.str]
    refine ⟨"str", .base (.str c), ?_⟩
    simp only [isin] at e
    split at e
    · rename_i h
      cases e
      subst h
      decide +kernel
    · split at e
      · rename_i h
        cases e
        rcases h with rfl | rfl | rfl <;> decide +kernel
      · cases e
  | tup c =>
    obtain ⟨p, ys, rfl, hs, _, _⟩ := rx.tup
    refine ⟨"tuple", .base (.tup hs), ?_⟩
    simp only [isin] at e
    split at e
    · rename_i h
      cases e
      subst h
      decide +kernel
    · split at e
      · rename_i h
        cases e
        rcases h with rfl | rfl | rfl <;> decide +kernel
      · cases e
  | lst k c =>
    refine ⟨"list", ?_, ?_⟩
    · cases rx with
      | kept r => cases r with
        | imm a b c => exact .base (.lst a)
        | frz a b c => exact .base (.frz a)
      | own a b c => exact .base (.lst a)
      | brw a b c => exact .base (.lst a)
    · simp only [isin] at e
      split at e
      · rename_i h
        cases e
        rcases h with rfl | rfl | rfl | rfl <;> decide +kernel
      · cases e
  | exc c => exact (hn c rfl).elim
  | _ => cases e
theorem okc_isin (ex : ∀ c : Nat, Γ.kn c = true → c < 100 → ExcF X.K Γ c) : OkC2 Γ X (.builtin "isinstance") (p2V .isin) := by
  intro pins s σ H g hp x y vx vy v u Q W I hr rx ry r1 r2 h
  simp only [p2V] at h
  obtain ⟨b, e, q⟩ := h.ofB hr
  by_cases hx : ∃ c, vx = .exc c
  · obtain ⟨c, rfl⟩ := hx
    cases rx with
    | kept rx =>
      cases rx with
      | exc hH hw hk hc =>
        rename_i p
        have F := ex c hk hc
        obtain ⟨⟨oe, hg, hz, vs, hv⟩, _, _⟩ : (∃ oe, s.heap.get? p = some oe ∧ Zc (.ref (Γ.ca c)) none oe ∧ ∃ vs, oe.data = .fields vs) ∧ _ := I.hok p _ hH
        have J : PySem.W.InstAt s.heap p oe (Γ.ca c) none := by
          obtain ⟨oc, od, oda, osl⟩ := oe
          obtain ⟨h1, h2⟩ := hz
          dsimp only at h1 h2 hv
          subst h1 h2 hv
          exact ⟨hg, rfl, rfl, trivial⟩
        cases r1
        have fin : ∀ {cv : Value}, PySem.W.kitOne X.K (.ref (Γ.ca c)) cv = some b → wpAny (model X.prog X.w) X.A (call (.builtin "isinstance") [.ref p, cv]) (EP X pins σ Q) X.xe s := fun {cv} ek =>
          PySem.W.kia_one (PySem.W.handS_kitx_exc F.is.hg F.is.hk F.is.hs F.is.hd F.is.ha F.is.hn F.is.ht F.is.hm) I.kIn J ek (fun z => nomatch z) fun tk => ⟨.bl b, H, I.kept (t' := tk) fun _ _ z => z, rfl, q⟩
        cases vy with
        | ty t =>
          rw [ry.ty] at r2
          cases r2
          simp only [isin] at e
          split at e
          · rename_i ht
            cases e
            subst ht
            exact fin F.val
          · cases e
        | cls d =>
          cases ry with
          | kept ry =>
            cases ry with
            | cls _ hd =>
              cases r2
              simp only [isin] at e
              split at e
              · rename_i h100
                cases e
                exact fin (F.one d hd h100)
              · cases e
        | _ => cases e
  · have hn : ∀ c, vx ≠ .exc c := fun c z => hx ⟨c, z⟩
    cases vy with
    | ty t =>
      obtain ⟨a, ty, ek⟩ := isin_ty (X := X) rx e hn
      rw [ry.ty] at r2
      exact call_isi pins s σ H [x, .ty t] [v, u] Q I (.cons r1 (.cons r2 .nil)) ⟨x, .ty t, .type a, .type t, b, rfl, .ty t, ty, kit_ty ek, q⟩
    | cls d =>
      cases vx <;> first | exact (hn _ rfl).elim | cases e
    | _ => cases e
theorem okc_min2 (hc : X.calm = true) : OkC2 Γ X (.builtin "min") (p2V .min) := by
  intro pins s σ H g hp x y vx vy v u Q W I hr rx ry r1 r2 h
  obtain ⟨z, e, h⟩ := Post.of h
  cases vx with
  | int i => cases vy with
    | int j =>
      cases e
      rw [rx.int] at r1
      rw [ry.int] at r2
      exact call_min2 hc pins s σ H [.int i, .int j] [v, u] Q I (.cons r1 (.cons r2 .nil)) ⟨i, j, rfl, h.here hr (.kept (.int _)) trivial⟩
    | _ => cases e
  | _ => cases e

/-! ### methods -/
def OkM1 (Γ : Sig) (X : Cx) (T id : String) (op : Val → Val → Option Val) : Prop :=
  ∀ (pins : List (Addr × PySem.Obj)) (s : Shared) (σ : L2.St) (H : Hp) (g : Gh) (hp : Heap) (x y : V) (vx vy : Val) (v u : Value) (Q : VK) (W : Nat → Hp → Prop),
    Inv X pins σ H s → HR Γ g hp H → RV Γ g H vx x → RV Γ g H vy y → RelV x v → RelV y u → Post Γ g H (.of (op vx vy) hp) Q W → wpAny (model X.prog X.w) X.A (call (.builtin id) [v, u]) (EP X pins σ Q) X.xe s
theorem findI_spec (d : PyData) : ∀ {ds : List PyData} {j : Nat}, findI d ds = some j → ∃ z, ds[j]? = some z ∧ PyData.eqv z d = true ∧ ∀ (m : Nat) (z' : PyData), m < j → ds[m]? = some z' → PyData.eqv z' d = false
  | [], j, e => by cases e
  | x :: xs, j, e => by
    simp only [findI] at e
    split at e
    · rename_i h
      cases e
      exact ⟨x, rfl, h, fun m z' hm => absurd hm (Nat.not_lt_zero _)⟩
    · rename_i h
      cases ej : findI d xs with
      | none => rw [ej] at e; cases e
      | some i =>
        rw [ej] at e
        simp only [Option.map_some, Option.some.injEq] at e
        subst e
        obtain ⟨z, h1, h2, h3⟩ := findI_spec d ej
        refine ⟨z, by simpa using h1, h2, fun m z' hm hz => ?_⟩
        cases m with
        | zero => simp at hz; subst hz; simpa using h
        | succ m => exact h3 m z' (by omega) (by simpa using hz)
theorem dps_at {g : Gh} {H : Hp} : ∀ {vs : List Val} {xs : List V} {ds : List PyData} {j : Nat}, RKs Γ g H vs xs → vs.all flat = true → toDs vs = some ds →
    (∀ {z : PyData}, ds[j]? = some z → ∃ w y, vs[j]? = some w ∧ xs[j]? = some y ∧ RK Γ g H w y ∧ flat w = true ∧ toD w = some z) ∧ (∀ {y : V}, xs[j]? = some y → ∃ w z, ds[j]? = some z ∧ RK Γ g H w y ∧ flat w = true ∧ toD w = some z)
  | _, _, _, _, .nil, _, e => by cases e; exact ⟨fun h => by simp at h, fun h => by simp at h⟩
  | _, _, _, j, .cons a r, f, e => by
    simp only [toDs] at e
    split at e
    · cases e
    · rename_i d ed
      split at e
      · cases e
      · rename_i ds eds
        cases e
        simp only [List.all_cons, Bool.and_eq_true] at f
        cases j with
        | zero => exact ⟨fun h => by simp at h; subst h; exact ⟨_, _, rfl, rfl, a, f.1, ed⟩, fun h => by simp at h; subst h; exact ⟨_, _, rfl, a, f.1, ed⟩⟩
        | succ j =>
          obtain ⟨h1, h2⟩ := dps_at (j := j) r f.2 eds
          exact ⟨fun h => by simpa using h1 (by simpa using h), fun h => by simpa using h2 (by simpa using h)⟩
theorem okm_index_list : OkM1 Γ X "list" "list.index" (fun x y => match x with | .lst _ _ => m1V .index x y | _ => none) := by
  intro pins s σ H g hp x y vx vy v u Q W I hr rx ry r1 r2 h
  obtain ⟨z, e, h⟩ := Post.of h
  cases vx with
  | lst k xs =>
    simp only [m1V] at e
    split at e
    · rename_i d ds e1 e2
      split at e
      · rename_i hf
        simp only [Bool.and_eq_true] at hf
        cases ej : findI d ds with
        | none => rw [ej] at e; cases e
        | some j =>
          rw [ej] at e
          cases e
          obtain ⟨p, ys, rfl, hs, rk⟩ := rx.lst (K := X.K)
          obtain ⟨f1, f2⟩ := flats rk hf.2 e2
          obtain ⟨fy, fe⟩ := flat_dp ry hf.1 e1
          obtain ⟨z0, h1, h2, h3⟩ := findI_spec d ej
          obtain ⟨w, yw, _, hx, rw', fw, tw⟩ := (dps_at (j := j) rk hf.2 e2).1 h1
          refine mt_index pins s σ H _ [y] v [u] Q I r1 (.cons r2 .nil) ⟨p, ys, y, j, yw, rfl, rfl, hs, fy, f1, hx, by rw [fe rw' fw tw]; exact h2, fun m z' hm hz => ?_, h.here hr (.kept (.int _)) trivial⟩
          obtain ⟨w', d', q1, q2, q3, q4⟩ := (dps_at (j := m) rk hf.2 e2).2 hz
          rw [fe q2 q3 q4]
          exact h3 m d' hm q1
      · cases e
    · cases e
  | _ => cases e
theorem mt_tup_indexI : MtR X "tuple.index" (fun x xs H Q => ∃ p, ∃ ys : List Int, ∃ z j, x = .ref p ∧ xs = [.int z] ∧ SqT X.K H p (ys.map V.int) ∧ ys[j]? = some z ∧ (∀ m, m < j → ys[m]? ≠ some z) ∧ Q (.int (j : Nat)) H) := by
  intro pins s σ H x xs v us Q I rx rs h
  obtain ⟨p, ys, z, j, rfl, rfl, hq, hy, hno, q⟩ := h
  cases rx
  obtain ⟨u, rfl, t, rfl⟩ := vals1 rs
  obtain ⟨its, r, pl, hz⟩ := I.tuple hq
  obtain ⟨⟨cls, dd, dt, sl⟩, ho, hc, n, hd⟩ := pl
  simp only at hc hd
  subst hc
  subst hd
  have hl : its.toArray.size = ys.length := by rw [List.size_toArray, ← r.length, List.length_map]
  have hj : j < its.toArray.size := by rw [hl]; exact (List.getElem?_eq_some_iff.mp hy).1
  have at' : ∀ (m : Nat) (hm : m < its.toArray.size), ∃ y t', ys[m]? = some y ∧ its.toArray[m] = Value.int y t' := fun m hm => by
    have hm' : m < ys.length := by rw [← hl]; exact hm
    obtain ⟨w, hw, t', hw'⟩ := r.get (i := m) (x := .int ys[m]) (by simp [hm'])
    refine ⟨ys[m], t', List.getElem?_eq_getElem hm', ?_⟩
    have e := (List.getElem?_eq_some_iff.mp hw).2
    rw [← hw', ← e]
    simp
  have fl : (ys.map V.int).all flatV = true := by rw [List.all_map]; exact List.all_eq_true.mpr fun _ _ => rfl
  refine call_meets PySem.F.slot_tuple_index ⟨_, ho, rfl⟩ PySem.F.entry_tuple_index (PySem.F.args_tuple_index_2 _ _) (TI.tuple_indexAt p its.toArray n dd sl (.int z t) (eqU (.int z)) j hj ?_ ?_)
    ⟨ho, fun w hw => mem_eqAt (x := .int z) ⟨t, rfl⟩ rfl r fl w (by simpa using hw), ⟨.int (j : Nat), H, I.tok _, ⟨_, rfl⟩, q⟩⟩
  · obtain ⟨y, t', h1, h2⟩ := at' j hj
    rw [hy] at h1
    cases h1
    rw [h2]
    show (z == z) = true
    exact beq_self_eq_true z
  · intro m hm hmj
    obtain ⟨y, t', h1, h2⟩ := at' m hm
    rw [h2]
    show (y == z) = false
    exact beq_eq_false_iff_ne.mpr fun e => hno m hmj (e ▸ h1)
theorem okm_index_tup : OkM1 Γ X "tuple" "tuple.index" (fun x y => match x with | .tup _ => m1V .index x y | _ => none) := by
  intro pins s σ H g hp x y vx vy v u Q W I hr rx ry r1 r2 h
  obtain ⟨z, e, h⟩ := Post.of h
  cases vx with
  | tup xs =>
    simp only [m1V] at e
    split at e
    · rename_i k is e2
      cases ej : is.findIdx? (· == k) with
      | none => rw [ej] at e; cases e
      | some j =>
        rw [ej] at e
        cases e
        obtain ⟨p, ys, rfl, hs, _, rk⟩ := rx.tup
        have z := rk.ints e2
        subst z
        rw [ry.int] at r2
        obtain ⟨hj, h1, h2⟩ := List.findIdx?_eq_some_iff_getElem.mp ej
        refine mt_tup_indexI pins s σ H _ [.int k] v [u] Q I r1 (.cons r2 .nil) ⟨p, is, k, j, rfl, rfl, SqT.of hs, ?_, fun m hm hz => ?_, h.here hr (.kept (.int _)) trivial⟩
        · rw [List.getElem?_eq_getElem hj]
          exact congrArg some (by simpa using h1)
        · have := h2 m hm
          obtain ⟨hml, e⟩ := List.getElem?_eq_some_iff.mp hz
          rw [e] at this
          simp at this
    · cases e
  | _ => cases e
theorem countT_spec {g : Gh} {H : Hp} : ∀ {vs : List Val} {xs : List V} {us : List Value} {n : Nat}, RKs Γ g H vs xs → Vals xs us → countT vs = some n → us.countP (eqU (.bl true)) = n ∧ xs.all flatV = true
  | _, _, _, _, .nil, .nil, e => by cases e; exact ⟨rfl, rfl⟩
  | _, _, _, _, .cons a r, .cons q t, e => by
    cases a <;> first | (cases e; done) | skip
    rename_i b
    cases q
    simp only [countT] at e
    cases ec : countT _ with
    | none => rw [ec] at e; cases e
    | some m =>
      rw [ec] at e
      simp only [Option.map_some, Option.some.injEq] at e
      obtain ⟨h1, h2⟩ := countT_spec r t ec
      refine ⟨?_, by simp [h2, flatV]⟩
      rw [List.countP_cons, h1, ← e]
      cases b <;> simp [eqU, eqV]
theorem okm_count : OkM1 Γ X "list" "list.count" (m1V .count) := by
  intro pins s σ H g hp x y vx vy v u Q W I hr rx ry r1 r2 h
  obtain ⟨z, e, h⟩ := Post.of h
  cases vx with
  | lst k xs =>
    cases vy with
    | bl b =>
      cases b with
      | true =>
        simp only [m1V] at e
        cases ec : countT xs with
        | none => rw [ec] at e; cases e
        | some n =>
          rw [ec] at e
          cases e
          obtain ⟨p, ys, rfl, hs, rk⟩ := rx.lst (K := X.K)
          rw [ry.bl] at r2
          cases r1
          cases r2
          obtain ⟨its, rv, ⟨⟨cls, dd, data, sl⟩, nn, ho, hc, hdn, hd⟩, hlen⟩ := I.list hs
          simp only at hc hd
          subst hc hd
          obtain ⟨c1, c2⟩ := countT_spec rk rv ec
          refine call_meets PySem.F.slot_list_count ⟨_, ho, rfl⟩ PySem.F.entry_list_count (PySem.F.args_list_count_2 _ _)
            (SeqAt.list_countAt p its.toArray nn dd sl (.bool true) (eqU (.bl true))) ⟨ho, fun w hw => mem_eqAt (x := .bl true) rfl rfl rv c2 w (by simpa using hw), ?_⟩
          refine ⟨.int (n : Nat), H, I.tok _, ⟨s.toks, ?_⟩, h.here hr (.kept (.int _)) trivial⟩
          show Value.int ((its.toArray.toList.countP (eqU (.bl true)) : Nat) : Int) s.toks = Value.int ((n : Nat) : Int) s.toks
          rw [show its.toArray.toList = its from rfl, c1]
      | false => cases e
    | _ => cases e
  | _ => cases e

/-! ### subscripts -/
theorem ok_idx {pins : List (Addr × PySem.Obj)} {s : Shared} {σ : L2.St} {H : Hp} {g : Gh} {hp : Heap} {x y : V} {vx vy : Val} {Q : VK} {W : Nat → Hp → Prop}
    (hr : HR Γ g hp H) (rx : RV Γ g H vx x) (ry : RV Γ g H vy y) (h : Post Γ g H (.of (idxV vx vy hp) hp) Q W) : rIx X.K x y H Q := by
  obtain ⟨z, e, k⟩ := Post.of h
  cases vy with
  | int i =>
    have key : ∀ {xs : List Val}, seqOf hp vx = some xs → L2.atI xs i = some z → rIx X.K x y H Q := fun {xs} es ea => by
      obtain ⟨p, ys, rfl, hs, rk⟩ := rx.seq (K := X.K) hr es
      obtain ⟨w, ew, rw'⟩ := rk.atI ea
      have q : Q w H := k.here hr (.kept rw') (frsK rw' H)
      rcases hs with hs | hs
      · exact .inl ⟨p, ys, i, w, rfl, ry.int, hs, ew, q⟩
      · exact .inr (.inl ⟨p, ys, i, w, rfl, ry.int, hs, ew, q⟩)
    cases vx with
    | str a =>
      simp only [idxV] at e
      split at e
      · rename_i hf
        cases ea : L2.atI a.cps.toList i with
        | none => rw [ea] at e; cases e
        | some c =>
          rw [ea] at e
          cases e
          exact .inr (.inr ⟨a, i, c, rx.str, ry.int, of_decide_eq_true hf, ea, k.here hr (.kept (.str _)) trivial⟩)
      · cases e
    | _ =>
      simp only [idxV] at e
      split at e
      · exact key (by assumption) e
      · cases e
  | _ => cases e
theorem cutS_eq (z : Str) (lo hi : Option Int) : (⟨(cut z.cps.toList lo hi).toArray⟩ : Str) = cutS z lo hi := by
  unfold cut cutS
  first | rfl | (simp [Str.length]) 
theorem ok_slc {g : Gh} {H : Hp} {hp : Heap} {x : V} {vx : Val} {lo hi : Option Int} {Q : VK} {W : Nat → Hp → Prop}
    (hr : HR Γ g hp H) (rx : RV Γ g H vx x) (h : Post Γ g H (.of (slcV vx lo hi hp) hp) Q W) :
    (rSlL X.K x lo hi H Q ∨ rSlA X.K x lo hi H Q) ∨ (∃ z, x = .str z ∧ z.length ≤ sizeLine ∧ Q (.str (cutS z lo hi)) H) := by
  obtain ⟨z, e, h⟩ := Post.of h
  cases vx with
  | tup xs =>
    cases e
    obtain ⟨p, ys, rfl, hs, wx, rk⟩ := rx.tup
    refine .inl (.inr ⟨p, ys, rfl, SqT.of hs, fun hw => ?_, fun _ l hn => h.new hr hn (rkTup hr hn (rk.cut lo hi))⟩)
    have ec : cut xs lo hi = xs := by
      unfold cut
      rw [rk.length, hw.1, hw.2]
      simp [← rk.length]
    rw [ec] at h
    exact h.here hr (.kept (.tup hs wx rk)) trivial
  | lst k xs =>
    cases e
    obtain ⟨p, ys, rfl, hs, rk⟩ := rx.lst (K := X.K)
    exact .inl (.inl ⟨p, ys, rfl, hs, fun l hn => h.new hr hn (rvOwn hr hn (rk.cut lo hi))⟩)
  | str a =>
    simp only [slcV] at e
    split at e
    · rename_i hf
      cases e
      rw [cutS_eq] at h
      exact .inr ⟨a, rx.str, of_decide_eq_true hf, h.here hr (.kept (.str _)) trivial⟩
    · cases e
  | _ => cases e
end
end Mi

set_option Elab.async false
set_option linter.all false
set_option autoImplicit false
/-! Mi7: what is walked: lists and tuples in any mix under zip and enumerate. -/
namespace Mi
open PySem PySem.Spec L2 PyProof.Rows
inductive Ck where
  | l | t
def IsIt (k : Ck) (h : PySem.Heap) (it a : Addr) (i : Nat) : Prop := match k with
  | .l => h.IsListIter it a i
  | .t => h.IsTupleIter it a i
def IsSq (k : Ck) (h : PySem.Heap) (a : Addr) (items : Array Value) : Prop := match k with
  | .l => h.IsList a items
  | .t => h.IsTuple a items
def SqK (k : Ck) (K : PySem.W.Frag) (H : Hp) (a : Addr) (xs : List V) : Prop := match k with
  | .l => SqL K H a xs
  | .t => SqT K H a xs
def itObj (k : Ck) (a : Addr) : PySem.Obj := match k with
  | .l => { cls := .type "list_iterator", data := .fields #[.ref a, .int 0 0] }
  | .t => { cls := .type "tuple_iterator", data := .fields #[.ref a, .int 0 0] }
theorem IsIt.there {k : Ck} {h : PySem.Heap} {it a : Addr} {i : Nat} (st : IsIt k h it a i) : ∃ o, h.get? it = some o ∧ ∀ v, o.data ≠ .cell v := by
  cases k with
  | l => obtain ⟨o, e, _, d⟩ := st; exact ⟨o, e, fun v z => by rw [d] at z; cases z⟩
  | t => obtain ⟨o, e, _, d⟩ := st; exact ⟨o, e, fun v z => by rw [d] at z; cases z⟩
theorem IsIt.at_ {k : Ck} {h h' : PySem.Heap} {it a : Addr} {i : Nat} (st : IsIt k h it a i) (hk : ∀ o, h.get? it = some o → h'.get? it = some o) : IsIt k h' it a i := by
  cases k with
  | l => exact Heap.IsListIter.at st hk
  | t => exact Heap.IsTupleIter.at st hk
theorem IsIt.of {k : Ck} {h : PySem.Heap} {it a : Addr} (e : h.get? it = some (itObj k a)) : IsIt k h it a 0 := by
  cases k with
  | l => exact ⟨_, e, rfl, rfl⟩
  | t => exact ⟨_, e, rfl, rfl⟩
theorem drawsK (k : Ck) {prog : Program} {w : World} {A : Around} (hh : A.handled = none) (it a : Addr) (hne : a ≠ it) (items : Array Value) :
    Draws prog w A it [it, a] items.size (fun i v => items[i]? = some v) (fun i h => IsIt k h it a i ∧ IsSq k h a items) := by
  cases k with
  | l => exact Draws.list hh it a hne items
  | t => exact Draws.tuple hh it a hne items
theorem beginsK (k : Ck) (a : Addr) (items : Array Value) : Begins (.ref a) (itObj k a) (fun h => IsSq k h a items) := by
  cases k with
  | l => exact begins_list a items
  | t => exact begins_tuple a items
section
variable {X : Cx} {pins : List (Addr × PySem.Obj)} {σ : L2.St} {H : Hp} {s : Shared} {a : Addr} {xs ys : List V} {k : Ck}
theorem invSq (I : Inv X pins σ H s) (h : SqK k X.K H a xs) : ∃ its : List Value, Vals xs its ∧ IsSq k s.heap a its.toArray ∧ a < s.heap.objs.size := by
  cases k with
  | l => obtain ⟨its, r, p, _⟩ := I.list h; exact ⟨its, r, p.isList, p.lt⟩
  | t => obtain ⟨its, r, p, _⟩ := I.tuple h; exact ⟨its, r, p, p.lt⟩
theorem invSq_inj (I : Inv X pins σ H s) (h : SqK k X.K H a xs) (h' : SqK k X.K H a ys) : xs = ys := by
  cases k with
  | l => exact I.list_inj h h'
  | t => exact I.tuple_inj h h'
end
/-! ### zip -/
def ItzK (K : PySem.W.Frag) (k1 k2 : Ck) (a b : Addr) : L2.It :=
  ⟨fun i H => ∃ (xs ys : List V) (x y : V), SqK k1 K H a xs ∧ SqK k2 K H b ys ∧ xs[i]? = some x ∧ ys[i]? = some y,
    fun i H v H' => ∃ T x y, v = .ref T ∧ H T = none ∧ H' = upd H T (.tup [x, y]) ∧ (∀ xs, SqK k1 K H a xs → xs[i]? = some x) ∧ ∀ ys, SqK k2 K H b ys → ys[i]? = some y,
    fun i H => ∃ xs ys : List V, SqK k1 K H a xs ∧ SqK k2 K H b ys ∧ i = min xs.length ys.length⟩
theorem turn_zipK {P : Program} {w : World} {K : PySem.W.Frag} {elts : List Expr} {kk : Nat} {tpos : Pos} {k1 k2 : Ck} {a b z TI TO i1 i2 : Addr} (S : ZipSep2 z TI TO i1 i2 [i1, a] [i2, b]) (ha : a ≠ i1) (hb : b ≠ i2) :
    Turn P w K (.Tuple elts kk tpos) (ItzK K k1 k2 a b) [z, TI, TO, i1, i2] z (fun i h => IsZip h z TI TO .none ∧ IsTupOf2 h TI (.ref i1) (.ref i2) ∧ (∃ x y, IsTupOf2 h TO x y) ∧ IsIt k1 h i1 a i ∧ IsIt k2 h i2 b i) where
  mem := by simp
  obj := fun i h st c hc => by
    obtain ⟨hz, hTI, ⟨x, y, hTO⟩, s1, s2⟩ := st
    have e' : c = z ∨ c = TI ∨ c = TO ∨ c = i1 ∨ c = i2 := by simpa using hc
    rcases e' with q | q | q | q | q
    · rw [q]; exact ⟨_, hz, fun v q => nomatch q⟩
    · rw [q]; exact ⟨_, hTI, fun v q => nomatch q⟩
    · rw [q]; exact ⟨_, hTO, fun v q => nomatch q⟩
    · rw [q]; exact s1.there
    · rw [q]; exact s2.there
  keep := fun i h h' st k => by
    obtain ⟨hz, hTI, ⟨x, y, hTO⟩, h1, h2⟩ := st
    exact ⟨k z (by simp) _ hz, k TI (by simp) _ hTI, ⟨x, y, k TO (by simp) _ hTO⟩, h1.at_ fun o q => k i1 (by simp) o q, h2.at_ fun o q => k i2 (by simp) o q⟩
  item := by
    intro X hP hw hK hc i pins s σ H E I hf st hg
    subst hP hw hK
    obtain ⟨hz, hTI, ⟨x0, y0, hTO⟩, h1, h2⟩ := st
    obtain ⟨xs, ys, x, y, hqx, hqy, hx, hy⟩ := hg
    obtain ⟨its, rv, p, _⟩ := invSq I hqx
    obtain ⟨its2, rv2, p2, _⟩ := invSq I hqy
    obtain ⟨u, hu, ru⟩ := rv.get hx
    obtain ⟨u2, hu2, ru2⟩ := rv2.get hy
    have hzl : z < s.heap.objs.size := Heap.lt_size hz
    have D1 := drawsK k1 (prog := X.prog) (w := X.w) (A := X.A.in1) (I.ok.hd hc) i1 a ha its.toArray
    have D2 := drawsK k2 (prog := X.prog) (w := X.w) (A := X.A.in1) (I.ok.hd hc) i2 b hb its2.toArray
    have l1 : i < its.toArray.size := by rw [List.size_toArray]; exact (List.getElem?_eq_some_iff.mp hu).1
    have l2 : i < its2.toArray.size := by rw [List.size_toArray]; exact (List.getElem?_eq_some_iff.mp hu2).1
    refine wpAny_pyNext_zipD2_item S D1 D2 hz hTI hTO ⟨h1, p⟩ ⟨h2, p2⟩ l1 l2 fun x1 x2 h' tk y1 y2 z' TO' h1' h2' hT hsz hk => ?_
    have e1 : x1 = u := by
      have y1' : its[i]? = some x1 := by simpa using y1
      rw [hu] at y1'; exact (Option.some.inj y1').symm
    have e2 : x2 = u2 := by
      have y2' : its2[i]? = some x2 := by simpa using y2
      rw [hu2] at y2'; exact (Option.some.inj y2').symm
    subst e1 e2
    refine ⟨_, rfl, wpAny_letOwnedTupleGo_zip (s := { s with heap := h', toks := tk }) z' fun h'' z'' sb => ?_⟩
    have hT2 : h''.get? s.heap.objs.size = some { cls := .type "tuple", data := .seq #[x1, x2] } := (sb.2 _ (Nat.ne_of_gt hzl)).trans hT
    have new : ObjOk X.prog X.w (upd H s.heap.objs.size (.tup [x, y])) h'' s.heap.objs.size (.tup [x, y]) :=
      ⟨by show 2 ≤ sizeLine; decide, [x1, x2], .cons ru (.cons ru2 .nil), ⟨_, hT2, rfl, _, rfl⟩⟩
    have I1 : Inv X pins σ (upd H s.heap.objs.size (.tup [x, y])) { s with heap := h'', toks := tk } :=
      I.turnedNew (t' := tk) (ch := [z, TI, TO, i1, i2]) (fun c o hb q => (sb.2 c (fun q' => hb (by simp [q']))).trans (hk c o (fun q' => hb (by simp [q'])) (fun q' => hb (by simp [q'])) (fun q' => hb (by simp [q'])) (fun q' => hb (by simp [q'])) q)) hf (Nat.le_refl _) new
    refine ⟨.ref s.heap.objs.size, _, I1, rfl, ⟨_, x, y, rfl, I.hok.fresh (Nat.le_refl _), rfl, fun l hl => by rw [invSq_inj I hl hqx]; exact hx, fun l hl => by rw [invSq_inj I hl hqy]; exact hy⟩, ⟨z'', ?_, ⟨x1, x2, ?_⟩, ?_, ?_⟩, fun c hcm => ?_⟩
    · exact (sb.2 _ S.TIz).trans (hk _ _ S.TIz S.TITO S.TIi1 S.TIi2 hTI)
    · exact (sb.2 _ S.TOz).trans TO'
    · exact h1'.1.at_ fun o q => (sb.2 _ (Ne.symm S.zi1)).trans q
    · exact h2'.1.at_ fun o q => (sb.2 _ (Ne.symm S.zi2)).trans q
    · have hlt : c < s.heap.objs.size := by
        have e' : c = z ∨ c = TI ∨ c = TO ∨ c = i1 ∨ c = i2 := by simpa using hcm
        rcases e' with q | q | q | q | q
        · rw [q]; exact hzl
        · rw [q]; exact Heap.lt_size hTI
        · rw [q]; exact Heap.lt_size hTO
        · rw [q]; obtain ⟨_, e1, _⟩ := h1.there; exact Heap.lt_size e1
        · rw [q]; obtain ⟨_, e2, _⟩ := h2.there; exact Heap.lt_size e2
      rw [upd_ne (Nat.ne_of_lt hlt)]
      exact (hf c hcm).1
  done := by
    intro X hP hw hK hc i pins s σ H E I hf st hg
    subst hP hw hK
    obtain ⟨hz, hTI, ⟨x0, y0, hTO⟩, h1, h2⟩ := st
    obtain ⟨xs, ys, hqx, hqy, hend⟩ := hg
    obtain ⟨its, rv, p, _⟩ := invSq I hqx
    obtain ⟨its2, rv2, p2, _⟩ := invSq I hqy
    have l1 := rv.length
    have l2 := rv2.length
    have D1 := drawsK k1 (prog := X.prog) (w := X.w) (A := X.A.in1) (I.ok.hd hc) i1 a ha its.toArray
    have D2 := drawsK k2 (prog := X.prog) (w := X.w) (A := X.A.in1) (I.ok.hd hc) i2 b hb its2.toArray
    have z1 : its.toArray.size = xs.length := by rw [List.size_toArray, l1]
    have z2 : its2.toArray.size = ys.length := by rw [List.size_toArray, l2]
    exact wpAny_pyNext_zipD2_end S D1 D2 hz hTI hTO ⟨h1, p⟩ ⟨h2, p2⟩ (by omega) (by omega) (by omega) fun h' tk hk => ⟨rfl, I.turnedL (t' := tk) (ch := [z, TI, TO, i1, i2]) (fun c o hb q =>
      hk c o (fun q' => hb (by simp [q'])) (fun q' => hb (by simp [q'])) (fun q' => hb (by simp [q'])) (fun q' => hb (by simp [q'])) q) hf⟩
  self := fun A i s Q E st h => wpAny_pyIter_zip st.1 h
theorem pie_zip {X : Cx} {pins : List (Addr × PySem.Obj)} {σ : L2.St} {H : Hp} {s : Shared} {a b : Addr} {xs ys : List V} {k1 k2 : Ck} {elts : List Expr} {kk : Nat} {tpos : Pos} {R : L2.It → Hp → Prop} {E : Value → Shared → Prop}
    (I : Inv X pins σ H s) (hx : SqK k1 X.K H a xs) (hy : SqK k2 X.K H b ys) (q : R (ItzK X.K k1 k2 a b) H) :
    wpAny (model X.prog X.w) X.A (call (.type "zip") [.ref a, .ref b]) (fun v s1 => wpAny (model X.prog X.w) X.A (pyIter v) (PIE X pins σ (.Tuple elts kk tpos) R) E s1) E s := by
  obtain ⟨its, rv, p1, la⟩ := invSq I hx
  obtain ⟨its2, rv2, p2, lb⟩ := invSq I hy
  refine zip_begins2 (beginsK k1 a its.toArray) (beginsK k2 b its2.toArray) p1 p2 fun h' hz hTI hTO h1 h2 hsz hk => wpAny_pyIter_zip hz ?_
  have I2 : Inv X pins σ H { s with heap := h' } := I.kept (t' := s.toks) hk
  have S := zip_sep2 (N := s.heap.objs.size) (fp1 := [a]) (fp2 := [b]) (by simpa using la) (by simpa using lb)
  refine ⟨s.heap.objs.size + 4, [s.heap.objs.size + 4, s.heap.objs.size + 2, s.heap.objs.size + 3, s.heap.objs.size, s.heap.objs.size + 1], _, _, H, rfl, I2,
    turn_zipK S (Nat.ne_of_lt la) (Nat.ne_of_lt (Nat.lt_succ_of_lt lb)), ⟨hz, hTI, ⟨_, _, hTO⟩, IsIt.of h1, IsIt.of h2⟩, fun c hcm => ?_, q⟩
  have e' : c = s.heap.objs.size + 4 ∨ c = s.heap.objs.size + 2 ∨ c = s.heap.objs.size + 3 ∨ c = s.heap.objs.size ∨ c = s.heap.objs.size + 1 := by simpa using hcm
  have hle : s.heap.objs.size ≤ c := by
    rcases e' with z | z | z | z | z
    · rw [z]; exact Nat.le_add_right _ _
    · rw [z]; exact Nat.le_add_right _ _
    · rw [z]; exact Nat.le_add_right _ _
    · rw [z]; exact Nat.le_refl _
    · rw [z]; exact Nat.le_add_right _ _
  exact I.fpOk hle (I.hok.fresh hle)
/-! ### enumerate -/
def IteK (K : PySem.W.Frag) (k : Ck) (a : Addr) : L2.It :=
  ⟨fun i H => ∃ (xs : List V) (x : V), SqK k K H a xs ∧ xs[i]? = some x, fun i H v H' => ∃ T x, v = .ref T ∧ H T = none ∧ H' = upd H T (.tup [.int (i : Nat), x]) ∧ ∀ xs, SqK k K H a xs → xs[i]? = some x, fun i H => ∃ xs : List V, SqK k K H a xs ∧ i = xs.length⟩
theorem turn_enumK {P : Program} {w : World} {K : PySem.W.Frag} {elts : List Expr} {kk : Nat} {tpos : Pos} {k : Ck} (a e it : Addr) (hea : e ≠ a) (hai : a ≠ it) :
    Turn P w K (.Tuple elts kk tpos) (IteK K k a) [e, it] e (fun i h => (∃ old, IsEnum h e it ((i : Nat) : Int) old) ∧ IsIt k h it a i ∧ e ≠ it) where
  mem := by simp
  obj := fun i h st b hb => by
    obtain ⟨⟨old, he⟩, hit, _⟩ := st
    have e' : b = e ∨ b = it := by simpa using hb
    rcases e' with z | z
    · rw [z]; exact ⟨_, he, fun v q => nomatch q⟩
    · rw [z]; exact hit.there
  keep := fun i h h' st k => let ⟨⟨old, he⟩, hi, hne⟩ := st; ⟨⟨old, k e (by simp) _ he⟩, hi.at_ fun o q => k it (by simp) o q, hne⟩
  item := by
    intro X hP hw hK hc i pins s σ H E I hf st hg
    subst hP hw hK
    obtain ⟨⟨old, he⟩, hit, hne⟩ := st
    obtain ⟨xs, x, hq, hx⟩ := hg
    obtain ⟨its, rv, p, _⟩ := invSq I hq
    obtain ⟨u, hu, ru⟩ := rv.get hx
    have hel : e < s.heap.objs.size := Heap.lt_size he
    have hil : it < s.heap.objs.size := by obtain ⟨_, q, _⟩ := hit.there; exact Heap.lt_size q
    have D := drawsK k (prog := X.prog) (w := X.w) (A := X.A.in1) (I.ok.hd hc) it a hai its.toArray
    have l1 : i < its.toArray.size := by rw [List.size_toArray]; exact (List.getElem?_eq_some_iff.mp hu).1
    refine wpAny_pyNext_enum_itemD D he ⟨hit, p⟩ l1 hne (by simp [hne, hea]) fun x1 h' tk y1 ho hit' hT hsz hk => ?_
    have e1 : x1 = u := by
      have y1' : its[i]? = some x1 := by simpa using y1
      rw [hu] at y1'; exact (Option.some.inj y1').symm
    subst e1
    refine ⟨_, rfl, wpAny_letOwnedTupleGo_enum (s := { s with heap := h', toks := tk + 1 }) ho fun h'' he' sb => ?_⟩
    have hT2 : h''.get? s.heap.objs.size = some { cls := .type "tuple", data := .seq #[.int i tk, x1] } := (sb.2 _ (Nat.ne_of_gt hel)).trans hT
    have new : ObjOk X.prog X.w (upd H s.heap.objs.size (.tup [.int (i : Nat), x])) h'' s.heap.objs.size (.tup [.int (i : Nat), x]) :=
      ⟨by show 2 ≤ sizeLine; decide, [.int i tk, x1], .cons ⟨_, rfl⟩ (.cons ru .nil), ⟨_, hT2, rfl, _, rfl⟩⟩
    have I1 : Inv X pins σ (upd H s.heap.objs.size (.tup [.int (i : Nat), x])) { s with heap := h'', toks := tk + 1 } :=
      I.turnedNew (ch := [e, it]) (fun b ob hb q => (sb.2 b (fun z => hb (by simp [z]))).trans (hk b ob (fun z => hb (by simp [z])) (fun z => hb (by simp [z])) q)) hf (Nat.le_refl _) new
    refine ⟨.ref s.heap.objs.size, _, I1, rfl, ⟨_, x, rfl, I.hok.fresh (Nat.le_refl _), rfl, fun ys hy => by rw [invSq_inj I hy hq]; exact hx⟩, ⟨⟨x1, ?_⟩, hit'.1.at_ fun o q => (sb.2 it (Ne.symm hne)).trans q, hne⟩, fun b hb => ?_⟩
    · have e1 : ((i + 1 : Nat) : Int) = (i : Int) + 1 := by omega
      rw [e1]; exact he'
    · have hb' : b < s.heap.objs.size := by
        have e' : b = e ∨ b = it := by simpa using hb
        rcases e' with z | z
        · rw [z]; exact hel
        · rw [z]; exact hil
      rw [upd_ne (Nat.ne_of_lt hb')]
      exact (hf b hb).1
  done := by
    intro X hP hw hK hc i pins s σ H E I hf st hg
    subst hP hw hK
    obtain ⟨⟨old, he⟩, hit, hne⟩ := st
    obtain ⟨xs, hq, hx⟩ := hg
    obtain ⟨its, rv, p, _⟩ := invSq I hq
    obtain ⟨f0, f1, f2, f3, f4, f5⟩ := hf it (by simp)
    have hl := rv.length
    have D := drawsK k (prog := X.prog) (w := X.w) (A := X.A.in1) (I.ok.hd hc) it a hai its.toArray
    have ei : i = its.toArray.size := by rw [List.size_toArray]; omega
    exact wpAny_pyNext_enum_endD D he (by rw [← ei]; exact ⟨hit, p⟩) fun h' eb => ⟨rfl, I.turned (t' := s.toks) (fun b o hb q => eb b o hb q) f0 f1 f3 f4 f5⟩
  self := fun A i s Q E st h => let ⟨⟨_, he⟩, _⟩ := st; wpAny_pyIter_enum he h
theorem meets_enum_B {v : Value} {o : PySem.Obj} {Hh : PySem.Heap → Prop} (B : Begins v o Hh) :
    Meets (Builtin.«enumerate.__new__» ⟨[.type "enumerate", v], []⟩) (fun _ R s => Hh s.heap ∧
      R (.ok (.ret (.ref (s.heap.push o).objs.size))) { s with heap := (s.heap.push o).push { cls := .type "enumerate", data := .fields #[.none, .bool false, .ref s.heap.objs.size, rawInt 0, .none, .none] } }) :=
  .of_wp fun prog w A R s h => by
    obtain ⟨hp, g, d, tk, os⟩ := s; obtain ⟨hl, h⟩ := h
    have hsub := sub_enumerate
    have q1 : ∀ {A' : Around} {E : Value → Shared → Prop} {Q : Value → Shared → Prop}, Q (.ref hp.objs.size) ⟨(hp.push o), g, d, tk, os⟩ → wpAny (model prog w) A' (pyIter v) Q E ⟨hp, g, d, tk, os⟩ :=
      fun q => B.iter prog w _ _ ⟨hp, g, d, tk, os⟩ _ hl q
    wp_walk
    refine wpAny_stack_any fun st => wpAny_pure ?_
    split
    · rename_i c _ _ _ _ _
      cases (c == Value.type "enumerate")
      · wp_walk using q1
        exact ⟨_, rfl, h⟩
      · wp_walk using q1
        exact ⟨_, rfl, h⟩
    · wp_walk using q1
      exact ⟨_, rfl, h⟩
theorem enum_begins1 {prog : Program} {w : World} {A : Around} {E : Value → Shared → Prop} {s : Shared} {v : Value} {o : PySem.Obj} {Hh : PySem.Heap → Prop} {Q : Value → Shared → Prop} (B : Begins v o Hh) (hl : Hh s.heap)
    (h : ∀ h', IsEnum h' (s.heap.objs.size + 1) s.heap.objs.size 0 .none → h'.get? s.heap.objs.size = some o →
      (∀ b o, s.heap.get? b = some o → h'.get? b = some o) → Q (.ref (s.heap.objs.size + 1)) { s with heap := h' }) :
    wpAny (model prog w) A (call (.type "enumerate") [v]) Q E s := by
  refine callType_new F.called_enumerate (by decide) (F.typeCall_enumerate_1 _) (F.newCall_enumerate_1 _) (fun obj => F.args_object_init_2 obj _) F.entry_enumerate_new
    (meets_enum_B B) ⟨hl, ?_⟩
  have hz : (s.heap.push o).objs.size = s.heap.objs.size + 1 := Heap.size_push ..
  show _ ∧ _
  rw [hz]
  have he : IsEnum ((s.heap.push o).push { cls := .type "enumerate", data := .fields #[.none, .bool false, .ref s.heap.objs.size, rawInt 0, .none, .none] }) (s.heap.objs.size + 1) s.heap.objs.size 0 .none := by
    have := Heap.get?_push_size (s.heap.push o) (o := { cls := .type "enumerate", data := .fields #[.none, .bool false, .ref s.heap.objs.size, rawInt 0, .none, .none] }) rfl
    rw [hz] at this; exact this
  exact ⟨⟨_, he, rfl⟩, h _ he (Heap.get?_push_of_some _ (Heap.get?_push_size _ B.free)) fun b o x => Heap.get?_push_of_some _ (Heap.get?_push_of_some _ x)⟩
theorem pie_enum {X : Cx} {pins : List (Addr × PySem.Obj)} {σ : L2.St} {H : Hp} {s : Shared} {a : Addr} {xs : List V} {k : Ck} {elts : List Expr} {kk : Nat} {tpos : Pos} {R : L2.It → Hp → Prop} {E : Value → Shared → Prop}
    (I : Inv X pins σ H s) (hx : SqK k X.K H a xs) (q : R (IteK X.K k a) H) :
    wpAny (model X.prog X.w) X.A (call (.type "enumerate") [.ref a]) (fun v s1 => wpAny (model X.prog X.w) X.A (pyIter v) (PIE X pins σ (.Tuple elts kk tpos) R) E s1) E s := by
  obtain ⟨its, rv, p1, la⟩ := invSq I hx
  refine enum_begins1 (beginsK k a its.toArray) p1 fun h' he h1 hk => wpAny_pyIter_enum he ?_
  have I2 : Inv X pins σ H { s with heap := h' } := I.kept (t' := s.toks) hk
  refine ⟨s.heap.objs.size + 1, [s.heap.objs.size + 1, s.heap.objs.size], _, _, H, rfl, I2, turn_enumK a (s.heap.objs.size + 1) s.heap.objs.size (Nat.ne_of_gt (Nat.lt_succ_of_lt la)) (Nat.ne_of_lt la), ⟨⟨.none, he⟩, IsIt.of h1, Nat.succ_ne_self _⟩, fun b hb => ?_, q⟩
  have e' : b = s.heap.objs.size + 1 ∨ b = s.heap.objs.size := by simpa using hb
  have hle : s.heap.objs.size ≤ b := by
    rcases e' with z | z
    · rw [z]; exact Nat.le_add_right _ _
    · rw [z]; exact Nat.le_refl _
  exact I.fpOk hle (I.hok.fresh hle)
/-! ### a list, a tuple, a text itself -/
section
variable {X : Cx} {pins : List (Addr × PySem.Obj)} {σ : L2.St} {H : Hp} {s : Shared} {R : L2.It → Hp → Prop} {E : Value → Shared → Prop} {tg : Expr}
theorem pie_list {a : Addr} {xs : List V} (I : Inv X pins σ H s) (hx : SqL X.K H a xs) (q : R (Itl X.K a) H) : wpAny (model X.prog X.w) X.A (pyIter (.ref a)) (PIE X pins σ tg R) E s := by
  obtain ⟨its, rv, p, hz⟩ := I.list hx
  refine wpAny_pyIter_list p.isList ?_
  refine ⟨s.heap.objs.size, [s.heap.objs.size], _, _, H, rfl, I.kept (t' := s.toks) fun b o e => Heap.get?_push_of_some _ e, turn_list a _, ⟨_, Heap.get?_push_size _ rfl, rfl, rfl⟩, fun b hb => ?_, q⟩
  have e : b = s.heap.objs.size := by simpa using hb
  subst e
  exact I.fpOk (Nat.le_refl _) (I.hok.fresh (Nat.le_refl _))
theorem pie_tup {a : Addr} {xs : List V} (I : Inv X pins σ H s) (hx : SqT X.K H a xs) (q : R (Itt X.K a) H) : wpAny (model X.prog X.w) X.A (pyIter (.ref a)) (PIE X pins σ tg R) E s := by
  obtain ⟨its, rv, p, hz⟩ := I.tuple hx
  refine wpAny_pyIter_tuple (show s.heap.IsTuple a its.toArray from p) ?_
  refine ⟨s.heap.objs.size, [s.heap.objs.size], _, _, H, rfl, I.kept (t' := s.toks) fun b o e => Heap.get?_push_of_some _ e, turn_tuple a _, ⟨_, Heap.get?_push_size _ rfl, rfl, rfl⟩, fun b hb => ?_, q⟩
  have e : b = s.heap.objs.size := by simpa using hb
  subst e
  exact I.fpOk (Nat.le_refl _) (I.hok.fresh (Nat.le_refl _))
end
end Mi

set_option Elab.async false
set_option linter.all false
set_option autoImplicit false
/-! Mi8: iterables; targets; list comprehensions. -/
namespace Mi
open PySem PySem.Spec L2 PyProof.Rows

/-! ### a list that a comprehension fills -/
section
variable {Γ : Sig} {g : Gh} {H : Hp} {p : Addr} {ys zs : List V}
mutual
theorem RK.fill (hw : g.ow p = some .acc) : ∀ {v : Val} {x : V}, RK Γ g H v x → RK Γ g (upd H p (.lst zs)) v x
  | _, _, .non => .non
  | _, _, .bl b => .bl b
  | _, _, .int i => .int i
  | _, _, .str x => .str x
  | _, _, .tup h e r => .tup (by rw [upd_ne (by rintro rfl; rw [hw] at e; cases e)]; exact h) e (RKs.fill hw r)
  | _, _, .imm h e r => .imm (by rw [upd_ne (by rintro rfl; rw [hw] at e; cases e)]; exact h) e (RKs.fill hw r)
  | _, _, .frz h e r => .frz (by rw [upd_ne (by rintro rfl; rw [hw] at e; cases e)]; exact h) e (RKs.fill hw r)
  | _, _, .ref h => .ref h
  | _, _, .fn f => .fn f
  | _, _, .cls c k => .cls c k
  | _, _, .ty t => .ty t
  | _, _, .exc h e a b => .exc (by rw [upd_ne (by rintro rfl; rw [hw] at e; cases e)]; exact h) e a b
theorem RKs.fill (hw : g.ow p = some .acc) : ∀ {vs : List Val} {xs : List V}, RKs Γ g H vs xs → RKs Γ g (upd H p (.lst zs)) vs xs
  | _, _, .nil => .nil
  | _, _, .cons a r => .cons (RK.fill hw a) (RKs.fill hw r)
end
theorem FR.fill (hw : g.ow p = some .acc) : ∀ {vs : List (Str × Val)} {xs : List (Str × V)}, FR Γ g H vs xs → FR Γ g (upd H p (.lst zs)) vs xs
  | _, _, .nil => .nil
  | _, _, .cons a r => .cons (a.fill hw) (FR.fill hw r)
theorem HR.fill {hp : Heap} (h : HR Γ g hp H) (hw : g.ow p = some .acc) : HR Γ g hp (upd H p (.lst zs)) := by
  refine ⟨h.len, h.nd, fun a o e => ?_, fun q hq => ?_, fun q i hq => ?_⟩
  · obtain ⟨q, e1, e2, r⟩ := h.obj a o e
    have ne : q ≠ p := by rintro rfl; rw [hw] at e2; cases e2
    refine ⟨q, e1, e2, ?_⟩
    cases o with
    | lst xs => obtain ⟨ys, e3, r⟩ := r; exact ⟨ys, by rw [upd_ne ne]; exact e3, r.fill hw⟩
    | ins c fs => obtain ⟨dx, fs', e3, r⟩ := r; exact ⟨dx, fs', by rw [upd_ne ne]; exact e3, r.fill hw⟩
  · have ne : q ≠ p := by rintro rfl; rw [upd_same] at hq; cases hq
    rw [upd_ne ne] at hq
    exact h.dom q hq
  · have ne : q ≠ p := by rintro rfl; rw [hw] at hq; cases hq
    rw [upd_ne ne]; exact h.sl q i hq
theorem Stp.fill {g0 : Gh} {H0 : Hp} {o : HO} (s : Stp g0 H0 g H) (h0 : H0 p = none) : Stp g0 H0 g (upd H p o) := by
  have ne : ∀ q o, H0 q = some o → q ≠ p := fun q o e z => by rw [z, h0] at e; cases e
  refine ⟨⟨s.am, fun q o e z => ?_⟩, fun q o i e z => ?_, fun q o e z => ?_, fun q o e z => ?_, s.ns⟩
  · rw [upd_ne (ne q o e)]; exact s.kept q o e z
  · rw [upd_ne (ne q o e)]; exact s.slot q o i e z
  · rw [upd_ne (ne q o e)]; exact s.obj q o e z
  · rw [upd_ne (ne q o e)]; exact s.acc q o e z
/-- the list is done: it is a fresh one -/
def Gh.del (g : Gh) (p : Addr) : Gh := { g with ow := fun q => if q = p then none else g.ow q }
theorem Gh.del_same : (g.del p).ow p = none := by simp [Gh.del]
theorem Gh.del_ne {q : Addr} (h : q ≠ p) : (g.del p).ow q = g.ow q := by simp [Gh.del, h]
theorem Gh.del_slot {q : Addr} {i : Nat} (h : (g.del p).ow q = some (.slot i)) : g.ow q = some (.slot i) := by
  by_cases e : q = p
  · rw [e, Gh.del_same] at h; cases h
  · rw [Gh.del_ne e] at h; exact h
mutual
theorem RK.del (hw : g.ow p = some .acc) : ∀ {v : Val} {x : V}, RK Γ g H v x → RK Γ (g.del p) H v x
  | _, _, .non => .non
  | _, _, .bl b => .bl b
  | _, _, .int i => .int i
  | _, _, .str x => .str x
  | _, _, .tup h e r => .tup h (by rw [Gh.del_ne (by rintro rfl; rw [hw] at e; cases e)]; exact e) (RKs.del hw r)
  | _, _, .imm h e r => .imm h (by rw [Gh.del_ne (by rintro rfl; rw [hw] at e; cases e)]; exact e) (RKs.del hw r)
  | _, _, .frz h e r => .frz h (by rw [Gh.del_ne (by rintro rfl; rw [hw] at e; cases e)]; exact e) (RKs.del hw r)
  | _, _, .ref h => .ref h
  | _, _, .fn f => .fn f
  | _, _, .cls c k => .cls c k
  | _, _, .ty t => .ty t
  | _, _, .exc h e a b => .exc h (by rw [Gh.del_ne (by rintro rfl; rw [hw] at e; cases e)]; exact e) a b
theorem RKs.del (hw : g.ow p = some .acc) : ∀ {vs : List Val} {xs : List V}, RKs Γ g H vs xs → RKs Γ (g.del p) H vs xs
  | _, _, .nil => .nil
  | _, _, .cons a r => .cons (RK.del hw a) (RKs.del hw r)
end
theorem FR.del (hw : g.ow p = some .acc) : ∀ {vs : List (Str × Val)} {xs : List (Str × V)}, FR Γ g H vs xs → FR Γ (g.del p) H vs xs
  | _, _, .nil => .nil
  | _, _, .cons a r => .cons (a.del hw) (FR.del hw r)
theorem HR.del {hp : Heap} (h : HR Γ g hp H) (hw : g.ow p = some .acc) : HR Γ (g.del p) hp H := by
  refine ⟨h.len, h.nd, fun a o e => ?_, fun q hq => ?_, fun q i hq => h.sl q i (Gh.del_slot hq)⟩
  · obtain ⟨q, e1, e2, r⟩ := h.obj a o e
    have ne : q ≠ p := by rintro rfl; rw [hw] at e2; cases e2
    refine ⟨q, e1, by rw [Gh.del_ne ne]; exact e2, ?_⟩
    cases o with
    | lst xs => obtain ⟨ys, e3, r⟩ := r; exact ⟨ys, e3, r.del hw⟩
    | ins c fs => obtain ⟨dx, fs', e3, r⟩ := r; exact ⟨dx, fs', e3, r.del hw⟩
  · by_cases e : q = p
    · rw [e, Gh.del_same]
    · rw [Gh.del_ne e]; exact h.dom q hq
theorem Stp.del {g0 : Gh} {H0 : Hp} (s : Stp g0 H0 g H) (h0 : H0 p = none) : Stp g0 H0 (g.del p) H := by
  have ne : ∀ q o, H0 q = some o → q ≠ p := fun q o e z => by rw [z, h0] at e; cases e
  refine ⟨⟨s.am, fun q o e z => ?_⟩, fun q o i e z => ?_, fun q o e z => ?_, fun q o e z => ?_, fun q i z => s.ns q i (Gh.del_slot z)⟩
  · rw [Gh.del_ne (ne q o e)]; exact s.kept q o e z
  · rw [Gh.del_ne (ne q o e)]; exact s.slot q o i e z
  · rw [Gh.del_ne (ne q o e)]; exact s.obj q o e z
  · rw [Gh.del_ne (ne q o e)]; exact s.acc q o e z
/-- a value is kept: what it asks of the ghost -/
theorem RV.fz {v w : Val} {x : V} {hp : Heap} {g0 : Gh} {H0 : Hp} (r : RV Γ g H v x) (e : Mi.fz v = some w) (fr : Frs H0 v x) (hr : HR Γ g hp H) (st : Stp g0 H0 g H) :
    ∃ g', g'.am = g.am ∧ RK Γ g' H w x ∧ HR Γ g' hp H ∧ Stp g0 H0 g' H ∧ (∀ D, g.ow D ≠ none → g'.ow D = g.ow D) ∧ (∀ {vs : List Val} {xs : List V}, RKs Γ g H vs xs → RKs Γ g' H vs xs) ∧
      (∀ {ρ : Slots} {σ : L2.St}, SR Γ g H ρ σ → SR Γ g' H ρ σ) ∧ (∀ {u : Val} {y : V}, RK Γ g H u y → RK Γ g' H u y) := by
  cases r with
  | kept r =>
    have ew : w = v := by
      cases r <;> first | exact (Option.some.inj e).symm
    subst ew
    exact ⟨g, rfl, r, hr, st, fun _ _ => rfl, fun z => z, fun z => z, fun z => z⟩
  | own h w' k =>
    cases e
    exact ⟨g.put _ .imm, rfl, .imm h Gh.put_same (k.put w' h), hr.put w' h, st.put fr (fun _ z => by cases z), fun D hne => Gh.put_ne (fun z => hne (by rw [z]; exact w')), fun z => z.put w' h, fun z => z.put w' h, fun z => z.put w' h⟩
  | brw h w' k => cases e
end

/-! ### iterables -/
structure KpB (b : Bool) (g : Gh) (H : Hp) (g' : Gh) (H' : Hp) : Prop where
  keep : Keep g H g' H'
  slot : b = false → ∀ p o i, H p = some o → g.ow p = some (.slot i) → g'.ow p = some (.slot i) ∧ H' p = some o
theorem Stp.kpB {b : Bool} {g g' : Gh} {H H' : Hp} (s : Stp g H g' H') : KpB b g H g' H' := ⟨s.toKeep, fun _ => s.slot⟩
theorem KpB.trans {b : Bool} {g g1 g2 : Gh} {H H1 H2 : Hp} (s : KpB b g H g1 H1) (t : KpB b g1 H1 g2 H2) : KpB b g H g2 H2 :=
  ⟨s.keep.trans t.keep, fun e p o i h w => let ⟨w1, h1⟩ := s.slot e p o i h w; t.slot e p o i h1 w1⟩
theorem KpB.fill {b : Bool} {g g0 : Gh} {H H0 : Hp} {p : Addr} {o : HO} (s : KpB b g0 H0 g H) (h0 : g0.ow p = some .acc) : KpB b g0 H0 g (upd H p o) := by
  refine ⟨⟨s.keep.am, fun q o e z => ?_⟩, fun hb q o i e z => ?_⟩
  · rw [upd_ne (by rintro rfl; rw [h0] at z; rcases z with z | z <;> cases z)]; exact s.keep.kept q o e z
  · rw [upd_ne (by rintro rfl; rw [h0] at z; cases z)]; exact s.slot hb q o i e z
/-- J yields the items xs while what stood at (g, H) is kept -/
def IR (Γ : Sig) (b : Bool) (g : Gh) (H : Hp) (xs : List Val) (J : L2.It) : Prop :=
  ∃ G : Hp → Prop, (∀ g1 H1, KpB b g H g1 H1 → G H1) ∧ (∀ i H1, i < xs.length → G H1 → J.go i H1) ∧ (∀ H1, G H1 → J.stop xs.length H1) ∧
    ∀ (i : Nat) (x : V) (H1 H2 : Hp) (v : Val), xs[i]? = some v → G H1 → J.yld i H1 x H2 → ∀ (g1 : Gh) (hp1 : Heap), KpB b g H g1 H1 → HR Γ g1 hp1 H1 → Stp g1 H1 g1 H2 ∧ HR Γ g1 hp1 H2 ∧ RK Γ g1 H2 v x
section
variable {Γ : Sig} {g : Gh} {H : Hp} {b : Bool} {K : PySem.W.Frag}
/-- a walked sequence: where it stands, that it stays -/
def SeqS (b : Bool) (K : PySem.W.Frag) (k : Ck) (g : Gh) (H : Hp) (p : Addr) (ys : List V) : Prop := ∀ g1 H1, KpB b g H g1 H1 → SqK k K H1 p ys
theorem RV.seqS {v : Val} {x : V} {xs : List Val} (r : RV Γ g H v x) (e : seqsOf v = some xs) : ∃ k p ys, x = .ref p ∧ SqK k K H p ys ∧ SeqS b K k g H p ys ∧ RKs Γ g H xs ys := by
  cases r with
  | kept r =>
    cases r <;> first | (cases e; done) | skip
    · rename_i p us ys h w k
      cases e
      exact ⟨.t, p, ys, rfl, SqT.of h, fun g1 H1 kp => SqT.of (kp.keep.kept _ _ h (.inl w)).2, k⟩
    · rename_i p us ys h w k
      cases e
      exact ⟨.l, p, ys, rfl, SqL.of h, fun g1 H1 kp => SqL.of (kp.keep.kept _ _ h (.inr w)).2, k⟩
  | own h w k =>
    cases e
    exact ⟨.l, _, _, rfl, SqL.of h, fun g1 H1 kp => SqL.of (kp.keep.kept _ _ h (.inl w)).2, k⟩
  | brw h w k => cases e
theorem ir_rng (lo : Int) (n : Nat) : IR Γ b g H (rng lo n) (Itr lo n) := by
  have len : ∀ (lo : Int) (n : Nat), (rng lo n).length = n := fun lo n => by
    induction n generalizing lo with
    | zero => rfl
    | succ n ih => simp [rng, ih]
  have get : ∀ (lo : Int) (n i : Nat) (v : Val), (rng lo n)[i]? = some v → v = .int (lo + i) := fun lo n i v => by
    induction n generalizing lo i with
    | zero => intro h; simp [rng] at h
    | succ n ih =>
      intro h
      cases i with
      | zero => simp [rng] at h; subst h; simp
      | succ i =>
        have := ih (lo + 1) i (by simpa [rng] using h)
        rw [this]
        congr 1
        push_cast
        omega
  refine ⟨fun _ => True, fun _ _ _ => trivial, fun i H1 hi _ => ?_, fun H1 _ => ?_, fun i x H1 H2 v hv _ hy g1 hp1 kp hr => ?_⟩
  · rw [len] at hi; exact hi
  · rw [len]; exact Nat.le_refl _
  · obtain ⟨rfl, rfl⟩ := hy
    rw [get lo n i v hv]
    exact ⟨Stp.refl, hr, .int _⟩
theorem ir_list {p : Addr} {xs : List Val} {ys : List V} (st : SeqS b K .l g H p ys) (rk : RKs Γ g H xs ys) : IR Γ b g H xs (Itl K p) := by
  have hl := rk.length
  refine ⟨fun H1 => SqL K H1 p ys, fun g1 H1 kp => st g1 H1 kp, fun i H1 hi hG => ?_, fun H1 hG => ⟨ys, hG, by omega⟩, fun i x H1 H2 v hv hG hy g1 hp1 kp hr => ?_⟩
  · exact ⟨ys, ys[i]'(by omega), hG, List.getElem?_eq_getElem (by omega)⟩
  · obtain ⟨rfl, hx⟩ := hy
    obtain ⟨x', e1, r1⟩ := rk.get hv
    have := (hx ys hG).symm.trans e1
    cases this
    exact ⟨Stp.refl, hr, r1.mono kp.keep⟩
theorem ir_tup {p : Addr} {xs : List Val} {ys : List V} (st : SeqS b K .t g H p ys) (rk : RKs Γ g H xs ys) : IR Γ b g H xs (Itt K p) := by
  have hl := rk.length
  refine ⟨fun H1 => SqT K H1 p ys, fun g1 H1 kp => st g1 H1 kp, fun i H1 hi hG => ?_, fun H1 hG => ⟨ys, hG, by omega⟩, fun i x H1 H2 v hv hG hy g1 hp1 kp hr => ?_⟩
  · exact ⟨ys, ys[i]'(by omega), hG, List.getElem?_eq_getElem (by omega)⟩
  · obtain ⟨rfl, hx⟩ := hy
    obtain ⟨x', e1, r1⟩ := rk.get hv
    have := (hx ys hG).symm.trans e1
    cases this
    exact ⟨Stp.refl, hr, r1.mono kp.keep⟩
theorem chars_get : ∀ (cs : List Nat) (i : Nat) (v : Val), (chars cs)[i]? = some v → ∃ c, cs[i]? = some c ∧ v = .str ⟨#[c]⟩
  | [], i, v, h => by simp [chars] at h
  | c :: cs, 0, v, h => by simp [chars] at h; exact ⟨c, rfl, h.symm⟩
  | c :: cs, i + 1, v, h => by
    obtain ⟨d, h1, h2⟩ := chars_get cs i v (by simpa [chars] using h)
    exact ⟨d, by simpa using h1, h2⟩
theorem chars_len : ∀ cs : List Nat, (chars cs).length = cs.length
  | [] => rfl
  | c :: cs => by simp [chars, chars_len cs]
theorem ir_str (z : Str) : IR Γ b g H (chars z.cps.toList) (Its z) := by
  have hl : (chars z.cps.toList).length = z.cps.size := by rw [chars_len]; simp
  refine ⟨fun _ => True, fun _ _ _ => trivial, fun i H1 hi _ => ?_, fun H1 _ => ?_, fun i x H1 H2 v hv _ hy g1 hp1 kp hr => ?_⟩
  · rw [hl] at hi; exact hi
  · rw [hl]; exact Nat.le_refl _
  · obtain ⟨rfl, c, hc, rfl⟩ := hy
    obtain ⟨d, h1, rfl⟩ := chars_get _ _ _ hv
    have : d = c := by
      have h1' : z.cps[i]? = some d := by simpa using h1
      rw [hc] at h1'; exact (Option.some.inj h1').symm
    subst this
    exact ⟨Stp.refl, hr, .str _⟩
theorem enumL_get : ∀ (k : Nat) (xs : List Val) (i : Nat) (v : Val), (enumL k xs)[i]? = some v → ∃ x, xs[i]? = some x ∧ v = .tup [.int ((k + i : Nat) : Int), x]
  | k, [], i, v, h => by simp [enumL] at h
  | k, x :: xs, 0, v, h => by simp [enumL] at h; exact ⟨x, rfl, by rw [← h]; simp⟩
  | k, x :: xs, i + 1, v, h => by
    obtain ⟨d, h1, h2⟩ := enumL_get (k + 1) xs i v (by simpa [enumL] using h)
    exact ⟨d, by simpa using h1, by rw [h2, show k + 1 + i = k + (i + 1) by omega]⟩
theorem enumL_len : ∀ (k : Nat) (xs : List Val), (enumL k xs).length = xs.length
  | k, [] => rfl
  | k, x :: xs => by simp [enumL, enumL_len (k + 1) xs]
theorem ir_enum {k : Ck} {p : Addr} {xs : List Val} {ys : List V} (st : SeqS b K k g H p ys) (rk : RKs Γ g H xs ys) : IR Γ b g H (enumL 0 xs) (IteK K k p) := by
  have hl := rk.length
  have hl2 := enumL_len 0 xs
  refine ⟨fun H1 => SqK k K H1 p ys, fun g1 H1 kp => st g1 H1 kp, fun i H1 hi hG => ?_, fun H1 hG => ⟨ys, hG, by omega⟩, fun i x H1 H2 v hv hG hy g1 hp1 kp hr => ?_⟩
  · exact ⟨ys, ys[i]'(by omega), hG, List.getElem?_eq_getElem (by omega)⟩
  · obtain ⟨T, z, rfl, hT, rfl, hz⟩ := hy
    obtain ⟨w, e1, rfl⟩ := enumL_get _ _ _ _ hv
    obtain ⟨x', e2, r1⟩ := rk.get e1
    have := (hz ys hG).symm.trans e2
    cases this
    refine ⟨Stp.new hT, hr.new hT, .tup upd_same (hr.free hT) (.cons ?_ (.cons ((r1.mono kp.keep).mono (Keep.new hT)) .nil))⟩
    rw [Nat.zero_add]
    exact .int _
theorem zipL_get : ∀ (xs ys : List Val) (i : Nat) (v : Val), (zipL xs ys)[i]? = some v → ∃ x y, xs[i]? = some x ∧ ys[i]? = some y ∧ v = .tup [x, y]
  | [], ys, i, v, h => by simp [zipL] at h
  | x :: xs, [], i, v, h => by simp [zipL] at h
  | x :: xs, y :: ys, 0, v, h => by simp [zipL] at h; exact ⟨x, y, rfl, rfl, h.symm⟩
  | x :: xs, y :: ys, i + 1, v, h => by
    obtain ⟨a, c, h1, h2, h3⟩ := zipL_get xs ys i v (by simpa [zipL] using h)
    exact ⟨a, c, by simpa using h1, by simpa using h2, h3⟩
theorem zipL_len : ∀ (xs ys : List Val), (zipL xs ys).length = min xs.length ys.length
  | [], ys => by simp [zipL]
  | x :: xs, [] => by simp [zipL]
  | x :: xs, y :: ys => by simp [zipL, zipL_len xs ys]
theorem ir_zip {k1 k2 : Ck} {p q : Addr} {xs us : List Val} {ys zs : List V} (st : SeqS b K k1 g H p ys) (st2 : SeqS b K k2 g H q zs) (rk : RKs Γ g H xs ys) (rk2 : RKs Γ g H us zs) : IR Γ b g H (zipL xs us) (ItzK K k1 k2 p q) := by
  have hl := rk.length
  have hl2 := rk2.length
  have hl3 := zipL_len xs us
  refine ⟨fun H1 => SqK k1 K H1 p ys ∧ SqK k2 K H1 q zs, fun g1 H1 kp => ⟨st g1 H1 kp, st2 g1 H1 kp⟩, fun i H1 hi hG => ?_, fun H1 hG => ⟨ys, zs, hG.1, hG.2, by omega⟩, fun i x H1 H2 v hv hG hy g1 hp1 kp hr => ?_⟩
  · exact ⟨ys, zs, ys[i]'(by omega), zs[i]'(by omega), hG.1, hG.2, List.getElem?_eq_getElem (by omega), List.getElem?_eq_getElem (by omega)⟩
  · obtain ⟨T, z1, z2, rfl, hT, rfl, hz1, hz2⟩ := hy
    obtain ⟨w1, w2, e1, e2, rfl⟩ := zipL_get _ _ _ _ hv
    obtain ⟨x1, e3, r1⟩ := rk.get e1
    obtain ⟨x2, e4, r2⟩ := rk2.get e2
    have q1 := (hz1 ys hG.1).symm.trans e3
    have q2 := (hz2 zs hG.2).symm.trans e4
    cases q1
    cases q2
    exact ⟨Stp.new hT, hr.new hT, .tup upd_same (hr.free hT) (.cons ((r1.mono kp.keep).mono (Keep.new hT)) (.cons ((r2.mono kp.keep).mono (Keep.new hT)) .nil))⟩
end
def tIt (Γ : Sig) (cf : Nat → List Val → Heap → R Val) (Wx : WX) (b : Bool) (it : It) : TI := fun σ H R => ∃ g ρ hp, HR Γ g hp H ∧ SR Γ g H ρ σ ∧ PostR Γ (IR Γ b) g H (evIt cf b it ρ hp) R (fun c H' => Wx (.ref (Γ.ca c)) none σ H')
section
variable {Γ : Sig} {cf : Nat → List Val → Heap → R Val} {X : Cx} {Wx : WX} {b : Bool}
theorem PostR.here {α β : Type} {Rel : Gh → Hp → α → β → Prop} {g : Gh} {H : Hp} {W : Nat → Hp → Prop} {v : α} {hp : Heap} {Q : β → Hp → Prop} {x : β} (h : PostR Γ Rel g H (.ok v hp) Q W) (hr : HR Γ g hp H) (rv : Rel g H v x) : Q x H := h g x H Stp.refl hr rv
theorem Post.mono {r : R Val} {g : Gh} {H : Hp} {Q Q' : VK} {W : Nat → Hp → Prop} (h : Post Γ g H r Q W) (f : ∀ x H', Q x H' → Q' x H') : Post Γ g H r Q' W := by
  cases r with
  | ok v hp => exact fun g' x H' a b c d => f _ _ (h g' x H' a b c d)
  | exc c hp => exact h
  | bad => exact h
theorem si_seq {e tg : Expr} {m : E} (he : PE X e (tEv Γ cf Wx m)) : PI X tg e (tIt Γ cf Wx b (.seq m)) := by
  refine ⟨fun pins s σ H R I h => ?_⟩
  obtain ⟨g, ρ, hp, hr, sr, h⟩ := h
  unfold evIt at h
  refine thn (he.run pins s σ H _ I ⟨g, ρ, hp, hr, sr, PostR.bindV h⟩) fun v s1 ⟨x, H1, I1, r1, g1, hp1, vx, st1, hr1, rv1, fr1, h1⟩ => ?_
  have key : ∀ {xs : List Val}, itemsOf vx = some xs → (isBrw vx && b) = false → PostR Γ (IR Γ b) g1 H1 (.ok xs hp1) R (fun c H' => Wx (.ref (Γ.ca c)) none σ H') → wpAny (model X.prog X.w) X.A (pyIter v) (PIE X pins σ tg R) X.xe s1 := fun {xs} ei hb hq => by
    cases vx with
    | tup zs =>
      obtain ⟨k, p, ys, rfl, hs, st, rk⟩ := rv1.seqS (b := b) (K := X.K) (xs := xs) ei
      cases r1
      cases k with
      | t => exact pie_tup I1 hs (hq.here hr1 (ir_tup st rk))
      | l => exact pie_list I1 hs (hq.here hr1 (ir_list st rk))
    | lst k zs =>
      cases ei
      obtain ⟨p, ys, rfl, hs, rk⟩ := rv1.lst (K := X.K)
      cases r1
      refine pie_list I1 hs (hq.here hr1 (ir_list (ys := ys) (fun g2 H2 kp => ?_) rk))
      cases rv1 with
      | kept r => cases r with
        | imm hh ww rr =>
          have := I1.list_inj hs (SqL.of hh)
          subst this
          exact SqL.of (kp.keep.kept _ _ hh (.inr ww)).2
        | frz hh ww rr =>
          have := I1.list_inj hs (.inl (.inr ⟨_, hh⟩))
          subst this
          exact .inl (.inr ⟨_, (kp.keep.kept _ _ hh (.inl ww)).2⟩)
      | own hh ww rr =>
        have := I1.list_inj hs (SqL.of hh)
        subst this
        exact SqL.of (kp.keep.kept _ _ hh (.inl ww)).2
      | brw hh ww rr =>
        have := I1.list_inj hs (SqL.of hh)
        subst this
        cases b with
        | true => cases hb
        | false => exact SqL.of (kp.slot rfl _ _ _ hh ww).2
    | str z =>
      cases ei
      rw [rv1.str] at r1
      obtain ⟨t, rfl⟩ := r1
      have q : R (Its z) H1 := hq.here hr1 (ir_str z)
      cases ha : z.cps.all (· < 128)
      · exact wpAny_pyIter_wide ha (pi_one (tk := s1.toks) I1 _ (turn_str _ z t "str_iterator" (.inr rfl)) ⟨_, Heap.get?_push_size _ rfl, rfl, rfl⟩ q)
      · exact wpAny_pyIter_ascii ha (pi_one (tk := s1.toks) I1 _ (turn_str _ z t "str_ascii_iterator" (.inl rfl)) ⟨_, Heap.get?_push_size _ rfl, rfl, rfl⟩ q)
    | _ => cases ei
  dsimp only at h1
  by_cases hb : (isBrw vx && b) = true
  · rw [if_pos hb] at h1; exact h1.elim
  · rw [if_neg hb] at h1
    cases ei : itemsOf vx with
    | none => rw [ei] at h1; exact h1.elim
    | some xs => rw [ei] at h1; exact key ei (by simpa using hb) h1
theorem smallR_ok {i : Int} (h : smallR i = true) : -(2 ^ 62) ≤ i ∧ i < 2 ^ 62 := by
  have p : (2 : Int) ^ 62 = 4611686018427387904 := by decide
  unfold smallR at h
  simp only [Bool.and_eq_true, decide_eq_true_eq] at h
  rw [p]
  exact h
theorem si_rng1 {e tg : Expr} {m : E} {p pos : Pos} (hg : Gl X "range") (hm : X.mg "range" = none) (he : PE X e (tEv Γ cf Wx m)) (hs : starEach [e] X.env = [(false, eval e X.env)]) : PI X tg (.Call (.Name "range" p) [e] [] pos) (tIt Γ cf Wx b (.rng1 m)) := by
  refine ⟨fun pins s σ H R I h => ?_⟩
  obtain ⟨g, ρ, hp, hr, sr, h⟩ := h
  unfold evIt at h
  refine (pi_range1 hg hm (pa_cons he pa_nil hs) hs).run pins s σ H R I ?_
  refine ⟨g, ρ, hp, hr, sr, (PostR.bindV h).mono fun x H1 ⟨g1, hp1, vx, st1, hr1, rv1, fr1, h1⟩ => ?_⟩
  cases vx with
  | int j =>
    simp only at h1
    split at h1
    · rename_i hj
      have hj := smallR_ok hj
      exact ⟨j, by rw [rv1.int], hj.1, hj.2, h1.here hr1 (ir_rng 0 j.toNat)⟩
    · exact h1.elim
  | _ => exact h1.elim
theorem si_rng2 {e e2 tg : Expr} {m m2 : E} {p pos : Pos} (hg : Gl X "range") (hm : X.mg "range" = none) (he : PE X e (tEv Γ cf Wx m)) (he2 : PE X e2 (tEv Γ cf Wx m2))
    (hs : starEach [e, e2] X.env = [(false, eval e X.env), (false, eval e2 X.env)]) (hs2 : starEach [e2] X.env = [(false, eval e2 X.env)]) : PI X tg (.Call (.Name "range" p) [e, e2] [] pos) (tIt Γ cf Wx b (.rng2 m m2)) := by
  refine ⟨fun pins s σ H R I h => ?_⟩
  obtain ⟨g, ρ, hp, hr, sr, h⟩ := h
  unfold evIt at h
  refine (pi_range2 hg hm (pa_cons he (pa_cons he2 pa_nil hs2) (by rw [hs, hs2])) hs hs2).run pins s σ H R I ?_
  refine ⟨g, ρ, hp, hr, sr, (PostR.bindV h).mono fun x H1 ⟨g1, hp1, vx, st1, hr1, rv1, fr1, h1⟩ => ?_⟩
  refine ⟨g1, ρ, hp1, hr1, sr.mono st1, (PostR.bindV h1).mono fun y H2 ⟨g2, hp2, vy, st2, hr2, rv2, fr2, h2⟩ => ?_⟩
  cases vx with
  | int i => cases vy with
    | int j =>
      simp only at h2
      split at h2
      · rename_i hj
        rw [Bool.and_eq_true] at hj
        have hj : (-(2 ^ 62) ≤ i ∧ i < 2 ^ 62) ∧ (-(2 ^ 62) ≤ j ∧ j < 2 ^ 62) := ⟨smallR_ok hj.1, smallR_ok hj.2⟩
        exact ⟨i, j, by rw [rv1.int, rv2.int], ⟨hj.1.1, hj.1.2, hj.2.1, hj.2.2⟩, h2.here hr2 (ir_rng i (j - i).toNat)⟩
      · exact h2.elim
    | _ => exact h2.elim
  | _ => exact h2.elim
theorem si_enum {e : Expr} {m : E} {p pos tpos : Pos} {elts : List Expr} {kk : Nat} (hg : Gl X "enumerate") (hm : X.mg "enumerate" = none) (he : PE X e (tEv Γ cf Wx m)) (hs : starEach [e] X.env = [(false, eval e X.env)]) :
    PI X (.Tuple elts kk tpos) (.Call (.Name "enumerate" p) [e] [] pos) (tIt Γ cf Wx b (.enum m)) := by
  refine ⟨fun pins s σ H R I h => ?_⟩
  obtain ⟨g, ρ, hp, hr, sr, h⟩ := h
  unfold evIt at h
  refine Call_ (ld_blt I hg hm boot_enumerate (PyProof.Rows.callWith_type1 (thn ((pa_cons he pa_nil hs).run pos pins s σ H (fun vs H1 => ∃ x, vs = [x] ∧ After Γ g H (fun v hp1 g1 H1 => PostR Γ (IR Γ b) g1 H1 (.of ((seqsOf v).map (enumL 0)) hp1) R (fun c H' => Wx (.ref (Γ.ca c)) none σ H')) x H1) I
    ⟨g, ρ, hp, hr, sr, (PostR.bindV h).mono fun x H1 q => ⟨x, rfl, q⟩⟩) fun us s1 ⟨vs, H1, I1, r1, q1⟩ => ?_) hs rfl))
  obtain ⟨x, rfl, g1, hp1, vx, st1, hr1, rv1, fr1, h1⟩ := q1
  cases r1 with
  | cons r rr =>
    cases rr
    cases es : seqsOf vx with
    | none => rw [es] at h1; exact h1.elim
    | some xs =>
      rw [es] at h1
      obtain ⟨k, p, ys, rfl, hs', st, rk⟩ := rv1.seqS (b := b) (K := X.K) es
      cases r
      exact pie_enum I1 hs' (PostR.here h1 hr1 (ir_enum st rk))
theorem si_zip {e e2 : Expr} {m m2 : E} {p pos tpos : Pos} {elts : List Expr} {kk : Nat} (hg : Gl X "zip") (hm : X.mg "zip" = none) (he : PE X e (tEv Γ cf Wx m)) (he2 : PE X e2 (tEv Γ cf Wx m2))
    (hs : starEach [e, e2] X.env = (false, eval e X.env) :: starEach [e2] X.env) (hs2 : starEach [e2] X.env = [(false, eval e2 X.env)]) :
    PI X (.Tuple elts kk tpos) (.Call (.Name "zip" p) [e, e2] [] pos) (tIt Γ cf Wx b (.zip m m2)) := by
  refine ⟨fun pins s σ H R I h => ?_⟩
  obtain ⟨g, ρ, hp, hr, sr, h⟩ := h
  unfold evIt at h
  refine Call_ (ld_blt I hg hm PyProof.Rows.boot_zip (PyProof.Rows.callWith_type1 (thn ((pa_cons he (pa_cons he2 pa_nil hs2) hs).run pos pins s σ H (fun vs H2 => ∃ x y g2 hp2 vx vy, vs = [x, y] ∧ HR Γ g2 hp2 H2 ∧ RV Γ g2 H2 vx x ∧ RV Γ g2 H2 vy y ∧
      PostR Γ (IR Γ b) g2 H2 (match seqsOf vx, seqsOf vy with | some xs, some ys => Mi.R.ok (zipL xs ys) hp2 | _, _ => Mi.R.bad) R (fun c H' => Wx (.ref (Γ.ca c)) none σ H')) I
    ⟨g, ρ, hp, hr, sr, (PostR.bindV h).mono fun x H1 ⟨g1, hp1, vx, st1, hr1, rv1, fr1, h1⟩ => ⟨g1, ρ, hp1, hr1, sr.mono st1, (PostR.bindV h1).mono fun y H2 ⟨g2, hp2, vy, st2, hr2, rv2, fr2, h2⟩ => ⟨x, y, g2, hp2, vx, vy, rfl, hr2, rv1.mono st2, rv2, h2⟩⟩⟩)
      fun us s1 ⟨vs, H1, I1, r1, q1⟩ => ?_) hs (by rw [hs2]; rfl)))
  obtain ⟨x, y, g2, hp2, vx, vy, rfl, hr2, rv1, rv2, h2⟩ := q1
  cases r1 with
  | cons r rr =>
    cases rr with
    | cons r' rr =>
      cases rr
      cases e1 : seqsOf vx with
      | none => rw [e1] at h2; exact h2.elim
      | some xs =>
        cases e2' : seqsOf vy with
        | none => rw [e1, e2'] at h2; exact h2.elim
        | some us =>
          rw [e1, e2'] at h2
          obtain ⟨k, p, ys, rfl, hs', st, rk⟩ := rv1.seqS (b := b) (K := X.K) e1
          obtain ⟨k2, p2, ys2, rfl, hs2', st2, rk2⟩ := rv2.seqS (b := b) (K := X.K) e2'
          cases r
          cases r'
          exact pie_zip I1 hs' hs2' (PostR.here h2 hr2 (ir_zip st st2 rk rk2))
end
end Mi

set_option Elab.async false
set_option linter.all false
set_option autoImplicit false
/-! Mi9: targets; list comprehensions. -/
namespace Mi
open PySem PySem.Spec L2 PyProof.Rows

/-! ### targets -/
section
variable {Γ : Sig} {T : Tab} {cf : Nat → List Val → Heap → R Val} {k : Nat} {cs : Cs} {X : Cx} {Wx : WX}
theorem SR.set {g : Gh} {H : Hp} {ρ : Slots} {σ : L2.St} {i : Nat} {v : Val} {x : V} (s : SR Γ g H ρ σ) (r : SlotV Γ g H i v x) : SR Γ g H (ρ.set i (some v)) (σ.set i (some x)) := by
  refine ⟨by simp [s.len], fun j w e => ?_⟩
  by_cases h : i = j
  · subst h
    rw [List.getElem?_set_self' ] at e
    cases e1 : ρ[i]? with
    | none => rw [e1] at e; cases e
    | some o =>
      rw [e1] at e
      have e : v = w := by simpa using e
      subst e
      have : i < σ.length := by rw [← s.len]; exact (List.getElem?_eq_some_iff.mp e1).1
      exact ⟨x, by rw [List.getElem?_set_self this], r⟩
  · rw [List.getElem?_set_ne h] at e
    obtain ⟨y, e1, r1⟩ := s.at_ j w e
    exact ⟨y, by rw [List.getElem?_set_ne h]; exact e1, r1⟩
theorem SR.unset {g : Gh} {H : Hp} {ρ : Slots} {σ : L2.St} {i : Nat} {o : Option V} (s : SR Γ g H ρ σ) : SR Γ g H (ρ.set i none) (σ.set i o) := by
  refine ⟨by simp [s.len], fun j w e => ?_⟩
  by_cases h : i = j
  · subst h
    rw [List.getElem?_set_self' ] at e
    cases e1 : ρ[i]? <;> (rw [e1] at e; simp at e)
  · rw [List.getElem?_set_ne h] at e
    obtain ⟨y, e1, r1⟩ := s.at_ j w e
    exact ⟨y, by rw [List.getElem?_set_ne h]; exact e1, r1⟩
theorem SR.wipe {g : Gh} {H : Hp} {ρ : Slots} {σ : L2.St} (s : SR Γ g H ρ σ) : ∀ l : List Nat, SR Γ g H (Mi.wipe ρ l) (L2.wipe σ l)
  | [] => s
  | v :: vs => (SR.wipe s vs).unset
theorem SR.monoB {g g' : Gh} {H H' : Hp} {ρ : Slots} {σ : L2.St} (k : KpB false g H g' H') (h : SR Γ g H ρ σ) : SR Γ g' H' ρ σ := by
  refine ⟨h.len, fun i v e => ?_⟩
  obtain ⟨x, e1, r⟩ := h.at_ i v e
  refine ⟨x, e1, ?_⟩
  unfold SlotV at *
  split at r
  · obtain ⟨p, ys, e, hp, w, r⟩ := r
    obtain ⟨w', hp'⟩ := k.slot rfl _ _ _ hp w
    exact ⟨p, ys, e, hp', w', r.mono k.keep⟩
  · trivial
  · exact r.mono k.keep
def tTg (Γ : Sig) (t : Tg) : TG := fun v σ H Q => ∃ g ρ x ρ', SR Γ g H ρ σ ∧ RK Γ g H x v ∧ bindT t x ρ = some ρ' ∧ ∀ σ' : L2.St, SR Γ g H ρ' σ' → (∀ i, i ∉ t.slots → σ'[i]? = σ[i]?) → σ'.length = σ.length → Q σ' H
def mT (cs : Cs) : Tg → Expr → Bool
  | .nm i, .Name x _ => cs.tgt i x
  | .tp2 a b, .Tuple [e, f] _ _ => mT cs a e && mT cs b f
  | .tp3 a b c, .Tuple [e, f, d] _ _ => mT cs a e && (mT cs b f && mT cs c d)
  | _, _ => false
theorem mT_each {t : Tg} {e : Expr} (h : mT cs t e = true) (es : List Expr) (env : Env) : assignEach (e :: es) env = (false, assign e env) :: assignEach es env := by
  cases t <;> cases e <;> first | rfl | (simp [mT] at h; done)
theorem mT_nm {i : Nat} {e : Expr} (h : mT cs (.nm i) e = true) : ∃ x pos, e = .Name x pos ∧ cs.tgt i x = true := by
  cases e <;> first | exact ⟨_, _, rfl, h⟩ | (simp [mT] at h; done)
theorem mT_tp2 {a b : Tg} {e : Expr} (h : mT cs (.tp2 a b) e = true) : ∃ e1 e2 kk pos, e = .Tuple [e1, e2] kk pos ∧ mT cs a e1 = true ∧ mT cs b e2 = true := by
  cases e <;> first | (simp [mT] at h; done) | skip
  rename_i es kk pos
  match es, h with
  | [], h => simp [mT] at h
  | [_], h => simp [mT] at h
  | [e1, e2], h =>
    simp only [mT, Bool.and_eq_true] at h
    exact ⟨e1, e2, kk, pos, rfl, h⟩
  | _ :: _ :: _ :: _, h => simp [mT] at h
theorem mT_tp3 {a b c : Tg} {e : Expr} (h : mT cs (.tp3 a b c) e = true) : ∃ e1 e2 e3 kk pos, e = .Tuple [e1, e2, e3] kk pos ∧ mT cs a e1 = true ∧ mT cs b e2 = true ∧ mT cs c e3 = true := by
  cases e <;> first | (simp [mT] at h; done) | skip
  rename_i es kk pos
  match es, h with
  | [], h => simp [mT] at h
  | [_], h => simp [mT] at h
  | [_, _], h => simp [mT] at h
  | [e1, e2, e3], h =>
    simp only [mT, Bool.and_eq_true] at h
    exact ⟨e1, e2, e3, kk, pos, rfl, h⟩
  | _ :: _ :: _ :: _ :: _, h => simp [mT] at h
theorem bindT_tp2 {a b : Tg} {v : Val} {ρ ρ' : Slots} (h : bindT (.tp2 a b) v ρ = some ρ') : ∃ x y ρ1, v = .tup [x, y] ∧ bindT a x ρ = some ρ1 ∧ bindT b y ρ1 = some ρ' := by
  cases v <;> first | (simp [bindT] at h; done) | skip
  rename_i xs
  match xs, h with
  | [], h => simp [bindT] at h
  | [_], h => simp [bindT] at h
  | [x, y], h =>
    simp only [bindT] at h
    cases e : bindT a x ρ with
    | none => rw [e] at h; cases h
    | some ρ1 => rw [e] at h; exact ⟨x, y, ρ1, rfl, e, h⟩
  | _ :: _ :: _ :: _, h => simp [bindT] at h
theorem bindT_tp3 {a b c : Tg} {v : Val} {ρ ρ' : Slots} (h : bindT (.tp3 a b c) v ρ = some ρ') : ∃ x y z ρ1 ρ2, v = .tup [x, y, z] ∧ bindT a x ρ = some ρ1 ∧ bindT b y ρ1 = some ρ2 ∧ bindT c z ρ2 = some ρ' := by
  cases v <;> first | (simp [bindT] at h; done) | skip
  rename_i xs
  match xs, h with
  | [], h => simp [bindT] at h
  | [_], h => simp [bindT] at h
  | [_, _], h => simp [bindT] at h
  | [x, y, z], h =>
    simp only [bindT] at h
    cases e : bindT a x ρ with
    | none => rw [e] at h; cases h
    | some ρ1 =>
      rw [e] at h
      cases e2 : bindT b y ρ1 with
      | none => simp only [Option.bind, e2] at h; cases h
      | some ρ2 => simp only [Option.bind, e2] at h; exact ⟨x, y, z, ρ1, ρ2, rfl, e, e2, h⟩
  | _ :: _ :: _ :: _ :: _, h => simp [bindT] at h
theorem sg_tgt (ok : XOk Γ T cf k cs X) : ∀ {t : Tg} {e : Expr}, mT cs t e = true → PG X e (tTg Γ t)
  | .nm i, e, h => by
    obtain ⟨x, pos, rfl, h⟩ := mT_nm h
    obtain ⟨h1, h2, h3⟩ := ok.tgt h
    refine ⟨fun pins s σ H v u Q I r hq => (pg_name ok.nd h1 h2 h3).run pins s σ H v u Q I r ?_⟩
    obtain ⟨g, ρ, y, ρ', sr, rk, hb, hq⟩ := hq
    cases hb
    exact hq _ (sr.set (SlotV.kept rk)) (fun j hj => by rw [List.getElem?_set_ne (by rintro rfl; exact hj (by simp [Tg.slots]))]) (by simp)
  | .tp2 a b, e, h => by
    obtain ⟨e1, e2, kk, pos, rfl, ha, hb⟩ := mT_tp2 h
    have pa := sg_tgt ok ha
    have pb := sg_tgt ok hb
    refine ⟨fun pins s σ H v u Q I r hq => (pg_tup (n := 2) ok.calm (pgs_cons pa (pgs_cons pb pgs_nil (by rw [mT_each hb]; rfl)) (by rw [mT_each ha]; rfl)) (by rw [mT_each ha, mT_each hb]; rfl) (by rw [mT_each ha, mT_each hb]; rfl)).run pins s σ H v u Q I r ?_⟩
    obtain ⟨g, ρ, y, ρ', sr, rk, hbd, hq⟩ := hq
    obtain ⟨x1, x2, ρ1, rfl, b1, b2⟩ := bindT_tp2 hbd
    cases rk with
    | tup hp w rks => cases rks with
      | cons r1 rks => cases rks with
        | cons r2 rks =>
          cases rks
          refine ⟨_, _, rfl, SqT.of hp, rfl, _, _, rfl, g, ρ, x1, ρ1, sr, r1, b1, fun σ1 sr1 o1 l1 => ?_⟩
          refine ⟨_, _, rfl, g, ρ1, x2, ρ', sr1, r2, b2, fun σ2 sr2 o2 l2 => ?_⟩
          exact ⟨rfl, hq σ2 sr2 (fun i hi => by simp only [Tg.slots, List.mem_append, not_or] at hi; rw [o2 i hi.2, o1 i hi.1]) (l2.trans l1)⟩
  | .tp3 a b c, e, h => by
    obtain ⟨e1, e2, e3, kk, pos, rfl, ha, hb, hc⟩ := mT_tp3 h
    have pa := sg_tgt ok ha
    have pb := sg_tgt ok hb
    have pc := sg_tgt ok hc
    refine ⟨fun pins s σ H v u Q I r hq => (pg_tup (n := 3) ok.calm (pgs_cons pa (pgs_cons pb (pgs_cons pc pgs_nil (by rw [mT_each hc]; rfl)) (by rw [mT_each hb]; rfl)) (by rw [mT_each ha]; rfl)) (by rw [mT_each ha, mT_each hb, mT_each hc]; rfl) (by rw [mT_each ha, mT_each hb, mT_each hc]; rfl)).run pins s σ H v u Q I r ?_⟩
    obtain ⟨g, ρ, y, ρ', sr, rk, hbd, hq⟩ := hq
    obtain ⟨x1, x2, x3, ρ1, ρ2, rfl, b1, b2, b3⟩ := bindT_tp3 hbd
    cases rk with
    | tup hp w rks => cases rks with
      | cons r1 rks => cases rks with
        | cons r2 rks => cases rks with
          | cons r3 rks =>
            cases rks
            refine ⟨_, _, rfl, SqT.of hp, rfl, _, _, rfl, g, ρ, x1, ρ1, sr, r1, b1, fun σ1 sr1 o1 l1 => ?_⟩
            refine ⟨_, _, rfl, g, ρ1, x2, ρ2, sr1, r2, b2, fun σ2 sr2 o2 l2 => ?_⟩
            refine ⟨_, _, rfl, g, ρ2, x3, ρ', sr2, r3, b3, fun σ3 sr3 o3 l3 => ?_⟩
            exact ⟨rfl, hq σ3 sr3 (fun i hi => by simp only [Tg.slots, List.mem_append, not_or] at hi; rw [o3 i hi.2.2, o2 i hi.2.1, o1 i hi.1]) (l3.trans (l2.trans l1))⟩
theorem wipe_eq {σ σ' : L2.St} {l : List Nat} (h : ∀ i, i ∉ l → σ'[i]? = σ[i]?) (hl : σ'.length = σ.length) : L2.wipe σ' l = L2.wipe σ l := by
  apply List.ext_getElem?
  intro i
  have inn : ∀ (τ : L2.St) (l : List Nat), i ∈ l → i < τ.length → (L2.wipe τ l)[i]? = some none := fun τ l => by
    induction l with
    | nil => intro h; cases h
    | cons v vs ih =>
      intro h hi
      show ((L2.wipe τ vs).set v none)[i]? = some none
      by_cases e : v = i
      · subst e; rw [List.getElem?_set_self (by rw [wipe_length]; exact hi)]
      · rw [List.getElem?_set_ne e]
        exact ih (by cases h with | head => exact (e rfl).elim | tail _ h => exact h) hi
  by_cases hm : i ∈ l
  · by_cases hi : i < σ.length
    · rw [inn σ' l hm (by omega), inn σ l hm hi]
    · rw [List.getElem?_eq_none (by rw [wipe_length]; omega), List.getElem?_eq_none (by rw [wipe_length]; omega)]
  · rw [wipe_out hm, wipe_out hm, h i hm]

/-! ### list comprehensions -/
def tTs (Γ : Sig) (cf : Nat → List Val → Heap → R Val) (m : Oe) : TT := fun σ H Q => ∃ g ρ hp, HR Γ g hp H ∧ SR Γ g H ρ σ ∧ PostR Γ (fun _ _ (a b : Bool) => a = b) g H (evT cf m ρ hp) Q (fun _ _ => False)
def W0 : WX := fun _ _ _ _ => False
/-- the state of a comprehension that has filled its list with acc -/
structure LcI (Γ : Sig) (g1 : Gh) (H1 : Hp) (D : Addr) (g : Gh) (hp : Heap) (H : Hp) (acc : List Val) (accV : List V) : Prop where
  st : Stp g1 H1 g H
  hr : HR Γ g hp H
  at_ : H D = some (.lst accV)
  ow : g.ow D = some .acc
  rk : RKs Γ g H acc accV
theorem LcI.step {g1 g g' : Gh} {H1 H H' : Hp} {D : Addr} {hp hp' : Heap} {acc : List Val} {accV : List V} (l : LcI Γ g1 H1 D g hp H acc accV) (s : Stp g H g' H') (hr : HR Γ g' hp' H') : LcI Γ g1 H1 D g' hp' H' acc accV :=
  ⟨l.st.trans s, hr, (s.acc _ _ l.at_ l.ow).2, (s.acc _ _ l.at_ l.ow).1, l.rk.mono s.toKeep⟩
/-- one turn's end -/
theorem lc_body {t : Tg} {c : Oe} {e : E} {g1 g : Gh} {H1 H : Hp} {D : Addr} {hp hpf : Heap} {acc rest : List Val} {accV : List V} {v : Val} {x : V} {ρ : Slots} {σ : L2.St} {vs : List Val} {bd : Val → Option Slots} {Nx : Hp → Prop} {l : List Nat}
    (hD : H1 D = none) (li : LcI Γ g1 H1 D g hp H acc accV) (sr : SR Γ g H ρ σ) (rk : RK Γ g H v x) (hb : bd v = bindT t v ρ) (hsz : (acc ++ rest).length ≤ sizeLine) (hl : ∀ i, i ∈ t.slots → i ∈ l) {τ : L2.St} (hτ : L2.wipe σ l = τ)
    (hc : compL bd (evT cf c) (ev cf e) (v :: vs) hp = .ok rest hpf)
    (hn : ∀ g' hp' H' acc' accV' rest', LcI Γ g1 H1 D g' hp' H' acc' accV' → KpB false g H g' H' → compL bd (evT cf c) (ev cf e) vs hp' = .ok rest' hpf → acc ++ rest = acc' ++ rest' → acc'.length ≤ acc.length + 1 → Nx H') :
    tTg Γ t x σ H fun σ2 H2 => L2.wipe σ2 l = τ ∧ tTs Γ cf c σ2 H2 fun b H3 =>
      if b = true then tEv Γ cf W0 e σ2 H3 fun y H4 => ∃ acc, H4 D = some (.lst acc) ∧ acc.length < sizeLine ∧ Nx (upd H4 D (.lst (acc ++ [y]))) else Nx H3 := by
  unfold compL at hc
  cases e1 : bd v with
  | none => rw [e1] at hc; cases hc
  | some ρ' =>
    rw [e1] at hc
    refine ⟨g, ρ, v, ρ', sr, rk, by rw [← hb, e1], fun σ' sr' o' l' => ⟨(wipe_eq (fun i hi => o' i fun z => hi (hl i z)) l').trans hτ, g, ρ', hp, li.hr, sr', ?_⟩⟩
    cases et : evT cf c ρ' hp with
    | exc c h => simp only [et, R.bind] at hc; cases hc
    | bad => simp only [et, R.bind] at hc; cases hc
    | ok b h =>
      simp only [et, R.bind] at hc
      intro g2 b2 H2 s2 hr2 eb
      subst eb
      have l2 := li.step s2 hr2
      cases b with
      | false =>
        simp only [Bool.false_eq_true, if_false] at hc ⊢
        exact hn g2 h H2 acc accV rest l2 s2.kpB hc rfl (by omega)
      | true =>
        simp only [if_true] at hc ⊢
        refine ⟨g2, ρ', h, hr2, sr'.mono s2, ?_⟩
        cases ee : ev cf e ρ' h with
        | exc c h => simp only [ee] at hc; cases hc
        | bad => simp only [ee] at hc; cases hc
        | ok w h' =>
          simp only [ee] at hc
          intro g3 y H3 s3 hr3 rv3 fr3
          cases ef : fz w with
          | none => rw [ef] at hc; cases hc
          | some w' =>
            rw [ef] at hc
            have l3 := l2.step s3 hr3
            obtain ⟨g4, am4, rk4, hr4, st4, ow4, rks4, _, _⟩ := rv3.fz ef fr3 hr3 s3
            have hw4 : g4.ow D = some .acc := by rw [ow4 D (by rw [l3.ow]; intro z; cases z)]; exact l3.ow
            cases er : compL bd (evT cf c) (ev cf e) vs h' with
            | exc c h => simp only [er] at hc; cases hc
            | bad => simp only [er] at hc; cases hc
            | ok rest' hpf' =>
              simp only [er] at hc
              cases hc
              refine ⟨accV, l3.at_, by rw [← li.rk.length]; simp at hsz; omega, ?_⟩
              refine hn g4 h' _ (acc ++ [w']) (accV ++ [y]) rest' ⟨((l2.st.trans st4)).fill hD, hr4.fill hw4, upd_same, hw4, ((rks4 l3.rk).append (.cons rk4 .nil)).fill hw4⟩ ((s2.trans st4).kpB.fill li.ow) er (by simp) (by simp)
theorem PostR.mono {α β : Type} {Rel : Gh → Hp → α → β → Prop} {r : R α} {g : Gh} {H : Hp} {Q Q' : β → Hp → Prop} {W : Nat → Hp → Prop} (h : PostR Γ Rel g H r Q W) (f : ∀ x H', Q x H' → Q' x H') : PostR Γ Rel g H r Q' W := by
  cases r with
  | ok v hp => exact fun g' x H' a b c => f _ _ (h g' x H' a b c)
  | exc c hp => exact h
  | bad => exact h
theorem wipe_idem {σ : L2.St} {l : List Nat} : L2.wipe (L2.wipe σ l) l = L2.wipe σ l := wipe_eq (fun i hi => wipe_out hi) (wipe_length _ _)
theorem LcI.start {g1 : Gh} {H1 : Hp} {D : Addr} {hp : Heap} (hr : HR Γ g1 hp H1) (hD : H1 D = none) : LcI Γ g1 H1 D (g1.put D .acc) hp (upd H1 D (.lst [])) [] [] :=
  have hw := hr.free hD
  ⟨(Stp.new hD).put hD (fun _ z => by cases z), (hr.new hD).put hw upd_same, upd_same, Gh.put_same, .nil⟩
theorem LcI.done {g1 g : Gh} {H1 H : Hp} {D : Addr} {hp : Heap} {acc : List Val} {accV : List V} {Q : VK} {W : Nat → Hp → Prop} (li : LcI Γ g1 H1 D g hp H acc accV) (hD : H1 D = none) (h : Post Γ g1 H1 (.ok (.lst .own acc) hp) Q W) : Q (.ref D) H :=
  h (g.del D) (.ref D) H (li.st.del hD) (li.hr.del li.ow) (.own li.at_ Gh.del_same (li.rk.del li.ow)) hD
theorem se_comp {own : List (Str × Nat)} {t : Tg} {it : It} {c : Oe} {e : E} (ho : own.map (·.2) = t.slots) {σ : L2.St} {H : Hp} {Q : VK} (h : tEv Γ cf Wx (.comp t it c e) σ H Q) :
    tLc (tIt Γ cf Wx false it) (tTg Γ t) (tTs Γ cf c) (tEv Γ cf W0 e) (own.map (·.2)) σ H Q := by
  obtain ⟨g, ρ, hp, hr, sr, h⟩ := h
  unfold ev at h
  refine ⟨g, ρ, hp, hr, sr, PostR.mono (Post.bindR (Rel := IR Γ false) h) fun J H1 ⟨g1, hp1, xs, st1, hr1, ir, h1⟩ => ?_⟩
  intro D hD
  rw [ho]
  dsimp only at h1
  cases ec : compL (fun x => bindT t x (wipe ρ t.slots)) (evT cf c) (ev cf e) xs hp1 with
  | exc c h => simp only [ec, noexc, R.bind] at h1; exact h1.elim
  | bad => simp only [ec, noexc, R.bind] at h1; exact h1.elim
  | ok vs hpf =>
    simp only [ec, noexc, R.bind] at h1
    by_cases hz : fits vs.length = true
    · rw [if_pos hz] at h1
      have hz : vs.length ≤ sizeLine := by simpa [fits] using hz
      obtain ⟨G, gG, gGo, gStop, gY⟩ := ir
      refine ⟨fun i m H' => m + i = xs.length ∧ ∃ gi hpi acc accV rest, LcI Γ g1 H1 D gi hpi H' acc accV ∧ compL (fun x => bindT t x (wipe ρ t.slots)) (evT cf c) (ev cf e) (xs.drop i) hpi = .ok rest hpf ∧ vs = acc ++ rest,
        ⟨xs.length, by simp, g1.put D .acc, hp1, [], [], vs, LcI.start hr1 hD, ec, rfl⟩, ?_⟩
      rintro i m H' ⟨hm, gi, hpi, acc, accV, rest, li, hci, hvs⟩
      by_cases hi : i < xs.length
      · right
        refine ⟨gGo i H' hi (gG gi H' li.st.kpB), fun H2 => ∃ gi hpi acc accV rest, LcI Γ g1 H1 D gi hpi H2 acc accV ∧ compL (fun x => bindT t x (wipe ρ t.slots)) (evT cf c) (ev cf e) (xs.drop (i + 1)) hpi = .ok rest hpf ∧ vs = acc ++ rest,
          fun H2 q => ⟨m - 1, by omega, by omega, q⟩, fun x H2 hy => ?_⟩
        have hv : xs[i]? = some xs[i] := List.getElem?_eq_getElem hi
        obtain ⟨s2, hr2, rk2⟩ := gY i x H' H2 _ hv (gG gi H' li.st.kpB) hy gi hpi li.st.kpB li.hr
        have l2 := li.step s2 hr2
        rw [List.drop_eq_getElem_cons hi] at hci
        refine lc_body hD l2 (((sr.mono st1).mono l2.st).wipe t.slots) rk2 rfl (by rw [← hvs]; exact hz) (fun i z => z) wipe_idem hci ?_
        exact fun g' hp' H'' acc' accV' rest' l' _ hc' hr' hl' => ⟨g', hp', acc', accV', rest', l', hc', hvs.trans hr'⟩
      · left
        have : i = xs.length := by omega
        subst this
        rw [List.drop_eq_nil_of_le (Nat.le_refl _)] at hci
        cases hci
        refine ⟨gStop H' (gG gi H' li.st.kpB), ?_⟩
        rw [List.append_nil] at hvs
        subst hvs
        exact li.done hD h1
    · rw [if_neg hz] at h1; exact h1.elim
theorem se_comp2 {own : List (Str × Nat)} {t u : Tg} {it jt : It} {c : Oe} {e : E} (ho : own.map (·.2) = t.slots ++ u.slots) {σ : L2.St} {H : Hp} {Q : VK} (h : tEv Γ cf Wx (.comp2 t it u jt c e) σ H Q) :
    tLc2 (tIt Γ cf Wx false it) (tTg Γ t) tYes (tIt Γ cf W0 false jt) (tTg Γ u) (tTs Γ cf c) (tEv Γ cf W0 e) (own.map (·.2)) u.slots σ H Q := by
  obtain ⟨g, ρ, hp, hr, sr, h⟩ := h
  unfold ev at h
  refine ⟨g, ρ, hp, hr, sr, PostR.mono (Post.bindR (Rel := IR Γ false) h) fun J H1 ⟨g1, hp1, xs, st1, hr1, ir, h1⟩ => ?_⟩
  intro D hD
  rw [ho]
  dsimp only at h1
  generalize hbd : (fun x => bindT t x (wipe ρ (t.slots ++ u.slots))) = bd at h1
  generalize hin : (fun (ρ' : Slots) (h : Heap) => (evIt cf false jt ρ' h).bind fun ys h => compL (fun y => bindT u y (wipe ρ' u.slots)) (evT cf c) (ev cf e) ys h) = inn at h1
  cases ec : compO bd inn xs hp1 with
  | exc c h => simp only [ec, noexc, R.bind] at h1; exact h1.elim
  | bad => simp only [ec, noexc, R.bind] at h1; exact h1.elim
  | ok vs hpf =>
    simp only [ec, noexc, R.bind] at h1
    by_cases hz : fits vs.length = true
    · rw [if_pos hz] at h1
      have hz : vs.length ≤ sizeLine := by simpa [fits] using hz
      obtain ⟨G, gG, gGo, gStop, gY⟩ := ir
      refine ⟨fun i m H' => m + i = xs.length ∧ ∃ gi hpi acc accV rest, LcI Γ g1 H1 D gi hpi H' acc accV ∧ compO bd inn (xs.drop i) hpi = .ok rest hpf ∧ vs = acc ++ rest,
        ⟨xs.length, by simp, g1.put D .acc, hp1, [], [], vs, LcI.start hr1 hD, ec, rfl⟩, ?_⟩
      rintro i m H' ⟨hm, gi, hpi, acc, accV, rest, li, hci, hvs⟩
      by_cases hi : i < xs.length
      · right
        refine ⟨gGo i H' hi (gG gi H' li.st.kpB), fun H2 => ∃ gi hpi acc accV rest, LcI Γ g1 H1 D gi hpi H2 acc accV ∧ compO bd inn (xs.drop (i + 1)) hpi = .ok rest hpf ∧ vs = acc ++ rest,
          fun H2 q => ⟨m - 1, by omega, by omega, q⟩, fun x H2 hy => ?_⟩
        have hv : xs[i]? = some xs[i] := List.getElem?_eq_getElem hi
        obtain ⟨s2, hr2, rk2⟩ := gY i x H' H2 _ hv (gG gi H' li.st.kpB) hy gi hpi li.st.kpB li.hr
        have l2 := li.step s2 hr2
        rw [List.drop_eq_getElem_cons hi] at hci
        have sr2 := (((sr.mono st1).mono l2.st).wipe (t.slots ++ u.slots))
        unfold compO at hci
        cases e1 : bd xs[i] with
        | none => rw [e1] at hci; cases hci
        | some ρ' =>
          rw [e1] at hci
          refine ⟨gi, _, xs[i], ρ', sr2, rk2, by rw [← hbd] at e1; exact e1, fun σ' sr' o' l' => ⟨(wipe_eq (fun i hi => o' i fun z => hi (List.mem_append_left _ z)) l').trans wipe_idem, ?_⟩⟩
          unfold tYes
          dsimp only
          rw [if_pos rfl]
          refine ⟨gi, ρ', hpi, hr2, sr', ?_⟩
          have hin' : inn ρ' hpi = (evIt cf false jt ρ' hpi).bind fun ys h => compL (fun y => bindT u y (wipe ρ' u.slots)) (evT cf c) (ev cf e) ys h := by rw [← hin]
          simp only at hci
          rw [hin'] at hci
          cases ei : evIt cf false jt ρ' hpi with
          | exc c h => simp only [ei, R.bind] at hci; cases hci
          | bad => simp only [ei, R.bind] at hci; cases hci
          | ok ys h =>
            simp only [ei, R.bind] at hci
            intro g3 J1 H3 s3 hr3 ir3
            have l3 := l2.step s3 hr3
            cases eu : compL (fun y => bindT u y (wipe ρ' u.slots)) (evT cf c) (ev cf e) ys h with
            | exc c h => simp only [eu] at hci; cases hci
            | bad => simp only [eu] at hci; cases hci
            | ok us h' =>
              simp only [eu] at hci
              cases eo : compO bd inn (xs.drop (i + 1)) h' with
              | exc c h => simp only [eo] at hci; cases hci
              | bad => simp only [eo] at hci; cases hci
              | ok ws hpf' =>
                simp only [eo] at hci
                cases hci
                obtain ⟨G3, gG3, gGo3, gStop3, gY3⟩ := ir3
                refine ⟨fun j kk H' => kk + j = ys.length ∧ ∃ gj hpj ac acV rest, LcI Γ g1 H1 D gj hpj H' ac acV ∧ KpB false g3 H3 gj H' ∧ compL (fun y => bindT u y (wipe ρ' u.slots)) (evT cf c) (ev cf e) (ys.drop j) hpj = .ok rest h' ∧ acc ++ us = ac ++ rest,
                  ⟨ys.length, by simp, g3, h, acc, accV, us, l3, Stp.refl.kpB, eu, rfl⟩, ?_⟩
                rintro j kk H4 ⟨hk, gj, hpj, ac, acV, rest, lj, kj, hcj, hvj⟩
                by_cases hj : j < ys.length
                · right
                  refine ⟨gGo3 j H4 hj (gG3 gj H4 kj), fun H' => ∃ gj hpj ac acV rest, LcI Γ g1 H1 D gj hpj H' ac acV ∧ KpB false g3 H3 gj H' ∧ compL (fun y => bindT u y (wipe ρ' u.slots)) (evT cf c) (ev cf e) (ys.drop (j + 1)) hpj = .ok rest h' ∧ acc ++ us = ac ++ rest,
                    fun H2 q => ⟨kk - 1, by omega, by omega, q⟩, fun x H5 hy5 => ?_⟩
                  have hv5 : ys[j]? = some ys[j] := List.getElem?_eq_getElem hj
                  obtain ⟨s5, hr5, rk5⟩ := gY3 j x H4 H5 _ hv5 (gG3 gj H4 kj) hy5 gj hpj kj lj.hr
                  have l5 := lj.step s5 hr5
                  rw [List.drop_eq_getElem_cons hj] at hcj
                  refine lc_body hD l5 ?_ rk5 rfl (by rw [← hvj]; rw [hvs] at hz; simp at hz ⊢; omega) (fun i z => z) wipe_idem hcj ?_
                  · exact ((((sr'.mono s3).monoB kj).mono s5).wipe u.slots)
                  · exact fun g' hp' H'' acc' accV' rest' l' k' hc' hr' hl' => ⟨g', hp', acc', accV', rest', l', (kj.trans s5.kpB).trans k', hc', hvj.trans hr'⟩
                · left
                  have : j = ys.length := by omega
                  subst this
                  rw [List.drop_eq_nil_of_le (Nat.le_refl _)] at hcj
                  cases hcj
                  refine ⟨gStop3 H4 (gG3 gj H4 kj), gj, _, ac, acV, ws, lj, eo, ?_⟩
                  rw [List.append_nil] at hvj
                  rw [hvs, ← hvj, List.append_assoc]
      · left
        have : i = xs.length := by omega
        subst this
        rw [List.drop_eq_nil_of_le (Nat.le_refl _)] at hci
        cases hci
        refine ⟨gStop H' (gG gi H' li.st.kpB), ?_⟩
        rw [List.append_nil] at hvs
        subst hvs
        exact li.done hD h1
    · rw [if_neg hz] at h1; exact h1.elim
end
end Mi

set_option Elab.async false
set_option linter.all false
set_option autoImplicit false
/-! Mi10: the other expressions. -/
namespace Mi
open PySem PySem.Spec L2 PyProof.Rows

/-! ### a call: the caller's slots are laid aside -/
section
variable {Γ : Sig} {g : Gh} {H : Hp}
theorem bare_none {p : Addr} (h : g.ow p = none) : g.bare.ow p = none := by simp [Gh.bare, h]
theorem bare_imm {p : Addr} (h : g.ow p = some .imm) : g.bare.ow p = some .imm := by simp [Gh.bare, h]
theorem bare_obj {p : Addr} (h : g.ow p = some .obj) : g.bare.ow p = some .obj := by simp [Gh.bare, h]
theorem bare_acc {p : Addr} (h : g.ow p = some .acc) : g.bare.ow p = some .acc := by simp [Gh.bare, h]
theorem bare_slot {p : Addr} {i : Nat} (h : g.ow p = some (.slot i)) : g.bare.ow p = none := by simp [Gh.bare, h]
theorem bare_no {p : Addr} {i : Nat} : g.bare.ow p ≠ some (.slot i) := by
  unfold Gh.bare
  simp only
  split <;> simp_all
mutual
theorem RK.bare : ∀ {v : Val} {x : V}, RK Γ g H v x → RK Γ g.bare H v x
  | _, _, .non => .non
  | _, _, .bl b => .bl b
  | _, _, .int i => .int i
  | _, _, .str x => .str x
  | _, _, .tup h e r => .tup h (bare_none e) (RKs.bare r)
  | _, _, .imm h e r => .imm h (bare_imm e) (RKs.bare r)
  | _, _, .frz h e r => .frz h (bare_none e) (RKs.bare r)
  | _, _, .ref h => .ref h
  | _, _, .fn f => .fn f
  | _, _, .cls c k => .cls c k
  | _, _, .ty t => .ty t
  | _, _, .exc h e a b => .exc h (bare_none e) a b
theorem RKs.bare : ∀ {vs : List Val} {xs : List V}, RKs Γ g H vs xs → RKs Γ g.bare H vs xs
  | _, _, .nil => .nil
  | _, _, .cons a r => .cons (RK.bare a) (RKs.bare r)
end
theorem FR.bare : ∀ {vs : List (Str × Val)} {xs : List (Str × V)}, FR Γ g H vs xs → FR Γ g.bare H vs xs
  | _, _, .nil => .nil
  | _, _, .cons a r => .cons a.bare (FR.bare r)
theorem HR.bare {hp : Heap} (h : HR Γ g hp H) : HR Γ g.bare hp H := by
  refine ⟨h.len, h.nd, fun a o e => ?_, fun q hq => bare_none (h.dom q hq), fun q i hq => (bare_no hq).elim⟩
  obtain ⟨q, e1, e2, r⟩ := h.obj a o e
  refine ⟨q, e1, bare_obj e2, ?_⟩
  cases o with
  | lst xs => obtain ⟨ys, e3, r⟩ := r; exact ⟨ys, e3, r.bare⟩
  | ins c fs => obtain ⟨dx, fs', e3, r⟩ := r; exact ⟨dx, fs', e3, r.bare⟩
/-- the slots of g again -/
def Gh.over (g' g : Gh) : Gh := { g' with ow := fun q => match g.ow q with
  | some (.slot i) => some (.slot i)
  | _ => g'.ow q }
theorem over_slot {g' : Gh} {p : Addr} {i : Nat} (h : g.ow p = some (.slot i)) : (g'.over g).ow p = some (.slot i) := by simp [Gh.over, h]
theorem over_else {g' : Gh} {p : Addr} (h : ∀ i, g.ow p ≠ some (.slot i)) : (g'.over g).ow p = g'.ow p := by
  cases e : g.ow p with
  | none => simp [Gh.over, e]
  | some w => cases w <;> first | (exact (h _ e).elim) | simp [Gh.over, e]
section
variable {g' : Gh} {H' : Hp}
/-- what the call leaves where a slot's list stands -/
theorem bare_kept {hp : Heap} (hr : HR Γ g hp H) (st : Stp g.bare H g' H') {p : Addr} {i : Nat} (h : g.ow p = some (.slot i)) : g'.ow p = none ∧ ∃ ys, H' p = some (.lst ys) := by
  obtain ⟨ys, e⟩ := hr.sl p i h
  obtain ⟨w, e'⟩ := st.kept p _ e (.inl (bare_slot h))
  exact ⟨w.trans (bare_slot h), ys, e'⟩
mutual
theorem RK.over {hp : Heap} (hr : HR Γ g hp H) (st : Stp g.bare H g' H') : ∀ {v : Val} {x : V}, RK Γ g' H' v x → RK Γ (g'.over g) H' v x
  | _, _, .non => .non
  | _, _, .bl b => .bl b
  | _, _, .int i => .int i
  | _, _, .str x => .str x
  | _, _, .tup h e r => .tup h (by rw [over_else (fun i z => by obtain ⟨_, ys, q⟩ := bare_kept hr st z; rw [h] at q; cases q)]; exact e) (RKs.over hr st r)
  | _, _, .imm h e r => .imm h (by rw [over_else (fun i z => by obtain ⟨q, _⟩ := bare_kept hr st z; rw [e] at q; cases q)]; exact e) (RKs.over hr st r)
  | _, _, .frz h e r => .frz h (by rw [over_else (fun i z => by obtain ⟨_, ys, q⟩ := bare_kept hr st z; rw [h] at q; cases q)]; exact e) (RKs.over hr st r)
  | _, _, .ref h => .ref h
  | _, _, .fn f => .fn f
  | _, _, .cls c k => .cls c k
  | _, _, .ty t => .ty t
  | _, _, .exc h e a b => .exc h (by rw [over_else (fun i z => by obtain ⟨_, ys, q⟩ := bare_kept hr st z; rw [h] at q; cases q)]; exact e) a b
theorem RKs.over {hp : Heap} (hr : HR Γ g hp H) (st : Stp g.bare H g' H') : ∀ {vs : List Val} {xs : List V}, RKs Γ g' H' vs xs → RKs Γ (g'.over g) H' vs xs
  | _, _, .nil => .nil
  | _, _, .cons a r => .cons (RK.over hr st a) (RKs.over hr st r)
end
theorem FR.over {hp : Heap} (hr : HR Γ g hp H) (st : Stp g.bare H g' H') : ∀ {vs : List (Str × Val)} {xs : List (Str × V)}, FR Γ g' H' vs xs → FR Γ (g'.over g) H' vs xs
  | _, _, .nil => .nil
  | _, _, .cons a r => .cons (a.over hr st) (FR.over hr st r)
theorem HR.over {hp hp' : Heap} (hr : HR Γ g hp H) (st : Stp g.bare H g' H') (h : HR Γ g' hp' H') : HR Γ (g'.over g) hp' H' := by
  refine ⟨h.len, h.nd, fun a o e => ?_, fun q hq => ?_, fun q i hq => ?_⟩
  · obtain ⟨q, e1, e2, r⟩ := h.obj a o e
    refine ⟨q, e1, by rw [over_else (fun i z => by obtain ⟨w, _⟩ := bare_kept hr st z; rw [e2] at w; cases w)]; exact e2, ?_⟩
    cases o with
    | lst xs => obtain ⟨ys, e3, r⟩ := r; exact ⟨ys, e3, r.over hr st⟩
    | ins c fs => obtain ⟨dx, fs', e3, r⟩ := r; exact ⟨dx, fs', e3, r.over hr st⟩
  · rw [over_else (fun i z => by obtain ⟨_, ys, w⟩ := bare_kept hr st z; rw [hq] at w; cases w)]; exact h.dom q hq
  · by_cases e : ∃ j, g.ow q = some (.slot j)
    · obtain ⟨j, e⟩ := e
      exact (bare_kept hr st e).2
    · rw [over_else fun j z => e ⟨j, z⟩] at hq
      exact (bare_no (st.ns q i hq)).elim
theorem Stp.over {hp : Heap} (hr : HR Γ g hp H) (st : Stp g.bare H g' H') : Stp g H (g'.over g) H' := by
  refine ⟨⟨st.am, fun p o h w => ?_⟩, fun p o i h w => ?_, fun p o h w => ?_, fun p o h w => ?_, fun p i w => ?_⟩
  · rw [over_else (fun i z => by rw [z] at w; rcases w with w | w <;> cases w)]
    rcases w with w | w
    · obtain ⟨a, b⟩ := st.kept p o h (.inl (bare_none w)); exact ⟨by rw [a, bare_none w, w], b⟩
    · obtain ⟨a, b⟩ := st.kept p o h (.inr (bare_imm w)); exact ⟨by rw [a, bare_imm w, w], b⟩
  · exact ⟨over_slot w, (st.kept p o h (.inl (bare_slot w))).2⟩
  · rw [over_else (fun i z => by rw [z] at w; cases w)]; exact st.obj p o h (bare_obj w)
  · rw [over_else (fun i z => by rw [z] at w; cases w)]; exact st.acc p o h (bare_acc w)
  · by_cases e : ∃ j, g.ow p = some (.slot j)
    · obtain ⟨j, e⟩ := e
      rw [over_slot e] at w
      rw [e, w]
    · rw [over_else fun j z => e ⟨j, z⟩] at w
      exact (bare_no (st.ns p i w)).elim
theorem RV.over {hp : Heap} {v : Val} {x : V} (hr : HR Γ g hp H) (st : Stp g.bare H g' H') (r : RV Γ g' H' v x) (fr : Frs H v x) : RV Γ (g'.over g) H' v x := by
  cases r with
  | kept r => exact .kept (r.over hr st)
  | own h w r =>
    have hn : H _ = none := fr
    exact .own h (by rw [over_else (fun i z => by obtain ⟨ys, e⟩ := hr.sl _ _ z; rw [hn] at e; cases e)]; exact w) (r.over hr st)
  | brw h w r => exact (bare_no (st.ns _ _ w)).elim
end
theorem Post.bare {hp : Heap} {r : R Val} {Q : VK} {W : Nat → Hp → Prop} (hr : HR Γ g hp H) (h : Post Γ g H r Q W) : Post Γ g.bare H r Q W := by
  cases r with
  | ok v hp' => exact fun g' x H' st hr' rv fr => h (g'.over g) x H' (st.over hr) (HR.over hr st hr') (rv.over hr st fr) fr
  | exc c hp' => exact fun g' H' st hr' => h (g'.over g) H' (st.over hr) (HR.over hr st hr')
  | bad => exact h
end

/-! ### truth -/
section
variable {Γ : Sig} {T : Tab} {cf : Nat → List Val → Heap → R Val} {k : Nat} {cs : Cs} {X : Cx} {Wx : WX}
theorem rv_truth {g : Gh} {H : Hp} {hp : Heap} {v : Val} {x : V} {b : Bool} (hr : HR Γ g hp H) (rv : RV Γ g H v x) (e : truth hp v = some b) : TruV X.K x H b := by
  have seq : ∀ {xs : List Val}, seqOf hp v = some xs → b = !xs.isEmpty → TruV X.K x H b := fun {xs} es eb => by
    obtain ⟨p, ys, rfl, hs, rk⟩ := rv.seq (K := X.K) hr es
    have hl := rk.length
    have he : b = !ys.isEmpty := by
      rw [eb]
      cases xs <;> cases ys <;> first | rfl | simp at hl
    rcases hs with hs | hs
    · exact .inl ⟨ys, hs, he⟩
    · exact .inr (.inl ⟨ys, hs, he⟩)
  cases v with
  | non => cases e; rw [rv.non]; rfl
  | bl c => cases e; rw [rv.bl]; rfl
  | int i => cases e; rw [rv.int]; rfl
  | str a =>
    simp only [truth] at e
    split at e
    · rename_i hl
      cases e
      rw [rv.str]
      exact ⟨hl, rfl⟩
    · cases e
  | tup xs => cases e; exact seq rfl rfl
  | lst kd xs => cases e; exact seq rfl rfl
  | ref a =>
    simp only [truth] at e
    split at e
    · rename_i xs hx
      cases e
      exact seq (by simp [seqOf, hx]) rfl
    · cases e
  | _ => cases e
/-- the truth of a value at hand -/
theorem st_truth {g : Gh} {H : Hp} {hp : Heap} {vx : Val} {x : V} {v : Value} {pins : List (Addr × PySem.Obj)} {σ : L2.St} {s : Shared} {Q : Bool → Hp → Prop} {W : Nat → Hp → Prop} (I : Inv X pins σ H s) (hr : HR Γ g hp H) (rv : RV Γ g H vx x) (r : RelV x v)
    (h : PostR Γ (fun _ _ (a b : Bool) => a = b) g H (.of (truth hp vx) hp) Q W) : wpAny (model X.prog X.w) X.A (truthy v) (TP X pins σ Q) X.xe s := by
  cases e : truth hp vx with
  | none => rw [e] at h; exact h.elim
  | some b =>
    rw [e] at h
    exact tru_ok pins s σ H x v Q I r ⟨b, rv_truth hr rv e, PostR.here (v := b) (x := b) h hr rfl⟩
/-- the test of an expression is its value's truth -/
def plT : Expr → Bool
  | .UnaryOp .. => false
  | .BoolOp .. => false
  | .IfExp .. => false
  | .Compare .. => false
  | _ => true
theorem plT_is {e : Expr} (h : plT e = true) (env : Env) (whole : Sem Value) : isTrue e env whole = (do let v ← whole; standAt e.pos; holding [v] (truthy v)) := by
  cases e <;> first | rfl | (cases h; done)
theorem st_plain {e : Expr} {m : E} (he : PE X e (tEv Γ cf Wx m)) (hi : plT e = true) : PT X e (tTst Γ cf Wx m) := by
  refine ⟨fun pins s σ H Q I h => ?_⟩
  obtain ⟨g, ρ, hp, hr, sr, h⟩ := h
  refine isTrue_plain (thn (he.run pins s σ H _ I ⟨g, ρ, hp, hr, sr, PostR.bindV h⟩) fun v s1 ⟨x, H1, I1, r1, g1, hp1, vx, st1, hr1, rv1, fr1, h1⟩ => ?_) (plT_is hi _ _)
  exact st_truth I1 hr1 rv1 r1 h1

/-! ### and so on -/
theorem se_neg {e : Expr} {m : E} {pos : Pos} (he : PE X e (tEv Γ cf Wx m)) : PE X (.UnaryOp .USub e pos) (tEv Γ cf Wx (.neg m)) := by
  refine ⟨fun pins s σ H Q I h => ?_⟩
  obtain ⟨g, ρ, hp, hr, sr, h⟩ := h
  unfold ev at h
  refine UnaryOp_ (thn (he.run pins s σ H _ I ⟨g, ρ, hp, hr, sr, Post.bind h⟩) fun v s1 ⟨x, H1, I1, r1, g1, hp1, vx, st1, hr1, rv1, fr1, h1⟩ => ?_)
  cases vx with
  | int i => exact un_neg pins s1 σ H1 x v Q I1 r1 ⟨i, rv1.int, h1.here hr1 (.kept (.int _)) trivial⟩
  | _ => exact h1.elim
theorem se_not {e : Expr} {m : E} {pos : Pos} (he : PE X e (tEv Γ cf Wx m)) : PE X (.UnaryOp .Not e pos) (tEv Γ cf Wx (.not m)) := by
  refine ⟨fun pins s σ H Q I h => ?_⟩
  obtain ⟨g, ρ, hp, hr, sr, h⟩ := h
  unfold ev at h
  refine UnaryOp_ (thn (he.run pins s σ H _ I ⟨g, ρ, hp, hr, sr, Post.bind h⟩) fun v s1 ⟨x, H1, I1, r1, g1, hp1, vx, st1, hr1, rv1, fr1, h1⟩ => ?_)
  dsimp only at h1
  cases e : truth hp1 vx with
  | none => rw [e] at h1; exact h1.elim
  | some b =>
    rw [e] at h1
    refine not_of (tru_ok pins s1 σ H1 x v (fun c H' => c = b ∧ H' = H1) I1 r1 ⟨b, rv_truth hr1 rv1 e, rfl, rfl⟩ |> fun z => thn z fun c s2 ⟨H2, I2, hc, hH⟩ => ?_)
    subst hc hH
    exact ⟨.bl (!c), H2, I2, rfl, Post.here (v := .bl (!c)) h1 hr1 (.kept (.bl _)) trivial⟩
theorem st_not {e : Expr} {m : E} {pos : Pos} (he : PT X e (tTst Γ cf Wx m)) : PT X (.UnaryOp .Not e pos) (tTst Γ cf Wx (.not m)) := by
  refine ⟨fun pins s σ H Q I h => ?_⟩
  obtain ⟨g, ρ, hp, hr, sr, h⟩ := h
  refine (pt_not he).run pins s σ H Q I ⟨g, ρ, hp, hr, sr, ?_⟩
  unfold ev at h
  cases ee : ev cf m ρ hp with
  | bad => simp only [ee, R.bind] at h; exact h.elim
  | exc c h' => simp only [ee, R.bind] at h ⊢; exact h
  | ok v h' =>
    simp only [ee, R.bind] at h ⊢
    cases et : truth h' v with
    | none => simp only [et, Option.map, R.of] at h; exact h.elim
    | some b =>
      simp only [et, Option.map, R.of] at h ⊢
      have h : PostR Γ (fun _ _ (a b : Bool) => a = b) g H (.ok (!b) h') Q (fun c H' => Wx (.ref (Γ.ca c)) none σ H') := h
      exact fun g' b' H' st hr' eb => h g' (!b') H' st hr' (by rw [eb])
theorem se_ite {c a b : Expr} {mc ma mb : E} {pos : Pos} (hc : PT X c (tTst Γ cf Wx mc)) (ha : PE X a (tEv Γ cf Wx ma)) (hb : PE X b (tEv Γ cf Wx mb)) : PE X (.IfExp c a b pos) (tEv Γ cf Wx (.ite mc ma mb)) := by
  refine ⟨fun pins s σ H Q I h => ?_⟩
  obtain ⟨g, ρ, hp, hr, sr, h⟩ := h
  refine (pe_ifExp hc ha hb).run pins s σ H Q I ⟨g, ρ, hp, hr, sr, ?_⟩
  unfold ev at h
  cases ee : ev cf mc ρ hp with
  | bad => simp only [ee, R.bind] at h; exact h.elim
  | exc c h' => simp only [ee, R.bind] at h ⊢; exact h
  | ok v h' =>
    simp only [ee, R.bind] at h ⊢
    cases et : truth h' v with
    | none => simp only [et] at h; exact h.elim
    | some b =>
      simp only [et, R.of] at h ⊢
      intro g' b' H' st hr' eb
      subst eb
      cases b with
      | true => exact ⟨g', ρ, h', hr', sr.mono st, Post.rebase h st⟩
      | false => exact ⟨g', ρ, h', hr', sr.mono st, Post.rebase h st⟩
theorem st_ite {c a b : Expr} {mc ma mb : E} {pos : Pos} (hc : PT X c (tTst Γ cf Wx mc)) (ha : PT X a (tTst Γ cf Wx ma)) (hb : PT X b (tTst Γ cf Wx mb)) : PT X (.IfExp c a b pos) (tTst Γ cf Wx (.ite mc ma mb)) := by
  refine ⟨fun pins s σ H Q I h => ?_⟩
  obtain ⟨g, ρ, hp, hr, sr, h⟩ := h
  have run : tTst Γ cf Wx mc σ H (fun c H' => if c = true then tTst Γ cf Wx ma σ H' Q else tTst Γ cf Wx mb σ H' Q) := by
    refine ⟨g, ρ, hp, hr, sr, ?_⟩
    unfold ev at h
    cases ee : ev cf mc ρ hp with
    | bad => simp only [ee, R.bind] at h; exact h.elim
    | exc c h' => simp only [ee, R.bind] at h ⊢; exact h
    | ok v h' =>
      simp only [ee, R.bind] at h ⊢
      cases et : truth h' v with
      | none => simp only [et] at h; exact h.elim
      | some b =>
        simp only [et, R.of] at h ⊢
        intro g' b' H' st hr' eb
        subst eb
        cases b with
        | true => exact ⟨g', ρ, h', hr', sr.mono st, PostR.rebase h st⟩
        | false => exact ⟨g', ρ, h', hr', sr.mono st, PostR.rebase h st⟩
  show wpAny _ _ (do if ← isTrue c X.env (eval c X.env) then isTrue a X.env (eval a X.env) else isTrue b X.env (eval b X.env)) _ _ _
  refine wpAny_bind (thn (hc.run pins s σ H _ I run) fun d s1 ⟨H1, I1, q1⟩ => ?_)
  cases d with
  | true => exact ha.run pins s1 σ H1 Q I1 q1
  | false => exact hb.run pins s1 σ H1 Q I1 q1
end
end Mi

set_option Elab.async false
set_option linter.all false
set_option autoImplicit false
/-! Mi11: chains, and/or, argument lists, calls, methods. -/
namespace Mi
open PySem PySem.Spec L2 PyProof.Rows
section
variable {Γ : Sig} {T : Tab} {cf : Nat → List Val → Heap → R Val} {k : Nat} {cs : Cs} {X : Cx} {Wx : WX}

/-! ### chains -/
theorem post_bl {g : Gh} {H : Hp} {hp : Heap} {o : Option Bool} {b : Bool} {W : Nat → Hp → Prop} (e : o = some b) : Post Γ g H (.of (o.map Val.bl) hp) (fun z H3 => ∃ g3, Stp g H g3 H3 ∧ HR Γ g3 hp H3 ∧ z = .bl b) W := by
  subst e
  exact fun g' x H' st hr rv fr => ⟨g', st, hr, rv.bl⟩
theorem se_chn {a b c : Expr} {ma mb mc : E} {o o' : Cop} {op op' : CmpOp} {pos : Pos} (ho : OkO Γ X (compareOp op) (fun x y h => (cop o x y h).map Val.bl)) (ho' : OkO Γ X (compareOp op') (fun x y h => (cop o' x y h).map Val.bl))
    (ha : PE X a (tEv Γ cf Wx ma)) (hb : PE X b (tEv Γ cf Wx mb)) (hc : PE X c (tEv Γ cf Wx mc)) (hm : lastMarks [op, op'] [b, c] = false) :
    PE X (.Compare a [op, op'] [b, c] pos) (tEv Γ cf Wx (.chn o o' ma mb mc)) := by
  refine ⟨fun pins s σ H Q I h => ?_⟩
  obtain ⟨g, ρ, hp, hr, sr, h⟩ := h
  unfold ev at h
  refine Compare_chain (thn (ha.run pins s σ H _ I ⟨g, ρ, hp, hr, sr, Post.bind h⟩) fun v s1 ⟨x, H1, I1, r1, g1, hp1, vx, st1, hr1, rv1, fr1, h1⟩ => ?_) hm
  refine chain_link (thn (hb.run pins s1 σ H1 _ I1 ⟨g1, ρ, hp1, hr1, sr.mono st1, Post.bind h1⟩) fun u s2 ⟨y, H2, I2, r2, g2, hp2, vy, st2, hr2, rv2, fr2, h2⟩ => ?_)
  dsimp only at h2
  cases ec : cop o vx vy hp2 with
  | none => rw [ec] at h2; exact h2.elim
  | some bb =>
    rw [ec] at h2
    refine thn (ho pins s2 σ H2 g2 hp2 x y vx vy v u _ (fun c H' => Wx (.ref (Γ.ca c)) none σ H') I2 hr2 (rv1.mono st2) rv2 r1 r2 (post_bl ec)) fun d s3 ⟨z, H3, I3, r3, g3, st3, hr3, ez⟩ => ?_
    subst ez
    cases r3
    refine wpAny_truthy_bool ?_
    cases bb with
    | false => exact ite_ff ⟨.bl false, H3, I3, rfl, (Post.rebase (r := .ok (.bl false) hp2) h2 st3).here hr3 (.kept (.bl _)) trivial⟩
    | true =>
      refine ite_tt (chain_last (thn (hc.run pins s3 σ H3 _ I3 ⟨g3, ρ, hp2, hr3, ((sr.mono st1).mono st2).mono st3, Post.bind (Post.rebase h2 st3)⟩) fun w' s4 ⟨z', H4, I4, r4, g4, hp4, vz, st4, hr4, rv4, fr4, h4⟩ => ?_))
      exact ho' pins s4 σ H4 g4 hp4 y z' vy vz u w' Q _ I4 hr4 ((rv2.mono st3).mono st4) rv4 r2 r4 h4
theorem st_chn {a b c : Expr} {ma mb mc : E} {o o' : Cop} {op op' : CmpOp} {pos : Pos} (ho : OkO Γ X (compareOp op) (fun x y h => (cop o x y h).map Val.bl)) (ho' : OkO Γ X (compareOp op') (fun x y h => (cop o' x y h).map Val.bl))
    (ha : PE X a (tEv Γ cf Wx ma)) (hb : PE X b (tEv Γ cf Wx mb)) (hc : PE X c (tEv Γ cf Wx mc)) (hm : lastMarks [op, op'] [b, c] = false) :
    PT X (.Compare a [op, op'] [b, c] pos) (tTst Γ cf Wx (.chn o o' ma mb mc)) := by
  refine ⟨fun pins s σ H Q I h => ?_⟩
  obtain ⟨g, ρ, hp, hr, sr, h⟩ := h
  have h : Post Γ g H (ev cf (.chn o o' ma mb mc) ρ hp) (After Γ g H fun v hp1 g1 H1 => PostR Γ (fun _ _ (a b : Bool) => a = b) g1 H1 (.of (truth hp1 v) hp1) Q (fun c H' => Wx (.ref (Γ.ca c)) none σ H')) _ := PostR.bindV h
  unfold ev at h
  refine isTrue_chain (thn (ha.run pins s σ H _ I ⟨g, ρ, hp, hr, sr, Post.bind h⟩) fun v s1 ⟨x, H1, I1, r1, g1, hp1, vx, st1, hr1, rv1, fr1, h1⟩ => ?_) hm
  refine test_link (thn (hb.run pins s1 σ H1 _ I1 ⟨g1, ρ, hp1, hr1, sr.mono st1, Post.bind h1⟩) fun u s2 ⟨y, H2, I2, r2, g2, hp2, vy, st2, hr2, rv2, fr2, h2⟩ => ?_)
  dsimp only at h2
  cases ec : cop o vx vy hp2 with
  | none => rw [ec] at h2; exact h2.elim
  | some bb =>
    rw [ec] at h2
    refine thn (ho pins s2 σ H2 g2 hp2 x y vx vy v u _ (fun c H' => Wx (.ref (Γ.ca c)) none σ H') I2 hr2 (rv1.mono st2) rv2 r1 r2 (post_bl ec)) fun d s3 ⟨z, H3, I3, r3, g3, st3, hr3, ez⟩ => ?_
    subst ez
    cases r3
    refine wpAny_truthy_bool ?_
    cases bb with
    | false =>
      obtain ⟨g4, hp4, v4, st4, hr4, rv4, fr4, h4⟩ := (Post.rebase (r := .ok (.bl false) hp2) h2 st3).here hr3 (.kept (.bl _)) trivial
      have ev : v4 = .bl false := by cases rv4 with | kept r => cases r; rfl
      subst ev
      exact ite_ff ⟨H3, I3, PostR.here (v := false) (x := false) h4 hr4 rfl⟩
    | true =>
      refine ite_tt (test_last (thn (hc.run pins s3 σ H3 _ I3 ⟨g3, ρ, hp2, hr3, ((sr.mono st1).mono st2).mono st3, Post.bind (Post.rebase h2 st3)⟩) fun w' s4 ⟨z', H4, I4, r4, g4, hp4, vz, st4, hr4, rv4, fr4, h4⟩ => ?_))
      refine thn (ho' pins s4 σ H4 g4 hp4 y z' vy vz u w' _ _ I4 hr4 ((rv2.mono st3).mono st4) rv4 r2 r4 h4) fun d' s5 ⟨z2, H5, I5, r5, g5, hp5, v5, st5, hr5, rv5, fr5, h5⟩ => ?_
      exact st_truth I5 hr5 rv5 r5 h5
theorem st_cmp {a b : Expr} {ma mb : E} {o : Cop} {op : CmpOp} {pos : Pos} (ho : OkO Γ X (compareOp op) (fun x y h => (cop o x y h).map Val.bl)) (ha : PE X a (tEv Γ cf Wx ma)) (hb : PE X b (tEv Γ cf Wx mb)) (hm : behindInMarks op b = false) :
    PT X (.Compare a [op] [b] pos) (tTst Γ cf Wx (.cmp o ma mb)) := by
  refine ⟨fun pins s σ H Q I h => ?_⟩
  obtain ⟨g, ρ, hp, hr, sr, h⟩ := h
  have h : Post Γ g H (ev cf (.cmp o ma mb) ρ hp) (After Γ g H fun v hp1 g1 H1 => PostR Γ (fun _ _ (a b : Bool) => a = b) g1 H1 (.of (truth hp1 v) hp1) Q (fun c H' => Wx (.ref (Γ.ca c)) none σ H')) _ := PostR.bindV h
  unfold ev at h
  refine wpAny_isTrue_Compare1 (thn (ha.run pins s σ H _ I ⟨g, ρ, hp, hr, sr, Post.bind h⟩) fun v s1 ⟨x, H1, I1, r1, g1, hp1, vx, st1, hr1, rv1, fr1, h1⟩ => ?_) hm
  refine thn (hb.run pins s1 σ H1 _ I1 ⟨g1, ρ, hp1, hr1, sr.mono st1, Post.bind h1⟩) fun u s2 ⟨y, H2, I2, r2, g2, hp2, vy, st2, hr2, rv2, fr2, h2⟩ => ?_
  refine thn (ho pins s2 σ H2 g2 hp2 x y vx vy v u _ _ I2 hr2 (rv1.mono st2) rv2 r1 r2 h2) fun d' s5 ⟨z2, H5, I5, r5, g5, hp5, v5, st5, hr5, rv5, fr5, h5⟩ => ?_
  exact st_truth I5 hr5 rv5 r5 h5

/-! ### and, or -/
theorem Post.bind0 {g : Gh} {H : Hp} {W : Nat → Hp → Prop} {r : R Val} {k : Val → Heap → R Val} {Q : VK} (h : Post Γ g H (r.bind k) Q W) :
    Post Γ g H r (After Γ g H fun v hp1 g1 H1 => Post Γ g H (k v hp1) Q W) W := by
  cases r with
  | ok v hp => exact fun g' x H' s hr rv fr => ⟨g', hp, v, s, hr, rv, fr, h⟩
  | exc c hp => exact h
  | bad => exact h
def bOp : Bool → BoolOp
  | true => .And
  | false => .Or
theorem se_bo1 {e : Expr} {m : E} {b : Bool} {op : BoolOp} {pos : Pos} (he : PE X e (tEv Γ cf Wx m)) : PE X (.BoolOp op [e] pos) (tEv Γ cf Wx (.bo b (.cons m .nil))) := by
  refine ⟨fun pins s σ H Q I h => (pe_one he).run pins s σ H Q I ?_⟩
  obtain ⟨g, ρ, hp, hr, sr, h⟩ := h
  refine ⟨g, ρ, hp, hr, sr, ?_⟩
  unfold ev evBo at h
  cases ee : ev cf m ρ hp <;> (simp only [ee, R.bind] at h; exact h)
theorem se_bo {e f : Expr} {fs : List Expr} {m m2 : E} {ms : Es} {b : Bool} {pos : Pos} (he : PE X e (tEv Γ cf Wx m)) (hr' : PE X (.BoolOp (bOp b) (f :: fs) pos) (tEv Γ cf Wx (.bo b (.cons m2 ms)))) :
    PE X (.BoolOp (bOp b) (e :: f :: fs) pos) (tEv Γ cf Wx (.bo b (.cons m (.cons m2 ms)))) := by
  refine ⟨fun pins s σ H Q I h => ?_⟩
  obtain ⟨g, ρ, hp, hr, sr, h⟩ := h
  unfold ev evBo at h
  have key := he.run pins s σ H _ I ⟨g, ρ, hp, hr, sr, Post.bind0 h⟩
  have fin : ∀ (v : Value) (s1 : Shared), EP X pins σ (After Γ g H fun v hp1 g1 H1 => Post Γ g H (match truth hp1 v with
      | none => R.bad
      | some b_1 => if (b_1 == b) = true then evBo cf b (.cons m2 ms) ρ hp1 else R.ok v hp1) Q fun c H' => Wx (.ref (Γ.ca c)) none σ H') v s1 →
      wpAny (model X.prog X.w) X.A (truthy v) (fun c s2 => if (c == b) = true then wpAny (model X.prog X.w) X.A (eval (.BoolOp (bOp b) (f :: fs) pos) X.env) (EP X pins σ Q) X.xe s2 else EP X pins σ Q v s2) X.xe s1 := by
    rintro v s1 ⟨x, H1, I1, r1, g1, hp1, vx, st1, hr1, rv1, fr1, h1⟩
    cases et : truth hp1 vx with
    | none => rw [et] at h1; exact h1.elim
    | some c =>
      rw [et] at h1
      refine thn (tru_ok pins s1 σ H1 x v (fun c' H' => c' = c ∧ H' = H1) I1 r1 ⟨c, rv_truth hr1 rv1 et, rfl, rfl⟩) fun c' s2 ⟨H2, I2, hc, hH⟩ => ?_
      subst hc hH
      dsimp only at h1
      by_cases e : (c' == b) = true
      · rw [if_pos e] at h1 ⊢
        exact hr'.run pins s2 σ H2 Q I2 ⟨g1, ρ, hp1, hr1, sr.mono st1, by unfold ev; exact Post.rebase h1 st1⟩
      · rw [if_neg e] at h1 ⊢
        exact ⟨x, H2, I2, r1, h1 g1 x H2 st1 hr1 rv1 fr1⟩
  cases b with
  | true =>
    refine BoolOp_and (thn key fun v s1 hh => thn (fin v s1 hh) fun c s2 hc => ?_)
    cases c <;> exact hc
  | false =>
    refine BoolOp_or (thn key fun v s1 hh => thn (fin v s1 hh) fun c s2 hc => ?_)
    cases c <;> exact hc
theorem sw_bo1 {e : Expr} {m : E} {b : Bool} {pos : Pos} (he : PT X e (tTst Γ cf Wx m)) : PW X (.BoolOp (bOp b) [e] pos) (tTst Γ cf Wx (.bo b (.cons m .nil))) := by
  have conv : ∀ {σ H Q}, tTst Γ cf Wx (.bo b (.cons m .nil)) σ H Q → tTst Γ cf Wx m σ H Q := fun {σ H Q} h => by
    obtain ⟨g, ρ, hp, hr, sr, h⟩ := h
    refine ⟨g, ρ, hp, hr, sr, ?_⟩
    unfold ev evBo at h
    cases ee : ev cf m ρ hp <;> (simp only [ee, R.bind] at h; exact h)
  cases b with
  | true => exact ⟨fun wh pins s σ H Q I h => (pw_and1 he).run wh pins s σ H Q I (conv h)⟩
  | false => exact ⟨fun wh pins s σ H Q I h => (pw_or1 he).run wh pins s σ H Q I (conv h)⟩
theorem sw_bo {e f : Expr} {fs : List Expr} {m m2 : E} {ms : Es} {b : Bool} {pos : Pos} (he : PT X e (tTst Γ cf Wx m)) (hr' : PW X (.BoolOp (bOp b) (f :: fs) pos) (tTst Γ cf Wx (.bo b (.cons m2 ms)))) :
    PW X (.BoolOp (bOp b) (e :: f :: fs) pos) (tTst Γ cf Wx (.bo b (.cons m (.cons m2 ms)))) := by
  have conv : ∀ {σ H Q}, tTst Γ cf Wx (.bo b (.cons m (.cons m2 ms))) σ H Q → tTst Γ cf Wx m σ H (fun c H1 => if (c == b) = true then tTst Γ cf Wx (.bo b (.cons m2 ms)) σ H1 Q else Q c H1) := fun {σ H Q} h => by
    obtain ⟨g, ρ, hp, hr, sr, h⟩ := h
    refine ⟨g, ρ, hp, hr, sr, ?_⟩
    unfold ev evBo at h
    cases ee : ev cf m ρ hp with
    | bad => simp only [ee, R.bind] at h; exact h.elim
    | exc c h' => simp only [ee, R.bind] at h ⊢; exact h
    | ok v h' =>
      simp only [ee, R.bind] at h ⊢
      cases et : truth h' v with
      | none => simp only [et] at h; exact h.elim
      | some c =>
        simp only [et, R.of] at h ⊢
        intro g' c' H' st hr' eb
        subst eb
        by_cases e : (c == b) = true
        · rw [if_pos e] at h ⊢
          exact ⟨g', ρ, h', hr', sr.mono st, by unfold ev; exact PostR.rebase h st⟩
        · rw [if_neg e] at h ⊢
          simp only [et, R.of] at h
          exact h g' c H' st hr' rfl
  cases b with
  | true =>
    refine ⟨fun wh pins s σ H Q I h => (pw_and he hr').run wh pins s σ H Q I ?_⟩
    have := conv h
    obtain ⟨g, ρ, hp, hr, sr, z⟩ := this
    refine ⟨g, ρ, hp, hr, sr, PostR.mono z fun c H1 q => ?_⟩
    cases c <;> exact q
  | false =>
    refine ⟨fun wh pins s σ H Q I h => (pw_or he hr').run wh pins s σ H Q I ?_⟩
    have := conv h
    obtain ⟨g, ρ, hp, hr, sr, z⟩ := this
    refine ⟨g, ρ, hp, hr, sr, PostR.mono z fun c H1 q => ?_⟩
    cases c <;> exact q

/-! ### argument lists, displays -/
theorem sa_nil : PA X [] (tEvs Γ cf Wx .nil) := by
  refine ⟨fun pos pins s σ H Q I h => pa_nil.run pos pins s σ H Q I ?_⟩
  obtain ⟨g, ρ, hp, hr, sr, h⟩ := h
  exact PostR.here (v := []) (x := []) h hr .nil
theorem sa_cons {e : Expr} {es : List Expr} {m : E} {ms : Es} (he : PE X e (tEv Γ cf Wx m)) (hes : PA X es (tEvs Γ cf Wx ms)) (hs : starEach (e :: es) X.env = (false, eval e X.env) :: starEach es X.env) : PA X (e :: es) (tEvs Γ cf Wx (.cons m ms)) := by
  refine ⟨fun pos pins s σ H Q I h => (pa_cons he hes hs).run pos pins s σ H Q I ?_⟩
  obtain ⟨g, ρ, hp, hr, sr, h⟩ := h
  refine ⟨g, ρ, hp, hr, sr, ?_⟩
  unfold evs at h
  cases ee : ev cf m ρ hp with
  | bad => simp only [ee, R.bind] at h; exact h.elim
  | exc c h' => simp only [ee, R.bind] at h; exact h
  | ok v h' =>
    simp only [ee, R.bind] at h
    intro g1 x H1 st1 hr1 rv1 fr1
    cases ef : fz v with
    | none => rw [ef] at h; exact h.elim
    | some w =>
      rw [ef] at h
      obtain ⟨g2, am2, rk2, hr2, st2, ow2, rks2, sr2, rkk2⟩ := rv1.fz ef fr1 hr1 st1
      refine ⟨g2, ρ, h', hr2, sr2 (sr.mono st1), ?_⟩
      cases er : evs cf ms ρ h' with
      | bad => simp only [er] at h; exact h.elim
      | exc c h2 => simp only [er] at h; exact fun g' H' st hr' => h g' H' (st2.trans st) hr'
      | ok ws h2 =>
        simp only [er] at h
        exact fun g3 ys H3 st3 hr3 rks3 => h g3 (x :: ys) H3 (st2.trans st3) hr3 (.cons (rk2.mono st3.toKeep) rks3)
theorem se_tup {es : List Expr} {ms : Es} {x1 : Nat} {pos : Pos} (h : PA X es (tEvs Γ cf Wx ms)) : PE X (.Tuple es x1 pos) (tEv Γ cf Wx (.tup ms)) := by
  refine ⟨fun pins s σ H Q I hq => (pe_tup h).run pins s σ H Q I ?_⟩
  obtain ⟨g, ρ, hp, hr, sr, hq⟩ := hq
  unfold ev at hq
  refine ⟨g, ρ, hp, hr, sr, PostR.mono (Post.bindR hq) fun xs H1 ⟨g1, hp1, vs, st1, hr1, rks, h1⟩ => ?_⟩
  dsimp only at h1
  by_cases hf : fits vs.length = true
  · rw [if_pos hf] at h1
    exact ⟨by rw [← rks.length]; exact of_decide_eq_true hf, fun p hn => h1.new hr1 hn (rkTup hr1 hn rks)⟩
  · rw [if_neg hf] at h1; exact h1.elim
theorem se_lst {es : List Expr} {ms : Es} {pos : Pos} (h : PA X es (tEvs Γ cf Wx ms)) : PE X (.List es pos) (tEv Γ cf Wx (.lst ms)) := by
  refine ⟨fun pins s σ H Q I hq => (pe_lst h).run pins s σ H Q I ?_⟩
  obtain ⟨g, ρ, hp, hr, sr, hq⟩ := hq
  unfold ev at hq
  refine ⟨g, ρ, hp, hr, sr, PostR.mono (Post.bindR hq) fun xs H1 ⟨g1, hp1, vs, st1, hr1, rks, h1⟩ => ?_⟩
  dsimp only at h1
  by_cases hf : fits vs.length = true
  · rw [if_pos hf] at h1
    exact ⟨by rw [← rks.length]; exact of_decide_eq_true hf, fun p hn => h1.new hr1 hn (rvOwn hr1 hn rks)⟩
  · rw [if_neg hf] at h1; exact h1.elim

/-! ### subscripts -/
theorem se_idx {a b : Expr} {ma mb : E} {pos : Pos} (ha : PE X a (tEv Γ cf Wx ma)) (hb : PE X b (tEv Γ cf Wx mb)) (hs : PlainIx b) : PE X (.Subscript a b pos) (tEv Γ cf Wx (.idx ma mb)) := by
  refine ⟨fun pins s σ H Q I h => (pe_ix (r := rIx X.K) ix_seq ha hb hs).run pins s σ H Q I ?_⟩
  obtain ⟨g, ρ, hp, hr, sr, h⟩ := h
  unfold ev at h
  refine ⟨g, ρ, hp, hr, sr, Post.mono (Post.bind h) fun x H1 ⟨g1, hp1, vx, st1, hr1, rv1, fr1, h1⟩ => ?_⟩
  refine ⟨g1, ρ, hp1, hr1, sr.mono st1, Post.mono (Post.bind h1) fun y H2 ⟨g2, hp2, vy, st2, hr2, rv2, fr2, h2⟩ => ?_⟩
  exact ok_idx (pins := pins) (s := s) (σ := σ) hr2 (rv1.mono st2) rv2 h2
def tOe (Γ : Sig) (cf : Nat → List Val → Heap → R Val) (Wx : WX) (m : Oe) : TO := fun σ H Q => ∃ g ρ hp, HR Γ g hp H ∧ SR Γ g H ρ σ ∧ PostR Γ (fun _ _ (a b : Option Int) => a = b) g H (evo cf m ρ hp) Q (fun c H' => Wx (.ref (Γ.ca c)) none σ H')
theorem so_no : PO X none (tOe Γ cf Wx .no) := by
  refine ⟨fun pins s σ H Q I h => po_none.run pins s σ H Q I ?_⟩
  obtain ⟨g, ρ, hp, hr, sr, h⟩ := h
  exact PostR.here (v := none) (x := none) h hr rfl
theorem so_so {e : Expr} {m : E} (he : PE X e (tEv Γ cf Wx m)) : PO X (some e) (tOe Γ cf Wx (.so m)) := by
  refine ⟨fun pins s σ H Q I h => (po_some he).run pins s σ H Q I ?_⟩
  obtain ⟨g, ρ, hp, hr, sr, h⟩ := h
  unfold evo at h
  refine ⟨g, ρ, hp, hr, sr, Post.mono (PostR.bindV h) fun x H1 ⟨g1, hp1, vx, st1, hr1, rv1, fr1, h1⟩ => ?_⟩
  cases vx with
  | int i => exact ⟨i, rv1.int, PostR.here (v := some i) (x := some i) h1 hr1 rfl⟩
  | _ => exact h1.elim
theorem se_slc {a : Expr} {lo hi : Option Expr} {ma : E} {ml mh : Oe} {pos p2 : Pos} (ha : PE X a (tEv Γ cf Wx ma)) (hl : PO X lo (tOe Γ cf Wx ml)) (hu : PO X hi (tOe Γ cf Wx mh)) : PE X (.Subscript a (.Slice lo hi none p2) pos) (tEv Γ cf Wx (.slc ma ml mh)) := by
  refine ⟨fun pins s σ H Q I h => (pe_slice ((sl_list.or sl_tupA).or sl_str) ha hl hu).run pins s σ H Q I ?_⟩
  obtain ⟨g, ρ, hp, hr, sr, h⟩ := h
  unfold ev at h
  refine ⟨g, ρ, hp, hr, sr, Post.mono (Post.bind h) fun x H1 ⟨g1, hp1, vx, st1, hr1, rv1, fr1, h1⟩ => ?_⟩
  refine ⟨g1, ρ, hp1, hr1, sr.mono st1, PostR.mono (Post.bindR h1) fun l H2 ⟨g2, hp2, vl, st2, hr2, el, h2⟩ => ?_⟩
  refine ⟨g2, ρ, hp2, hr2, (sr.mono st1).mono st2, PostR.mono (Post.bindR h2) fun u H3 ⟨g3, hp3, vu, st3, hr3, eu, h3⟩ => ?_⟩
  subst el eu
  exact ok_slc hr3 ((rv1.mono st2).mono st3) h3

/-! ### calls of built-ins -/
def rC1 (Γ : Sig) (op : Val → Heap → Option Val) : List V → Hp → VK → Prop := fun vs H Q => ∃ x g hp vx W, vs = [x] ∧ HR Γ g hp H ∧ RV Γ g H vx x ∧ Post Γ g H (.of (op vx hp) hp) Q W
theorem OkC1.call {f : Value} {op : Val → Heap → Option Val} (h : OkC1 Γ X f op) : CallR X f (rC1 Γ op) := by
  intro pins s σ H vs us Q I r q
  obtain ⟨x, g, hp, vx, W, rfl, hr, rv, q⟩ := q
  cases r with
  | cons r rr => cases rr; exact h pins s σ H g hp x vx _ Q W I hr rv r q
theorem t_C1 {e : E} {p : P1} {σ : L2.St} {H : Hp} {Q : VK} (h : tEv Γ cf Wx (.p1 p e) σ H Q) : tCB (rC1 Γ (p1V p)) (tCons (tEv Γ cf Wx e) tNil) σ H Q := by
  obtain ⟨g, ρ, hp, hr, sr, h⟩ := h
  unfold ev at h
  exact ⟨g, ρ, hp, hr, sr, Post.mono (Post.bind h) fun x H1 ⟨g1, hp1, vx, st1, hr1, rv1, fr1, h1⟩ => ⟨x, g1, hp1, vx, _, rfl, hr1, rv1, h1⟩⟩
theorem se_p1b {e : Expr} {m : E} {p : P1} {id : String} {x : Str} {pp pos : Pos} (hc : OkC1 Γ X (.builtin id) (p1V p)) (hg : Gl X x) (ho : okName x = true) (hm : X.mg x = none) (hv : bootBuiltins x = some (.builtin id)) (he : PE X e (tEv Γ cf Wx m)) (hs : starEach [e] X.env = (false, eval e X.env) :: starEach [] X.env) :
    PE X (.Call (.Name x pp) [e] [] pos) (tEv Γ cf Wx (.p1 p m)) :=
  ⟨fun pins s σ H Q I h => (pe_callB hc.call hg hm hv (pa_cons he pa_nil hs) (okName.c ho) (okName.a ho) hs rfl).run pins s σ H Q I (t_C1 h)⟩
theorem se_p1t {e : Expr} {m : E} {p : P1} {T : String} {x : Str} {pp pos : Pos} (hc : OkC1 Γ X (.type T) (p1V p)) (hg : Gl X x) (ho : okName x = true) (hm : X.mg x = none) (hv : bootBuiltins x = some (.type T)) (he : PE X e (tEv Γ cf Wx m)) (hs : starEach [e] X.env = (false, eval e X.env) :: starEach [] X.env) :
    PE X (.Call (.Name x pp) [e] [] pos) (tEv Γ cf Wx (.p1 p m)) :=
  ⟨fun pins s σ H Q I h => (pe_callTy hc.call hg hm hv (pa_cons he pa_nil hs) (okName.c ho) (okName.a ho) hs rfl).run pins s σ H Q I (t_C1 h)⟩
def rC2 (Γ : Sig) (op : Val → Val → Option Val) : List V → Hp → VK → Prop := fun vs H Q => ∃ x y g hp vx vy W, vs = [x, y] ∧ HR Γ g hp H ∧ RV Γ g H vx x ∧ RV Γ g H vy y ∧ Post Γ g H (.of (op vx vy) hp) Q W
theorem OkC2.call {f : Value} {op : Val → Val → Option Val} (h : OkC2 Γ X f op) : CallR X f (rC2 Γ op) := by
  intro pins s σ H vs us Q I r q
  obtain ⟨x, y, g, hp, vx, vy, W, rfl, hr, rv, rv2, q⟩ := q
  cases r with
  | cons r rr => cases rr with
    | cons r2 rr => cases rr; exact h pins s σ H g hp x y vx vy _ _ Q W I hr rv rv2 r r2 q
theorem se_p2b {e f : Expr} {m m2 : E} {p : P2} {id : String} {x : Str} {pp pos : Pos} (hc : OkC2 Γ X (.builtin id) (p2V p)) (hg : Gl X x) (ho : okName x = true) (hm : X.mg x = none) (hv : bootBuiltins x = some (.builtin id)) (he : PE X e (tEv Γ cf Wx m)) (hf : PE X f (tEv Γ cf Wx m2))
    (hs : starEach [e, f] X.env = (false, eval e X.env) :: starEach [f] X.env) (hs2 : starEach [f] X.env = (false, eval f X.env) :: starEach [] X.env) :
    PE X (.Call (.Name x pp) [e, f] [] pos) (tEv Γ cf Wx (.p2 p m m2)) := by
  refine ⟨fun pins s σ H Q I h => (pe_callB hc.call hg hm hv (pa_cons he (pa_cons hf pa_nil hs2) hs) (okName.c ho) (okName.a ho) hs (by rw [hs2]; rfl)).run pins s σ H Q I ?_⟩
  obtain ⟨g, ρ, hp, hr, sr, h⟩ := h
  unfold ev at h
  refine ⟨g, ρ, hp, hr, sr, Post.mono (Post.bind h) fun x H1 ⟨g1, hp1, vx, st1, hr1, rv1, fr1, h1⟩ => ?_⟩
  exact ⟨g1, ρ, hp1, hr1, sr.mono st1, Post.mono (Post.bind h1) fun y H2 ⟨g2, hp2, vy, st2, hr2, rv2, fr2, h2⟩ => ⟨x, y, g2, hp2, vx, vy, _, rfl, hr2, rv1.mono st2, rv2, h2⟩⟩

/-! ### methods of lists -/
theorem se_m1l {o e : Expr} {m m2 : E} {p : M1} {id : String} {name : Str} {apos cpos : Pos} (slot : Slot "list" name id) (hty : typeOf (.builtin id) = pure (.type "method_descriptor")) (hop : OkM1 Γ X "list" id (fun x y => match x with | .lst _ _ => m1V p x y | _ => none)) (hb : ∀ v, m1T p v = true → ∃ k xs, v = .lst k xs)
    (ho : PE X o (tEv Γ cf Wx m)) (he : PE X e (tEv Γ cf Wx m2)) (hbase : attributeBase o name X.env (eval o X.env) = eval o X.env) (hline : (apos.endLine == cpos.line) = true) (hs : starEach [e] X.env = (false, eval e X.env) :: starEach [] X.env) :
    PE X (.Call (.Attribute o name apos) [e] [] cpos) (tEv Γ cf Wx (.m1 p m m2)) := by
  refine ⟨fun pins s σ H Q I h => ?_⟩
  obtain ⟨g, ρ, hp, hr, sr, h⟩ := h
  unfold ev at h
  refine wpAny_Call_method_late hbase (by rw [hs]; rfl) hline rfl (thn (ho.run pins s σ H _ I ⟨g, ρ, hp, hr, sr, Post.bind h⟩) fun v s1 ⟨x, H1, I1, r1, g1, hp1, vx, st1, hr1, rv1, fr1, h1⟩ => ?_)
  dsimp only at h1
  by_cases hm : m1T p vx = true
  · rw [if_pos hm] at h1
    obtain ⟨kd, xs, rfl⟩ := hb vx hm
    obtain ⟨a, ys, rfl, hq, rk⟩ := rv1.lst (K := X.K)
    obtain ⟨t1, t2⟩ := tyV_is (T := "list") I1 r1 (.inl ⟨rfl, ys, hq⟩)
    refine ⟨"list", id, PySem.F.plainAttrs_list, slot, hty, t1, t2, ?_⟩
    have hA := (pa_cons he pa_nil hs).run cpos pins s1 σ H1 (fun vs H2 => ∃ y, vs = [y] ∧ After Γ g1 H1 (fun w hp2 g2 H2 => Post Γ g2 H2 (.of (m1V p (.lst kd xs) w) hp2) Q (fun c H' => Wx (.ref (Γ.ca c)) none σ H')) y H2) I1
      ⟨g1, ρ, hp1, hr1, sr.mono st1, Post.mono (Post.bind h1) fun y H2 q => ⟨y, rfl, q⟩⟩
    rw [hs] at hA ⊢
    refine Calls.callWith_builtin rfl (Calls.evalArgs_plain ?_)
    refine thn hA fun us s2 ⟨vs, H2, I2, r2, y, ev, g2, hp2, vy, st2, hr2, rv2, fr2, h2⟩ => ?_
    subst ev
    cases r2 with
    | cons r2 rr => cases rr; exact hop pins s2 σ H2 g2 hp2 _ y (.lst kd xs) vy v _ Q _ I2 hr2 (rv1.mono st2) rv2 r1 r2 h2
  · rw [if_neg hm] at h1; exact h1.elim

/-! ### calls of defs -/
theorem se_call {fx : Expr} {es : List Expr} {mf : E} {ms : Es} {pos : Pos} (ok : XOk Γ T cf k cs X) (tk : Takes X Wx) (hf : PE X fx (tEv Γ cf Wx mf)) (ha : PA X es (tEvs Γ cf Wx ms))
    (hn : es = [] → ms = .nil) (he : ∀ e r, es = e :: r → starEach (e :: r) X.env = (false, eval e X.env) :: starEach r X.env ∧ (backTo pos (starEach r X.env)).any (·.1) = false)
    (hC : ∀ (Q : Value → Shared → Prop) (E : Value → Shared → Prop) (s : Shared), wpAny (model X.prog X.w) X.A (eval fx X.env) (fun f s1 => wpAny (model X.prog X.w) X.A (callWith pos f [] (backTo pos (starEach es X.env)) []) Q E s1) E s → wpAny (model X.prog X.w) X.A (eval (.Call fx es [] pos) X.env) Q E s) :
    PE X (.Call fx es [] pos) (tEv Γ cf Wx (.call mf ms)) := by
  refine ⟨fun pins s σ H Q I h => ?_⟩
  obtain ⟨g, ρ, hp, hr, sr, h⟩ := h
  unfold ev at h
  refine hC _ _ _ (thn (hf.run pins s σ H _ I ⟨g, ρ, hp, hr, sr, Post.bind h⟩) fun v s1 ⟨x, H1, I1, r1, g1, hp1, vx, st1, hr1, rv1, fr1, h1⟩ => ?_)
  cases vx with
  | fn f =>
    have ex : x = .ref (Γ.fa f) := by cases rv1 with | kept r => cases r; rfl
    subst ex
    cases r1
    dsimp only at h1
    have fin : ∀ (us : List Value) (s2 : Shared), AP X pins σ (AfterR Γ (RKs Γ) g1 H1 fun xs hp2 g2 H2 => Post Γ g2 H2 (cf f xs hp2) Q (fun c H' => Wx (.ref (Γ.ca c)) none σ H')) us s2 → wpAny (model X.prog X.w) X.A (call (.ref (Γ.fa f)) us) (EP X pins σ Q) X.xe s2 := by
      rintro us s2 ⟨vs, H2, I2, r2, g2, hp2, xs, st2, hr2, rks2, h2⟩
      have hne : cf f xs hp2 ≠ .bad := fun z => by rw [z] at h2; exact h2.elim
      obtain ⟨fd, ps, F, hb⟩ := (ok.lw.call f xs hp2 hne).ex
      exact run_fnS (E := WE Wx) F ok.room hb (passAt tk σ) I2 r2 ⟨g2.bare, hp2, xs, hr2.bare, fun p i => bare_no, rks2.bare, h2.bare hr2⟩
    cases es with
    | nil =>
      rw [hn rfl] at h1
      unfold evs at h1
      exact PySem.W.callWith_K0 I1.kIn (ok.lw.kf f) (fin [] s1 ⟨[], H1, I1, .nil, g1, hp1, [], Stp.refl, hr1, .nil, h1⟩)
    | cons e r =>
      obtain ⟨he1, he2⟩ := he e r rfl
      refine PySem.W.callWith_K (h₀ := X.base) I1.ok.mod.kin (ok.lw.kf f) (thn (ha.run pos pins s1 σ H1 _ I1 ⟨g1, ρ, hp1, hr1, sr.mono st1, Post.bindR h1⟩) fun us s2 hh => ?_) he1 he2
      refine ⟨?_, fin us s2 hh⟩
      obtain ⟨vs, H2, I2, _⟩ := hh
      exact I2.kIn
  | _ => exact h1.elim
end
end Mi

set_option Elab.async false
set_option linter.all false
set_option autoImplicit false
/-! Mi12: the checker of expressions, its soundness. -/
namespace Mi
open PySem PySem.Spec L2 PyProof.Rows

/-! ### the checker -/
def pln : Expr → Bool
  | .Starred .. => false
  | .Slice .. => false
  | .Set .. => false
  | _ => true
def noCall : Expr → Bool
  | .Call .. => false
  | _ => true
def isTupE : Expr → Bool
  | .Tuple .. => true
  | _ => false
def isFnE : Expr → Bool
  | .Name .. => true
  | .Subscript .. => true
  | _ => false
def mBop : Bop → Operator → Bool
  | .add, .Add => true
  | .sub, .Sub => true
  | .mul, .Mult => true
  | .fdiv, .FloorDiv => true
  | .mod, .Mod => true
  | .pow, .Pow => true
  | _, _ => false
def mCop : Cop → CmpOp → Bool
  | .eq, .Eq => true
  | .ne, .NotEq => true
  | .lt, .Lt => true
  | .le, .LtE => true
  | .gt, .Gt => true
  | .ge, .GtE => true
  | .is, .Is => true
  | .isnot, .IsNot => true
  | .in, .In => true
  | .notin, .NotIn => true
  | _, _ => false
def p1N : P1 → Option String
  | .len => some "len"
  | .abs => some "abs"
  | .all => some "all"
  | .any => some "any"
  | .sum => some "sum"
  | .max => some "max"
  | .min => some "min"
  | .list => some "list"
  | .tuple => some "tuple"
  | .int => some "int"
  | _ => none
def p2N : P2 → String
  | .isin => "isinstance"
  | .min => "min"
def m1N : M1 → Option String
  | .index => some "index"
  | .count => some "count"
  | _ => none
def tyNames : List String := ["int", "bool", "tuple", "str", "ValueError"]
def isNm (x : Str) (o : Option String) : Bool := match o with
  | some s => decide (x = Str.ofString s)
  | none => false
def ownOf (N : List Str) (l : List Nat) : List (Str × Nat) := l.map fun i => (N.getD i default, i)
def Cs.blk (cs : Cs) (scope : Scope) : Cs := ⟨cs.N, relS scope cs.sc, fun x => scope.names.lookup x == some .cell, false⟩
section
variable (T : Tab)
mutual
def mE (cs : Cs) : E → Expr → Bool
  | .int i, e => match e with | .Constant (.int j) _ _ => decide (i = j) | _ => false
  | .bl b, e => match e with | .Constant (.bool c) _ _ => decide (b = c) | _ => false
  | .non, e => match e with | .Constant .none _ _ => true | _ => false
  | .str x, e => match e with | .Constant (.str y) _ _ => decide (x = y) | _ => false
  | .var i, e => match e with | .Name x _ => cs.vis i x | _ => false
  | .fn f, e => match e with | .Name x _ => cs.gl x && decide (T.gn x = some (.fn f)) | _ => false
  | .cls c, e => match e with | .Name x _ => cs.gl x && decide (T.gn x = some (.cls c)) | _ => false
  | .ty t, e => match e with | .Name x _ => cs.gl x && (tyNames.contains t && decide (x = Str.ofString t)) | _ => false
  | .bin o a b, e => match e with | .BinOp l op r _ => mBop o op && (mE cs a l && mE cs b r) | _ => false
  | .neg a, e => match e with | .UnaryOp .USub x _ => mE cs a x | _ => false
  | .cmp o a b, e => match e with | .Compare l [op] [r] _ => mCop o op && (mE cs a l && mE cs b r) | _ => false
  | .chn o p a b c, e => match e with | .Compare l [op, op'] [r, r'] _ => (mCop o op && mCop p op') && (mE cs a l && (mE cs b r && mE cs c r')) | _ => false
  | .not a, e => match e with | .UnaryOp .Not x _ => mE cs a x | _ => false
  | .bo k es, e => match e with
    | .BoolOp .And xs _ => k && (!xs.isEmpty && mEs cs es xs)
    | .BoolOp .Or xs _ => !k && (!xs.isEmpty && mEs cs es xs)
    | _ => false
  | .ite c a b, e => match e with | .IfExp t x y _ => mE cs c t && (mE cs a x && mE cs b y) | _ => false
  | .tup es, e => match e with | .Tuple xs _ _ => mEs cs es xs | _ => false
  | .lst es, e => match e with | .List xs _ => mEs cs es xs | _ => false
  | .idx a i, e => match e with | .Subscript x y _ => mE cs a x && mE cs i y | _ => false
  | .slc a lo hi, e => match e with | .Subscript x (.Slice l u none _) _ => mE cs a x && (mO cs lo l && mO cs hi u) | _ => false
  | .call f es, e => match e with | .Call fx xs [] _ => isFnE fx && (mE cs f fx && mEs cs es xs) | _ => false
  | .p1 p a, e => match e with | .Call (.Name x _) [y] [] _ => (isNm x (p1N p) && cs.gl x) && mE cs a y | _ => false
  | .p2 p a b, e => match e with | .Call (.Name x _) [y, z] [] _ => (decide (x = Str.ofString (p2N p)) && cs.gl x) && (mE cs a y && mE cs b z) | _ => false
  | .m1 m a b, e => match e with | .Call (.Attribute o x ap) [y] [] cp => (isNm x (m1N m) && (noCall o && (ap.endLine == cp.line))) && (mE cs a o && mE cs b y) | _ => false
  | .comp t it c e', e => match e with
    | .ListComp elt [⟨tg, iter, ifs, 0⟩] scope _ => (blkC cs.N cs.sc scope (ownOf cs.N t.slots) && mT (cs.blk scope) t tg) && (mIt cs it tg iter && (mC (cs.blk scope) c ifs && mE (cs.blk scope) e' elt))
    | _ => false
  | .comp2 t it u jt c e', e => match e with
    | .ListComp elt [⟨tg, iter, [], 0⟩, ⟨tg2, iter2, ifs, 0⟩] scope _ => (blkC cs.N cs.sc scope (ownOf cs.N (t.slots ++ u.slots)) && (mT (cs.blk scope) t tg && mT (cs.blk scope) u tg2)) && ((mIt cs it tg iter && mIt (cs.blk scope) jt tg2 iter2) && (mC (cs.blk scope) c ifs && mE (cs.blk scope) e' elt))
    | _ => false
def mEs (cs : Cs) : Es → List Expr → Bool
  | .nil, xs => match xs with | [] => true | _ :: _ => false
  | .cons e es, xs => match xs with | x :: xs => mE cs e x && mEs cs es xs | [] => false
def mO (cs : Cs) : Oe → Option Expr → Bool
  | .no, o => match o with | none => true | some _ => false
  | .so e, o => match o with | some x => mE cs e x | none => false
def mC (cs : Cs) : Oe → List Expr → Bool
  | .no, o => match o with | [] => true | _ :: _ => false
  | .so e, o => match o with | [x] => mE cs e x | _ => false
def mIt (cs : Cs) : It → Expr → Expr → Bool
  | .seq m, _, e => mE cs m e
  | .rng1 m, _, e => match e with | .Call (.Name x _) [y] [] _ => (decide (x = Str.ofString "range") && cs.gl x) && mE cs m y | _ => false
  | .rng2 m n, _, e => match e with | .Call (.Name x _) [y, z] [] _ => (decide (x = Str.ofString "range") && cs.gl x) && (mE cs m y && mE cs n z) | _ => false
  | .enum m, tg, e => match e with | .Call (.Name x _) [y] [] _ => (isTupE tg && (decide (x = Str.ofString "enumerate") && cs.gl x)) && mE cs m y | _ => false
  | .zip m n, tg, e => match e with | .Call (.Name x _) [y, z] [] _ => (isTupE tg && (decide (x = Str.ofString "zip") && cs.gl x)) && (mE cs m y && mE cs n z) | _ => false
  | .ezip _ _, _, _ => false
end
end

/-! ### plain nodes -/
theorem pln_star {e : Expr} (h : pln e = true) (es : List Expr) (env : Env) : starEach (e :: es) env = (false, eval e env) :: starEach es env := by
  cases e <;> first | rfl | (cases h; done)
theorem pln_ix {e : Expr} (h : pln e = true) : PlainIx e := by
  intro o i
  cases e <;> first | rfl | (cases h; done)
theorem pln_mark {e : Expr} (h : pln e = true) (op : CmpOp) : behindInMarks op e = false := by
  cases e <;> first | rfl | (cases h; done)
theorem pln_fold {e : Expr} (h : pln e = true) (env : Env) (x : Value) : foldedSetIterable e env x = pure x := by
  cases e <;> first | rfl | (cases h; done)
theorem noCall_base {o : Expr} (h : noCall o = true) (n : Str) (env : Env) : attributeBase o n env (eval o env) = eval o env := by
  cases o <;> first | rfl | (cases h; done)
theorem star_any {env : Env} {pos : Pos} : ∀ {es : List Expr}, es.all pln = true → (backTo pos (starEach es env)).any (·.1) = false
  | [], _ => rfl
  | e :: es, h => by
    simp only [List.all_cons, Bool.and_eq_true] at h
    rw [pln_star h.1]
    have := star_any (env := env) (pos := pos) h.2
    cases es with
    | nil => rfl
    | cons f fs =>
      rw [pln_star (by simp only [List.all_cons, Bool.and_eq_true] at h; exact h.2.1)] at this ⊢
      simpa [backTo] using this
end Mi

set_option Elab.async false
set_option linter.all false
set_option autoImplicit false
/-! Mi13: the checker of expressions is sound. -/
namespace Mi
open PySem PySem.Spec L2 PyProof.Rows
section
variable {Γ : Sig} {T : Tab} {cf : Nat → List Val → Heap → R Val} {k : Nat}
theorem okBop {X : Cx} {o : Bop} {op : Operator} (h : mBop o op = true) : OkO Γ X (binaryOp op) (bop o) := by
  cases o <;> cases op <;> first | (cases h; done) | exact ok_add | exact ok_sub | exact ok_mul | exact ok_fdiv | exact ok_mod | exact ok_pow
theorem okCop {X : Cx} {o : Cop} {op : CmpOp} (hu : X.A.units + 200 < cLine) (h : mCop o op = true) : OkO Γ X (compareOp op) (fun x y h => (cop o x y h).map Val.bl) := by
  cases o <;> cases op <;> first | (cases h; done) | exact ok_eq hu | exact ok_ne hu | exact ok_lt hu | exact ok_le hu | exact ok_gt | exact ok_ge | exact ok_is | exact ok_isnot | exact ok_in hu | exact ok_notin hu
theorem XOk.blk {cs : Cs} {X : Cx} (ok : XOk Γ T cf k cs X) {s : Shared} {H : Hp} {scope : Scope} {C : Addr} {cl : List (Str × Addr)} {fp : List Addr} : XOk Γ T cf k (cs.blk scope) (X.blk s H scope (compEnvC scope cl C X.env) fp) :=
  ⟨ok.N, by show relabel scope X.env = relS scope cs.sc; rw [← ok.sc]; rfl, fun x h => h, ok.nd, ok.calm, ok.room, ok.lw, fun z => by cases z⟩
theorem takes0 {X : Cx} {s : Shared} {H : Hp} {scope : Scope} {ce : Env} {fp : List Addr} : Takes (X.blk s H scope ce fp) W0 := fun u s' ⟨_, _, _, _, _, _, _, _, _, _, _, _, _, _, _, _, w⟩ => w
theorem ownOf_snd (N : List Str) (l : List Nat) : (ownOf N l).map (·.2) = l := by
  unfold ownOf
  rw [List.map_map]
  show List.map (fun i => i) l = l
  simp
theorem boot_isin : bootBuiltins (Str.ofString "isinstance") = some (.builtin "isinstance") := by decide +kernel
theorem boot_ab : bootBuiltins (Str.ofString "abs") = some (.builtin "abs") := by decide +kernel
theorem boot_al : bootBuiltins (Str.ofString "all") = some (.builtin "all") := by decide +kernel
theorem boot_an : bootBuiltins (Str.ofString "any") = some (.builtin "any") := by decide +kernel
theorem boot_ty {t : String} (h : tyNames.contains t = true) : bootBuiltins (Str.ofString t) = some (.type t) := by
  have : t = "int" ∨ t = "bool" ∨ t = "tuple" ∨ t = "str" ∨ t = "ValueError" := by simpa [tyNames] using h
  rcases this with rfl | rfl | rfl | rfl | rfl <;> decide +kernel
theorem isNm_eq {x : Str} {o : Option String} (h : isNm x o = true) : ∃ s, o = some s ∧ x = Str.ofString s := by
  cases o with
  | none => cases h
  | some s => exact ⟨s, rfl, of_decide_eq_true h⟩
def SE (Γ : Sig) (T : Tab) (cf : Nat → List Val → Heap → R Val) (k : Nat) (m : E) : Prop := ∀ (cs : Cs) (X : Cx) (Wx : WX), XOk Γ T cf k cs X → Takes X Wx → ∀ e, mE T cs m e = true → pln e = true ∧ PE X e (tEv Γ cf Wx m) ∧ PT X e (tTst Γ cf Wx m)
def SEs (Γ : Sig) (T : Tab) (cf : Nat → List Val → Heap → R Val) (k : Nat) (ms : Es) : Prop := ∀ (cs : Cs) (X : Cx) (Wx : WX), XOk Γ T cf k cs X → Takes X Wx → ∀ xs, mEs T cs ms xs = true → xs.all pln = true ∧ (xs = [] → ms = .nil) ∧ PA X xs (tEvs Γ cf Wx ms) ∧
  ∀ (b : Bool) (pos : Pos), xs ≠ [] → PE X (.BoolOp (bOp b) xs pos) (tEv Γ cf Wx (.bo b ms)) ∧ PW X (.BoolOp (bOp b) xs pos) (tTst Γ cf Wx (.bo b ms))
def SO (Γ : Sig) (T : Tab) (cf : Nat → List Val → Heap → R Val) (k : Nat) (m : Oe) : Prop := (∀ (cs : Cs) (X : Cx) (Wx : WX), XOk Γ T cf k cs X → Takes X Wx → ∀ o, mO T cs m o = true → PO X o (tOe Γ cf Wx m)) ∧
  (∀ (cs : Cs) (X : Cx), XOk Γ T cf k cs X → Takes X W0 → ∀ o, mC T cs m o = true → PTs X o (tTs Γ cf m))
def SIt (Γ : Sig) (T : Tab) (cf : Nat → List Val → Heap → R Val) (k : Nat) (it : It) : Prop := ∀ (cs : Cs) (X : Cx) (Wx : WX), XOk Γ T cf k cs X → Takes X Wx → ∀ tg e, mIt T cs it tg e = true → pln e = true ∧ ∀ b, PI X tg e (tIt Γ cf Wx b it)
/-- a test that is the value's truth -/
theorem sPl {X : Cx} {Wx : WX} {m : E} {e : Expr} (hp : pln e = true) (ht : plT e = true) (h : PE X e (tEv Γ cf Wx m)) : pln e = true ∧ PE X e (tEv Γ cf Wx m) ∧ PT X e (tTst Γ cf Wx m) := ⟨hp, h, st_plain h ht⟩
theorem Call_fn {X : Cx} {fx : Expr} {es : List Expr} {pos : Pos} (hf : isFnE fx = true) (Q : Value → Shared → Prop) (E : Value → Shared → Prop) (s : Shared) (h : wpAny (model X.prog X.w) X.A (eval fx X.env) (fun f s1 => wpAny (model X.prog X.w) X.A (callWith pos f [] (backTo pos (starEach es X.env)) []) Q E s1) E s) :
    wpAny (model X.prog X.w) X.A (eval (.Call fx es [] pos) X.env) Q E s := by
  cases fx <;> first | (cases hf; done) | exact wpAny_Call_Name_kw h | exact Call_ h
theorem s_p1 {p : P1} {a : E} (ih : SE Γ T cf k a) : SE Γ T cf k (.p1 p a) := by
  intro cs X Wx ok tk e h
  simp only [mE] at h
  split at h <;> first | (cases h; done) | skip
  rename_i x pp y pos
  simp only [Bool.and_eq_true] at h
  obtain ⟨⟨h1, h2⟩, h3⟩ := h
  obtain ⟨hp, he, _⟩ := ih cs X Wx ok tk y h3
  obtain ⟨hg, hok⟩ := ok.gl h2
  obtain ⟨n, hn, rfl⟩ := isNm_eq h1
  have hs := pln_star hp [] X.env
  refine sPl rfl rfl ?_
  cases p <;> cases hn
  · exact se_p1b okc_len hg hok (ok.lw.bi _ rfl) boot_len he hs
  · exact se_p1b okc_abs hg hok (ok.lw.bi _ rfl) boot_ab he hs
  · exact se_p1b (okc_all ok.calm) hg hok (ok.lw.bi _ rfl) boot_al he hs
  · exact se_p1b (okc_any ok.calm) hg hok (ok.lw.bi _ rfl) boot_an he hs
  · exact se_p1b (okc_sum ok.calm) hg hok (ok.lw.bi _ rfl) boot_sum he hs
  · exact se_p1b (okc_max ok.calm) hg hok (ok.lw.bi _ rfl) boot_max he hs
  · exact se_p1b (okc_min ok.calm) hg hok (ok.lw.bi _ rfl) boot_min he hs
  · exact se_p1t okc_list hg hok (ok.lw.bi _ rfl) boot_list he hs
  · exact se_p1t okc_tuple hg hok (ok.lw.bi _ rfl) boot_tuple he hs
  · exact se_p1t okc_int hg hok (ok.lw.bi _ rfl) boot_int he hs
theorem s_p2 {p : P2} {a b : E} (iha : SE Γ T cf k a) (ihb : SE Γ T cf k b) : SE Γ T cf k (.p2 p a b) := by
  intro cs X Wx ok tk e h
  simp only [mE] at h
  split at h <;> first | (cases h; done) | skip
  rename_i x pp y z pos
  simp only [Bool.and_eq_true, decide_eq_true_eq] at h
  obtain ⟨⟨rfl, h2⟩, h3, h4⟩ := h
  obtain ⟨hp, he, _⟩ := iha cs X Wx ok tk y h3
  obtain ⟨hp2, he2, _⟩ := ihb cs X Wx ok tk z h4
  obtain ⟨hg, hok⟩ := ok.gl h2
  refine sPl rfl rfl ?_
  cases p
  · exact se_p2b (okc_isin ok.lw.exc) hg hok (ok.lw.bi _ rfl) boot_isin he he2 (pln_star hp _ _) (pln_star hp2 _ _)
  · exact se_p2b (okc_min2 ok.calm) hg hok (ok.lw.bi _ rfl) boot_min he he2 (pln_star hp _ _) (pln_star hp2 _ _)
theorem s_m1 {p : M1} {a b : E} (iha : SE Γ T cf k a) (ihb : SE Γ T cf k b) : SE Γ T cf k (.m1 p a b) := by
  intro cs X Wx ok tk e h
  simp only [mE] at h
  split at h <;> first | (cases h; done) | skip
  rename_i o x ap y cp
  simp only [Bool.and_eq_true] at h
  obtain ⟨⟨h1, h2, h5⟩, h3, h4⟩ := h
  obtain ⟨hp, he, _⟩ := iha cs X Wx ok tk o h3
  obtain ⟨hp2, he2, _⟩ := ihb cs X Wx ok tk y h4
  obtain ⟨n, hn, rfl⟩ := isNm_eq h1
  have hs := pln_star hp2 [] X.env
  have hb := noCall_base h2 (Str.ofString n) X.env
  have lst : ∀ p, p = M1.index ∨ p = M1.count → ∀ v, m1T p v = true → ∃ k xs, v = .lst k xs := fun p hp v hv => by
    rcases hp with rfl | rfl <;> cases v <;> first | exact ⟨_, _, rfl⟩ | (cases hv; done)
  refine sPl rfl rfl ?_
  cases p <;> cases hn
  · exact se_m1l PySem.F.slot_list_index PySem.F.type_list_index okm_index_list (lst _ (.inl rfl)) he he2 hb h5 hs
  · refine se_m1l PySem.F.slot_list_count PySem.F.type_list_count ?_ (lst _ (.inr rfl)) he he2 hb h5 hs
    intro pins s σ H g hp x y vx vy v u Q W I hr rx ry r1 r2 h
    refine okm_count pins s σ H g hp x y vx vy v u Q W I hr rx ry r1 r2 ?_
    cases vx <;> first | exact h | exact h.elim
theorem mE_pln {cs : Cs} {m : E} {e : Expr} (h : mE T cs m e = true) : pln e = true := by
  cases m <;> cases e <;> first | rfl | (simp [mE] at h; done)
theorem mIt_pln {cs : Cs} {it : It} {tg e : Expr} (h : mIt T cs it tg e = true) : pln e = true := by
  cases it with
  | seq m => exact mE_pln (by simpa only [mIt] using h)
  | _ => cases e <;> first | rfl | (simp [mIt] at h; done)
mutual
theorem sE : ∀ m : E, SE Γ T cf k m
  | .int i => by
    intro cs X Wx ok tk e h
    simp only [mE] at h
    split at h <;> first | (cases h; done) | skip
    cases of_decide_eq_true h
    exact sPl rfl rfl (se_const pe_int (fun _ _ => by unfold ev; rfl) (fun _ _ => .int _))
  | .bl b => by
    intro cs X Wx ok tk e h
    simp only [mE] at h
    split at h <;> first | (cases h; done) | skip
    cases of_decide_eq_true h
    exact sPl rfl rfl (se_const pe_bl (fun _ _ => by unfold ev; rfl) (fun _ _ => .bl _))
  | .non => by
    intro cs X Wx ok tk e h
    simp only [mE] at h
    split at h <;> first | (cases h; done) | skip
    exact sPl rfl rfl (se_const pe_non (fun _ _ => by unfold ev; rfl) (fun _ _ => .non))
  | .str x => by
    intro cs X Wx ok tk e h
    simp only [mE] at h
    split at h <;> first | (cases h; done) | skip
    cases of_decide_eq_true h
    exact sPl rfl rfl (se_const pe_str (fun _ _ => by unfold ev; rfl) (fun _ _ => .str _))
  | .var i => by
    intro cs X Wx ok tk e h
    simp only [mE] at h
    split at h <;> first | (cases h; done) | skip
    exact sPl rfl rfl (se_var ok h)
  | .fn f => by
    intro cs X Wx ok tk e h
    simp only [mE] at h
    split at h <;> first | (cases h; done) | skip
    simp only [Bool.and_eq_true, decide_eq_true_eq] at h
    exact sPl rfl rfl (se_glob (x := .ref (Γ.fa f)) ok h.1 (ok.lw.fn _ _ h.2) rfl (fun _ _ => .fn f) (fun _ _ => by unfold ev; rfl))
  | .cls c => by
    intro cs X Wx ok tk e h
    simp only [mE] at h
    split at h <;> first | (cases h; done) | skip
    simp only [Bool.and_eq_true, decide_eq_true_eq] at h
    have hc := ok.lw.cls _ _ h.2
    exact sPl rfl rfl (se_glob (x := .ref (Γ.ca c)) ok h.1 hc.1 rfl (fun _ _ => .cls c hc.2) (fun _ _ => by unfold ev; rfl))
  | .ty t => by
    intro cs X Wx ok tk e h
    simp only [mE] at h
    split at h <;> first | (cases h; done) | skip
    simp only [Bool.and_eq_true, decide_eq_true_eq] at h
    obtain ⟨h1, h2, rfl⟩ := h
    obtain ⟨hg, hok⟩ := ok.gl h1
    have hb : bnames.contains t = true := by
      have : t = "int" ∨ t = "bool" ∨ t = "tuple" ∨ t = "str" ∨ t = "ValueError" := by simpa [tyNames] using h2
      rcases this with rfl | rfl | rfl | rfl | rfl <;> decide
    exact sPl rfl rfl (se_const (pe_bltn (v := .ty t) hg (ok.lw.bi t hb) (boot_ty h2) rfl (okName.c hok) (okName.a hok)) (fun _ _ => by unfold ev; rfl) (fun _ _ => .ty t))
  | .bin o a b => by
    intro cs X Wx ok tk e h
    simp only [mE] at h
    split at h <;> first | (cases h; done) | skip
    simp only [Bool.and_eq_true] at h
    exact sPl rfl rfl (se_bin (okBop h.1) (sE a cs X Wx ok tk _ h.2.1).2.1 (sE b cs X Wx ok tk _ h.2.2).2.1)
  | .neg a => by
    intro cs X Wx ok tk e h
    simp only [mE] at h
    split at h <;> first | (cases h; done) | skip
    rename_i x0 pos0
    have he := se_neg (pos := pos0) (sE a cs X Wx ok tk _ h).2.1
    refine ⟨rfl, he, ⟨fun pins s σ H Q I h => ?_⟩⟩
    obtain ⟨g, ρ, hp, hr, sr, h⟩ := h
    refine isTrue_plain (thn (he.run pins s σ H _ I ⟨g, ρ, hp, hr, sr, PostR.bindV h⟩) fun v s1 ⟨x, H1, I1, r1, g1, hp1, vx, st1, hr1, rv1, fr1, h1⟩ => ?_) rfl
    exact st_truth I1 hr1 rv1 r1 h1
  | .cmp o a b => by
    intro cs X Wx ok tk e h
    simp only [mE] at h
    split at h <;> first | (cases h; done) | skip
    simp only [Bool.and_eq_true] at h
    have ha := sE a cs X Wx ok tk _ h.2.1
    have hb := sE b cs X Wx ok tk _ h.2.2
    exact ⟨rfl, se_cmp (okCop ok.hu h.1) ha.2.1 hb.2.1 (pln_mark hb.1 _), st_cmp (okCop ok.hu h.1) ha.2.1 hb.2.1 (pln_mark hb.1 _)⟩
  | .chn o p a b c => by
    intro cs X Wx ok tk e h
    simp only [mE] at h
    split at h <;> first | (cases h; done) | skip
    simp only [Bool.and_eq_true] at h
    have ha := sE a cs X Wx ok tk _ h.2.1
    have hb := sE b cs X Wx ok tk _ h.2.2.1
    have hc := sE c cs X Wx ok tk _ h.2.2.2
    rename_i l op op' r r' pos
    have hm : lastMarks [op, op'] [r, r'] = false := pln_mark hc.1 _
    exact ⟨rfl, se_chn (okCop ok.hu h.1.1) (okCop ok.hu h.1.2) ha.2.1 hb.2.1 hc.2.1 hm, st_chn (okCop ok.hu h.1.1) (okCop ok.hu h.1.2) ha.2.1 hb.2.1 hc.2.1 hm⟩
  | .not a => by
    intro cs X Wx ok tk e h
    simp only [mE] at h
    split at h <;> first | (cases h; done) | skip
    have ha := sE a cs X Wx ok tk _ h
    exact ⟨rfl, se_not ha.2.1, st_not ha.2.2⟩
  | .bo b es => by
    intro cs X Wx ok tk e h
    simp only [mE] at h
    split at h <;> first | (cases h; done) | skip
    all_goals
      simp only [Bool.and_eq_true, Bool.not_eq_true'] at h
      obtain ⟨rfl, h2, h3⟩ := h
      have := (sEs es cs X Wx ok tk _ h3).2.2.2
    · exact ⟨rfl, (this true _ (by rintro rfl; cases h2)).1, (this true _ (by rintro rfl; cases h2)).2.pt⟩
    · exact ⟨rfl, (this false _ (by rintro rfl; cases h2)).1, (this false _ (by rintro rfl; cases h2)).2.pt⟩
  | .ite c a b => by
    intro cs X Wx ok tk e h
    simp only [mE] at h
    split at h <;> first | (cases h; done) | skip
    simp only [Bool.and_eq_true] at h
    have hc := sE c cs X Wx ok tk _ h.1
    have ha := sE a cs X Wx ok tk _ h.2.1
    have hb := sE b cs X Wx ok tk _ h.2.2
    exact ⟨rfl, se_ite hc.2.2 ha.2.1 hb.2.1, st_ite hc.2.2 ha.2.2 hb.2.2⟩
  | .tup es => by
    intro cs X Wx ok tk e h
    simp only [mE] at h
    split at h <;> first | (cases h; done) | skip
    exact sPl rfl rfl (se_tup (sEs es cs X Wx ok tk _ h).2.2.1)
  | .lst es => by
    intro cs X Wx ok tk e h
    simp only [mE] at h
    split at h <;> first | (cases h; done) | skip
    exact sPl rfl rfl (se_lst (sEs es cs X Wx ok tk _ h).2.2.1)
  | .idx a i => by
    intro cs X Wx ok tk e h
    simp only [mE] at h
    split at h <;> first | (cases h; done) | skip
    simp only [Bool.and_eq_true] at h
    have ha := sE a cs X Wx ok tk _ h.1
    have hb := sE i cs X Wx ok tk _ h.2
    exact sPl rfl rfl (se_idx ha.2.1 hb.2.1 (pln_ix hb.1))
  | .slc a lo hi => by
    intro cs X Wx ok tk e h
    simp only [mE] at h
    split at h <;> first | (cases h; done) | skip
    simp only [Bool.and_eq_true] at h
    exact sPl rfl rfl (se_slc (sE a cs X Wx ok tk _ h.1).2.1 ((sO lo).1 cs X Wx ok tk _ h.2.1) ((sO hi).1 cs X Wx ok tk _ h.2.2))
  | .call f es => by
    intro cs X Wx ok tk e h
    simp only [mE] at h
    split at h <;> first | (cases h; done) | skip
    simp only [Bool.and_eq_true] at h
    have hf := sE f cs X Wx ok tk _ h.2.1
    have hes := sEs es cs X Wx ok tk _ h.2.2
    refine sPl rfl rfl (se_call ok tk hf.2.1 hes.2.2.1 hes.2.1 (fun e r hr => ?_) (fun Q E s => Call_fn h.1 Q E s))
    have hp := hes.1
    rw [hr] at hp
    simp only [List.all_cons, Bool.and_eq_true] at hp
    exact ⟨pln_star hp.1 _ _, star_any hp.2⟩
  | .p1 p a => s_p1 (sE a)
  | .p2 p a b => s_p2 (sE a) (sE b)
  | .m1 p a b => s_m1 (sE a) (sE b)
  | .comp t it c el => by
    intro cs X Wx ok tk e h
    simp only [mE] at h
    split at h <;> first | (cases h; done) | skip
    simp only [Bool.and_eq_true] at h
    obtain ⟨⟨h1, h2⟩, h3, h4, h5⟩ := h
    have hi := sIt it cs X Wx ok tk _ _ h3
    rename_i elt tg iter ifs scope pos
    have hb : BlkOk X.N X.env.scope scope (ownOf cs.N t.slots) := by rw [ok.N, ok.sc]; exact blkOk_by h1
    refine sPl rfl rfl ⟨fun pins s σ H Q I h => (pe_lc ok.calm ok.nd (hi.2 false) hb (fun s H C cl fp => sg_tgt ok.blk h2) (fun s H C cl fp => (sO c).2 _ _ ok.blk takes0 _ h4) (fun s H C cl fp => (sE el _ _ W0 ok.blk takes0 _ h5).2.1) (fun x => pln_fold hi.1 _ x)).run pins s σ H Q I (se_comp (ownOf_snd _ _) h)⟩
  | .comp2 t it u jt c el => by
    intro cs X Wx ok tk e h
    simp only [mE] at h
    split at h <;> first | (cases h; done) | skip
    simp only [Bool.and_eq_true] at h
    obtain ⟨⟨h1, h2, h6⟩, ⟨h3, h7⟩, h4, h5⟩ := h
    have hi := sIt it cs X Wx ok tk _ _ h3
    rename_i elt tg iter tg2 iter2 ifs scope pos
    have hb : BlkOk X.N X.env.scope scope (ownOf cs.N (t.slots ++ u.slots)) := by rw [ok.N, ok.sc]; exact blkOk_by h1
    have hpj : pln iter2 = true := mIt_pln h7
    refine sPl rfl rfl ⟨fun pins s σ H Q I h => (pe_lc2 (vs1 := u.slots) ok.calm ok.nd (hi.2 false) hb (fun i hi => by rw [ownOf_snd]; exact List.mem_append_right _ hi) (fun s H C cl fp => sg_tgt ok.blk h2) (fun s H C cl fp => pts_nil)
      (fun s H C cl fp => (sIt jt _ _ W0 ok.blk takes0 _ _ h7).2 false) (fun s H C cl fp => sg_tgt ok.blk h6) (fun s H C cl fp => (sO c).2 _ _ ok.blk takes0 _ h4) (fun s H C cl fp => (sE el _ _ W0 ok.blk takes0 _ h5).2.1) (fun x => pln_fold hi.1 _ x) (fun env x => pln_fold hpj env x)).run pins s σ H Q I (se_comp2 (ownOf_snd _ _) h)⟩
theorem sEs : ∀ ms : Es, SEs Γ T cf k ms
  | .nil => by
    intro cs X Wx ok tk xs h
    simp only [mEs] at h
    split at h <;> first | (cases h; done) | skip
    exact ⟨rfl, fun _ => rfl, sa_nil, fun b pos z => (z rfl).elim⟩
  | .cons m ms => by
    intro cs X Wx ok tk xs h
    simp only [mEs] at h
    split at h <;> first | (cases h; done) | skip
    rename_i x xs
    simp only [Bool.and_eq_true] at h
    have hm := sE m cs X Wx ok tk _ h.1
    have hms := sEs ms cs X Wx ok tk _ h.2
    have hall : (x :: xs).all pln = true := by
      simp only [List.all_cons, Bool.and_eq_true]
      exact ⟨hm.1, hms.1⟩
    refine ⟨hall, fun z => (List.cons_ne_nil _ _ z).elim, sa_cons hm.2.1 hms.2.2.1 (pln_star hm.1 _ _), fun b pos _ => ?_⟩
    cases xs with
    | nil =>
      have := hms.2.1 rfl
      subst this
      exact ⟨se_bo1 hm.2.1, sw_bo1 hm.2.2⟩
    | cons y ys =>
      have hr := hms.2.2.2 b pos (by simp)
      cases ms with
      | nil => simp [mEs] at h
      | cons m2 ms => exact ⟨se_bo hm.2.1 hr.1, sw_bo hm.2.2 hr.2⟩
theorem sO : ∀ m : Oe, SO Γ T cf k m
  | .no => by
    refine ⟨fun cs X Wx ok tk o h => ?_, fun cs X ok tk o h => ?_⟩
    · simp only [mO] at h
      split at h <;> first | (cases h; done) | skip
      exact so_no
    · simp only [mC] at h
      split at h <;> first | (cases h; done) | skip
      refine ⟨fun pins s σ H Q I h => pts_nil.run pins s σ H Q I ?_⟩
      obtain ⟨g, ρ, hp, hr, sr, h⟩ := h
      exact PostR.here (v := true) (x := true) h hr rfl
  | .so m => by
    refine ⟨fun cs X Wx ok tk o h => ?_, fun cs X ok tk o h => ?_⟩
    · simp only [mO] at h
      split at h <;> first | (cases h; done) | skip
      exact so_so (sE m cs X Wx ok tk _ h).2.1
    · simp only [mC] at h
      split at h <;> first | (cases h; done) | skip
      have := pts_one (sE m cs X W0 ok tk _ h).2.2
      refine ⟨fun pins s σ H Q I h => this.run pins s σ H Q I ?_⟩
      obtain ⟨g, ρ, hp, hr, sr, h⟩ := h
      exact ⟨g, ρ, hp, hr, sr, h⟩
theorem sIt : ∀ it : It, SIt Γ T cf k it
  | .seq m => by
    intro cs X Wx ok tk tg e h
    simp only [mIt] at h
    have := sE m cs X Wx ok tk _ h
    exact ⟨this.1, fun b => si_seq this.2.1⟩
  | .rng1 m => by
    intro cs X Wx ok tk tg e h
    simp only [mIt] at h
    split at h <;> first | (cases h; done) | skip
    simp only [Bool.and_eq_true, decide_eq_true_eq] at h
    obtain ⟨⟨rfl, h1⟩, h2⟩ := h
    obtain ⟨hg, hok⟩ := ok.gl h1
    have := sE m cs X Wx ok tk _ h2
    exact ⟨rfl, fun b => si_rng1 hg (ok.lw.bi _ rfl) this.2.1 (pln_star this.1 _ _)⟩
  | .rng2 m n => by
    intro cs X Wx ok tk tg e h
    simp only [mIt] at h
    split at h <;> first | (cases h; done) | skip
    simp only [Bool.and_eq_true, decide_eq_true_eq] at h
    obtain ⟨⟨rfl, h1⟩, h2, h3⟩ := h
    obtain ⟨hg, hok⟩ := ok.gl h1
    have ha := sE m cs X Wx ok tk _ h2
    have hb := sE n cs X Wx ok tk _ h3
    exact ⟨rfl, fun b => si_rng2 hg (ok.lw.bi _ rfl) ha.2.1 hb.2.1 (by rw [pln_star ha.1, pln_star hb.1]; rfl) (pln_star hb.1 _ _)⟩
  | .enum m => by
    intro cs X Wx ok tk tg e h
    simp only [mIt] at h
    split at h <;> first | (cases h; done) | skip
    simp only [Bool.and_eq_true, decide_eq_true_eq] at h
    obtain ⟨⟨h0, rfl, h1⟩, h2⟩ := h
    obtain ⟨hg, hok⟩ := ok.gl h1
    have := sE m cs X Wx ok tk _ h2
    cases tg <;> first | (cases h0; done) | skip
    exact ⟨rfl, fun b => si_enum hg (ok.lw.bi _ rfl) this.2.1 (pln_star this.1 _ _)⟩
  | .zip m n => by
    intro cs X Wx ok tk tg e h
    simp only [mIt] at h
    split at h <;> first | (cases h; done) | skip
    simp only [Bool.and_eq_true, decide_eq_true_eq] at h
    obtain ⟨⟨h0, rfl, h1⟩, h2, h3⟩ := h
    obtain ⟨hg, hok⟩ := ok.gl h1
    have ha := sE m cs X Wx ok tk _ h2
    have hb := sE n cs X Wx ok tk _ h3
    cases tg <;> first | (cases h0; done) | skip
    exact ⟨rfl, fun b => si_zip hg (ok.lw.bi _ rfl) ha.2.1 hb.2.1 (pln_star ha.1 _ _) (pln_star hb.1 _ _)⟩
  | .ezip _ _ => by
    intro cs X Wx ok tk tg e h
    simp [mIt] at h
end
end
end Mi

set_option Elab.async false
set_option linter.all false
set_option autoImplicit false
/-! Mi14: statements: the judgement; assignments. -/
namespace Mi
open PySem PySem.Spec L2 PyProof.Rows

/-! ### steps of statements -/
def Held (ρ : Slots) (σ : L2.St) (i : Nat) (p : Addr) : Prop := ∃ xs, ρ[i]? = some (some (.lst .own xs)) ∧ σ[i]? = some (some (.ref p))
structure StpS (g : Gh) (H : Hp) (ρ : Slots) (σ : L2.St) (g' : Gh) (H' : Hp) (ρ' : Slots) (σ' : L2.St) : Prop extends Keep g H g' H' where
  obj : ∀ p o, H p = some o → g.ow p = some .obj → g'.ow p = some .obj ∧ ∃ o', H' p = some o'
  acc : ∀ p o, H p = some o → g.ow p = some .acc → g'.ow p = some .acc ∧ H' p = some o
  slot : ∀ p o i, H p = some o → g.ow p = some (.slot i) → g'.ow p = some (.slot i) ∧ ∃ o', H' p = some o'
  ns : ∀ p i, g'.ow p = some (.slot i) → g.ow p = some (.slot i) ∨ H p = none
  orp : ∀ p i o, H p = some o → g.ow p = some (.slot i) → ¬ Held ρ σ i p → H' p = some o ∧ ¬ Held ρ' σ' i p
  unt : ∀ i : Nat, ρ'[i]? = some (some lck) → ρ[i]? = some (some lck) ∧ σ'[i]? = σ[i]?
section
variable {g g1 g2 : Gh} {H H1 H2 : Hp} {ρ ρ1 ρ2 : Slots} {σ σ1 σ2 : L2.St}
theorem Stp.toS (s : Stp g H g1 H1) : StpS g H ρ σ g1 H1 ρ σ :=
  ⟨s.toKeep, s.obj, s.acc, fun p o i h w => let ⟨a, b⟩ := s.slot p o i h w; ⟨a, o, b⟩, fun p i w => .inl (s.ns p i w), fun p i o h w n => ⟨(s.slot p o i h w).2, n⟩, fun i h => ⟨h, rfl⟩⟩
theorem StpS.refl : StpS g H ρ σ g H ρ σ := Stp.refl.toS
theorem StpS.there (s : StpS g H ρ σ g1 H1 ρ1 σ1) {p : Addr} {o : HO} (h : H p = some o) : ∃ o', H1 p = some o' := by
  cases w : g.ow p with
  | none => exact ⟨o, (s.kept p o h (.inl w)).2⟩
  | some k => cases k with
    | imm => exact ⟨o, (s.kept p o h (.inr w)).2⟩
    | obj => exact (s.obj p o h w).2
    | slot i => exact (s.slot p o i h w).2
    | acc => exact ⟨o, (s.acc p o h w).2⟩
theorem StpS.back (s : StpS g H ρ σ g1 H1 ρ1 σ1) {p : Addr} (h : H1 p = none) : H p = none := by
  cases e : H p with
  | none => rfl
  | some o =>
    obtain ⟨o', e'⟩ := s.there e
    rw [h] at e'; cases e'
theorem StpS.trans (a : StpS g H ρ σ g1 H1 ρ1 σ1) (b : StpS g1 H1 ρ1 σ1 g2 H2 ρ2 σ2) : StpS g H ρ σ g2 H2 ρ2 σ2 := by
  refine ⟨a.toKeep.trans b.toKeep, fun p o h w => ?_, fun p o h w => ?_, fun p o i h w => ?_, fun p i w => ?_, fun p i o h w n => ?_, fun i h => ?_⟩
  · obtain ⟨w1, o1, h1⟩ := a.obj p o h w
    exact b.obj p o1 h1 w1
  · obtain ⟨w1, h1⟩ := a.acc p o h w
    exact b.acc p o h1 w1
  · obtain ⟨w1, o1, h1⟩ := a.slot p o i h w
    exact b.slot p o1 i h1 w1
  · rcases b.ns p i w with w1 | h1
    · exact a.ns p i w1
    · exact .inr (a.back h1)
  · obtain ⟨h1, n1⟩ := a.orp p i o h w n
    exact b.orp p i o h1 (a.slot p o i h w).1 n1
  · obtain ⟨h1, e1⟩ := b.unt i h
    obtain ⟨h2, e2⟩ := a.unt i h1
    exact ⟨h2, e1.trans e2⟩
theorem Frs.backS (s : StpS g H ρ σ g1 H1 ρ1 σ1) {v : Val} {x : V} (h : Frs H1 v x) : Frs H v x := by
  unfold Frs at *
  split at h <;> first | exact s.back h | trivial
end
/-- what is returned: a value, or a slot's list -/
def RVr (Γ : Sig) (H : Hp) (g' : Gh) (H' : Hp) (v : Val) (x : V) : Prop :=
  (RV Γ g' H' v x ∧ Frs H v x ∧ ∀ xs, v ≠ .lst .brw xs) ∨ ∃ p xs ys i, v = .lst .own xs ∧ x = .ref p ∧ H' p = some (.lst ys) ∧ g'.ow p = some (.slot i) ∧ RKs Γ g' H' xs ys
def PostS (Γ : Sig) (g : Gh) (H : Hp) (ρ : Slots) (σ : L2.St) (r : R Fl) (D : Ends) (W : Nat → L2.St → Hp → Prop) : Prop := match r with
  | .ok (.nx ρ') hp => ∀ g' H' σ', StpS g H ρ σ g' H' ρ' σ' → HR Γ g' hp H' → SR Γ g' H' ρ' σ' → D.nx σ' H'
  | .ok (.rt v) hp => ∀ g' H' ρ' σ' x, StpS g H ρ σ g' H' ρ' σ' → HR Γ g' hp H' → RVr Γ H g' H' v x → D.rt x H'
  | .exc c hp => ∀ g' H' ρ' σ', StpS g H ρ σ g' H' ρ' σ' → HR Γ g' hp H' → W c σ' H'
  | .bad => False
def tSt (Γ : Sig) (cf : Nat → List Val → Heap → R Val) (N : Nat) (Wx : WX) (m : S) : TS := fun D σ H => ∃ g ρ hp, HR Γ g hp H ∧ SR Γ g H ρ σ ∧ PostS Γ g H ρ σ (ex cf N m ρ hp) D (fun c σ' H' => Wx (.ref (Γ.ca c)) none σ' H')
def tSts (Γ : Sig) (cf : Nat → List Val → Heap → R Val) (N : Nat) (Wx : WX) (m : Ss) : TS := fun D σ H => ∃ g ρ hp, HR Γ g hp H ∧ SR Γ g H ρ σ ∧ PostS Γ g H ρ σ (exs cf N m ρ hp) D (fun c σ' H' => Wx (.ref (Γ.ca c)) none σ' H')
section
variable {Γ : Sig} {g g1 : Gh} {H H1 : Hp} {ρ ρ1 : Slots} {σ σ1 : L2.St} {D : Ends} {W : Nat → L2.St → Hp → Prop}
theorem PostS.rebase {r : R Fl} (h : PostS Γ g H ρ σ r D W) (s : StpS g H ρ σ g1 H1 ρ1 σ1) : PostS Γ g1 H1 ρ1 σ1 r D W := by
  cases r with
  | ok f hp => cases f with
    | nx ρ' => exact fun g' H' σ' s' hr sr => h g' H' σ' (s.trans s') hr sr
    | rt v => exact fun g' H' ρ' σ' x s' hr rv => h g' H' ρ' σ' x (s.trans s') hr (by
        rcases rv with ⟨a, b, c⟩ | z
        · exact .inl ⟨a, b.backS s, c⟩
        · exact .inr z)
  | exc c hp => exact fun g' H' ρ' σ' s' hr => h g' H' ρ' σ' (s.trans s') hr
  | bad => exact h
theorem PostS.bindV {r : R Val} {k : Val → Heap → R Fl} (h : PostS Γ g H ρ σ (r.bind k) D W) :
    Post Γ g H r (After Γ g H fun v hp1 g1 H1 => PostS Γ g H ρ σ (k v hp1) D W) (fun c H' => W c σ H') := by
  cases r with
  | ok v hp => exact fun g' x H' s hr rv fr => ⟨g', hp, v, s, hr, rv, fr, h⟩
  | exc c hp => exact fun g' H' s hr => h g' H' ρ σ s.toS hr
  | bad => exact h
/-- one more value -/
theorem PostS.bindV2 {r : R Val} {k : Val → Heap → R Fl} (h : PostS Γ g H ρ σ (r.bind k) D W) (st : Stp g H g1 H1) :
    Post Γ g1 H1 r (After Γ g1 H1 fun v hp1 g2 H2 => PostS Γ g H ρ σ (k v hp1) D W) (fun c H' => W c σ H') := by
  cases r with
  | ok v hp => exact fun g' x H' s hr rv fr => ⟨g', hp, v, s, hr, rv, fr, h⟩
  | exc c hp => exact fun g' H' s hr => h g' H' ρ σ (st.trans s).toS hr
  | bad => exact h
end

/-! ### a value goes into a slot -/
section
variable {Γ : Sig} {g g0 : Gh} {H H0 : Hp} {ρ ρ0 : Slots} {σ σ0 : L2.St}
theorem RK.notOwn {v : Val} {x : V} (r : RK Γ g H v x) (xs : List Val) : v ≠ .lst .own xs := by cases r <;> (intro h; cases h)
theorem RK.notLck {v : Val} {x : V} (r : RK Γ g H v x) : v ≠ lck := by cases r <;> (intro h; cases h)
theorem set_unt {i j : Nat} {v : Val} {x : Option V} (hv : v ≠ lck) (h : (ρ.set i (some v))[j]? = some (some lck)) : ρ[j]? = some (some lck) ∧ (σ.set i x)[j]? = σ[j]? := by
  by_cases e : i = j
  · subst e
    rw [List.getElem?_set_self'] at h
    cases hh : ρ[i]? with
    | none => rw [hh] at h; cases h
    | some o => rw [hh] at h; exact (hv (by simpa using h)).elim
  · rw [List.getElem?_set_ne e] at h ⊢
    exact ⟨h, rfl⟩
theorem held_set {i j : Nat} {v : Val} {x : V} {p : Addr} (h : Held (ρ.set i (some v)) (σ.set i (some x)) j p) : (j = i ∧ (∃ xs, v = .lst .own xs) ∧ x = .ref p) ∨ Held ρ σ j p := by
  obtain ⟨xs, h1, h2⟩ := h
  by_cases e : i = j
  · subst e
    left
    rw [List.getElem?_set_self'] at h1 h2
    cases hh : ρ[i]? with
    | none => rw [hh] at h1; cases h1
    | some o =>
      rw [hh] at h1
      cases hs : σ[i]? with
      | none => rw [hs] at h2; cases h2
      | some o2 =>
        rw [hs] at h2
        exact ⟨rfl, ⟨xs, by simpa using h1⟩, by simpa using h2⟩
  · right
    rw [List.getElem?_set_ne e] at h1 h2
    exact ⟨xs, h1, h2⟩
theorem StpS.setK {i : Nat} {v : Val} {x : V} (s : StpS g0 H0 ρ0 σ0 g H ρ σ) (hn : ∀ xs, v ≠ .lst .own xs) (hv : v ≠ lck) : StpS g0 H0 ρ0 σ0 g H (ρ.set i (some v)) (σ.set i (some x)) := by
  refine ⟨s.toKeep, s.obj, s.acc, s.slot, s.ns, fun p j o h w n => ?_, fun j h => ?_⟩
  · obtain ⟨h1, n1⟩ := s.orp p j o h w n
    refine ⟨h1, fun z => ?_⟩
    rcases held_set z with ⟨_, ⟨xs, e⟩, _⟩ | z
    · exact hn xs e
    · exact n1 z
  · obtain ⟨h1, e1⟩ := set_unt (σ := σ) (x := some x) hv h
    obtain ⟨h2, e2⟩ := s.unt j h1
    exact ⟨h2, e1.trans e2⟩
/-- a step of an expression behind -/
theorem StpS.then (s : StpS g0 H0 ρ0 σ0 g H ρ σ) {g' : Gh} {H' : Hp} (t : Stp g H g' H') : StpS g0 H0 ρ0 σ0 g' H' ρ σ := s.trans t.toS
theorem StpS.put {p : Addr} {w : Ow} (s : StpS g0 H0 ρ0 σ0 g H ρ σ) (h0 : H0 p = none) : StpS g0 H0 ρ0 σ0 (g.put p w) H ρ σ := by
  have ne : ∀ q o, H0 q = some o → q ≠ p := fun q o e z => by rw [z, h0] at e; cases e
  refine ⟨⟨s.am, fun q o e z => ?_⟩, fun q o e z => ?_, fun q o e z => ?_, fun q o i e z => ?_, fun q i z => ?_, s.orp, s.unt⟩
  · rw [Gh.put_ne (ne q o e)]; exact s.kept q o e z
  · rw [Gh.put_ne (ne q o e)]; exact s.obj q o e z
  · rw [Gh.put_ne (ne q o e)]; exact s.acc q o e z
  · rw [Gh.put_ne (ne q o e)]; exact s.slot q o i e z
  · by_cases e : q = p
    · rw [e]; exact .inr h0
    · rw [Gh.put_ne e] at z; exact s.ns q i z
theorem StpS.setO {i : Nat} {v : Val} {p : Addr} (s : StpS g0 H0 ρ0 σ0 g H ρ σ) (h0 : H0 p = none) (hv : v ≠ lck) : StpS g0 H0 ρ0 σ0 g H (ρ.set i (some v)) (σ.set i (some (.ref p))) := by
  refine ⟨s.toKeep, s.obj, s.acc, s.slot, s.ns, fun q j o h w n => ?_, fun j h => ?_⟩
  · obtain ⟨h1, n1⟩ := s.orp q j o h w n
    refine ⟨h1, fun z => ?_⟩
    rcases held_set z with ⟨_, _, e⟩ | z
    · cases e; rw [h0] at h; cases h
    · exact n1 z
  · obtain ⟨h1, e1⟩ := set_unt (σ := σ) (x := some (.ref p)) hv h
    obtain ⟨h2, e2⟩ := s.unt j h1
    exact ⟨h2, e1.trans e2⟩
theorem RV.put {v : Val} {x : V} {p : Addr} {ys : List V} {w : Ow} (r : RV Γ g H v x) (hw : g.ow p = none) (hp : H p = some (.lst ys)) (hne : ∀ xs, v = .lst .own xs → x ≠ .ref p) : RV Γ (g.put p w) H v x := by
  cases r with
  | kept r => exact .kept (r.put hw hp)
  | own h w' k => exact .own h (by rw [Gh.put_ne (fun z => hne _ rfl (by rw [z]))]; exact w') (k.put hw hp)
  | brw h w' k => exact .brw h (by rw [Gh.put_ne (by rintro rfl; rw [hw] at w'; cases w')]; exact w') (k.put hw hp)
/-- a new list of the evaluator's heap -/
def Gh.add (g : Gh) (p : Addr) : Gh := { (g.put p .obj) with am := g.am ++ [p] }
theorem Gh.add_ow (g : Gh) (p : Addr) : (g.add p).ow = (g.put p .obj).ow := rfl
mutual
theorem RK.am {l : List Addr} : ∀ {v : Val} {x : V}, RK Γ g H v x → RK Γ { g with am := g.am ++ l } H v x
  | _, _, .non => .non
  | _, _, .bl b => .bl b
  | _, _, .int i => .int i
  | _, _, .str x => .str x
  | _, _, .tup h e r => .tup h e (RKs.am r)
  | _, _, .imm h e r => .imm h e (RKs.am r)
  | _, _, .frz h e r => .frz h e (RKs.am r)
  | _, _, .ref h => .ref (by
      show (g.am ++ l)[_]? = _
      rw [List.getElem?_append_left (List.getElem?_eq_some_iff.mp h).1]; exact h)
  | _, _, .fn f => .fn f
  | _, _, .cls c k => .cls c k
  | _, _, .ty t => .ty t
  | _, _, .exc h e a b => .exc h e a b
theorem RKs.am {l : List Addr} : ∀ {vs : List Val} {xs : List V}, RKs Γ g H vs xs → RKs Γ { g with am := g.am ++ l } H vs xs
  | _, _, .nil => .nil
  | _, _, .cons a r => .cons (RK.am a) (RKs.am r)
end
theorem FR.am {l : List Addr} : ∀ {vs : List (Str × Val)} {xs : List (Str × V)}, FR Γ g H vs xs → FR Γ { g with am := g.am ++ l } H vs xs
  | _, _, .nil => .nil
  | _, _, .cons a r => .cons a.am (FR.am r)
theorem SR.am {l : List Addr} (s : SR Γ g H ρ σ) : SR Γ { g with am := g.am ++ l } H ρ σ := by
  refine ⟨s.len, fun i v e => ?_⟩
  obtain ⟨x, e1, r⟩ := s.at_ i v e
  refine ⟨x, e1, ?_⟩
  unfold SlotV at *
  split at r
  · obtain ⟨q, zs, e2, e3, e4, r⟩ := r
    exact ⟨q, zs, e2, e3, e4, r.am⟩
  · trivial
  · exact r.am
theorem RV.am {l : List Addr} {v : Val} {x : V} (r : RV Γ g H v x) : RV Γ { g with am := g.am ++ l } H v x := by
  cases r with
  | kept r => exact .kept r.am
  | own h w k => exact .own h w k.am
  | brw h w k => exact .brw h w k.am
theorem HR.add {hp : Heap} {p : Addr} {xs : List Val} {ys : List V} (h : HR Γ g hp H) (hw : g.ow p = none) (hl : H p = some (.lst ys)) (rk : RKs Γ g H xs ys) : HR Γ (g.add p) (hp ++ [.lst xs]) H := by
  have h1 : HR Γ (g.put p .obj) hp H := h.put hw hl
  have hnp : p ∉ g.am := fun z => by
    obtain ⟨a, e⟩ := List.mem_iff_getElem?.mp z
    have ha : a < hp.length := by rw [← h.len]; exact (List.getElem?_eq_some_iff.mp e).1
    obtain ⟨q, e1, e2, _⟩ := h.obj a hp[a] (List.getElem?_eq_getElem ha)
    rw [e] at e1; cases e1
    rw [hw] at e2; cases e2
  refine ⟨by show (g.am ++ [p]).length = _; simp [h.len], ?_, fun a o e => ?_, h1.dom, h1.sl⟩
  · show (g.am ++ [p]).Nodup
    rw [List.nodup_append]
    exact ⟨h.nd, by simp, fun a ha b hb => by simp at hb; subst hb; rintro rfl; exact hnp ha⟩
  · by_cases ha : a < hp.length
    · rw [List.getElem?_append_left ha] at e
      obtain ⟨q, e1, e2, r⟩ := h1.obj a o e
      refine ⟨q, by show (g.am ++ [p])[a]? = _; rw [List.getElem?_append_left (by rw [h.len]; exact ha)]; exact e1, e2, ?_⟩
      cases o with
      | lst us => obtain ⟨zs, e3, r⟩ := r; exact ⟨zs, e3, r.am⟩
      | ins c fs => obtain ⟨dx, fs', e3, r⟩ := r; exact ⟨dx, fs', e3, r.am⟩
    · have : a = hp.length := by
        have := (List.getElem?_eq_some_iff.mp e).1
        simp at this
        omega
      subst this
      simp at e
      subst e
      refine ⟨p, by show (g.am ++ [p])[_]? = _; rw [← h.len]; simp, Gh.put_same, ys, hl, ?_⟩
      exact (rk.put hw hl).am
theorem StpS.add {p : Addr} (s : StpS g0 H0 ρ0 σ0 g H ρ σ) (h0 : H0 p = none) : StpS g0 H0 ρ0 σ0 (g.add p) H ρ σ := by
  have t := s.put (w := .obj) h0
  exact ⟨⟨by obtain ⟨l, e⟩ := s.am; exact ⟨l ++ [p], by show g.am ++ [p] = _; rw [e, List.append_assoc]⟩, t.kept⟩, t.obj, t.acc, t.slot, t.ns, t.orp, t.unt⟩
/-- into a slot: what comes of it -/
theorem keep_ok {hp hp' : Heap} {i : Nat} {k : Sk} {v : Val} {x : V} {ρ' : Slots} (hr : HR Γ g hp H) (sr : SR Γ g H ρ σ) (rv : RV Γ g H v x) (fr : Frs H0 v x) (s : StpS g0 H0 ρ0 σ0 g H ρ σ) (e : keep i k v ρ hp = .ok ρ' hp') :
    ∃ g', HR Γ g' hp' H ∧ SR Γ g' H ρ' (σ.set i (some x)) ∧ StpS g0 H0 ρ0 σ0 g' H ρ' (σ.set i (some x)) ∧ ∀ (u : Val) (y : V), RV Γ g H u y → (∀ us xs, v = .lst .own us → u = .lst .own xs → y ≠ x) → RV Γ g' H u y := by
  cases k with
  | fz =>
    unfold keep at e
    simp only at e
    cases ef : fz v with
    | none => rw [ef] at e; cases e
    | some w =>
      rw [ef] at e
      cases e
      cases rv with
      | kept r =>
        have ew : w = v := by cases r <;> exact (Option.some.inj ef).symm
        subst ew
        exact ⟨g, hr, sr.set (SlotV.kept r), s.setK r.notOwn r.notLck, fun u y r _ => r⟩
      | own h w' kk =>
        cases ef
        exact ⟨g.put _ .imm, hr.put w' h, (sr.put w' h).set (SlotV.kept (.imm h Gh.put_same (kk.put w' h))), (s.put fr).setK (fun xs z => by cases z) (fun z => by cases z), fun u y r hne => r.put w' h (fun xs => hne _ xs rfl)⟩
      | brw h w' kk => cases ef
  | own =>
    unfold keep at e
    simp only at e
    cases v with
    | lst kd xs => cases kd with
      | own =>
        cases e
        cases rv with
        | kept r => cases r
        | own h w' kk =>
          exact ⟨g.put _ (.slot i), hr.put w' h, (sr.put w' h).set ⟨_, _, rfl, h, Gh.put_same, kk.put w' h⟩, (s.put fr).setO fr (fun z => by cases z), fun u y r hne => r.put w' h (fun xs => hne _ xs rfl)⟩
      | _ => cases e
    | _ => cases e
  | heap =>
    unfold keep at e
    simp only at e
    cases v with
    | lst kd xs => cases kd with
      | own =>
        cases e
        cases rv with
        | kept r => cases r
        | own h w' kk =>
          refine ⟨g.add _, hr.add w' h kk, ((sr.put w' h).am).set (SlotV.kept (.ref ?_)), (s.add fr).setK (fun xs z => by cases z) (fun z => by cases z), fun u y r hne => (r.put w' h (fun xs => hne _ xs rfl)).am⟩
          show (g.am ++ [_])[hp.length]? = _
          rw [← hr.len]; simp
      | _ => cases e
    | _ => cases e
end
end Mi

set_option Elab.async false
set_option linter.all false
set_option autoImplicit false
/-! Mi15: the statements. -/
namespace Mi
open PySem PySem.Spec L2 PyProof.Rows

theorem nodup_at {α : Type} : ∀ {l : List α} {i j : Nat} {x : α}, l.Nodup → l[i]? = some x → l[j]? = some x → i = j
  | [], i, j, x, _, h, _ => by simp at h
  | a :: l, 0, 0, x, _, _, _ => rfl
  | a :: l, 0, j + 1, x, nd, h, h' => by
    simp at h; subst h
    exact ((List.nodup_cons.mp nd).1 (List.mem_of_getElem? (by simpa using h'))).elim
  | a :: l, i + 1, 0, x, nd, h, h' => by
    simp at h'; subst h'
    exact ((List.nodup_cons.mp nd).1 (List.mem_of_getElem? (by simpa using h))).elim
  | a :: l, i + 1, j + 1, x, nd, h, h' => by
    rw [nodup_at (List.nodup_cons.mp nd).2 (i := i) (j := j) (by simpa using h) (by simpa using h')]

/-! ### a list with a holder is written -/
section
variable {Γ : Sig} {g : Gh} {H : Hp} {p : Addr} {w : Ow} {zs : List V} {ρ ρ0 : Slots} {σ σ0 : L2.St} {g0 : Gh} {H0 : Hp}
mutual
theorem RK.wr (hw : g.ow p = some w) (hi : w ≠ .imm) : ∀ {v : Val} {x : V}, RK Γ g H v x → RK Γ g (upd H p (.lst zs)) v x
  | _, _, .non => .non
  | _, _, .bl b => .bl b
  | _, _, .int i => .int i
  | _, _, .str x => .str x
  | _, _, .tup h e r => .tup (by rw [upd_ne (by rintro rfl; rw [hw] at e; cases e)]; exact h) e (RKs.wr hw hi r)
  | _, _, .imm h e r => .imm (by rw [upd_ne (by rintro rfl; rw [hw] at e; cases e; exact hi rfl)]; exact h) e (RKs.wr hw hi r)
  | _, _, .frz h e r => .frz (by rw [upd_ne (by rintro rfl; rw [hw] at e; cases e)]; exact h) e (RKs.wr hw hi r)
  | _, _, .ref h => .ref h
  | _, _, .fn f => .fn f
  | _, _, .cls c k => .cls c k
  | _, _, .ty t => .ty t
  | _, _, .exc h e a b => .exc (by rw [upd_ne (by rintro rfl; rw [hw] at e; cases e)]; exact h) e a b
theorem RKs.wr (hw : g.ow p = some w) (hi : w ≠ .imm) : ∀ {vs : List Val} {xs : List V}, RKs Γ g H vs xs → RKs Γ g (upd H p (.lst zs)) vs xs
  | _, _, .nil => .nil
  | _, _, .cons a r => .cons (RK.wr hw hi a) (RKs.wr hw hi r)
end
theorem FR.wr (hw : g.ow p = some w) (hi : w ≠ .imm) : ∀ {vs : List (Str × Val)} {xs : List (Str × V)}, FR Γ g H vs xs → FR Γ g (upd H p (.lst zs)) vs xs
  | _, _, .nil => .nil
  | _, _, .cons a r => .cons (a.wr hw hi) (FR.wr hw hi r)
/-- the slot i's list -/
theorem HR.wrS {hp : Heap} {i : Nat} (h : HR Γ g hp H) (hw : g.ow p = some (.slot i)) : HR Γ g hp (upd H p (.lst zs)) := by
  refine ⟨h.len, h.nd, fun a o e => ?_, fun q hq => ?_, fun q j hq => ?_⟩
  · obtain ⟨q, e1, e2, r⟩ := h.obj a o e
    have ne : q ≠ p := by rintro rfl; rw [hw] at e2; cases e2
    refine ⟨q, e1, e2, ?_⟩
    cases o with
    | lst xs => obtain ⟨ys, e3, r⟩ := r; exact ⟨ys, by rw [upd_ne ne]; exact e3, r.wr hw (by intro z; cases z)⟩
    | ins c fs => obtain ⟨dx, fs', e3, r⟩ := r; exact ⟨dx, fs', by rw [upd_ne ne]; exact e3, r.wr hw (by intro z; cases z)⟩
  · have ne : q ≠ p := by rintro rfl; rw [upd_same] at hq; cases hq
    rw [upd_ne ne] at hq
    exact h.dom q hq
  · by_cases e : q = p
    · subst e; exact ⟨_, upd_same⟩
    · rw [upd_ne e]; exact h.sl q j hq
theorem SR.wrS {i : Nat} {xs : List Val} (s : SR Γ g H ρ σ) (hw : g.ow p = some (.slot i)) (hs : σ[i]? = some (some (.ref p))) (rk : RKs Γ g H xs zs) : SR Γ g (upd H p (.lst zs)) (ρ.set i (some (.lst .own xs))) σ := by
  have hi : (Ow.slot i) ≠ .imm := by intro z; cases z
  refine ⟨by simp [s.len], fun j v e => ?_⟩
  by_cases hj : i = j
  · subst hj
    rw [List.getElem?_set_self'] at e
    cases hh : ρ[i]? with
    | none => rw [hh] at e; cases e
    | some o =>
      rw [hh] at e
      have e : Val.lst .own xs = v := by simpa using e
      subst e
      exact ⟨_, hs, p, zs, rfl, upd_same, hw, rk.wr hw hi⟩
  · rw [List.getElem?_set_ne hj] at e
    obtain ⟨x, e1, r⟩ := s.at_ j v e
    refine ⟨x, e1, ?_⟩
    unfold SlotV at *
    split at r
    · obtain ⟨q, us, e2, e3, e4, r⟩ := r
      exact ⟨q, us, e2, by rw [upd_ne (by rintro rfl; rw [hw] at e4; cases e4; exact hj rfl)]; exact e3, e4, r.wr hw hi⟩
    · trivial
    · exact r.wr hw hi
theorem StpS.wrS {i : Nat} {xs xs' : List Val} {o : HO} (s : StpS g0 H0 ρ0 σ0 g H ρ σ) (hw : g.ow p = some (.slot i)) (hp : H p = some o) (hr : ρ[i]? = some (some (.lst .own xs))) (hs : σ[i]? = some (some (.ref p))) : StpS g0 H0 ρ0 σ0 g (upd H p (.lst zs)) (ρ.set i (some (.lst .own xs'))) σ := by
  refine s.trans ⟨⟨⟨[], by simp⟩, fun q o e z => ?_⟩, fun q o e z => ?_, fun q o e z => ?_, fun q o j e z => ?_, fun q j z => .inl z, fun q j o e z n => ?_, fun j e => ?_⟩
  · exact ⟨rfl, by rw [upd_ne (by rintro rfl; rw [hw] at z; rcases z with z | z <;> cases z)]; exact e⟩
  · exact ⟨z, o, by rw [upd_ne (by rintro rfl; rw [hw] at z; cases z)]; exact e⟩
  · exact ⟨z, by rw [upd_ne (by rintro rfl; rw [hw] at z; cases z)]; exact e⟩
  · refine ⟨z, ?_⟩
    by_cases hq : q = p
    · subst hq; exact ⟨_, upd_same⟩
    · exact ⟨o, by rw [upd_ne hq]; exact e⟩
  · have hq : q ≠ p := by
      rintro rfl
      rw [hw] at z; cases z
      exact n ⟨xs, hr, hs⟩
    refine ⟨by rw [upd_ne hq]; exact e, fun ⟨us, h1, h2⟩ => ?_⟩
    by_cases hj : i = j
    · subst hj; exact n ⟨xs, hr, h2⟩
    · rw [List.getElem?_set_ne hj] at h1; exact n ⟨us, h1, h2⟩
  · obtain ⟨h1, _⟩ := set_unt (σ := σ) (x := none) (fun z => by cases z) e
    exact ⟨h1, rfl⟩
/-- a list of the evaluator's heap -/
theorem HR.wrO {hp : Heap} {a : Nat} {xs : List Val} (h : HR Γ g hp H) (ha : g.am[a]? = some p) (hw : g.ow p = some .obj) (rk : RKs Γ g H xs zs) : HR Γ g (hp.set a (.lst xs)) (upd H p (.lst zs)) := by
  have hi : Ow.obj ≠ .imm := by intro z; cases z
  refine ⟨by simp [h.len], h.nd, fun b o e => ?_, fun q hq => ?_, fun q j hq => ?_⟩
  · by_cases hb : a = b
    · subst hb
      rw [List.getElem?_set_self'] at e
      cases hh : hp[a]? with
      | none => rw [hh] at e; cases e
      | some o' =>
        rw [hh] at e
        have e : Obj.lst xs = o := by simpa using e
        subst e
        exact ⟨p, ha, hw, zs, upd_same, rk.wr hw hi⟩
    · rw [List.getElem?_set_ne hb] at e
      obtain ⟨q, e1, e2, r⟩ := h.obj b o e
      have ne : q ≠ p := by
        rintro rfl
        exact hb (nodup_at h.nd ha e1)
      refine ⟨q, e1, e2, ?_⟩
      cases o with
      | lst xs => obtain ⟨ys, e3, r⟩ := r; exact ⟨ys, by rw [upd_ne ne]; exact e3, r.wr hw hi⟩
      | ins c fs => obtain ⟨dx, fs', e3, r⟩ := r; exact ⟨dx, fs', by rw [upd_ne ne]; exact e3, r.wr hw hi⟩
  · have ne : q ≠ p := by rintro rfl; rw [upd_same] at hq; cases hq
    rw [upd_ne ne] at hq
    exact h.dom q hq
  · have ne : q ≠ p := by rintro rfl; rw [hw] at hq; cases hq
    rw [upd_ne ne]; exact h.sl q j hq
theorem SR.wrO (s : SR Γ g H ρ σ) (hw : g.ow p = some .obj) : SR Γ g (upd H p (.lst zs)) ρ σ := by
  have hi : Ow.obj ≠ .imm := by intro z; cases z
  refine ⟨s.len, fun j v e => ?_⟩
  obtain ⟨x, e1, r⟩ := s.at_ j v e
  refine ⟨x, e1, ?_⟩
  unfold SlotV at *
  split at r
  · obtain ⟨q, us, e2, e3, e4, r⟩ := r
    exact ⟨q, us, e2, by rw [upd_ne (by rintro rfl; rw [hw] at e4; cases e4)]; exact e3, e4, r.wr hw hi⟩
  · trivial
  · exact r.wr hw hi
theorem StpS.wrO (s : StpS g0 H0 ρ0 σ0 g H ρ σ) (hw : g.ow p = some .obj) : StpS g0 H0 ρ0 σ0 g (upd H p (.lst zs)) ρ σ := by
  refine s.trans ⟨⟨⟨[], by simp⟩, fun q o e z => ?_⟩, fun q o e z => ?_, fun q o e z => ?_, fun q o j e z => ?_, fun q j z => .inl z, fun q j o e z n => ?_, fun j e => ⟨e, rfl⟩⟩
  · exact ⟨rfl, by rw [upd_ne (by rintro rfl; rw [hw] at z; rcases z with z | z <;> cases z)]; exact e⟩
  · refine ⟨z, ?_⟩
    by_cases hq : q = p
    · subst hq; exact ⟨_, upd_same⟩
    · exact ⟨o, by rw [upd_ne hq]; exact e⟩
  · exact ⟨z, by rw [upd_ne (by rintro rfl; rw [hw] at z; cases z)]; exact e⟩
  · exact ⟨z, o, by rw [upd_ne (by rintro rfl; rw [hw] at z; cases z)]; exact e⟩
  · exact ⟨by rw [upd_ne (by rintro rfl; rw [hw] at z; cases z)]; exact e, n⟩
end

section
variable {Γ : Sig} {T : Tab} {cf : Nat → List Val → Heap → R Val} {k N : Nat} {cs : Cs} {X : Cx} {Wx : WX} {st : Stmt}
theorem ss_set {i : Nat} {k : Sk} {m : E} (h : PS X st (tAsg (tEv Γ cf Wx m) (gName i))) : PS X st (tSt Γ cf N Wx (.set i k m)) := by
  refine ⟨fun pins s σ H D I hq => h.run pins s σ H D I ?_⟩
  obtain ⟨g, ρ, hp, hr, sr, hq⟩ := hq
  unfold ex at hq
  refine ⟨g, ρ, hp, hr, sr, Post.mono (PostS.bindV hq) fun x H1 ⟨g1, hp1, v, st1, hr1, rv1, fr1, h1⟩ => ?_⟩
  cases ek : keep i k v ρ hp1 with
  | bad => simp only [ek, R.bind] at h1; exact h1.elim
  | exc c h => cases k <;> (unfold keep at ek; simp only at ek; split at ek <;> cases ek)
  | ok ρ' hp' =>
    simp only [ek, R.bind] at h1
    obtain ⟨g2, hr2, sr2, s2, _⟩ := keep_ok hr1 (sr.mono st1) rv1 fr1 st1.toS ek
    exact h1 g2 H1 _ s2 hr2 sr2
theorem keep_noexc {i : Nat} {k : Sk} {v : Val} {ρ : Slots} {hp hp' : Heap} {c : Nat} (h : keep i k v ρ hp = .exc c hp') : False := by
  cases k <;> (unfold keep at h; simp only at h; split at h <;> cases h)
theorem ne_fresh {g g' : Gh} {H H' : Hp} {v u : Val} {x y : V} {us xs : List Val} (rv : RV Γ g H v x) (ev : v = .lst .own us) (eu : u = .lst .own xs) (ry : RV Γ g' H' u y) (fr : Frs H u y) : y ≠ x := by
  subst ev eu
  cases rv with
  | kept r => cases r
  | own h w k =>
    cases ry with
    | kept r => cases r
    | own h' w' k' =>
      have fr : H _ = none := fr
      rintro e
      cases e
      rw [fr] at h; cases h
/-- two values into two slots -/
theorem two_keep {i j : Nat} {k l : Sk} {x y : V} {vx vy : Val} {g g1 g2 : Gh} {H H1 H2 : Hp} {ρ : Slots} {σ : L2.St} {hp2 : Heap} {D : Ends} {W : Nat → L2.St → Hp → Prop}
    (st1 : Stp g H g1 H1) (rv1 : RV Γ g1 H1 vx x) (fr1 : Frs H vx x) (st2 : Stp g1 H1 g2 H2) (hr2 : HR Γ g2 hp2 H2) (rv2 : RV Γ g2 H2 vy y) (fr2 : Frs H1 vy y) (sr : SR Γ g H ρ σ)
    (h : PostS Γ g H ρ σ ((keep i k vx ρ hp2).bind fun ρ h => (keep j l vy ρ h).bind fun ρ h => .ok (.nx ρ) h) D W) :
    ∃ g' hp' ρ', HR Γ g' hp' H2 ∧ SR Γ g' H2 ρ' ((σ.set i (some x)).set j (some y)) ∧ StpS g H ρ σ g' H2 ρ' ((σ.set i (some x)).set j (some y)) ∧ PostS Γ g H ρ σ (.ok (.nx ρ') hp') D W := by
  cases ek : keep i k vx ρ hp2 with
  | bad => simp only [ek, R.bind] at h; exact h.elim
  | exc c h' => exact (keep_noexc ek).elim
  | ok ρ' hp' =>
    simp only [ek, R.bind] at h
    obtain ⟨g3, hr3, sr3, s3, tr⟩ := keep_ok hr2 ((sr.mono st1).mono st2) (rv1.mono st2) fr1 (st1.trans st2).toS ek
    have rv3 := tr vy y rv2 (fun us xs e1 e2 => ne_fresh rv1 e1 e2 rv2 fr2)
    cases el : keep j l vy ρ' hp' with
    | bad => simp only [el] at h; exact h.elim
    | exc c h' => exact (keep_noexc el).elim
    | ok ρ'' hp'' =>
      simp only [el] at h
      obtain ⟨g4, hr4, sr4, s4, _⟩ := keep_ok hr3 sr3 rv3 (Frs.mono st1 fr2) s3 el
      exact ⟨g4, hp'', ρ'', hr4, sr4, s4, h⟩
theorem ss_par2s {i j : Nat} {k l : Sk} {a b : E} (h : PS X st (tPar i j (tCons (tEv Γ cf Wx a) (tCons (tEv Γ cf Wx b) tNil)))) : PS X st (tSt Γ cf N Wx (.par2 i k j l a b)) := by
  refine ⟨fun pins s σ H D I hq => h.run pins s σ H D I ?_⟩
  obtain ⟨g, ρ, hp, hr, sr, hq⟩ := hq
  unfold ex at hq
  refine ⟨g, ρ, hp, hr, sr, Post.mono (PostS.bindV hq) fun x H1 ⟨g1, hp1, vx, st1, hr1, rv1, fr1, h1⟩ => ?_⟩
  refine ⟨g1, ρ, hp1, hr1, sr.mono st1, Post.mono (PostS.bindV2 h1 st1) fun y H2 ⟨g2, hp2, vy, st2, hr2, rv2, fr2, h2⟩ => ?_⟩
  obtain ⟨g', hp', ρ', hr', sr', s', q⟩ := two_keep st1 rv1 fr1 st2 hr2 rv2 fr2 sr h2
  exact ⟨x, y, rfl, q g' H2 _ s' hr' sr'⟩
theorem ss_par2t {i j : Nat} {k l : Sk} {a b : E} (h : PS X st (tAsg (tTup (tCons (tEv Γ cf Wx a) (tCons (tEv Γ cf Wx b) tNil))) (gTup X.K 2 (gCons (gName i) (gCons (gName j) gNil))))) : PS X st (tSt Γ cf N Wx (.par2 i k j l a b)) := by
  refine ⟨fun pins s σ H D I hq => h.run pins s σ H D I ?_⟩
  obtain ⟨g, ρ, hp, hr, sr, hq⟩ := hq
  unfold ex at hq
  refine ⟨g, ρ, hp, hr, sr, Post.mono (PostS.bindV hq) fun x H1 ⟨g1, hp1, vx, st1, hr1, rv1, fr1, h1⟩ => ?_⟩
  refine ⟨g1, ρ, hp1, hr1, sr.mono st1, Post.mono (PostS.bindV2 h1 st1) fun y H2 ⟨g2, hp2, vy, st2, hr2, rv2, fr2, h2⟩ => ?_⟩
  obtain ⟨g', hp', ρ', hr', sr', s', q⟩ := two_keep st1 rv1 fr1 st2 hr2 rv2 fr2 sr h2
  refine ⟨by show 2 ≤ sizeLine; decide, fun p hn => ⟨p, [x, y], rfl, SqT.of upd_same, rfl, x, [y], rfl, y, [], rfl, rfl, ?_⟩⟩
  exact q g' _ _ (s'.then (Stp.new hn)) (hr'.new hn) (sr'.mono (Stp.new hn))
theorem ss_par3s {i j m' : Nat} {k l n : Sk} {a b c : E} (h : PS X st (tPar3 i j m' (tCons (tEv Γ cf Wx a) (tCons (tEv Γ cf Wx b) (tCons (tEv Γ cf Wx c) tNil))))) : PS X st (tSt Γ cf N Wx (.par3 i k j l m' n a b c)) := by
  refine ⟨fun pins s σ H D I hq => h.run pins s σ H D I ?_⟩
  obtain ⟨g, ρ, hp, hr, sr, hq⟩ := hq
  unfold ex at hq
  refine ⟨g, ρ, hp, hr, sr, Post.mono (PostS.bindV hq) fun x H1 ⟨g1, hp1, vx, st1, hr1, rv1, fr1, h1⟩ => ?_⟩
  refine ⟨g1, ρ, hp1, hr1, sr.mono st1, Post.mono (PostS.bindV2 h1 st1) fun y H2 ⟨g2, hp2, vy, st2, hr2, rv2, fr2, h2⟩ => ?_⟩
  refine ⟨g2, ρ, hp2, hr2, (sr.mono st1).mono st2, Post.mono (PostS.bindV2 h2 (st1.trans st2)) fun z H3 ⟨g3, hp3, vz, st3, hr3, rv3, fr3, h3⟩ => ?_⟩
  dsimp only at h3
  cases ek : keep i k vx ρ hp3 with
  | bad => simp only [ek, R.bind] at h3; exact h3.elim
  | exc c h' => exact (keep_noexc ek).elim
  | ok ρ' hp' =>
    simp only [ek, R.bind] at h3
    obtain ⟨g4, hr4, sr4, s4, tr⟩ := keep_ok hr3 (((sr.mono st1).mono st2).mono st3) ((rv1.mono st2).mono st3) fr1 ((st1.trans st2).trans st3).toS ek
    have rvy := tr vy y (rv2.mono st3) (fun us xs e1 e2 => ne_fresh rv1 e1 e2 rv2 fr2)
    have rvz := tr vz z rv3 (fun us xs e1 e2 => ne_fresh (rv1.mono st2) e1 e2 rv3 fr3)
    cases el : keep j l vy ρ' hp' with
    | bad => simp only [el] at h3; exact h3.elim
    | exc c h' => exact (keep_noexc el).elim
    | ok ρ'' hp'' =>
      simp only [el] at h3
      obtain ⟨g5, hr5, sr5, s5, tr5⟩ := keep_ok hr4 sr4 rvy (Frs.mono st1 fr2) s4 el
      have rvz5 := tr5 vz z rvz (fun us xs e1 e2 => ne_fresh rv2 e1 e2 rv3 fr3)
      cases en : keep m' n vz ρ'' hp'' with
      | bad => simp only [en] at h3; exact h3.elim
      | exc c h' => exact (keep_noexc en).elim
      | ok ρ3 hp4 =>
        simp only [en] at h3
        obtain ⟨g6, hr6, sr6, s6, _⟩ := keep_ok hr5 sr5 rvz5 (Frs.mono (st1.trans st2) fr3) s5 en
        exact ⟨x, y, z, rfl, h3 g6 H3 _ s6 hr6 sr6⟩
end
end Mi

set_option Elab.async false
set_option linter.all false
set_option autoImplicit false
/-! Mi16: the statements. -/
namespace Mi
open PySem PySem.Spec L2 PyProof.Rows
section
variable {Γ : Sig} {T : Tab} {cf : Nat → List Val → Heap → R Val} {k N : Nat} {cs : Cs} {X : Cx} {Wx : WX} {st : Stmt}

/-! ### targets within statements -/
theorem bindT_slots {g : Gh} {H : Hp} : ∀ {t : Tg} {v : Val} {x : V} {ρ ρ' : Slots}, RK Γ g H v x → bindT t v ρ = some ρ' → ∀ j : Nat, (j ∉ t.slots ∧ ρ'[j]? = ρ[j]?) ∨ (j ∈ t.slots ∧ (ρ'[j]? = none ∨ ∃ w, ρ'[j]? = some (some w) ∧ (∀ xs, w ≠ .lst .own xs) ∧ w ≠ lck))
  | .nm i, v, x, ρ, ρ', r, e, j => by
    cases e
    by_cases h : i = j
    · subst h
      right
      refine ⟨by simp [Tg.slots], ?_⟩
      rw [List.getElem?_set_self']
      cases ρ[i]? with
      | none => exact .inl rfl
      | some o => exact .inr ⟨v, rfl, r.notOwn, r.notLck⟩
    · left
      exact ⟨by simp [Tg.slots]; exact fun z => h z.symm, by rw [List.getElem?_set_ne h]⟩
  | .tp2 a b, v, x, ρ, ρ', r, e, j => by
    obtain ⟨x1, x2, ρ1, rfl, b1, b2⟩ := bindT_tp2 e
    cases r with
    | tup hp w rks => cases rks with
      | cons r1 rks => cases rks with
        | cons r2 rks =>
          have h1 := bindT_slots r1 b1 j
          have h2 := bindT_slots r2 b2 j
          simp only [Tg.slots, List.mem_append, not_or]
          rcases h2 with ⟨n2, e2⟩ | ⟨m2, q2⟩
          · rw [e2]
            rcases h1 with ⟨n1, e1⟩ | ⟨m1, q1⟩
            · exact .inl ⟨⟨n1, n2⟩, e1⟩
            · exact .inr ⟨.inl m1, q1⟩
          · exact .inr ⟨.inr m2, q2⟩
  | .tp3 a b c, v, x, ρ, ρ', r, e, j => by
    obtain ⟨x1, x2, x3, ρ1, ρ2, rfl, b1, b2, b3⟩ := bindT_tp3 e
    cases r with
    | tup hp w rks => cases rks with
      | cons r1 rks => cases rks with
        | cons r2 rks => cases rks with
          | cons r3 rks =>
            have h1 := bindT_slots r1 b1 j
            have h2 := bindT_slots r2 b2 j
            have h3 := bindT_slots r3 b3 j
            simp only [Tg.slots, List.mem_append, not_or]
            rcases h3 with ⟨n3, e3⟩ | ⟨m3, q3⟩
            · rw [e3]
              rcases h2 with ⟨n2, e2⟩ | ⟨m2, q2⟩
              · rw [e2]
                rcases h1 with ⟨n1, e1⟩ | ⟨m1, q1⟩
                · exact .inl ⟨⟨n1, n2, n3⟩, e1⟩
                · exact .inr ⟨.inl m1, q1⟩
              · exact .inr ⟨.inr (.inl m2), q2⟩
            · exact .inr ⟨.inr (.inr m3), q3⟩
theorem StpS.bindT {g g0 : Gh} {H H0 : Hp} {ρ ρ0 ρ' : Slots} {σ σ0 σ' : L2.St} {t : Tg} {v : Val} {x : V} (s : StpS g0 H0 ρ0 σ0 g H ρ σ) (r : RK Γ g H v x) (e : Mi.bindT t v ρ = some ρ') (ho : ∀ i, i ∉ t.slots → σ'[i]? = σ[i]?) : StpS g0 H0 ρ0 σ0 g H ρ' σ' := by
  refine ⟨s.toKeep, s.obj, s.acc, s.slot, s.ns, fun p j o h w n => ?_, fun j h => ?_⟩
  · obtain ⟨h1, n1⟩ := s.orp p j o h w n
    refine ⟨h1, fun ⟨xs, z1, z2⟩ => ?_⟩
    rcases bindT_slots r e j with ⟨a, b⟩ | ⟨a, b⟩
    · exact n1 ⟨xs, by rw [← b]; exact z1, by rw [← ho j a]; exact z2⟩
    · rcases b with b | ⟨w', b, c⟩
      · rw [b] at z1; cases z1
      · rw [b] at z1
        cases z1
        exact c.1 xs rfl
  · rcases bindT_slots r e j with ⟨a, b⟩ | ⟨a, b⟩
    · rw [b] at h
      obtain ⟨h2, e2⟩ := s.unt j h
      exact ⟨h2, (ho j a).trans e2⟩
    · rcases b with b | ⟨w', b, c⟩
      · rw [b] at h; cases h
      · rw [b] at h; cases h; exact (c.2 rfl).elim
def notNm : Tg → Bool
  | .nm _ => false
  | _ => true
theorem ss_unp {t : Tg} {m : E} (hn : notNm t = true) (h : PS X st (tAsg (tEv Γ cf Wx m) (tTg Γ t))) : PS X st (tSt Γ cf N Wx (.unp t m)) := by
  refine ⟨fun pins s σ H D I hq => h.run pins s σ H D I ?_⟩
  obtain ⟨g, ρ, hp, hr, sr, hq⟩ := hq
  unfold ex at hq
  refine ⟨g, ρ, hp, hr, sr, Post.mono (PostS.bindV hq) fun x H1 ⟨g1, hp1, v, st1, hr1, rv1, fr1, h1⟩ => ?_⟩
  dsimp only at h1
  cases eb : bindT t v ρ with
  | none => rw [eb] at h1; exact h1.elim
  | some ρ' =>
    rw [eb] at h1
    have rk : RK Γ g1 H1 v x := by
      cases rv1 with
      | kept r => exact r
      | own h w k => cases t <;> first | (cases hn; done) | cases eb
      | brw h w k => cases t <;> first | (cases hn; done) | cases eb
    exact ⟨g1, ρ, v, ρ', sr.mono st1, rk, eb, fun σ' sr' o' l' => h1 g1 H1 σ' (st1.toS.bindT rk eb o') hr1 sr'⟩

/-! ### a list is written -/
/-- a slot's own list -/
theorem SR.own {g : Gh} {H : Hp} {ρ : Slots} {σ : L2.St} {i : Nat} {xs : List Val} (sr : SR Γ g H ρ σ) (e : ρ[i]? = some (some (.lst .own xs))) : ∃ p ys, σ[i]? = some (some (.ref p)) ∧ H p = some (.lst ys) ∧ g.ow p = some (.slot i) ∧ RKs Γ g H xs ys := by
  obtain ⟨x, e1, p, ys, rfl, h1, h2, h3⟩ := sr.at_ i _ e
  exact ⟨p, ys, e1, h1, h2, h3⟩
theorem ss_six {i : Nat} {ie ve : E} (h : PS X st (tAsg (tEv Γ cf Wx ve) (gSub (tVar i) (tEv Γ cf Wx ie) rSetL))) : PS X st (tSt Γ cf N Wx (.six i ie ve)) := by
  refine ⟨fun pins s σ H D I hq => h.run pins s σ H D I ?_⟩
  obtain ⟨g, ρ, hp, hr, sr, hq⟩ := hq
  unfold ex at hq
  refine ⟨g, ρ, hp, hr, sr, Post.mono (PostS.bindV hq) fun x H1 ⟨g1, hp1, v, st1, hr1, rv1, fr1, h1⟩ => ?_⟩
  dsimp only at h1
  split at h1 <;> first | exact h1.elim | skip
  rename_i xs er
  obtain ⟨p, ys, es, _⟩ := sr.own er
  refine ⟨.ref p, es, g1, ρ, hp1, hr1, sr.mono st1, Post.mono (PostS.bindV2 h1 st1) fun y H2 ⟨g2, hp2, vj, st2, hr2, rv2, fr2, h2⟩ => ?_⟩
  dsimp only at h2
  have st12 := st1.trans st2
  have sr2 := sr.mono st12
  obtain ⟨p', ys2, es', hp', ow2, rk2⟩ := sr2.own er
  rw [es] at es'; cases es'
  split at h2 <;> first | exact h2.elim | skip
  rename_i w j ef
  split at h2 <;> first | exact h2.elim | skip
  rename_i n en
  have rv1' := rv1.mono st2
  obtain ⟨g3, _, rk3, hr3, st3, ow3, rks3, srt, _⟩ := rv1'.fz ef fr1 hr2 st12
  have ow3' : g3.ow p = some (.slot i) := by rw [ow3 p (by rw [ow2]; intro z; cases z)]; exact ow2
  refine ⟨p, ys2, j, n, rfl, rv2.int, hp', by rw [← rk2.length]; exact en, ?_⟩
  exact h2 g3 _ σ (st3.toS.wrS ow3' hp' er es) (hr3.wrS ow3') ((srt sr2).wrS ow3' es (RKs.set rk3 n (rks3 rk2)))
theorem ss_app {i : Nat} {m : E} (h : PS X st (tDrop (tBM X.K "list" rAppend (tVar i) (tCons (tEv Γ cf Wx m) tNil)))) : PS X st (tSt Γ cf N Wx (.app i m)) := by
  refine ⟨fun pins s σ H D I hq => h.run pins s σ H D I ?_⟩
  obtain ⟨g, ρ, hp, hr, sr, hq⟩ := hq
  unfold ex at hq
  split at hq <;> first | exact hq.elim | skip
  rename_i xs er
  obtain ⟨p, ys, es, hp', ow, rk⟩ := sr.own er
  refine ⟨.ref p, es, .inl ⟨rfl, ys, SqL.of hp'⟩, g, ρ, hp, hr, sr, Post.mono (PostS.bindV hq) fun x H1 ⟨g1, hp1, v, st1, hr1, rv1, fr1, h1⟩ => ?_⟩
  dsimp only at h1
  split at h1 <;> first | exact h1.elim | skip
  rename_i w ef
  split at h1 <;> first | exact h1.elim | skip
  rename_i hz
  have hz : xs.length < sizeLine := of_decide_eq_true hz
  obtain ⟨g3, _, rk3, hr3, st3, ow3, rks3, srt, _⟩ := rv1.fz ef fr1 hr1 st1
  obtain ⟨ow1, hp1'⟩ := st1.slot p _ i hp' ow
  have ow3' : g3.ow p = some (.slot i) := by rw [ow3 p (by rw [ow1]; intro z; cases z)]; exact ow1
  refine ⟨p, ys, x, rfl, rfl, hp1', by rw [← rk.length]; exact hz, ?_⟩
  exact h1 g3 _ σ (st3.toS.wrS ow3' hp1' er es) (hr3.wrS ow3') ((srt (sr.mono st1)).wrS ow3' es ((rks3 (rk.mono st1.toKeep)).append (.cons rk3 .nil)))
theorem HR.lst {g : Gh} {H : Hp} {hp : Heap} {a : Nat} {xs : List Val} {x : V} (hr : HR Γ g hp H) (rv : RV Γ g H (.ref a) x) (e : hp[a]? = some (.lst xs)) : ∃ p ys, x = .ref p ∧ g.am[a]? = some p ∧ H p = some (.lst ys) ∧ g.ow p = some .obj ∧ RKs Γ g H xs ys := by
  cases rv with
  | kept r => cases r with
    | ref ha =>
      obtain ⟨q, e1, e2, ys, e3, r⟩ := hr.obj a _ e
      rw [ha] at e1; cases e1
      exact ⟨_, ys, rfl, ha, e3, e2, r⟩
theorem ss_appr {oe m : E} (h : PS X st (tDrop (tBM X.K "list" rAppend (tEv Γ cf Wx oe) (tCons (tEv Γ cf Wx m) tNil)))) : PS X st (tSt Γ cf N Wx (.appr oe m)) := by
  refine ⟨fun pins s σ H D I hq => h.run pins s σ H D I ?_⟩
  obtain ⟨g, ρ, hp, hr, sr, hq⟩ := hq
  unfold ex at hq
  refine ⟨g, ρ, hp, hr, sr, Post.mono (PostS.bindV hq) fun o H1 ⟨g1, hp1, vo, st1, hr1, rv1, fr1, h1⟩ => ?_⟩
  dsimp only at h1
  split at h1 <;> first | exact h1.elim | skip
  rename_i a
  split at h1 <;> first | exact h1.elim | skip
  rename_i us eu
  obtain ⟨p, ys, rfl, ha, hp', ow, rk⟩ := hr1.lst rv1 eu
  refine ⟨.inl ⟨rfl, ys, SqL.of hp'⟩, g1, ρ, hp1, hr1, sr.mono st1, Post.mono (PostS.bindV2 h1 st1) fun x H2 ⟨g2, hp2, v, st2, hr2, rv2, fr2, h2⟩ => ?_⟩
  dsimp only at h2
  split at h2 <;> first | exact h2.elim | skip
  rename_i w xs ef ex
  split at h2 <;> first | exact h2.elim | skip
  rename_i hz
  have hz : xs.length < sizeLine := of_decide_eq_true hz
  have st12 := st1.trans st2
  obtain ⟨p2, zs, ep, ha2, hp2', ow2, rk2⟩ := hr2.lst (rv1.mono st2) ex
  cases ep
  obtain ⟨g3, am3, rk3, hr3, st3, ow3, rks3, srt, _⟩ := rv2.fz ef (Frs.mono st1 fr2) hr2 st12
  have ow3' : g3.ow p = some .obj := by rw [ow3 p (by rw [ow2]; intro z; cases z)]; exact ow2
  refine ⟨p, zs, x, rfl, rfl, hp2', by rw [← rk2.length]; exact hz, ?_⟩
  exact h2 g3 _ σ (st3.toS.wrO ow3') (hr3.wrO (by rw [am3]; exact ha2) ow3' ((rks3 rk2).append (.cons rk3 .nil))) ((srt (sr.mono st12)).wrO ow3')
theorem ss_sixr {oe ie ve : E} (h : PS X st (tAsg (tEv Γ cf Wx ve) (gSub (tEv Γ cf Wx oe) (tEv Γ cf Wx ie) rSetL))) : PS X st (tSt Γ cf N Wx (.sixr oe ie ve)) := by
  refine ⟨fun pins s σ H D I hq => h.run pins s σ H D I ?_⟩
  obtain ⟨g, ρ, hp, hr, sr, hq⟩ := hq
  unfold ex at hq
  refine ⟨g, ρ, hp, hr, sr, Post.mono (PostS.bindV hq) fun x H1 ⟨g1, hp1, v, st1, hr1, rv1, fr1, h1⟩ => ?_⟩
  dsimp only at h1
  split at h1 <;> first | exact h1.elim | skip
  rename_i w ef
  obtain ⟨g3, am3, rk3, hr3, st3, ow3, rks3, srt, _⟩ := rv1.fz ef fr1 hr1 st1
  refine ⟨g3, ρ, hp1, hr3, srt (sr.mono st1), Post.mono (PostS.bindV2 h1 st3) fun o H4 ⟨g4, hp4, vo, st4, hr4, rv4, fr4, h4⟩ => ?_⟩
  have st34 := st3.trans st4
  refine ⟨g4, ρ, hp4, hr4, sr.mono st34, Post.mono (PostS.bindV2 h4 st34) fun y H5 ⟨g5, hp5, vj, st5, hr5, rv5, fr5, h5⟩ => ?_⟩
  dsimp only at h5
  cases vo with
  | ref a => cases vj with
    | int j =>
      dsimp only at h5
      split at h5 <;> first | exact h5.elim | skip
      rename_i xs ex
      split at h5 <;> first | exact h5.elim | skip
      rename_i n en
      obtain ⟨p, ys, rfl, ha, hp', ow, rk⟩ := hr5.lst (rv4.mono st5) ex
      refine ⟨p, ys, j, n, rfl, rv5.int, hp', by rw [← rk.length]; exact en, ?_⟩
      exact h5 g5 _ σ ((st34.trans st5).toS.wrO ow) (hr5.wrO ha ow (RKs.set (rk3.mono (st4.trans st5).toKeep) n rk)) ((sr.mono (st34.trans st5)).wrO ow)
    | _ => exact h5.elim
  | _ => exact h5.elim

/-! ### simple ones -/
theorem ss_ex {m : E} (h : PS X st (tDrop (tEv Γ cf Wx m))) : PS X st (tSt Γ cf N Wx (.ex m)) := by
  refine ⟨fun pins s σ H D I hq => h.run pins s σ H D I ?_⟩
  obtain ⟨g, ρ, hp, hr, sr, hq⟩ := hq
  unfold ex at hq
  exact ⟨g, ρ, hp, hr, sr, Post.mono (PostS.bindV hq) fun x H1 ⟨g1, hp1, v, st1, hr1, rv1, fr1, h1⟩ => h1 g1 H1 σ st1.toS hr1 (sr.mono st1)⟩
theorem ss_pas (h : PS X st tNext) : PS X st (tSt Γ cf N Wx .pas) := by
  refine ⟨fun pins s σ H D I hq => h.run pins s σ H D I ?_⟩
  obtain ⟨g, ρ, hp, hr, sr, hq⟩ := hq
  unfold ex at hq
  exact hq g H σ StpS.refl hr sr
theorem ss_ret {m : E} (h : PS X st (tRet (tEv Γ cf Wx m))) : PS X st (tSt Γ cf N Wx (.ret m)) := by
  refine ⟨fun pins s σ H D I hq => h.run pins s σ H D I ?_⟩
  obtain ⟨g, ρ, hp, hr, sr, hq⟩ := hq
  unfold ex at hq
  refine ⟨g, ρ, hp, hr, sr, Post.mono (PostS.bindV hq) fun x H1 ⟨g1, hp1, v, st1, hr1, rv1, fr1, h1⟩ => ?_⟩
  dsimp only at h1
  split at h1
  · rename_i xs
    cases rv1 with
    | kept r => cases r
    | brw hh w kk => exact h1 g1 H1 ρ σ _ st1.toS hr1 (.inr ⟨_, _, _, _, rfl, rfl, hh, w, kk⟩)
  · rename_i hn
    exact h1 g1 H1 ρ σ x st1.toS hr1 (.inl ⟨rv1, fr1, fun xs z => hn xs z⟩)
theorem ss_rais {c : Nat} (h : PS X st (fun _ σ H => Wx (.ref (Γ.ca c)) none σ H)) : PS X st (tSt Γ cf N Wx (.rais c)) := by
  refine ⟨fun pins s σ H D I hq => h.run pins s σ H D I ?_⟩
  obtain ⟨g, ρ, hp, hr, sr, hq⟩ := hq
  unfold ex at hq
  exact hq g H ρ σ StpS.refl hr
theorem PostS.bindT {g : Gh} {H : Hp} {ρ : Slots} {σ : L2.St} {D : Ends} {W : Nat → L2.St → Hp → Prop} {r : R Val} {kt kf : Heap → R Fl} (h : PostS Γ g H ρ σ (r.bind fun x h => match truth h x with | some true => kt h | some false => kf h | none => .bad) D W) :
    PostR Γ (fun _ _ (a b : Bool) => a = b) g H (r.bind fun x h => .of (truth h x) h) (fun b H1 => ∃ g1 hp1, Stp g H g1 H1 ∧ HR Γ g1 hp1 H1 ∧ PostS Γ g1 H1 ρ σ (if b then kt hp1 else kf hp1) D W) (fun c H' => W c σ H') := by
  cases r with
  | bad => exact h
  | exc c hp => exact fun g' H' s hr => h g' H' ρ σ s.toS hr
  | ok v hp =>
    simp only [R.bind] at h ⊢
    cases e : truth hp v with
    | none => rw [e] at h; exact h.elim
    | some b =>
      rw [e] at h
      cases b with
      | true => exact fun g' b' H' s hr eb => by subst eb; exact ⟨g', hp, s, hr, PostS.rebase h s.toS⟩
      | false => exact fun g' b' H' s hr eb => by subst eb; exact ⟨g', hp, s, hr, PostS.rebase h s.toS⟩
theorem ss_cond {c : E} {a b : Ss} {ce : Expr} {sa sb : List Stmt} {pos : Pos} (hc : PT X ce (tTst Γ cf Wx c)) (ha : PSs X sa (tSts Γ cf N Wx a)) (hb : PSs X sb (tSts Γ cf N Wx b)) : PS X (.If ce sa sb pos) (tSt Γ cf N Wx (.cond c a b)) := by
  refine ⟨fun pins s σ H D I hq => (ps_if hc ha hb).run pins s σ H D I ?_⟩
  obtain ⟨g, ρ, hp, hr, sr, hq⟩ := hq
  unfold ex at hq
  refine ⟨g, ρ, hp, hr, sr, PostR.mono (PostS.bindT (kt := exs cf N a ρ) (kf := exs cf N b ρ) hq) fun b' H1 ⟨g1, hp1, s1, hr1, h1⟩ => ?_⟩
  cases b' with
  | true => exact ⟨g1, ρ, hp1, hr1, sr.mono s1, h1⟩
  | false => exact ⟨g1, ρ, hp1, hr1, sr.mono s1, h1⟩
theorem ss_nil : PSs X [] (tSts Γ cf N Wx .nil) := by
  refine ⟨fun pins s σ H D I hq => pss_nil.run pins s σ H D I ?_⟩
  obtain ⟨g, ρ, hp, hr, sr, hq⟩ := hq
  unfold exs at hq
  exact hq g H σ StpS.refl hr sr
theorem ss_cons {m : S} {ms : Ss} {sts : List Stmt} (h1 : PS X st (tSt Γ cf N Wx m)) (h2 : PSs X sts (tSts Γ cf N Wx ms)) : PSs X (st :: sts) (tSts Γ cf N Wx (.cons m ms)) := by
  refine ⟨fun pins s σ H D I hq => (pss_cons h1 h2).run pins s σ H D I ?_⟩
  obtain ⟨g, ρ, hp, hr, sr, hq⟩ := hq
  unfold exs at hq
  refine ⟨g, ρ, hp, hr, sr, ?_⟩
  cases e : ex cf N m ρ hp with
  | bad => simp only [e, R.bind] at hq; exact hq.elim
  | exc c hp' => simp only [e, R.bind] at hq; exact hq
  | ok f hp' =>
    simp only [e, R.bind] at hq
    cases f with
    | rt v => exact hq
    | nx ρ' => exact fun g' H' σ' s' hr' sr' => ⟨g', ρ', hp', hr', sr', PostS.rebase hq s'⟩
end
end Mi

set_option Elab.async false
set_option linter.all false
set_option autoImplicit false
/-! Mi17: loops. -/
namespace Mi
open PySem PySem.Spec L2 PyProof.Rows
section
variable {Γ : Sig} {T : Tab} {cf : Nat → List Val → Heap → R Val} {k N : Nat} {cs : Cs} {X : Cx} {Wx : WX} {st : Stmt}
theorem PS.nox {t : TS} (h : PS X.nox st t) : PS X st t := ⟨fun pins s σ H D I hw =>
  wpAny_mono (h.run pins s σ H D (I.wish _) hw) (fun _ _ q => q.unwish) fun _ _ z => False.elim z⟩
theorem XOk.nox (ok : XOk Γ T cf k cs X) : XOk Γ T cf k cs X.nox := ⟨ok.N, ok.sc, ok.fn, ok.nd, ok.calm, ok.room, ok.lw, ok.tp⟩
theorem takesN : Takes X.nox W0 := fun u s' ⟨_, _, _, _, _, _, _, _, _, _, _, _, _, _, _, _, w⟩ => w
theorem ss_whil {c : E} {b : Ss} {ce : Expr} {body : List Stmt} {pos : Pos} (hc : PT X.nox ce (tTst Γ cf W0 c)) (hb : PSs X.nox body (tSts Γ cf N W0 b)) : PS X (.While ce body [] pos) (tSt Γ cf N Wx (.whil c b)) := by
  refine PS.nox ⟨fun pins s σ H D I hq => (ps_while PassesOwn.never hc hb).run pins s σ H D I ?_⟩
  obtain ⟨g, ρ, hp, hr, sr, hq⟩ := hq
  unfold ex at hq
  generalize htt : (fun (ρ : Slots) (h : Heap) => (ev cf c ρ h).bind fun x h => R.of (truth h x) h) = tt at hq
  refine ⟨fun m σ H => ∃ g ρ hp, HR Γ g hp H ∧ SR Γ g H ρ σ ∧ PostS Γ g H ρ σ (whileL tt (exs cf N b) m ρ hp) D (fun c σ' H' => Wx (.ref (Γ.ca c)) none σ' H'), ⟨N, g, ρ, hp, hr, sr, hq⟩, ?_⟩
  rintro m σ H ⟨g, ρ, hp, hr, sr, hq⟩
  cases m with
  | zero => exact hq.elim
  | succ n =>
    unfold whileL at hq
    refine ⟨g, ρ, hp, hr, sr, ?_⟩
    have htt' : (ev cf c ρ hp).bind (fun x h => R.of (truth h x) h) = tt ρ hp := by rw [← htt]
    rw [htt']
    cases et : tt ρ hp with
    | bad => rw [et] at hq; exact hq.elim
    | exc c h => rw [et] at hq; exact hq.elim
    | ok bb h =>
      rw [et] at hq
      intro g1 b' H1 s1 hr1 eb
      subst eb
      cases bb with
      | false =>
        simp only at hq
        show if false = true then _ else D.nx σ H1
        rw [if_neg (by decide)]
        exact hq g1 H1 σ s1.toS hr1 (sr.mono s1)
      | true =>
        simp only at hq
        refine (if_pos rfl : (if true = true then _ else D.nx σ H1) = _).mpr ?_
        refine ⟨fun σ' H' => ∃ g ρ hp, HR Γ g hp H' ∧ SR Γ g H' ρ σ' ∧ PostS Γ g H' ρ σ' (whileL tt (exs cf N b) n ρ hp) D (fun c σ' H' => Wx (.ref (Γ.ca c)) none σ' H'), fun σ' H' q => ⟨n, Nat.lt_succ_self _, q⟩, g1, ρ, h, hr1, sr.mono s1, ?_⟩
        cases ee : exs cf N b ρ h with
        | bad => rw [ee] at hq; exact hq.elim
        | exc c h => rw [ee] at hq; exact hq.elim
        | ok f h2 =>
          rw [ee] at hq
          cases f with
          | nx ρ' =>
            simp only at hq
            exact fun g' H' σ' s' hr' sr' => ⟨g', ρ', h2, hr', sr', PostS.rebase hq (s1.toS.trans s')⟩
          | rt v =>
            simp only at hq
            exact PostS.rebase (r := .ok (.rt v) h2) hq s1.toS
theorem ss_forr {t : Tg} {it : It} {b : Ss} {tg iter : Expr} {body : List Stmt} {pos : Pos} (hc : X.calm = true) (hi : PI X.nox tg iter (tIt Γ cf W0 true it)) (hg : PG X.nox tg (tTg Γ t)) (hb : PSs X.nox body (tSts Γ cf N W0 b)) (hs : ∀ x, foldedSetIterable iter X.env x = pure x) :
    PS X (.For tg iter body [] pos) (tSt Γ cf N Wx (.forr t it b)) := by
  refine PS.nox ⟨fun pins s σ H D I hq => (ps_for (X := X.nox) PassesOwn.never hc hi hg hb hs).run pins s σ H D I ?_⟩
  obtain ⟨g, ρ, hp, hr, sr, hq⟩ := hq
  unfold ex at hq
  refine ⟨g, ρ, hp, hr, sr, ?_⟩
  cases ei : evIt cf true it ρ hp with
  | bad => rw [ei] at hq; exact hq.elim
  | exc c h => rw [ei] at hq; exact hq.elim
  | ok xs h =>
    rw [ei] at hq
    simp only at hq
    intro g1 J H1 s1 hr1 ir
    obtain ⟨G, gG, gGo, gStop, gY⟩ := ir
    refine ⟨fun i m σ H => m + i = xs.length ∧ ∃ g ρ hp, HR Γ g hp H ∧ SR Γ g H ρ σ ∧ Keep g1 H1 g H ∧ PostS Γ g H ρ σ (forL (bindT t) (exs cf N b) (xs.drop i) ρ hp) D (fun c σ' H' => Wx (.ref (Γ.ca c)) none σ' H'), ⟨xs.length, by simp, g1, ρ, h, hr1, sr.mono s1, Keep.refl, PostS.rebase hq s1.toS⟩, ?_⟩
    rintro i m σ H ⟨hm, g, ρ, hp, hr, sr, kp, hq⟩
    have kpB : KpB true g1 H1 g H := ⟨kp, fun z => by cases z⟩
    by_cases hi : i < xs.length
    · right
      refine ⟨gGo i H hi (gG g H kpB), fun σ' H' => ∃ g ρ hp, HR Γ g hp H' ∧ SR Γ g H' ρ σ' ∧ Keep g1 H1 g H' ∧ PostS Γ g H' ρ σ' (forL (bindT t) (exs cf N b) (xs.drop (i + 1)) ρ hp) D (fun c σ' H' => Wx (.ref (Γ.ca c)) none σ' H'),
        fun σ' H' q => ⟨m - 1, by omega, by omega, q⟩, fun x H2 hy => ?_⟩
      have hv : xs[i]? = some xs[i] := List.getElem?_eq_getElem hi
      obtain ⟨s2, hr2, rk2⟩ := gY i x H H2 _ hv (gG g H kpB) hy g hp kpB hr
      rw [List.drop_eq_getElem_cons hi] at hq
      unfold forL at hq
      cases eb : bindT t xs[i] ρ with
      | none => rw [eb] at hq; exact hq.elim
      | some ρ' =>
        rw [eb] at hq
        simp only at hq
        refine ⟨g, ρ, xs[i], ρ', sr.mono s2, rk2, eb, fun σ' sr' o' l' => ⟨g, ρ', hp, hr2, sr', ?_⟩⟩
        have ss : StpS g H ρ σ g H2 ρ' σ' := s2.toS.bindT rk2 eb o'
        cases ee : exs cf N b ρ' hp with
        | bad => rw [ee] at hq; exact hq.elim
        | exc c h => rw [ee] at hq; exact hq.elim
        | ok f h2 =>
          rw [ee] at hq
          cases f with
          | nx ρ'' =>
            simp only at hq
            exact fun g' H' σ'' s' hr' sr'' => ⟨g', ρ'', h2, hr', sr'', kp.trans (ss.trans s').toKeep, PostS.rebase hq (ss.trans s')⟩
          | rt v =>
            simp only at hq
            exact PostS.rebase (r := .ok (.rt v) h2) hq ss
    · left
      have : i = xs.length := by omega
      subst this
      rw [List.drop_eq_nil_of_le (Nat.le_refl _)] at hq
      unfold forL at hq
      exact ⟨gStop H (gG g H kpB), hq g H σ StpS.refl hr sr⟩

/-! ### over a slot's own list -/
theorem set_same {α : Type} : ∀ {l : List α} {i : Nat} {x : α}, l[i]? = some x → l.set i x = l
  | [], _, _, h => by simp at h
  | a :: l, 0, x, h => by simp at h; subst h; rfl
  | a :: l, i + 1, x, h => by
    show a :: l.set i x = a :: l
    rw [set_same (by simpa using h)]
theorem held_none {ρ : Slots} {σ : L2.St} {i j : Nat} {p : Addr} (h : Held (ρ.set i (some lck)) σ j p) : j ≠ i ∧ Held ρ σ j p := by
  obtain ⟨xs, h1, h2⟩ := h
  by_cases e : i = j
  · subst e
    rw [List.getElem?_set_self'] at h1
    cases hh : ρ[i]? <;> (rw [hh] at h1; simp at h1)
  · rw [List.getElem?_set_ne e] at h1
    exact ⟨fun z => e z.symm, xs, h1, h2⟩
def tIv (K : PySem.W.Frag) (i : Nat) : TI := fun σ H R => ∃ p ys, σ[i]? = some (some (.ref p)) ∧ H p = some (.lst ys) ∧ R (Itl K p) H
theorem si_own {x : Str} {i : Nat} {tg : Expr} {pos : Pos} (hN : X.N[i]? = some x) (hv : Vis X.env.scope x) (h1 : (x == ("__debug__" : Str)) = false) (h2 : (x == ("__classdict__" : Str)) = false) : PI X tg (.Name x pos) (tIv X.K i) := by
  refine ⟨fun pins s σ H R I h => ?_⟩
  obtain ⟨p, ys, e1, e2, q⟩ := h
  refine thn ((pe_var (pos := pos) hN hv h1 h2).run pins s σ H (fun v H1 => v = .ref p ∧ H1 = H) I ⟨.ref p, e1, rfl, rfl⟩) fun u s1 ⟨v, H1, I1, r1, q1⟩ => ?_
  obtain ⟨rfl, rfl⟩ := q1
  cases r1
  exact pie_list I1 (SqL.of e2) q
theorem ss_forv {t : Tg} {i : Nat} {b : Ss} {tg iter : Expr} {body : List Stmt} {pos : Pos} (hc : X.calm = true) (hi : PI X.nox tg iter (tIv X.K i)) (hg : PG X.nox tg (tTg Γ t)) (hb : PSs X.nox body (tSts Γ cf N W0 b)) (hs : ∀ x, foldedSetIterable iter X.env x = pure x) :
    PS X (.For tg iter body [] pos) (tSt Γ cf N Wx (.forv t i b)) := by
  refine PS.nox ⟨fun pins s σ0 H0 D I hq => (ps_for (X := X.nox) PassesOwn.never hc hi hg hb hs).run pins s σ0 H0 D I ?_⟩
  obtain ⟨g0, ρ0, hp0, hr0, sr0, hq⟩ := hq
  unfold ex at hq
  split at hq <;> first | exact hq.elim | skip
  rename_i xs er
  obtain ⟨p, ys, es, hp, ow, rk⟩ := sr0.own er
  have hl := rk.length
  refine ⟨p, ys, es, hp, ?_⟩
  have nh0 : ¬ Held (ρ0.set i (some lck)) σ0 i p := fun z => (held_none z).1 rfl
  generalize hres : forL (bindT t) (exs cf N b) xs (ρ0.set i (some lck)) hp0 = res at hq
  have s0 : StpS g0 H0 (ρ0.set i (some lck)) σ0 g0 H0 (ρ0.set i (some lck)) σ0 := StpS.refl
  have sr00 : SR Γ g0 H0 (ρ0.set i (some lck)) σ0 := by
    have := sr0.set (i := i) (v := lck) (x := .ref p) trivial
    rwa [set_same es] at this
  refine ⟨fun j m σ H => m + j = xs.length ∧ ∃ g ρ hp, HR Γ g hp H ∧ SR Γ g H ρ σ ∧ StpS g0 H0 (ρ0.set i (some lck)) σ0 g H ρ σ ∧ forL (bindT t) (exs cf N b) (xs.drop j) ρ hp = res, ⟨xs.length, by simp, g0, ρ0.set i (some lck), hp0, hr0, sr00, s0, hres⟩, ?_⟩
  rintro j m σ H ⟨hm, g, ρ, hp', hr, sr, ss, hf⟩
  obtain ⟨hpj, nhj⟩ := ss.orp p i _ hp ow nh0
  have owj := (ss.slot p _ i hp ow).1
  have rkj : RKs Γ g H xs ys := rk.mono ss.toKeep
  by_cases hj : j < xs.length
  · right
    refine ⟨⟨ys, ys[j]'(by omega), SqL.of hpj, List.getElem?_eq_getElem (by omega)⟩, fun σ' H' => ∃ g ρ hp, HR Γ g hp H' ∧ SR Γ g H' ρ σ' ∧ StpS g0 H0 (ρ0.set i (some lck)) σ0 g H' ρ σ' ∧ forL (bindT t) (exs cf N b) (xs.drop (j + 1)) ρ hp = res,
      fun σ' H' q => ⟨m - 1, by omega, by omega, q⟩, fun x H2 hy => ?_⟩
    obtain ⟨rfl, hx⟩ := hy
    have hv : xs[j]? = some xs[j] := List.getElem?_eq_getElem hj
    obtain ⟨x', e1, r1⟩ := rkj.get hv
    have := (hx ys (SqL.of hpj)).symm.trans e1
    cases this
    rw [List.drop_eq_getElem_cons hj] at hf
    unfold forL at hf
    cases eb : bindT t xs[j] ρ with
    | none => rw [eb] at hf; simp only at hf; rw [← hf] at hq; exact hq.elim
    | some ρ' =>
      rw [eb] at hf
      simp only at hf
      refine ⟨g, ρ, xs[j], ρ', sr, r1, eb, fun σ' sr' o' l' => ⟨g, ρ', hp', hr, sr', ?_⟩⟩
      have ss' : StpS g0 H0 (ρ0.set i (some lck)) σ0 g H2 ρ' σ' := ss.bindT r1 eb o'
      cases ee : exs cf N b ρ' hp' with
      | bad => rw [ee] at hf; simp only at hf; rw [← hf] at hq; exact hq.elim
      | exc c h => rw [ee] at hf; simp only at hf; rw [← hf] at hq; exact hq.elim
      | ok f h2 =>
        rw [ee] at hf
        cases f with
        | nx ρ'' =>
          simp only at hf
          exact fun g' H' σ'' s' hr' sr'' => ⟨g', ρ'', h2, hr', sr'', ss'.trans s', hf⟩
        | rt v =>
          simp only at hf
          rw [← hf] at hq
          simp only at hq
          intro g' H' ρ3 σ3 x s' hr' rv'
          have s3 := ss'.trans s'
          refine hq g' H' (ρ3.set i (some .non)) σ3 x ⟨s3.toKeep, s3.obj, s3.acc, s3.slot, s3.ns, fun q jj o e z n => ?_, fun jj e => ?_⟩ hr' ?_
          · obtain ⟨a, b⟩ := s3.orp q jj o e z (fun y => n (held_none y).2)
            refine ⟨a, fun ⟨us, z1, z2⟩ => ?_⟩
            by_cases h : i = jj
            · subst h
              rw [List.getElem?_set_self'] at z1
              cases hh : ρ3[i]? <;> (rw [hh] at z1; simp at z1)
            · rw [List.getElem?_set_ne h] at z1; exact b ⟨us, z1, z2⟩
          · obtain ⟨h1, _⟩ := set_unt (σ := σ3) (x := none) (fun z => by cases z) e
            have hne : i ≠ jj := by
              rintro rfl
              rw [List.getElem?_set_self'] at e
              cases hh : ρ3[i]? <;> (rw [hh] at e; simp at e)
            obtain ⟨h2, h3⟩ := s3.unt jj h1
            rw [List.getElem?_set_ne hne] at h2
            exact ⟨h2, h3⟩
          · rcases rv' with ⟨a, b, c⟩ | z
            · exact .inl ⟨a, b.backS ss', c⟩
            · exact .inr z
  · left
    have : j = xs.length := by omega
    subst this
    rw [List.drop_eq_nil_of_le (Nat.le_refl _)] at hf
    unfold forL at hf
    rw [← hf] at hq
    simp only at hq
    split at hq <;> first | exact hq.elim | skip
    rename_i ei
    obtain ⟨_, hσ⟩ := ss.unt i ei
    rw [es] at hσ
    refine ⟨⟨ys, SqL.of hpj, by omega⟩, hq g H σ ⟨ss.toKeep, ss.obj, ss.acc, ss.slot, ss.ns, fun q jj o e z n => ?_, fun jj e => ?_⟩ hr ?_⟩
    · obtain ⟨a, b⟩ := ss.orp q jj o e z (fun y => n (held_none y).2)
      refine ⟨a, fun ⟨us, z1, z2⟩ => ?_⟩
      by_cases h : i = jj
      · subst h
        rw [hσ] at z2
        cases z2
        exact n ⟨xs, er, es⟩
      · rw [List.getElem?_set_ne h] at z1; exact b ⟨us, z1, z2⟩
    · obtain ⟨h1, _⟩ := set_unt (σ := σ) (x := none) (fun z => by cases z) e
      have hne : i ≠ jj := by
        rintro rfl
        rw [List.getElem?_set_self'] at e
        cases hh : ρ[i]? <;> (rw [hh] at e; simp at e)
      obtain ⟨h2, h3⟩ := ss.unt jj h1
      rw [List.getElem?_set_ne hne] at h2
      exact ⟨h2, h3⟩
    · refine ⟨by simp [sr.len], fun jj v e => ?_⟩
      by_cases h : i = jj
      · subst h
        rw [List.getElem?_set_self'] at e
        rw [ei] at e
        have e : Val.lst .own xs = v := by simpa using e
        subst e
        exact ⟨_, hσ, p, ys, rfl, hpj, owj, rkj⟩
      · rw [List.getElem?_set_ne h] at e
        exact sr.at_ jj v e
end
end Mi

set_option Elab.async false
set_option linter.all false
set_option autoImplicit false
/-! MiT: an exception that is caught, kept in a name, and stays known behind its clause. -/
namespace Mi
open PySem PySem.Spec L2 PyProof.Rows
section
variable {X : Cx} {pins : List (Addr × PySem.Obj)} {σ : L2.St} {H : Hp} {s : Shared} {a : Addr} {o : HO}
/-- an object that the run has made, untracked so far, is tracked -/
theorem inv_track (I : Inv X pins σ H s) (h0 : X.s_0.heap.get? a = none) (na : H a = none) (nl : a ≠ X.env.locals) (nc : ∀ x c, X.env.cells.lookup x = some c → c ≠ a) (np : ∀ q ∈ X.pn ++ pins, q.1 ≠ a) (new : ObjOk X.prog X.w (upd H a o) s.heap a o) : Inv X pins σ (upd H a o) s := by
  have ne0 : ∀ b u, X.s_0.heap.get? b = some u → b ≠ a := fun b u e z => by rw [z, h0] at e; cases e
  have neS : ∀ b u, H b = some u → b ≠ a := fun b u e z => by rw [z, na] at e; cases e
  have at_ : ∀ b u, H b = some u → upd H a o b = some u := fun b u e => by rw [upd_ne (neS b u e)]; exact e
  refine ⟨I.ok, I.os, I.bare, ?_, I.loc, I.cell, by rw [upd_ne (Ne.symm nl)]; exact I.free, fun x c e => by rw [upd_ne (nc x c e)]; exact I.freeC x c e, fun q hq => ?_, fun b u e => ?_, I.len⟩
  · refine ⟨I.base.keep, I.base.slot, fun b u e z hx => by rw [upd_ne (ne0 b u e)]; exact I.base.free b u e z hx, I.base.there, fun b xs e => at_ _ _ (I.base.tups b xs e), fun b u v e => at_ _ _ (I.base.frzs b u v e), fun b ps e => ?_⟩
    obtain ⟨more, z⟩ := I.base.tbls b ps e
    exact ⟨more, at_ _ _ z⟩
  · obtain ⟨z1, z2, z3⟩ := I.pin q hq
    exact ⟨z1, by rw [upd_ne (np q hq)]; exact z2, z3⟩
  · by_cases hb : b = a
    · subst hb
      rw [upd_same] at e
      cases e
      exact new
    · rw [upd_ne hb] at e
      exact (I.hok b u e).stay (fun c v _ q => q) (fun c q => at_ _ _ q) fun c xs q => at_ _ _ q
/-- what the clause asks of what the suite's body raises -/
def wKept (K : PySem.W.Frag) (c : Value) (i j : Nat) (D : Ends) : WX := fun cls d σ H => d = none ∧ ∃ C, cls = .ref C ∧ PySem.W.exmOne K cls c = some true ∧
  ∀ a, H a = none → D.nx (((σ.set i (some (.ref a))).set j (some (.ref a))).set i none) (upd H a (excH C a))
theorem ps_try_kept {x n y : Str} {c : Value} {i j : Nat} {body : List Stmt} {np pos pos' py pn ps : Pos} {tb : WX → TS} {W : WX} (hst : X.stack = X.env :: X.outer) (hfr : X.env.frame = some X.env.locals) (hex : X.ex = []) (hN : X.N.Nodup)
    (hi : X.N[i]? = some n) (hln : X.env.kindOf n = some .local) (hvn : (n == ("__debug__" : Str)) = false ∧ (n == ("__classdict__" : Str)) = false) (hj : X.N[j]? = some y) (hly : X.env.scope.names.lookup y = some .local) (hc : Names X x c)
    (hb : ∀ (W : WX) (pl : List (Addr × PySem.Obj)) (xe : Value → Shared → Prop), Takes (X.tr pl xe) W → PassesOwn (model X.prog X.w) X.A X.env xe → PSs (X.tr pl xe) body (tb W)) :
    PS X (.Try body [.ExceptHandler (some (.Name x np)) (some n) [.Assign [.Name y py] (.Name n pn) ps] pos'] [] [] pos) (fun D σ H => tb (wKept X.K c i j D) D σ H) := by
  refine ⟨fun pins s σ H D I h => wpAny_Try_except ?_⟩
  have okX := I.ok
  have frX : X.A.frames = some (X.env :: X.outer) := okX.frames.trans (by rw [hst])
  have J0 := hb (wKept X.K c i j D) (X.pn ++ pins) (fun e s1 => wpAny (model X.prog X.w) X.A (noteFrame e X.env) (fun _ s2 => wpAny (model X.prog X.w) X.A (setFlight e none) (fun _ s3 =>
    wpAny (model X.prog X.w) X.A (handleBy e X.env [.ExceptHandler (some (.Name x np)) (some n) [.Assign [.Name y py] (.Name n pn) ps] pos']) (SP X pins D) X.xe s3) X.xe s2) X.xe s1)
  refine wpAny_mono ((J0 ?_ PassesOwn.looking).run [] s σ H D (I.toTry _) h) (fun fl s1 q => ?_) fun e s1 q => q
  · rintro u s' ⟨a, B, sI, pl, σ', H', cls, d, rfl, JT, nb, up, sky, na, os, ag, rfl, C, rfl, hm, hD⟩
    have J : Inv X pins σ' H' sI := JT.ofTry okX
    refine Sky.land (outer := X.outer) Zc.steady frX hfr (by rw [← hst]; exact sky) fun h3 fl3 up3 => ?_
    have Ba : B.get? a = none := fl3.2.1
    have J3 : Inv X pins σ' H' { s' with heap := h3 } := J.landed nb fl3.1 (up.trans up3) os ag
    obtain ⟨o3, v3, g3, z3, d3⟩ := fl3.there
    have nfr : a ∉ frs (X.env :: X.outer) := fun hmem => by
      obtain ⟨_, o', e', hn'⟩ := fl3.2.2.1.mem hmem
      rw [g3] at e'
      cases e'
      exact hn' _ d3
    have nl : a ≠ X.env.locals := fun z => nfr (List.mem_filterMap.mpr ⟨X.env, List.mem_cons_self, by rw [hfr, z]⟩)
    have nF : a ∉ X.fs := fun hmem => by
      obtain ⟨e, he, q⟩ := List.mem_filterMap.mp hmem
      exact nfr (List.mem_filterMap.mpr ⟨e, List.mem_cons_of_mem _ he, q⟩)
    have sIa : sI.heap.get? a = none := by
      cases q : sI.heap.get? a with
      | none => rfl
      | some u =>
        have := nb a u q (by rw [hst]; exact nfr)
        rw [Ba] at this
        cases this
    have s0a : X.s_0.heap.get? a = none := by
      cases q : X.s_0.heap.get? a with
      | none => rfl
      | some u =>
        obtain ⟨u', z⟩ := J.base.there a u q (by rw [hex]; exact fun z => nomatch z)
        rw [sIa] at z
        cases z
    have npn : ∀ q ∈ X.pn ++ pins, q.1 ≠ a := fun q hq z => by
      have := (J.pin q hq).1
      rw [z, sIa] at this
      cases this
    have ncl : ∀ y c, X.env.cells.lookup y = some c → c ≠ a := fun y c e z => by
      obtain ⟨v, hv⟩ := J.cell y c e
      obtain ⟨ob, e1, _⟩ := hv
      rw [z, sIa] at e1
      cases e1
    have S3 := J3.suite g3 d3 na nl nF
    have LT : PySem.W.Looks (model X.prog X.w) h3 (typeOf (.ref a)) (.ref C) := fun A Q E s k q => wpAny_typeOf_ref (k _ _ g3) (by rw [z3.1]; exact q)
    have LM := PySem.W.exm_one (M := model X.prog X.w) J3.kIn LT hm
    refine wpAny_handleBy_cons (codeAny_handlers_test ?_) (fun q => by cases q)
    have named : ∀ {Q : Value → Shared → Prop} {E : Value → Shared → Prop}, Q c { s' with heap := h3 } → wpAny (model X.prog X.w) (X.A.mark (some (.ref a))) (eval (.Name x np) X.env) Q E { s' with heap := h3 } := fun {Q E} q => by
      obtain ⟨hg, hdb, hmg | ⟨hmg, hv, hnn⟩⟩ := hc
      · exact ld_glob (X := X.suite a ((a, o3) :: (X.pn ++ pins))) S3 hg hmg q hdb
      · exact ld_blt (X := X.suite a ((a, o3) :: (X.pn ++ pins))) S3 hg hmg hv q hnn hdb
    refine named (LM.here ?_)
    refine codeAny_handlers_suite_as (HandSPX.lands_againZ fl3 fun h4 fl4 up4 => ?_)
    have J4 : Inv X pins σ' H' { s' with heap := h4 } := J.landed nb fl4.1 ((up.trans up3).trans up4) os ag
    obtain ⟨o4, v4, g4, z4, d4⟩ := fl4.there
    have S4 := J4.suite g4 d4 na nl nF
    refine store_ok (X := X.suite a ((a, o4) :: (X.pn ++ pins))) (v := .ref a) S4 hN hi (.inl hln) rfl (fun s5 S5 => ?_) (.inr hln)
    have asg : PSs (X.suite a ((a, o4) :: (X.pn ++ pins))) [.Assign [.Name y py] (.Name n pn) ps] (tAsg (tVar i) (gName j)) :=
      pss_one (ps_set (X := X.suite a ((a, o4) :: (X.pn ++ pins))) hN hj (.inl hly) (pe_var (X := X.suite a ((a, o4) :: (X.pn ++ pins))) hi (.inl hln) hvn.1 hvn.2) rfl (.inr hly))
    have hlt : i < σ'.length := by
      have := J.len
      rw [this]
      exact (List.getElem?_eq_some_iff.mp hi).1
    refine wpAny_mono (asg.run [] s5 _ H' ⟨fun σ6 H6 => σ6 = (σ'.set i (some (.ref a))).set j (some (.ref a)) ∧ H6 = H', fun _ _ => False, fun _ _ => False, fun _ _ => False⟩ S5 ⟨.ref a, List.getElem?_set_self hlt, rfl, rfl⟩) (fun f s6 q => ?_) fun _ _ z => False.elim z
    cases f with
    | next =>
      obtain ⟨σ6, H6, S6, rfl, rfl⟩ := q
      have p6 := S6.pin (a, o4) (by simp)
      have J6 : Inv X pins _ H6 s6 := S6.unsuite okX
      have new : ObjOk X.prog X.w (upd H6 a (excH C a)) s6.heap a (excH C a) :=
        ⟨⟨o4, p6.1, z4, v4, d4⟩, ⟨o4, p6.1⟩, fun h1 h2 ⟨oe, e1, e2, e3⟩ k => ⟨oe, k _ e1, e2, e3⟩⟩
      exact gone_ok (inv_track J6 s0a na nl ncl npn new) hN hi hln fun s7 J7 => ⟨_, _, J7, hD a na⟩
    | brk => obtain ⟨_, _, _, z⟩ := q; exact z.elim
    | cont => obtain ⟨_, _, _, z⟩ := q; exact z.elim
    | ret u => obtain ⟨_, _, _, _, _, z⟩ := q; exact z.elim
  · cases fl with
    | next => obtain ⟨σ1, H1, J1, q1⟩ := q; exact wpAny_execs_nil ⟨σ1, H1, J1.ofTry okX, q1⟩
    | brk => obtain ⟨σ1, H1, J1, q1⟩ := q; exact ⟨σ1, H1, J1.ofTry okX, q1⟩
    | cont => obtain ⟨σ1, H1, J1, q1⟩ := q; exact ⟨σ1, H1, J1.ofTry okX, q1⟩
    | ret u => obtain ⟨v1, σ1, H1, J1, r1, q1⟩ := q; exact ⟨v1, σ1, H1, J1.ofTry okX, r1, q1⟩
end
section
variable {Γ : Sig} {T : Tab} {cf : Nat → List Val → Heap → R Val} {k N : Nat} {cs : Cs} {X : Cx} {Wx : WX} {st : Stmt}
theorem XOk.tr (ok : XOk Γ T cf k cs X) (pl : List (Addr × PySem.Obj)) (xe : Value → Shared → Prop) : XOk Γ T cf k cs (X.tr pl xe) := ⟨ok.N, ok.sc, ok.fn, ok.nd, ok.calm, ok.room, ok.lw, ok.tp⟩
theorem t_tryx {i n j : Nat} {kk : Sk} {m : E} {kl : List Nat} {D : Ends} {σ : L2.St} {H : Hp} (hx : ∀ d, kl.contains d = true → Γ.kn d = true ∧ d < 100 ∧ PySem.W.exmOne X.K (.ref (Γ.ca d)) (.ref (Γ.ca 0)) = some true) (hjn : j ≠ n) (hq : tSt Γ cf N Wx (.tryx i kk m n j kl) D σ H) :
    tAsg (tEv Γ cf (wKept X.K (.ref (Γ.ca 0)) n j D) m) (gName i) D σ H := by
  obtain ⟨g, ρ, hp, hr, sr, hq⟩ := hq
  unfold ex at hq
  split at hq <;> first | exact hq.elim | skip
  rename_i en
  refine ⟨g, ρ, hp, hr, sr, ?_⟩
  cases ee : ev cf m ρ hp with
  | bad => rw [ee] at hq; exact hq.elim
  | ok v h =>
    rw [ee] at hq
    simp only at hq
    intro g1 x H1 st1 hr1 rv1 fr1
    cases ek : keep i kk v ρ h with
    | bad => simp only [ek, R.bind] at hq; exact hq.elim
    | exc c h => exact (keep_noexc ek).elim
    | ok ρ' h' =>
      simp only [ek, R.bind] at hq
      obtain ⟨g2, hr2, sr2, s2, _⟩ := keep_ok hr1 (sr.mono st1) rv1 fr1 st1.toS ek
      exact hq g2 H1 _ s2 hr2 sr2
  | exc d h =>
    rw [ee] at hq
    simp only at hq
    intro g1 H1 st1 hr1
    by_cases hk : kl.contains d = true
    · rw [if_pos hk] at hq
      obtain ⟨h1, h2, h3⟩ := hx d hk
      refine ⟨rfl, Γ.ca d, rfl, h3, fun a na => ?_⟩
      have ow : g1.ow a = none := hr1.free na
      have st2 : Stp g H g1 (upd H1 a (excH (Γ.ca d) a)) := st1.trans (Stp.new na)
      have eσ : ((σ.set n (some (.ref a))).set j (some (.ref a))).set n none = (σ.set n none).set j (some (.ref a)) := by
        rw [List.set_comm _ _ hjn, List.set_set]
      rw [eσ]
      have srn : SR Γ g H ρ (σ.set n none) := by
        have := sr.unset (i := n) (o := none)
        rwa [set_same en] at this
      have rk : RK Γ g1 (upd H1 a (excH (Γ.ca d) a)) (.exc d) (.ref a) := .exc upd_same ow h1 h2
      refine hq g1 _ _ ?_ (hr1.new na) ((srn.mono st2).set (SlotV.kept rk))
      have s2 : StpS g H ρ σ g1 (upd H1 a (excH (Γ.ca d) a)) ρ (σ.set n none) := by
        refine st2.toS.trans ⟨⟨⟨[], by simp⟩, fun p o e _ => ⟨rfl, e⟩⟩, fun p o e w => ⟨w, o, e⟩, fun p o e w => ⟨w, e⟩, fun p o q e w => ⟨w, o, e⟩, fun p q w => .inl w, fun p q o e w nh => ⟨e, fun ⟨xs, z1, z2⟩ => ?_⟩, fun q e => ⟨e, ?_⟩⟩
        · by_cases hqn : n = q
          · subst hqn; rw [en] at z1; cases z1
          · rw [List.getElem?_set_ne hqn] at z2; exact nh ⟨xs, z1, z2⟩
        · by_cases hqn : n = q
          · subst hqn; rw [en] at e; cases e
          · rw [List.getElem?_set_ne hqn]
      exact s2.setK rk.notOwn rk.notLck
    · rw [if_neg hk] at hq; exact hq.elim
end
end Mi

set_option Elab.async false
set_option linter.all false
set_option autoImplicit false
/-! Mi18: the checker of statements, its soundness. -/
namespace Mi
open PySem PySem.Spec L2 PyProof.Rows
def notLC : Expr → Bool
  | .ListComp .. => false
  | .SetComp .. => false
  | .DictComp .. => false
  | _ => true
def notTupE : Expr → Bool
  | .Tuple .. => false
  | _ => true
def isLoc (cs : Cs) (x : Str) : Bool := decide (cs.sc.names.lookup x = some .local)
/-- a list comprehension's value is swapped in -/
def swLC (cs : Cs) (x : Str) (p : Pos) : Expr → Bool
  | .ListComp _ _ scope pos => (isLoc cs x && (p.line == pos.line)) && !(scope.names.any fun (n, k) => n == x && (k == .local || k == .cell))
  | _ => false
/-- names that are stored from the right -/
def swNm (cs : Cs) (x y : Str) (px py : Pos) : Bool := (isLoc cs x && isLoc cs y) && ((py.line == px.line) && !(decide (x = y)))
section
variable (T : Tab)
mutual
def mS (cs : Cs) : S → Stmt → Bool
  | .set i _ m, s => match s with | .Assign [.Name x _] e _ => cs.tgt i x && mE T cs m e | _ => false
  | .par2 i _ j _ a b, s => match s with
    | .Assign [.Tuple [.Name x px, .Name y py] _ _] (.Tuple [ea, eb] _ _) _ => (mE T cs a ea && mE T cs b eb) && ((cs.tgt i x && cs.tgt j y) && (decide (i ≠ j) &&
        (if swNm cs x y px py then [ea, eb].all (foldedForSure 8) || !([ea, eb].all (constantsAlone 8)) else (!(isLoc cs x)) || (!(isLoc cs y)))))
    | _ => false
  | .par3 i _ j _ l _ a b c, s => match s with
    | .Assign [.Tuple [.Name x px, .Name y py, .Name z pz] _ _] (.Tuple [ea, eb, ec] _ _) _ => (mE T cs a ea && (mE T cs b eb && mE T cs c ec)) && ((cs.tgt i x && (cs.tgt j y && cs.tgt l z)) && ((decide (i ≠ j) && (decide (i ≠ l) && decide (j ≠ l))) &&
        ((swNm cs x y px py && (swNm cs x z px pz && swNm cs y z py pz)) && (!([ea, eb, ec].all (foldedForSure 8)) && !([ea, eb, ec].all (constantsAlone 8))))))
    | _ => false
  | .unp t m, s => match s with | .Assign [tg] e _ => (notNm t && mT cs t tg) && (notTupE e && mE T cs m e) | _ => false
  | .six i a b, s => match s with | .Assign [.Subscript (.Name x _) ix _] e _ => cs.vis i x && (mE T cs a ix && mE T cs b e) | _ => false
  | .sixr o a b, s => match s with | .Assign [.Subscript ox ix _] e _ => mE T cs o ox && (mE T cs a ix && mE T cs b e) | _ => false
  | .app i m, s => match s with | .Expr (.Call (.Attribute (.Name x _) n ap) [e] [] cp) _ => (decide (n = Str.ofString "append") && (ap.endLine == cp.line)) && (cs.vis i x && mE T cs m e) | _ => false
  | .appr o m, s => match s with | .Expr (.Call (.Attribute ox n ap) [e] [] cp) _ => (decide (n = Str.ofString "append") && (ap.endLine == cp.line)) && (noCall ox && (mE T cs o ox && mE T cs m e)) | _ => false
  | .ex m, s => match s with | .Expr e _ => notLC e && mE T cs m e | _ => false
  | .cond c a b, s => match s with | .If e sa sb _ => mE T cs c e && (mSs cs a sa && mSs cs b sb) | _ => false
  | .forr t it b, s => match s with | .For tg iter body [] _ => mT cs t tg && (mIt T cs it tg iter && mSs cs b body) | _ => false
  | .forv t i b, s => match s with | .For tg (.Name x _) body [] _ => mT cs t tg && (cs.vis i x && mSs cs b body) | _ => false
  | .whil c b, s => match s with | .While e body [] _ => mE T cs c e && mSs cs b body | _ => false
  | .ret m, s => match s with
    | .Return (some e) _ => mE T cs m e
    | _ => false
  | .rais c, s => match s with
    | .Raise (some (.Call (.Name x _) [.Constant (.str _) _ _] [] _)) none _ => (cs.gl x && decide (c < 100)) && decide (T.gn x = some (.cls c))
    | _ => false
  | .tryx i _ m n j kl, s => match s with
    | .Try [.Assign [.Name r _] e _] [.ExceptHandler (some (.Name x _)) (some nm) [.Assign [.Name y _] (.Name nm' _) _] _] [] [] _ =>
      ((cs.tp && (cs.tgt i r && (notLC e && mE T cs m e))) && ((cs.gl x && decide (T.gn x = some (.cls 0))) && kl.all T.kc)) &&
        (((decide (cs.N[n]? = some nm) && isLoc cs nm) && (okName nm && decide (nm' = nm))) && ((decide (cs.N[j]? = some y) && isLoc cs y) && decide (j ≠ n)))
    | _ => false
  | .pas, s => match s with
    | .Pass _ => true
    | .Expr (.Constant (.str _) _ _) _ => true
    | _ => false
  | .bad, _ => true
def mSs (cs : Cs) : Ss → List Stmt → Bool
  | .nil, l => match l with | [] => true | _ :: _ => false
  | .cons m ms, l => match l with | s :: l => mS cs m s && mSs cs ms l | [] => false
end
end
theorem notLC_sw {e : Expr} (h : notLC e = true) (t : Option Expr) (l : Nat) (env : Env) : swapsWith e t l env = pure false := by
  cases e <;> first | rfl | (cases h; done)
theorem sw_sub {e o i : Expr} {p : Pos} {l : Nat} {env : Env} : swapsWith e (some (.Subscript o i p)) l env = pure false := by
  cases e <;> rfl
theorem sw_tup {e : Expr} {es : List Expr} {k : Nat} {p : Pos} {l : Nat} {env : Env} : swapsWith e (some (.Tuple es k p)) l env = pure false := by
  cases e <;> rfl
theorem st_sub {e o i : Expr} {p : Pos} {env : Env} : swappedStores [.Subscript o i p] e env = pure none := by
  cases e <;> rfl
theorem st_tup {e : Expr} (h : notTupE e = true) {es : List Expr} {k : Nat} {p : Pos} {env : Env} : swappedStores [.Tuple es k p] e env = pure none := by
  cases e <;> first | rfl | (cases h; done)
section
variable {env : Env} {x y z : Str} {px py pz pt pt2 : Pos} {kt k2 : Nat} {a b c : Expr}
theorem pln_nostar {e : Expr} (h : pln e = true) : (match e with | .Starred .. => true | _ => false) = false := by
  cases e <;> first | rfl | (cases h; done)
theorem sw_lc {elt : Expr} {gs : List Comprehension} {scope : Scope} {pos : Pos} {l : Nat} (hk : env.scope.kind = .function) :
    swapsWith (.ListComp elt gs scope pos) (some (.Name y py)) l env = pure ((env.kindOf y == some .local && py.line == pos.line) && !(scope.names.any fun (n, k) => n == y && (k == .local || k == .cell))) := by
  have hb : env.blockKind = .function := by unfold Env.blockKind; rw [hk]; rfl
  unfold swapsWith
  simp only [hb]
  rfl
theorem swp2 (hk : env.scope.kind = .function) (hx : env.scope.names.lookup x = some .local) (hy : env.scope.names.lookup y = some .local) (hl : (py.line == px.line) = true) (hxy : x ≠ y) (ha : pln a = true) (hb : pln b = true)
    (hf : [a, b].all (foldedForSure 8) = false) (hc : [a, b].all (constantsAlone 8) = false) : swappedStores [.Tuple [.Name x px, .Name y py] kt pt] (.Tuple [a, b] k2 pt2) env = pure (some [x, y]) := by
  have hbk : env.blockKind = .function := by unfold Env.blockKind; rw [hk]; rfl
  have kx : env.kindOf x = some .local := hx
  have ky : env.kindOf y = some .local := hy
  unfold swappedStores
  dsimp only
  generalize hfm : List.filterMap _ [Expr.Name x px, Expr.Name y py] = nm
  have hnm : nm = [x, y] := by
    rw [← hfm]
    have h1 : (px.line == px.line) = true := by simp
    simp only [List.filterMap_cons, List.filterMap_nil, kx, ky, List.head?_cons, Option.map_some, Option.getD_some, Expr.pos, h1, hl]
    rfl
  subst hnm
  refine (if_neg ?_).trans ?_
  · rw [hbk]; exact Bool.false_ne_true
  refine (if_neg ?_).trans ?_
  · intro h
    obtain ⟨e, he, hf'⟩ := List.any_eq_true.mp h
    have hp : pln e = true := by
      simp only [List.mem_cons, List.not_mem_nil, or_false] at he
      rcases he with rfl | rfl <;> assumption
    cases e <;> first | (cases hf'; done) | (cases hp; done)
  refine (if_neg ?_).trans ?_
  · have e : [x, y].eraseDups = [x, y] := by
      have : (y == x) = false := by simp [Ne.symm hxy]
      simp [List.eraseDups, List.eraseDupsBy, List.eraseDupsBy.loop, this]
    rw [e]; simp
  refine (if_neg (by rw [hf]; decide)).trans ?_
  exact (if_neg (by rw [hc]; decide))
theorem swp3 (hk : env.scope.kind = .function) (hx : env.scope.names.lookup x = some .local) (hy : env.scope.names.lookup y = some .local) (hz : env.scope.names.lookup z = some .local) (hl : (py.line == px.line) = true) (hl2 : (pz.line == px.line) = true) (hxy : x ≠ y) (hxz : x ≠ z) (hyz : y ≠ z) (ha : pln a = true) (hb : pln b = true) (hc' : pln c = true)
    (hf : [a, b, c].all (foldedForSure 8) = false) (hc : [a, b, c].all (constantsAlone 8) = false) : swappedStores [.Tuple [.Name x px, .Name y py, .Name z pz] kt pt] (.Tuple [a, b, c] k2 pt2) env = pure (some [x, y, z]) := by
  have hbk : env.blockKind = .function := by unfold Env.blockKind; rw [hk]; rfl
  have kx : env.kindOf x = some .local := hx
  have ky : env.kindOf y = some .local := hy
  have kz : env.kindOf z = some .local := hz
  unfold swappedStores
  dsimp only
  generalize hfm : List.filterMap _ [Expr.Name x px, Expr.Name y py, Expr.Name z pz] = nm
  have hnm : nm = [x, y, z] := by
    rw [← hfm]
    have h1 : (px.line == px.line) = true := by simp
    simp only [List.filterMap_cons, List.filterMap_nil, kx, ky, kz, List.head?_cons, Option.map_some, Option.getD_some, Expr.pos, h1, hl, hl2]
    rfl
  subst hnm
  refine (if_neg ?_).trans ?_
  · rw [hbk]; exact Bool.false_ne_true
  refine (if_neg ?_).trans ?_
  · intro h
    obtain ⟨e, he, hf'⟩ := List.any_eq_true.mp h
    have hp : pln e = true := by
      simp only [List.mem_cons, List.not_mem_nil, or_false] at he
      rcases he with rfl | rfl | rfl <;> assumption
    cases e <;> first | (cases hf'; done) | (cases hp; done)
  refine (if_neg ?_).trans ?_
  · have e : [x, y, z].eraseDups = [x, y, z] := by
      have h1 : (y == x) = false := by simp [Ne.symm hxy]
      have h2 : (z == x) = false := by simp [Ne.symm hxz]
      have h3 : (z == y) = false := by simp [Ne.symm hyz]
      simp [List.eraseDups, List.eraseDupsBy, List.eraseDupsBy.loop, h1, h2, h3]
    rw [e]; simp
  refine (if_neg (by rw [hf]; decide)).trans ?_
  exact (if_neg (by rw [hc]; decide))
/-- no swap: not both names are plain locals -/
theorem swp2n (hk : env.scope.kind = .function) (hn : ¬ (env.scope.names.lookup x = some .local ∧ env.scope.names.lookup y = some .local)) (ha : pln a = true) (hb : pln b = true) : swappedStores [.Tuple [.Name x px, .Name y py] kt pt] (.Tuple [a, b] k2 pt2) env = pure none := by
  have hbk : env.blockKind = .function := by unfold Env.blockKind; rw [hk]; rfl
  unfold swappedStores
  dsimp only
  generalize hfm : List.filterMap _ [Expr.Name x px, Expr.Name y py] = nm
  have hnm : nm.length < 2 := by
    rw [← hfm]
    simp only [List.filterMap_cons, List.filterMap_nil]
    have kx : (env.kindOf x == some NameKind.local) = true → env.scope.names.lookup x = some .local := fun h => eq_of_beq h
    have ky : (env.kindOf y == some NameKind.local) = true → env.scope.names.lookup y = some .local := fun h => eq_of_beq h
    cases h1 : (env.kindOf x == some NameKind.local) with
    | false =>
      simp only [Bool.false_and]
      split <;> first | (split <;> simp_all) | simp_all
    | true =>
      cases h2 : (env.kindOf y == some NameKind.local) with
      | false =>
        simp only [Bool.false_and]
        split <;> simp_all
      | true => exact (hn ⟨kx h1, ky h2⟩).elim
  refine (if_neg ?_).trans ?_
  · rw [hbk]; exact Bool.false_ne_true
  refine (if_neg ?_).trans ?_
  · intro h
    obtain ⟨e, he, hf'⟩ := List.any_eq_true.mp h
    have hp : pln e = true := by
      simp only [List.mem_cons, List.not_mem_nil, or_false] at he
      rcases he with rfl | rfl <;> assumption
    cases e <;> first | (cases hf'; done) | (cases hp; done)
  refine if_pos ?_
  have : (nm.length != [Expr.Name x px, Expr.Name y py].length) = true := by
    simp only [List.length_cons, List.length_nil, bne_iff_ne, ne_eq]
    omega
  rw [this]; rfl
/-- no swap: constants -/
theorem swp2f (hk : env.scope.kind = .function) (hx : env.scope.names.lookup x = some .local) (hy : env.scope.names.lookup y = some .local) (hl : (py.line == px.line) = true) (hxy : x ≠ y) (ha : pln a = true) (hb : pln b = true)
    (hf : [a, b].all (foldedForSure 8) = true) : swappedStores [.Tuple [.Name x px, .Name y py] kt pt] (.Tuple [a, b] k2 pt2) env = pure none := by
  have hbk : env.blockKind = .function := by unfold Env.blockKind; rw [hk]; rfl
  have kx : env.kindOf x = some .local := hx
  have ky : env.kindOf y = some .local := hy
  unfold swappedStores
  dsimp only
  generalize hfm : List.filterMap _ [Expr.Name x px, Expr.Name y py] = nm
  have hnm : nm = [x, y] := by
    rw [← hfm]
    have h1 : (px.line == px.line) = true := by simp
    simp only [List.filterMap_cons, List.filterMap_nil, kx, ky, List.head?_cons, Option.map_some, Option.getD_some, Expr.pos, h1, hl]
    rfl
  subst hnm
  refine (if_neg ?_).trans ?_
  · rw [hbk]; exact Bool.false_ne_true
  refine (if_neg ?_).trans ?_
  · intro h
    obtain ⟨e, he, hf'⟩ := List.any_eq_true.mp h
    have hp : pln e = true := by
      simp only [List.mem_cons, List.not_mem_nil, or_false] at he
      rcases he with rfl | rfl <;> assumption
    cases e <;> first | (cases hf'; done) | (cases hp; done)
  refine (if_neg ?_).trans ?_
  · have e : [x, y].eraseDups = [x, y] := by
      have : (y == x) = false := by simp [Ne.symm hxy]
      simp [List.eraseDups, List.eraseDupsBy, List.eraseDupsBy.loop, this]
    rw [e]; simp
  exact if_pos hf
end
end Mi

set_option Elab.async false
set_option linter.all false
set_option autoImplicit false
/-! Mi19: the checker of statements is sound. -/
namespace Mi
open PySem PySem.Spec L2 PyProof.Rows
section
variable {Γ : Sig} {T : Tab} {cf : Nat → List Val → Heap → R Val} {k N : Nat}
/-- within a run the block is a def's -/
theorem PS.kind {X : Cx} {st : Stmt} {t : TS} (h : X.env.scope.kind = .function → PS X st t) : PS X st t := ⟨fun pins s σ H D I hq => (h I.ok.kind).run pins s σ H D I hq⟩
theorem mE_lc {cs : Cs} {m : E} {e : Expr} (h : mE T cs m e = true) : notLC e = true ∨ (∃ t it c el, m = .comp t it c el) ∨ ∃ t it u jt c el, m = .comp2 t it u jt c el := by
  cases m <;> first | exact .inr (.inl ⟨_, _, _, _, rfl⟩) | exact .inr (.inr ⟨_, _, _, _, _, _, rfl⟩) | (left; cases e <;> first | rfl | (simp [mE] at h; done))
theorem s_set {i : Nat} {kk : Sk} {m : E} (cs : Cs) (X : Cx) (Wx : WX) (ok : XOk Γ T cf k cs X) (tk : Takes X Wx) (st : Stmt) (h : mS T cs (.set i kk m) st = true) : PS X st (tSt Γ cf N Wx (.set i kk m)) := by
  simp only [mS] at h
  split at h <;> first | (cases h; done) | skip
  rename_i x p e pos
  simp only [Bool.and_eq_true] at h
  obtain ⟨h1, h2⟩ := h
  obtain ⟨hN, hL, hF⟩ := ok.tgt h1
  have he := sE m cs X Wx ok tk _ h2
  refine PS.kind fun hk => ss_set ?_
  rcases mE_lc h2 with hn | ⟨t, it, c, el, rfl⟩ | ⟨t, it, u, jt, c, el, rfl⟩
  · exact ps_set ok.nd hN hL he.2.1 (notLC_sw hn _ _ _) hF
  · have h2' := h2
    simp only [mE] at h2'
    split at h2' <;> first | (cases h2'; done) | skip
    rename_i elt tg iter ifs scope pos'
    simp only [Bool.and_eq_true] at h2'
    obtain ⟨⟨g1, g2⟩, g3, g4, g5⟩ := h2'
    have hi := sIt it cs X Wx ok tk _ _ g3
    have hb : BlkOk X.N X.env.scope scope (ownOf cs.N t.slots) := by rw [ok.N, ok.sc]; exact blkOk_by g1
    have hsw := sw_lc (env := X.env) (y := x) (py := p) (elt := elt) (gs := [⟨tg, iter, ifs, 0⟩]) (scope := scope) (pos := pos') (l := pos.line) hk
    cases hb2 : ((X.env.kindOf x == some NameKind.local && p.line == pos'.line) && !(scope.names.any fun (n, k) => n == x && (k == .local || k == .cell))) with
    | false =>
      rw [hb2] at hsw
      exact ps_set ok.nd hN hL he.2.1 hsw hF
    | true =>
      rw [hb2] at hsw
      simp only [Bool.and_eq_true] at hb2
      have hloc : X.env.scope.names.lookup x = some .local := eq_of_beq hb2.1.1
      have := ps_setLc ok.calm ok.nd hN hloc hsw (hi.2 false) hb (fun s H C cl fp => sg_tgt ok.blk g2) (fun s H C cl fp => (sO c).2 _ _ ok.blk takes0 _ g4) (fun s H C cl fp => (sE el _ _ W0 ok.blk takes0 _ g5).2.1) (fun x => pln_fold hi.1 _ x)
      exact ⟨fun pins s σ H D I hq => this.run pins s σ H D I (se_comp (ownOf_snd _ _) hq)⟩
  · have h2' := h2
    simp only [mE] at h2'
    split at h2' <;> first | (cases h2'; done) | skip
    rename_i elt tg iter tg2 iter2 ifs scope pos'
    simp only [Bool.and_eq_true] at h2'
    obtain ⟨⟨g1, g2, g6⟩, ⟨g3, g7⟩, g4, g5⟩ := h2'
    have hi := sIt it cs X Wx ok tk _ _ g3
    have hb : BlkOk X.N X.env.scope scope (ownOf cs.N (t.slots ++ u.slots)) := by rw [ok.N, ok.sc]; exact blkOk_by g1
    have hsw := sw_lc (env := X.env) (y := x) (py := p) (elt := elt) (gs := [⟨tg, iter, [], 0⟩, ⟨tg2, iter2, ifs, 0⟩]) (scope := scope) (pos := pos') (l := pos.line) hk
    cases hb2 : ((X.env.kindOf x == some NameKind.local && p.line == pos'.line) && !(scope.names.any fun (n, k) => n == x && (k == .local || k == .cell))) with
    | false =>
      rw [hb2] at hsw
      exact ps_set ok.nd hN hL he.2.1 hsw hF
    | true =>
      rw [hb2] at hsw
      simp only [Bool.and_eq_true] at hb2
      have hloc : X.env.scope.names.lookup x = some .local := eq_of_beq hb2.1.1
      have := ps_setLc2 (vs1 := u.slots) ok.calm ok.nd hN hloc hsw (hi.2 false) hb (fun i hi => by rw [ownOf_snd]; exact List.mem_append_right _ hi) (fun s H C cl fp => sg_tgt ok.blk g2) (fun s H C cl fp => pts_nil)
        (fun s H C cl fp => (sIt jt _ _ W0 ok.blk takes0 _ _ g7).2 false) (fun s H C cl fp => sg_tgt ok.blk g6) (fun s H C cl fp => (sO c).2 _ _ ok.blk takes0 _ g4) (fun s H C cl fp => (sE el _ _ W0 ok.blk takes0 _ g5).2.1) (fun x => pln_fold hi.1 _ x) (fun env x => pln_fold (mIt_pln g7) env x)
      exact ⟨fun pins s σ H D I hq => this.run pins s σ H D I (se_comp2 (ownOf_snd _ _) hq)⟩
theorem isLoc_eq {cs : Cs} {X : Cx} (ok : XOk Γ T cf k cs X) {x : Str} (h : isLoc cs x = true) : X.env.scope.names.lookup x = some .local := by rw [ok.sc]; exact of_decide_eq_true h
theorem s_par2 {i j : Nat} {kk ll : Sk} {a b : E} (cs : Cs) (X : Cx) (Wx : WX) (ok : XOk Γ T cf k cs X) (tk : Takes X Wx) (st : Stmt) (h : mS T cs (.par2 i kk j ll a b) st = true) : PS X st (tSt Γ cf N Wx (.par2 i kk j ll a b)) := by
  simp only [mS] at h
  split at h <;> first | (cases h; done) | skip
  rename_i x px y py kt pt ea eb k2 pt2 pos
  simp only [Bool.and_eq_true] at h
  obtain ⟨⟨h1, h2⟩, ⟨h3, h4⟩, h5, h6⟩ := h
  have ha := sE a cs X Wx ok tk _ h1
  have hb := sE b cs X Wx ok tk _ h2
  obtain ⟨hN, hL, hF⟩ := ok.tgt h3
  obtain ⟨hN2, hL2, hF2⟩ := ok.tgt h4
  have hij : i ≠ j := of_decide_eq_true h5
  have pa : PA X [ea, eb] (tCons (tEv Γ cf Wx a) (tCons (tEv Γ cf Wx b) tNil)) := pa_cons ha.2.1 (pa_cons hb.2.1 pa_nil (pln_star hb.1 _ _)) (pln_star ha.1 _ _)
  have plain : swappedStores [.Tuple [.Name x px, .Name y py] kt pt] (.Tuple [ea, eb] k2 pt2) X.env = pure none → PS X (.Assign [.Tuple [.Name x px, .Name y py] kt pt] (.Tuple [ea, eb] k2 pt2) pos) (tSt Γ cf N Wx (.par2 i kk j ll a b)) := fun hw =>
    ss_par2t (ps_asg (pe_tup pa) (pg_tup (n := 2) ok.calm (pgs_cons (pg_name ok.nd hN hL hF) (pgs_cons (pg_name ok.nd hN2 hL2 hF2) pgs_nil))) rfl hw)
  refine PS.kind fun hk => ?_
  split at h6
  · rename_i hsw
    unfold swNm at hsw
    simp only [Bool.and_eq_true, Bool.not_eq_true', decide_eq_false_iff_not] at hsw
    obtain ⟨⟨l1, l2⟩, l3, l4⟩ := hsw
    have e1 := isLoc_eq ok l1
    have e2 := isLoc_eq ok l2
    cases hf : [ea, eb].all (foldedForSure 8) with
    | true => exact plain (swp2f hk e1 e2 l3 l4 ha.1 hb.1 hf)
    | false =>
      rw [hf] at h6
      simp only [Bool.false_or, Bool.not_eq_true'] at h6
      exact ss_par2s (ps_par ok.calm ok.nd hN hN2 hij e1 e2 pa (swp2 hk e1 e2 l3 l4 ha.1 hb.1 hf h6))
  · refine plain (swp2n hk (fun ⟨z1, z2⟩ => ?_) ha.1 hb.1)
    rw [ok.sc] at z1 z2
    simp [isLoc, z1, z2] at h6
theorem s_par3 {i j l : Nat} {kk ll mm : Sk} {a b c : E} (cs : Cs) (X : Cx) (Wx : WX) (ok : XOk Γ T cf k cs X) (tk : Takes X Wx) (st : Stmt) (h : mS T cs (.par3 i kk j ll l mm a b c) st = true) : PS X st (tSt Γ cf N Wx (.par3 i kk j ll l mm a b c)) := by
  simp only [mS] at h
  split at h <;> first | (cases h; done) | skip
  rename_i x px y py z pz kt pt ea eb ec k2 pt2 pos
  simp only [Bool.and_eq_true] at h
  obtain ⟨⟨h1, h2, h2c⟩, ⟨h3, h4, h4c⟩, ⟨h5, h5b, h5c⟩, ⟨h6, h6b, h6c⟩, h7, h8⟩ := h
  have ha := sE a cs X Wx ok tk _ h1
  have hb := sE b cs X Wx ok tk _ h2
  have hc := sE c cs X Wx ok tk _ h2c
  obtain ⟨hN, hL, hF⟩ := ok.tgt h3
  obtain ⟨hN2, hL2, hF2⟩ := ok.tgt h4
  obtain ⟨hN3, hL3, hF3⟩ := ok.tgt h4c
  have pa : PA X [ea, eb, ec] (tCons (tEv Γ cf Wx a) (tCons (tEv Γ cf Wx b) (tCons (tEv Γ cf Wx c) tNil))) := pa_cons ha.2.1 (pa_cons hb.2.1 (pa_cons hc.2.1 pa_nil (pln_star hc.1 _ _)) (pln_star hb.1 _ _)) (pln_star ha.1 _ _)
  refine PS.kind fun hk => ?_
  unfold swNm at h6 h6b h6c
  simp only [Bool.and_eq_true, Bool.not_eq_true', decide_eq_false_iff_not] at h6 h6b h6c h7 h8
  obtain ⟨⟨l1, l2⟩, l3, l4⟩ := h6
  obtain ⟨⟨_, m2⟩, m3, m4⟩ := h6b
  obtain ⟨_, _, n4⟩ := h6c
  have e1 := isLoc_eq ok l1
  have e2 := isLoc_eq ok l2
  have e3 := isLoc_eq ok m2
  exact ss_par3s (ps_par3 ok.calm ok.nd hN hN2 hN3 (of_decide_eq_true h5) (of_decide_eq_true h5b) (of_decide_eq_true h5c) e1 e2 e3 pa (swp3 hk e1 e2 e3 l3 m3 l4 m4 n4 ha.1 hb.1 hc.1 h7 h8))
def SS (Γ : Sig) (T : Tab) (cf : Nat → List Val → Heap → R Val) (k N : Nat) (m : S) : Prop := ∀ (cs : Cs) (X : Cx) (Wx : WX), XOk Γ T cf k cs X → Takes X Wx → ∀ st, mS T cs m st = true → PS X st (tSt Γ cf N Wx m)
def SSs (Γ : Sig) (T : Tab) (cf : Nat → List Val → Heap → R Val) (k N : Nat) (m : Ss) : Prop := ∀ (cs : Cs) (X : Cx) (Wx : WX), XOk Γ T cf k cs X → Takes X Wx → ∀ st, mSs T cs m st = true → PSs X st (tSts Γ cf N Wx m)
theorem as_sub {o i : Expr} {pos : Pos} {env : Env} (h : pln i = true) (v : Value) : assign (.Subscript o i pos) env v = (do
      let ov ← holding [v] (eval o env)
      let iv ← holding [v, ov] (eval i env)
      standAt pos
      holding [v, ov, iv] (setItem ov iv v)
      release [v, ov, iv] []) := by
  cases i <;> first | rfl | (cases h; done)
theorem sole_sub {e o i : Expr} {p : Pos} {l : Nat} {env : Env} : swapsWithSole [.Subscript o i p] e l env = pure false := by cases e <;> rfl
theorem sole_tup {e : Expr} {es : List Expr} {k : Nat} {p : Pos} {l : Nat} {env : Env} : swapsWithSole [.Tuple es k p] e l env = pure false := by cases e <;> rfl
mutual
theorem sS : ∀ m : S, SS Γ T cf k N m
  | .set i kk m => fun cs X Wx ok tk st h => s_set cs X Wx ok tk st h
  | .par2 i kk j ll a b => fun cs X Wx ok tk st h => s_par2 cs X Wx ok tk st h
  | .par3 i kk j ll l mm a b c => fun cs X Wx ok tk st h => s_par3 cs X Wx ok tk st h
  | .unp t m => fun cs X Wx ok tk st h => by
    simp only [mS] at h
    split at h <;> first | (cases h; done) | skip
    rename_i tg e pos
    simp only [Bool.and_eq_true] at h
    obtain ⟨⟨h1, h2⟩, h3, h4⟩ := h
    have he := sE m cs X Wx ok tk _ h4
    have hg := sg_tgt ok h2
    have he1 := mT_each h2 [] X.env
    have htup : ∃ es kk p, tg = .Tuple es kk p := by
      cases t with
      | nm i => cases h1
      | tp2 a b => obtain ⟨_, _, kk, p, rfl, _⟩ := mT_tp2 h2; exact ⟨_, _, _, rfl⟩
      | tp3 a b c => obtain ⟨_, _, _, kk, p, rfl, _⟩ := mT_tp3 h2; exact ⟨_, _, _, rfl⟩
    obtain ⟨es, kk, p, rfl⟩ := htup
    exact ss_unp h1 (ps_asg he.2.1 hg sole_tup (st_tup h3) (by rw [he1]; rfl))
  | .six i a b => fun cs X Wx ok tk st h => by
    simp only [mS] at h
    split at h <;> first | (cases h; done) | skip
    simp only [Bool.and_eq_true] at h
    obtain ⟨h1, h2, h3⟩ := h
    obtain ⟨v1, v2, v3⟩ := ok.vis h1
    have ha := sE a cs X Wx ok tk _ h2
    have hb := sE b cs X Wx ok tk _ h3
    exact ss_six (ps_asg hb.2.1 (pg_sub (pe_var v1 v2 (okName.a v3) (okName.b v3)) ha.2.1 set_list (as_sub ha.1)) sole_sub st_sub)
  | .sixr o a b => fun cs X Wx ok tk st h => by
    simp only [mS] at h
    split at h <;> first | (cases h; done) | skip
    simp only [Bool.and_eq_true] at h
    obtain ⟨h1, h2, h3⟩ := h
    have ho := sE o cs X Wx ok tk _ h1
    have ha := sE a cs X Wx ok tk _ h2
    have hb := sE b cs X Wx ok tk _ h3
    exact ss_sixr (ps_asg hb.2.1 (pg_sub ho.2.1 ha.2.1 set_list (as_sub ha.1)) sole_sub st_sub)
  | .app i m => fun cs X Wx ok tk st h => by
    simp only [mS] at h
    split at h <;> first | (cases h; done) | skip
    simp only [Bool.and_eq_true, decide_eq_true_eq] at h
    obtain ⟨⟨rfl, h2⟩, h3, h4⟩ := h
    obtain ⟨v1, v2, v3⟩ := ok.vis h3
    have he := sE m cs X Wx ok tk _ h4
    have hs := pln_star he.1 [] X.env
    exact ss_app (ps_expr (pe_bm PySem.F.plainAttrs_list PySem.F.slot_list_append PySem.F.type_list_append mt_append (pe_var v1 v2 (okName.a v3) (okName.b v3)) (pa_cons he.2.1 pa_nil hs) rfl (by rw [hs]; rfl) h2 hs rfl))
  | .appr o m => fun cs X Wx ok tk st h => by
    simp only [mS] at h
    split at h <;> first | (cases h; done) | skip
    simp only [Bool.and_eq_true, decide_eq_true_eq] at h
    obtain ⟨⟨rfl, h2⟩, h3, h4, h5⟩ := h
    have ho := sE o cs X Wx ok tk _ h4
    have he := sE m cs X Wx ok tk _ h5
    have hs := pln_star he.1 [] X.env
    exact ss_appr (ps_expr (pe_bm PySem.F.plainAttrs_list PySem.F.slot_list_append PySem.F.type_list_append mt_append ho.2.1 (pa_cons he.2.1 pa_nil hs) (noCall_base h3 _ _) (by rw [hs]; rfl) h2 hs rfl))
  | .ex m => fun cs X Wx ok tk st h => by
    simp only [mS] at h
    split at h <;> first | (cases h; done) | skip
    simp only [Bool.and_eq_true] at h
    exact ss_ex (ps_expr (sE m cs X Wx ok tk _ h.2).2.1 (notLC_sw h.1 _ _ _))
  | .cond c a b => fun cs X Wx ok tk st h => by
    simp only [mS] at h
    split at h <;> first | (cases h; done) | skip
    simp only [Bool.and_eq_true] at h
    exact ss_cond (sE c cs X Wx ok tk _ h.1).2.2 (sSs a cs X Wx ok tk _ h.2.1) (sSs b cs X Wx ok tk _ h.2.2)
  | .forr t it b => fun cs X Wx ok tk st h => by
    simp only [mS] at h
    split at h <;> first | (cases h; done) | skip
    simp only [Bool.and_eq_true] at h
    have hi := sIt it cs X.nox W0 ok.nox takesN _ _ h.2.1
    exact ss_forr ok.calm (hi.2 true) (sg_tgt ok.nox h.1) (sSs b cs X.nox W0 ok.nox takesN _ h.2.2) (fun x => pln_fold hi.1 _ x)
  | .forv t i b => fun cs X Wx ok tk st h => by
    simp only [mS] at h
    split at h <;> first | (cases h; done) | skip
    simp only [Bool.and_eq_true] at h
    obtain ⟨v1, v2, v3⟩ := ok.nox.vis h.2.1
    exact ss_forv ok.calm (si_own v1 v2 (okName.a v3) (okName.b v3)) (sg_tgt ok.nox h.1) (sSs b cs X.nox W0 ok.nox takesN _ h.2.2) (fun x => rfl)
  | .whil c b => fun cs X Wx ok tk st h => by
    simp only [mS] at h
    split at h <;> first | (cases h; done) | skip
    simp only [Bool.and_eq_true] at h
    exact ss_whil (sE c cs X.nox W0 ok.nox takesN _ h.1).2.2 (sSs b cs X.nox W0 ok.nox takesN _ h.2)
  | .ret m => fun cs X Wx ok tk st h => by
    simp only [mS] at h
    split at h <;> first | (cases h; done) | skip
    exact ss_ret (ps_ret (sE m cs X Wx ok tk _ h).2.1)
  | .rais c => fun cs X Wx ok tk st h => by
    simp only [mS] at h
    split at h <;> first | (cases h; done) | skip
    simp only [Bool.and_eq_true, decide_eq_true_eq] at h
    obtain ⟨⟨h1, h2⟩, h3⟩ := h
    obtain ⟨hg, hok⟩ := ok.gl h1
    obtain ⟨hm, hk⟩ := ok.lw.cls _ _ h3
    have F := ok.lw.exc c hk h2
    exact ss_rais (ps_raise ok.calm tk (pmk_own PySem.F.excBase_ValueError F.exc hm F.keep (raises_own F.sub F.typ) hg (okName.a hok)))
  | .tryx i kk m n j kl => fun cs X Wx ok tk st h => by
    simp only [mS] at h
    split at h <;> first | (cases h; done) | skip
    rename_i r pr e pe x px nm y py nm' pn ps pos' pos
    simp only [Bool.and_eq_true, decide_eq_true_eq] at h
    obtain ⟨⟨⟨h1, h2, h3, h4⟩, ⟨h5, h6⟩, h7⟩, ⟨⟨h8, h9⟩, h10, h11⟩, ⟨h12, h13⟩, h14⟩ := h
    subst h11
    obtain ⟨t1, t2, t3⟩ := ok.tp h1
    obtain ⟨hN, hL, hF⟩ := ok.tgt h2
    obtain ⟨hg, hok⟩ := ok.gl h5
    have hm := (ok.lw.cls _ _ h6).1
    have hln := isLoc_eq ok h9
    have hly := isLoc_eq ok h13
    have key := ps_try_kept (X := X) (W := Wx) (np := px) (pos := pos) (pos' := pos') (py := py) (pn := pn) (ps := ps) (i := n) (j := j) (n := nm') (y := y) (x := x) (c := .ref (Γ.ca 0)) (body := [.Assign [.Name r pr] e pe]) (tb := fun W => tAsg (tEv Γ cf W m) (gName i)) t1 t2 t3 ok.nd
      (by rw [ok.N]; exact h8) hln ⟨okName.a h10, okName.b h10⟩ (by rw [ok.N]; exact h12) hly ⟨hg, okName.a hok, .inl hm⟩
      (fun W pl xe tk' _ => pss_one (ps_set (X := X.tr pl xe) ok.nd hN hL (sE m cs (X.tr pl xe) W (ok.tr pl xe) tk' e h4).2.1 (notLC_sw h3 _ _ _) hF))
    refine ⟨fun pins s σ H D I hq => key.run pins s σ H D I (t_tryx (fun d hd => ?_) h14 hq)⟩
    have hd : d ∈ kl := by simpa using hd
    obtain ⟨k1, k2⟩ := ok.lw.kc d (List.all_eq_true.mp h7 d hd)
    exact ⟨k1, k2, (ok.lw.exc d k1 k2).exm⟩
  | .pas => fun cs X Wx ok tk st h => by
    simp only [mS] at h
    split at h <;> first | (cases h; done) | skip
    · exact ss_pas ps_pass
    · exact ss_pas ps_doc
  | .bad => fun cs X Wx ok tk st h => by
    refine ⟨fun pins s σ H D I hq => ?_⟩
    obtain ⟨g, ρ, hp, hr, sr, hq⟩ := hq
    unfold ex at hq
    exact hq.elim
theorem sSs : ∀ m : Ss, SSs Γ T cf k N m
  | .nil => fun cs X Wx ok tk st h => by
    simp only [mSs] at h
    split at h <;> first | (cases h; done) | skip
    exact ss_nil
  | .cons m ms => fun cs X Wx ok tk st h => by
    simp only [mSs] at h
    split at h <;> first | (cases h; done) | skip
    simp only [Bool.and_eq_true] at h
    exact ss_cons (sS m cs X Wx ok tk _ h.1) (sSs ms cs X Wx ok tk _ h.2)
end
end
end Mi

set_option Elab.async false
set_option linter.all false
set_option autoImplicit false
set_option maxRecDepth 100000
/-! Mi20: defs; the law. -/
namespace Mi
open PySem PySem.Spec L2 PyProof.Rows

/-! ### at a def's end the slots are laid aside -/
section
variable {Γ : Sig} {g g' : Gh} {H H' : Hp} {ρ ρ' : Slots} {σ σ' : L2.St}
theorem StpS.fin (s : StpS g H ρ σ g' H' ρ' σ') (hn : ∀ p i, g.ow p ≠ some (.slot i)) : Stp g H g'.bare H' := by
  refine ⟨⟨s.am, fun p o h w => ?_⟩, fun p o i h w => (hn p i w).elim, fun p o h w => ?_, fun p o h w => ?_, fun p i w => (bare_no w).elim⟩
  · obtain ⟨a, b⟩ := s.kept p o h w
    refine ⟨?_, b⟩
    rcases w with w | w
    · rw [bare_none (a.trans w), w]
    · rw [bare_imm (a.trans w), w]
  · obtain ⟨a, b⟩ := s.obj p o h w
    exact ⟨bare_obj a, b⟩
  · obtain ⟨a, b⟩ := s.acc p o h w
    exact ⟨bare_acc a, b⟩
theorem RVr.fin {v : Val} {x : V} (s : StpS g H ρ σ g' H' ρ' σ') (hn : ∀ p i, g.ow p ≠ some (.slot i)) (r : RVr Γ H g' H' v x) : RV Γ g'.bare H' v x ∧ Frs H v x := by
  rcases r with ⟨r, f, nb⟩ | ⟨p, xs, ys, i, rfl, rfl, h, w, k⟩
  · refine ⟨?_, f⟩
    cases r with
    | kept r => exact .kept r.bare
    | own h w k => exact .own h (bare_none w) k.bare
    | brw h w k => exact (nb _ rfl).elim
  · refine ⟨.own h (bare_slot w) k.bare, ?_⟩
    show H p = none
    rcases s.ns p i w with z | z
    · exact (hn p i z).elim
    · exact z
theorem sr_start {args : List Val} {vs : List V} {N : List Str} {ns : Nat} (r : RKs Γ g H args vs) (hl : ns = N.length) : SR Γ g H (args.map some ++ List.replicate (ns - args.length) none) (L2.start N vs) := by
  have hlen := r.length
  subst hl
  refine ⟨by simp [L2.start, hlen], fun i v e => ?_⟩
  by_cases hi : i < args.length
  · rw [List.getElem?_append_left (by simpa using hi), List.getElem?_map] at e
    cases ea : args[i]? with
    | none => rw [ea] at e; cases e
    | some u =>
      rw [ea] at e
      cases e
      obtain ⟨x, e1, r1⟩ := r.get ea
      refine ⟨x, ?_, SlotV.kept r1⟩
      unfold L2.start
      rw [List.getElem?_append_left (by simp; omega), List.getElem?_map, e1]
      rfl
  · rw [List.getElem?_append_right (by simpa using hi), List.getElem?_replicate] at e
    split at e <;> cases e
end

/-! ### defs -/
structure DefI where
  f : Nat
  at_ : Str
  name : Str
  N : List Str
  ps : List Str
  fd : FD
  st : Stmt
def DefI.d (d : DefI) : He.DefD := ⟨(d.at_, none), d.name, d.name, defArgs d.st, defBody d.st, defScope d.st, [], []⟩
def scC (N P : List Str) (sc : Scope) : Bool := (match sc.kind with | .function => true | _ => false) && ((!sc.isCoroutine && !sc.isGenerator) && (decide N.Nodup && (decide (N.take P.length = P) &&
  ((P.all fun x => match sc.names.lookup x with | some .local => true | some .cell => true | _ => false) && (sc.names.all fun y => match y.2 with | .free => false | _ => true)))))
theorem scC_ok {N P : List Str} {sc : Scope} (h : scC N P sc = true) : FnScope N P sc := by
  unfold scC at h
  simp only [Bool.and_eq_true, Bool.not_eq_true', decide_eq_true_eq, List.all_eq_true] at h
  obtain ⟨h1, ⟨h2, h3⟩, h4, h5, h6, h7⟩ := h
  refine ⟨?_, h2, h3, h4, h5, fun x hx => ?_, fun y hy e => ?_⟩
  · split at h1
    · assumption
    · cases h1
  · have := h6 x hx
    split at this
    · exact .inl (by assumption)
    · exact .inr (by assumption)
    · cases this
  · have := h7 y hy
    rw [e] at this
    cases this
def DefI.cs (d : DefI) : Cs := ⟨d.N, defScope d.st, fun _ => true, true⟩
def DefI.chk (T : Tab) (d : DefI) : Bool := scC d.N d.ps (defScope d.st) && (decide (d.fd.np = d.ps.length) && (decide (d.fd.ns = d.N.length) && mSs T d.cs d.fd.body (defBody d.st)))
/-- the parameters are bound in their order -/
def DefI.Bnd (d : DefI) : Prop := ∀ (kV doc pm : Value) (an : Option Addr) (cdv ct : Value) (us : List Value), us.length = d.ps.length → bindArgs (PySem.W.fnOf d.name d.name (defArgs d.st) (defBody d.st) (defScope d.st) .none kV doc pm an cdv ct) ⟨us, []⟩ = pure (d.ps.zip us)
/-- the text's defs, by number -/
def gOf (dl : List DefI) : Nat → Option FD := fun f => (dl.find? fun d => d.f == f).map (·.fd)
/-- what the head tells -/
structure LwB (K : PySem.W.Frag) (mg : Str → Option Value) (Γ : Sig) (T : Tab) (dl : List DefI) : Prop where
  fn : ∀ x f, T.gn x = some (.fn f) → mg x = some (.ref (Γ.fa f))
  cls : ∀ x c, T.gn x = some (.cls c) → mg x = some (.ref (Γ.ca c)) ∧ Γ.kn c = true
  bi : ∀ s, bnames.contains s = true → mg (Str.ofString s) = none
  kf : ∀ f, PySem.W.keepIn K (.ref (Γ.fa f)) = true
  exc : ∀ c : Nat, Γ.kn c = true → c < 100 → ExcF K Γ c
  kc : ∀ c : Nat, T.kc c = true → Γ.kn c = true ∧ c < 100
  defs : ∀ d ∈ dl, d.chk T = true ∧ d.Bnd ∧ ∃ fd, FunD K d.name d.name (defArgs d.st) (defBody d.st) (defScope d.st) [] [] (Γ.fa d.f) fd
theorem find_def {d : DefI} : ∀ {l : List DefI}, (l.map (·.f)).Nodup → d ∈ l → l.find? (fun e => e.f == d.f) = some d
  | [], _, h => by cases h
  | e :: l, hn, hm => by
    rw [List.map_cons, List.nodup_cons] at hn
    rcases List.mem_cons.mp hm with rfl | hm
    · simp
    · have : e.f ≠ d.f := fun z => hn.1 (by rw [z]; exact List.mem_map.mpr ⟨d, hm, rfl⟩)
      rw [List.find?_cons]
      have hb : (e.f == d.f) = false := by simp [this]
      rw [hb]
      exact find_def hn.2 hm
theorem gOf_def {d : DefI} {dl : List DefI} (hn : (dl.map (·.f)).Nodup) (hd : d ∈ dl) : gOf dl d.f = some d.fd := by
  unfold gOf
  rw [find_def hn hd]
  rfl
section
variable {P : Program} {w : World} {K : PySem.W.Frag} {mg : Str → Option Value} {base : PySem.Heap} {Γ : Sig} {T : Tab} {dl : List DefI} {NN : Nat}
theorem fn_one (B : LwB K mg Γ T dl) {n : Nat} (ih : ∀ f args hp, callF (gOf dl) NN n f args hp ≠ .bad → FnX P w K mg base Γ (callF (gOf dl) NN n) n f) {d : DefI} (hd : d ∈ dl) (eG : gOf dl d.f = some d.fd) {fd : FuncData}
    (F : FunD K d.name d.name (defArgs d.st) (defBody d.st) (defScope d.st) [] [] (Γ.fa d.f) fd) : FnOk P w K mg base (L2.CX P w) (n + 1) (Γ.fa d.f) fd d.ps (spF Γ (callF (gOf dl) NN (n + 1)) d.f) ∧ Binds K fd d.ps [] := by
  have L : LwOk P w K mg base Γ T (callF (gOf dl) NN n) n := ⟨B.fn, B.cls, B.bi, ih, B.kf, B.exc, B.kc⟩
  obtain ⟨hc, hb, _⟩ := B.defs d hd
  unfold DefI.chk at hc
  simp only [Bool.and_eq_true, decide_eq_true_eq] at hc
  obtain ⟨c1, c2, c3, c4⟩ := hc
  have S := scC_ok c1
  refine ⟨F.ok (k := n) (N := d.N) S (fun vs H Q E hs => ?_) (fun cdv A outer s H vs Q E hr hs => ?_), F.bindsN hb⟩
  · obtain ⟨g, hp, args, hr, hno, rks, hpost⟩ := hs
    rw [← rks.length, ← c2]
    unfold callF at hpost
    rw [eG] at hpost
    simp only at hpost
    by_cases e : args.length = d.fd.np
    · exact e
    · rw [if_neg e] at hpost; exact hpost.elim
  · obtain ⟨g, hp, args, hr0, hno, rks, hpost⟩ := hs
    let X := cxOf (L2.CX P w) P w K mg base d.N d.name (defScope d.st) (Γ.fa d.f) cdv A outer s H E
    have ok : XOk Γ T (callF (gOf dl) NN n) n d.cs X := ⟨rfl, rfl, fun _ _ => rfl, S.nd, rfl, hr, L, fun _ => ⟨rfl, rfl, rfl⟩⟩
    have tk : Takes X (fun cls dd _ H => E cls dd H) := takes_of rfl rfl rfl rfl
    refine ⟨tSts Γ (callF (gOf dl) NN n) NN (fun cls dd _ H => E cls dd H) d.fd.body, sSs d.fd.body d.cs X _ ok tk _ c4, g, args.map some ++ List.replicate (d.fd.ns - args.length) none, hp, hr0, sr_start rks c3, ?_⟩
    unfold callF at hpost
    rw [eG] at hpost
    simp only at hpost
    by_cases e : args.length = d.fd.np
    · rw [if_pos e, ← e] at hpost
      cases er : exs (callF (gOf dl) NN n) NN d.fd.body (args.map some ++ List.replicate (d.fd.ns - args.length) none) hp with
      | bad => rw [er] at hpost; exact hpost.elim
      | exc c h => rw [er] at hpost; exact fun g' H' ρ' σ' s' hr' => hpost g'.bare H' (s'.fin hno) hr'.bare
      | ok fl h =>
        rw [er] at hpost
        cases fl with
        | nx ρ' => exact fun g' H' σ' s' hr' sr' => hpost g'.bare .non H' (s'.fin hno) hr'.bare (.kept .non) trivial
        | rt v =>
          intro g' H' ρ' σ' x s' hr' rv
          obtain ⟨r1, r2⟩ := RVr.fin s' hno rv
          exact hpost g'.bare x H' (s'.fin hno) hr'.bare r1 r2
    · rw [if_neg e] at hpost; exact hpost.elim
theorem fn_sound (B : LwB K mg Γ T dl) : ∀ n f args hp, callF (gOf dl) NN n f args hp ≠ .bad → FnX P w K mg base Γ (callF (gOf dl) NN n) n f
  | 0, f, args, hp, h => (h rfl).elim
  | n + 1, f, args, hp, h => by
    have hG : ∃ d ∈ dl, d.f = f ∧ gOf dl f = some d.fd := by
      unfold callF at h
      cases e : gOf dl f with
      | none => rw [e] at h; exact (h rfl).elim
      | some fd =>
        unfold gOf at e
        cases ef : dl.find? (fun d => d.f == f) with
        | none => rw [ef] at e; cases e
        | some d =>
          rw [ef] at e
          cases e
          exact ⟨d, List.mem_of_find?_eq_some ef, by simpa using List.find?_some ef, rfl⟩
    obtain ⟨d, hd, rfl, eG⟩ := hG
    obtain ⟨_, _, fd, F⟩ := B.defs d hd
    exact ⟨fd, d.ps, fn_one B (fn_sound B n) hd eG F⟩
end

/-! ### the end: the law's call -/
def scrV (ns : List Int) : Val := .lst .scr (ns.map Val.int)
/-- the law holds if the evaluator says so at each script -/
theorem law_sp {P : Program} {w : World} {K : PySem.W.Frag} {mg : Str → Option Value} {Γ : Sig} {T : Tab} {dl : List DefI} {NN n f : Nat} {H : Hp} {a : Addr} {ns : List Int}
    (hK : ∀ b o, K.lookup b = some o → o.cls ≠ .type "list") (hO : Only H) (hS : SqL K H a (ns.map V.int)) (h : ∃ h', callF (gOf dl) NN n f [scrV ns] [] = .ok (.bl true) h') :
    spF Γ (callF (gOf dl) NN n) f [.ref a] H (fun v _ => v = .bl true) fun _ _ _ => False := by
  have ha : ∃ o, H a = some (.frz o (.lst (ns.map V.int))) := by
    rcases hS with (hS | ⟨o, hS⟩) | ⟨o, its, m, lk, hc, _⟩
    · rcases hO a with z | ⟨o, xs, z⟩ <;> (rw [hS] at z; cases z)
    · exact ⟨o, hS⟩
    · exact (hK a o lk hc).elim
  obtain ⟨o, ha⟩ := ha
  have rks : ∀ l : List Int, RKs Γ ⟨[], fun _ => none⟩ H (l.map Val.int) (l.map V.int) := fun l => by
    induction l with
    | nil => exact .nil
    | cons x xs ih => exact .cons (.int x) ih
  have hr : HR Γ ⟨[], fun _ => none⟩ [] H := ⟨rfl, .nil, fun a o e => by simp at e, fun _ _ => rfl, fun p i e => by cases e⟩
  have hn : ∀ (p : Addr) (i : Nat), (⟨[], fun _ => none⟩ : Gh).ow p ≠ some (.slot i) := fun p i e => by cases e
  refine ⟨⟨[], fun _ => none⟩, [], [scrV ns], hr, hn, RKs.cons (.frz ha rfl (rks ns)) .nil, ?_⟩
  obtain ⟨h', h⟩ := h
  rw [h]
  exact fun g' x H' st hr rv fr => rv.bl
/-- as walk_ofB, the fragment at hand only at the end -/
theorem walk_mi {l : PySem.W.OpenLaw} {n k : Nat} {q : Program} {loose : List Str} {XP : (Str → Option Value) → PySem.Heap → Prop} {YP : World → PySem.Heap → Prop} {d : DefRec} {x : Str}
    (hn : l.most = some n) (hn2 : n ≤ sizeLine) (hdf : d.params.defaults = []) (hr : Room k callerA)
    (F : ∀ (w : World) (mg : Str → Option Value) (fa : Addr) (h : PySem.Heap), YP w h → h.Ns mainGlobals mg → mg d.name = some (.ref fa) →
      ∃ (K : PySem.W.Frag) (fd : FuncData) (sp : Sp), K.In h ∧ (∀ (s : Shared) (u : Value), BindsTo s fd ⟨[u], []⟩ [(x, u)]) ∧
        (∀ (H : Hp) (a : Addr) (ns : List Int), ns.length ≤ n → (∀ z ∈ ns, Builtin.Int.intBits z ≤ 1048576) → Only H → SqL K H a (ns.map V.int) → sp [.ref a] H (fun v _ => v = .bl true) fun _ _ _ => False) ∧
        ∀ base : PySem.Heap, K.In base → base.Ns mainGlobals mg → FnOk l.prog w K mg base (L2.CX l.prog w) k fa fd [x] sp) :
    PySem.W.WalkO q loose XP YP l.row.toRowW d [] (fun f vs => PySem.call f vs) := by
  refine Att.attach_callB hn hdf fun w s₀ s₁ mg mb fa o pm cd doc a vs ns G Y ho hd hcd hmg hobj hints hlen hbits hg => ?_
  obtain ⟨K, fd, sp, KX, hb, hsp, hF⟩ := F w mg fa _ Y G.T.g hmg
  exact law_call KX G.T.g G.T.b G.T.builtins G.T.nolimit hg hobj hints (Nat.le_trans hlen hn2) hr hF hb (fun H hO hS => hsp H a ns hlen hbits hO hS) fun H e s' z => by
    obtain ⟨_, _, _, _, _, _, _, _, _, _, _, _, w⟩ := z
    exact w
end Mi

set_option Elab.async false
set_option linter.all false
set_option autoImplicit false
set_option maxRecDepth 100000
/-! Mi21: what the head tells. -/
namespace Mi
open PySem PySem.Spec L2 PyProof.Rows
/-- a law's text: its defs, the names of defs, the names of classes (exceptions: numbers below 100; the first is above all) -/
structure Txt where
  dl : List DefI
  fl : List (Str × Nat)
  cl : List (Str × Nat)
def Txt.tab (t : Txt) : Tab := ⟨fun x => match t.fl.lookup x with
  | some f => some (.fn f)
  | none => (t.cl.lookup x).map Gv.cls, fun c => t.cl.any fun q => q.2 == c && decide (c < 100)⟩
def Txt.fAt (t : Txt) (f : Nat) : Str := match t.dl.find? (fun d => d.f == f) with
  | some d => d.at_
  | none => match t.dl with
    | d :: _ => d.at_
    | [] => default
def Txt.cAt (t : Txt) (c : Nat) : Str := match t.cl.find? (fun q => q.2 == c) with
  | some q => q.1
  | none => default
def Txt.sig (t : Txt) (K : PySem.W.Frag) : Sig := ⟨fun f => He.ga K (t.fAt f), fun c => He.ga K (t.cAt c), fun c => t.cl.any fun q => q.2 == c⟩
def isOpt {α : Type} [DecidableEq α] (a : Option α) (b : α) : Bool := decide (a = some b)
def excB (K : PySem.W.Frag) (D : Addr) : Bool :=
  (He.eqO (PySem.W.findIn K (.ref D) "__getattribute__") (some (some (.builtin "BaseException.__getattribute__"))) && (He.eqO (PySem.W.findIn K (.ref D) "__getattr__") (some none) && (isOpt (PySem.W.subIn K (.ref D) (.type "BaseException")) true && PySem.W.hasDictIn K D))) &&
  ((He.eqO (PySem.W.findIn K (.ref D) "__class__") (some (some (.builtin "object.__class__"))) && He.eqO (PySem.W.specialIn K (.builtin "object.__class__") "__get__") (some (some (.builtin "getset_descriptor.__get__")))) &&
    ((isOpt (PySem.W.takesIn K (.builtin "object.__class__")) true && isOpt (PySem.W.mroIn K D (.type "object")) true) &&
      ((isOpt (PySem.W.kitOne K (.ref D) (.type "ValueError")) true && PySem.W.excIn K D [.type "ValueError", .type "Exception", .type "BaseException", .type "object"] "ValueError.__new__") &&
        (PySem.W.keepIn K (.ref D) && decide (PySem.W.typeIn K (.ref D) = some (.type "type"))))))
def notList : Value → Bool
  | .type s => decide (s ≠ "list")
  | _ => true
def Txt.ex (t : Txt) (K : PySem.W.Frag) : Bool :=
  ((K.all fun q => notList q.2.cls) && (!t.dl.isEmpty && t.dl.all fun d => PySem.W.keepIn K (.ref (He.ga K d.at_)))) &&
  ((t.fl.all fun q => He.eqO (PySem.W.nsIn K mainGlobals q.1) (some (some (.ref (He.ga K (t.fAt q.2)))))) &&
  ((t.cl.all fun q => He.eqO (PySem.W.nsIn K mainGlobals q.1) (some (some (.ref (He.ga K (t.cAt q.2)))))) &&
  ((bnames.all fun s => He.eqO (PySem.W.nsIn K mainGlobals (Str.ofString s)) (some none)) &&
  (t.cl.all fun q => !decide (q.2 < 100) || (excB K (He.ga K (t.cAt q.2)) && (isOpt (PySem.W.exmOne K (.ref (He.ga K (t.cAt q.2))) (.ref (He.ga K (t.cAt 0)))) true &&
    t.cl.all fun r => !decide (r.2 < 100) || isOpt (PySem.W.kitOne K (.ref (He.ga K (t.cAt q.2))) (.ref (He.ga K (t.cAt r.2)))) (r.2 == 0 || r.2 == q.2)))))))
theorem any_num {t : Txt} {c : Nat} (h : (t.cl.any fun q => q.2 == c) = true) : ∃ q ∈ t.cl, q.2 = c := by
  obtain ⟨q, hq, e⟩ := List.any_eq_true.mp h
  exact ⟨q, hq, eq_of_beq e⟩
theorem lookup_in {α : Type} {x : Str} {v : α} : ∀ {l : List (Str × α)}, l.lookup x = some v → (x, v) ∈ l
  | [], h => by simp at h
  | (y, w) :: l, h => by
    rw [List.lookup_cons] at h
    split at h
    · rename_i e
      cases h
      rw [eq_of_beq e]
      exact List.mem_cons_self
    · exact List.mem_cons_of_mem _ (lookup_in h)
theorem Txt.nolist {t : Txt} {K : PySem.W.Frag} (h : t.ex K = true) : ∀ b o, K.lookup b = some o → o.cls ≠ .type "list" := by
  unfold Txt.ex at h
  simp only [Bool.and_eq_true] at h
  intro b o e z
  have hm : (b, o) ∈ K := He.lookup_mem e
  have := List.all_eq_true.mp h.1.1 (b, o) hm
  simp [z, notList] at this
theorem Txt.lwB {t : Txt} {K : PySem.W.Frag} {h : PySem.Heap} {mg : Str → Option Value} {w : World} {fa : List He.Fa} {ts : List He.Tab} {tf : List He.Defn} (X : K.In h) (G : h.Ns mainGlobals mg) (c : He.SaysX fa (t.dl.map DefI.d) ts tf t.ex w h K)
    (nd : (t.dl.map (·.f)).Nodup) (chk : (t.dl.all fun d => d.chk t.tab) = true) (bnd : ∀ d ∈ t.dl, d.Bnd) : LwB K mg (t.sig K) t.tab t.dl := by
  have hx := c.more
  unfold Txt.ex at hx
  simp only [Bool.and_eq_true] at hx
  obtain ⟨⟨x1, x2, x3⟩, x4, x5, x6, x7⟩ := hx
  have kp : ∀ d ∈ t.dl, PySem.W.keepIn K (.ref (He.ga K d.at_)) = true := fun d hd => List.all_eq_true.mp x3 d hd
  refine ⟨fun x f e => ?_, fun x cc e => ?_, fun s hs => ?_, fun f => ?_, fun cc hk hlt => ?_, fun cc hk => ?_, fun d hd => ⟨List.all_eq_true.mp chk d hd, bnd d hd, ?_⟩⟩
  · unfold Txt.tab at e
    simp only at e
    cases el : t.fl.lookup x with
    | none =>
      rw [el] at e
      cases ec : t.cl.lookup x <;> (rw [ec] at e; cases e)
    | some f' =>
      rw [el] at e
      cases e
      exact PySem.W.mg_of X G (He.eqO_ok (List.all_eq_true.mp x4 (x, f) (lookup_in el)))
  · unfold Txt.tab at e
    simp only at e
    cases el : t.fl.lookup x with
    | some f' => rw [el] at e; cases e
    | none =>
      rw [el] at e
      cases ec : t.cl.lookup x with
      | none => rw [ec] at e; cases e
      | some c' =>
        rw [ec] at e
        cases e
        have hm := lookup_in ec
        exact ⟨PySem.W.mg_of X G (He.eqO_ok (List.all_eq_true.mp x5 (x, cc) hm)), List.any_eq_true.mpr ⟨(x, cc), hm, by simp⟩⟩
  · exact PySem.W.mg_none_of X G (He.eqO_ok (List.all_eq_true.mp x6 s (by simpa using hs)))
  · show PySem.W.keepIn K (.ref (He.ga K (t.fAt f))) = true
    unfold Txt.fAt
    split
    · rename_i d hd
      exact kp d (List.mem_of_find?_eq_some hd)
    · split
      · rename_i d l hd
        exact kp d (by rw [hd]; exact List.mem_cons_self)
      · rename_i hd
        rw [hd] at x2
        cases x2
  · obtain ⟨q, hq, rfl⟩ := any_num hk
    have z := List.all_eq_true.mp x7 q hq
    simp only [hlt, decide_true, Bool.not_true, Bool.false_or, Bool.and_eq_true] at z
    obtain ⟨z1, z2, z3⟩ := z
    unfold excB at z1
    simp only [Bool.and_eq_true] at z1
    obtain ⟨⟨a1, a2, a3, a4⟩, ⟨a5, a6⟩, ⟨a7, a8⟩, ⟨a9, a10⟩, a11, a12⟩ := z1
    refine ⟨⟨He.eqO_ok a1, He.eqO_ok a2, of_decide_eq_true a3, a4, He.eqO_ok a5, He.eqO_ok a6, of_decide_eq_true a7, of_decide_eq_true a8⟩, of_decide_eq_true a9, fun d kd ld => ?_, of_decide_eq_true z2, a10, a11, of_decide_eq_true a3, of_decide_eq_true a12⟩
    obtain ⟨r, hr, rfl⟩ := any_num kd
    have y := List.all_eq_true.mp z3 r hr
    simp only [ld, decide_true, Bool.not_true, Bool.false_or] at y
    exact of_decide_eq_true y
  · obtain ⟨q, hq, e⟩ := List.any_eq_true.mp hk
    simp only [Bool.and_eq_true, decide_eq_true_eq] at e
    exact ⟨List.any_eq_true.mpr ⟨q, hq, e.1⟩, e.2⟩
  · have hf : t.fAt d.f = d.at_ := by
      unfold Txt.fAt
      have : t.dl.find? (fun e => e.f == d.f) = some d := find_def nd hd
      rw [this]
    have := c.t.d.defs (d := d.d) (List.mem_map.mpr ⟨d, hd, rfl⟩)
    show ∃ fd, FunD K d.name d.name (defArgs d.st) (defBody d.st) (defScope d.st) [] [] (He.ga K (t.fAt d.f)) fd
    rw [hf]
    exact this
/-- the law's row -/
theorem law_of {l : PySem.W.OpenLaw} {q : Program} {loose : List Str} {XP : (Str → Option Value) → PySem.Heap → Prop} {dr : DefRec} {t : Txt} {ts : List He.Tab} {tf : List He.Defn} {fa : List He.Fa} {n : Nat} {law : DefI} {NN m : Nat}
    (hn : l.most = some 63) (hdf : dr.params.defaults = []) (hr : Room m callerA) (nd : (t.dl.map (·.f)).Nodup) (chk : (t.dl.all fun d => d.chk t.tab) = true) (bnd : ∀ d ∈ t.dl, d.Bnd)
    (hl : law ∈ t.dl) (hname : dr.name = law.at_) (hps : law.ps = [("script" : Str)]) (hgl : t.tab.gn law.at_ = some (.fn law.f))
    (run : ∀ ns : List Int, ns.length ≤ 63 → (∀ z ∈ ns, Builtin.Int.intBits z ≤ 1048576) → ∃ h', callF (gOf t.dl) NN m law.f [scrV ns] [] = .ok (.bl true) h') :
    PySem.W.WalkO q loose XP (He.hookX n fa (t.dl.map DefI.d) ts tf t.ex).says l.row.toRowW dr [] (fun f vs => PySem.call f vs) := by
  refine walk_mi (n := 63) (k := m) (x := "script") hn (by decide) hdf hr fun w mg f h Y G hmg => ?_
  obtain ⟨K, KX, c⟩ := Y
  have B := t.lwB KX G c nd chk bnd
  obtain ⟨h', e⟩ := run [] (by simp) (by simp)
  have ef : f = (t.sig K).fa law.f := by
    have z := B.fn _ _ hgl
    rw [hname] at hmg
    rw [hmg] at z
    cases z
    rfl
  obtain ⟨c1, c2, fd, F⟩ := B.defs law hl
  have bb : ∀ (s : Shared) (u : Value), BindsTo s fd ⟨[u], []⟩ [("script", u)] := fun s u => by
    have := FunD.bindsA (ps := law.ps) F c2 s [u] (by rw [hps]; rfl)
    rw [hps] at this
    exact this
  refine ⟨K, fd, spF (t.sig K) (callF (gOf t.dl) NN m) law.f, KX, bb, fun H a ns h1 h2 hO hS => law_sp (P := l.prog) (w := w) (mg := mg) (T := t.tab) (t.nolist c.more) hO hS (run ns h1 h2), fun base hb1 hb2 => ?_⟩
  cases m with
  | zero => exact absurd e (fun z => by cases z)
  | succ k =>
    have z := (fn_one (P := l.prog) (w := w) (base := base) (NN := NN) B (fn_sound B k) hl (gOf_def nd hl) F).1
    rw [hps] at z
    rw [ef]
    exact z
end Mi

set_option Elab.async false
set_option linter.all false
set_option autoImplicit false
/-! Mi22: the evaluator with weaker calls. -/
namespace Mi
abbrev Cf := Nat → List Val → Heap → R Val
/-- c2 gives what c1 gives, where c1 gives anything -/
def Le (c1 c2 : Cf) : Prop := ∀ f a h, c1 f a h ≠ .bad → c2 f a h = c1 f a h
theorem bind_le {α β : Type} {r1 r2 : R α} {k1 k2 : α → Heap → R β} (h : r1.bind k1 ≠ .bad) (hr : r1 ≠ .bad → r2 = r1) (hk : ∀ v h, k1 v h ≠ .bad → k2 v h = k1 v h) : r2.bind k2 = r1.bind k1 := by
  cases r1 with
  | ok v hp => rw [hr (by intro z; cases z)]; exact hk v hp h
  | exc c hp => rw [hr (by intro z; cases z)]; rfl
  | bad => exact (h rfl).elim
theorem compL_le {bd : Val → Option Slots} {t1 t2 : Slots → Heap → R Bool} {e1 e2 : Slots → Heap → R Val} (ht : ∀ ρ h, t1 ρ h ≠ .bad → t2 ρ h = t1 ρ h) (he : ∀ ρ h, e1 ρ h ≠ .bad → e2 ρ h = e1 ρ h) : ∀ xs h, compL bd t1 e1 xs h ≠ .bad → compL bd t2 e2 xs h = compL bd t1 e1 xs h
  | [], h, _ => rfl
  | x :: xs, h, hn => by
    unfold compL at hn ⊢
    revert hn
    cases bd x with
    | none => intro _; rfl
    | some ρ =>
      intro hn
      refine bind_le hn (ht ρ h) fun b h' hn' => ?_
      cases b with
      | false => simp only [Bool.false_eq_true, if_false] at hn' ⊢; exact compL_le ht he xs h' hn'
      | true =>
        simp only [if_true] at hn' ⊢
        refine bind_le hn' (he ρ h') fun v h2 hn2 => ?_
        revert hn2
        cases fz v with
        | none => intro _; rfl
        | some w => intro hn2; exact bind_le hn2 (compL_le ht he xs h2) fun _ _ _ => rfl
theorem compO_le {bd : Val → Option Slots} {i1 i2 : Slots → Heap → R (List Val)} (hi : ∀ ρ h, i1 ρ h ≠ .bad → i2 ρ h = i1 ρ h) : ∀ xs h, compO bd i1 xs h ≠ .bad → compO bd i2 xs h = compO bd i1 xs h
  | [], h, _ => rfl
  | x :: xs, h, hn => by
    unfold compO at hn ⊢
    revert hn
    cases bd x with
    | none => intro _; rfl
    | some ρ =>
      intro hn
      exact bind_le hn (hi ρ h) fun us h' hn' => bind_le hn' (compO_le hi xs h') fun _ _ _ => rfl
theorem noexc_le {α : Type} {r1 r2 : R α} (h : noexc r1 ≠ .bad) (hr : r1 ≠ .bad → r2 = r1) : noexc r2 = noexc r1 := by
  cases r1 with
  | ok v hp => rw [hr (by intro z; cases z)]
  | exc c hp => exact (h rfl).elim
  | bad => exact (h rfl).elim
section
variable {c1 c2 : Cf} (hc : Le c1 c2)
include hc
mutual
theorem ev_le : ∀ e ρ h, ev c1 e ρ h ≠ .bad → ev c2 e ρ h = ev c1 e ρ h
  | .int _, _, _, _ => by unfold ev; rfl
  | .bl _, _, _, _ => by unfold ev; rfl
  | .non, _, _, _ => by unfold ev; rfl
  | .str _, _, _, _ => by unfold ev; rfl
  | .var _, _, _, _ => by unfold ev; rfl
  | .fn _, _, _, _ => by unfold ev; rfl
  | .cls _, _, _, _ => by unfold ev; rfl
  | .ty _, _, _, _ => by unfold ev; rfl
  | .bin o a b, ρ, h, hn => by
    unfold ev at hn ⊢
    exact bind_le hn (ev_le a ρ h) fun x h1 hn => bind_le hn (ev_le b ρ h1) fun _ _ _ => rfl
  | .neg a, ρ, h, hn => by
    unfold ev at hn ⊢
    exact bind_le hn (ev_le a ρ h) fun _ _ _ => rfl
  | .cmp o a b, ρ, h, hn => by
    unfold ev at hn ⊢
    exact bind_le hn (ev_le a ρ h) fun x h1 hn => bind_le hn (ev_le b ρ h1) fun _ _ _ => rfl
  | .chn o p a b c, ρ, h, hn => by
    unfold ev at hn ⊢
    refine bind_le hn (ev_le a ρ h) fun x h1 hn => bind_le hn (ev_le b ρ h1) fun y h2 hn => ?_
    revert hn
    cases cop o x y h2 with
    | none => intro _; rfl
    | some b => cases b with
      | false => intro _; rfl
      | true => intro hn; exact bind_le hn (ev_le c ρ h2) fun _ _ _ => rfl
  | .not a, ρ, h, hn => by
    unfold ev at hn ⊢
    exact bind_le hn (ev_le a ρ h) fun _ _ _ => rfl
  | .bo k es, ρ, h, hn => by
    unfold ev at hn ⊢
    exact evBo_le k es ρ h hn
  | .ite c a b, ρ, h, hn => by
    unfold ev at hn ⊢
    refine bind_le hn (ev_le c ρ h) fun x h1 hn => ?_
    revert hn
    cases truth h1 x with
    | none => intro _; rfl
    | some t => cases t with
      | true => intro hn; exact ev_le a ρ h1 hn
      | false => intro hn; exact ev_le b ρ h1 hn
  | .tup es, ρ, h, hn => by
    unfold ev at hn ⊢
    exact bind_le hn (evs_le es ρ h) fun _ _ _ => rfl
  | .lst es, ρ, h, hn => by
    unfold ev at hn ⊢
    exact bind_le hn (evs_le es ρ h) fun _ _ _ => rfl
  | .idx a b, ρ, h, hn => by
    unfold ev at hn ⊢
    exact bind_le hn (ev_le a ρ h) fun x h1 hn => bind_le hn (ev_le b ρ h1) fun _ _ _ => rfl
  | .slc a lo hi, ρ, h, hn => by
    unfold ev at hn ⊢
    exact bind_le hn (ev_le a ρ h) fun x h1 hn => bind_le hn (evo_le lo ρ h1) fun l h2 hn => bind_le hn (evo_le hi ρ h2) fun _ _ _ => rfl
  | .call f es, ρ, h, hn => by
    unfold ev at hn ⊢
    refine bind_le hn (ev_le f ρ h) fun x h1 hn => ?_
    cases x <;> first | rfl | exact bind_le hn (evs_le es ρ h1) fun xs h2 hn => hc _ xs h2 hn
  | .p1 p a, ρ, h, hn => by
    unfold ev at hn ⊢
    exact bind_le hn (ev_le a ρ h) fun _ _ _ => rfl
  | .p2 p a b, ρ, h, hn => by
    unfold ev at hn ⊢
    exact bind_le hn (ev_le a ρ h) fun x h1 hn => bind_le hn (ev_le b ρ h1) fun _ _ _ => rfl
  | .m1 m a b, ρ, h, hn => by
    unfold ev at hn ⊢
    refine bind_le hn (ev_le a ρ h) fun x h1 hn => ?_
    by_cases e : m1T m x = true
    · rw [if_pos e] at hn
      rw [if_pos e, if_pos e]
      exact bind_le hn (ev_le b ρ h1) fun _ _ _ => rfl
    · rw [if_neg e, if_neg e]
  | .comp t it c e, ρ, h, hn => by
    unfold ev at hn ⊢
    refine bind_le hn (evIt_le false it ρ h) fun xs h1 hn => bind_le hn (fun hn => noexc_le hn (compL_le (fun ρ h => evT_le c ρ h) (fun ρ h => ev_le e ρ h) xs h1)) fun _ _ _ => rfl
  | .comp2 t it u jt c e, ρ, h, hn => by
    unfold ev at hn ⊢
    refine bind_le hn (evIt_le false it ρ h) fun xs h1 hn => bind_le hn (fun hn => noexc_le hn (compO_le (fun ρ' h => fun hn => bind_le hn (evIt_le false jt ρ' h) fun ys h2 hn => compL_le (fun ρ h => evT_le c ρ h) (fun ρ h => ev_le e ρ h) ys h2 hn) xs h1)) fun _ _ _ => rfl
theorem evs_le : ∀ es ρ h, evs c1 es ρ h ≠ .bad → evs c2 es ρ h = evs c1 es ρ h
  | .nil, _, _, _ => by unfold evs; rfl
  | .cons e es, ρ, h, hn => by
    unfold evs at hn ⊢
    refine bind_le hn (ev_le e ρ h) fun x h1 hn => ?_
    revert hn
    cases fz x with
    | none => intro _; rfl
    | some w => intro hn; exact bind_le hn (evs_le es ρ h1) fun _ _ _ => rfl
theorem evBo_le (k : Bool) : ∀ es ρ h, evBo c1 k es ρ h ≠ .bad → evBo c2 k es ρ h = evBo c1 k es ρ h
  | .nil, _, _, _ => by unfold evBo; rfl
  | .cons e es, ρ, h, hn => by
    unfold evBo at hn ⊢
    refine bind_le hn (ev_le e ρ h) fun x h1 hn => ?_
    cases es with
    | nil => rfl
    | cons e2 es2 =>
      simp only at hn ⊢
      revert hn
      cases truth h1 x with
      | none => intro _; rfl
      | some b =>
        intro hn
        simp only at hn ⊢
        by_cases e : (b == k) = true
        · rw [if_pos e] at hn
          rw [if_pos e, if_pos e]
          exact evBo_le k (.cons e2 es2) ρ h1 hn
        · rw [if_neg e, if_neg e]
theorem evo_le : ∀ o ρ h, evo c1 o ρ h ≠ .bad → evo c2 o ρ h = evo c1 o ρ h
  | .no, _, _, _ => by unfold evo; rfl
  | .so e, ρ, h, hn => by
    unfold evo at hn ⊢
    exact bind_le hn (ev_le e ρ h) fun _ _ _ => rfl
theorem evT_le : ∀ o ρ h, evT c1 o ρ h ≠ .bad → evT c2 o ρ h = evT c1 o ρ h
  | .no, _, _, _ => by unfold evT; rfl
  | .so e, ρ, h, hn => by
    unfold evT at hn ⊢
    exact bind_le hn (ev_le e ρ h) fun _ _ _ => rfl
theorem evIt_le (b : Bool) : ∀ it ρ h, evIt c1 b it ρ h ≠ .bad → evIt c2 b it ρ h = evIt c1 b it ρ h
  | .seq e, ρ, h, hn => by
    unfold evIt at hn ⊢
    exact bind_le hn (ev_le e ρ h) fun _ _ _ => rfl
  | .rng1 e, ρ, h, hn => by
    unfold evIt at hn ⊢
    exact bind_le hn (ev_le e ρ h) fun _ _ _ => rfl
  | .rng2 e f, ρ, h, hn => by
    unfold evIt at hn ⊢
    exact bind_le hn (ev_le e ρ h) fun x h1 hn => bind_le hn (ev_le f ρ h1) fun _ _ _ => rfl
  | .enum e, ρ, h, hn => by
    unfold evIt at hn ⊢
    exact bind_le hn (ev_le e ρ h) fun _ _ _ => rfl
  | .zip e f, ρ, h, hn => by
    unfold evIt at hn ⊢
    exact bind_le hn (ev_le e ρ h) fun x h1 hn => bind_le hn (ev_le f ρ h1) fun _ _ _ => rfl
  | .ezip e f, ρ, h, hn => by
    unfold evIt at hn ⊢
    exact bind_le hn (ev_le e ρ h) fun x h1 hn => bind_le hn (ev_le f ρ h1) fun _ _ _ => rfl
end
end
theorem forL_le {bd : Val → Slots → Option Slots} {b1 b2 : Slots → Heap → R Fl} (hb : ∀ ρ h, b1 ρ h ≠ .bad → b2 ρ h = b1 ρ h) : ∀ xs ρ h, forL bd b1 xs ρ h ≠ .bad → forL bd b2 xs ρ h = forL bd b1 xs ρ h
  | [], _, _, _ => rfl
  | x :: xs, ρ, h, hn => by
    unfold forL at hn ⊢
    revert hn
    cases bd x ρ with
    | none => intro _; rfl
    | some ρ' =>
      intro hn
      simp only at hn ⊢
      cases e : b1 ρ' h with
      | bad => rw [e] at hn; exact (hn rfl).elim
      | exc c h' => rw [e] at hn; exact (hn rfl).elim
      | ok f h' =>
        rw [e] at hn
        rw [hb ρ' h (by rw [e]; intro z; cases z), e]
        cases f with
        | nx ρ2 => exact forL_le hb xs ρ2 h' hn
        | rt v => rfl
theorem whileL_le {t1 t2 : Slots → Heap → R Bool} {b1 b2 : Slots → Heap → R Fl} (ht : ∀ ρ h, t1 ρ h ≠ .bad → t2 ρ h = t1 ρ h) (hb : ∀ ρ h, b1 ρ h ≠ .bad → b2 ρ h = b1 ρ h) : ∀ n ρ h, whileL t1 b1 n ρ h ≠ .bad → whileL t2 b2 n ρ h = whileL t1 b1 n ρ h
  | 0, _, _, _ => rfl
  | n + 1, ρ, h, hn => by
    unfold whileL at hn ⊢
    cases e : t1 ρ h with
    | bad => rw [e] at hn; exact (hn rfl).elim
    | exc c h' => rw [e] at hn; exact (hn rfl).elim
    | ok b h' =>
      rw [e] at hn
      rw [ht ρ h (by rw [e]; intro z; cases z), e]
      cases b with
      | false => rfl
      | true =>
        simp only at hn ⊢
        cases e2 : b1 ρ h' with
        | bad => rw [e2] at hn; exact (hn rfl).elim
        | exc c h' => rw [e2] at hn; exact (hn rfl).elim
        | ok f h2 =>
          rw [e2] at hn
          rw [hb ρ h' (by rw [e2]; intro z; cases z), e2]
          cases f with
          | nx ρ2 => exact whileL_le ht hb n ρ2 h2 hn
          | rt v => rfl
section
variable {c1 c2 : Cf} (hc : Le c1 c2) {N : Nat}
include hc
mutual
theorem ex_le : ∀ s ρ h, ex c1 N s ρ h ≠ .bad → ex c2 N s ρ h = ex c1 N s ρ h
  | .set i k e, ρ, h, hn => by
    unfold ex at hn ⊢
    exact bind_le hn (ev_le hc e ρ h) fun _ _ _ => rfl
  | .par2 i k j l a b, ρ, h, hn => by
    unfold ex at hn ⊢
    exact bind_le hn (ev_le hc a ρ h) fun x h1 hn => bind_le hn (ev_le hc b ρ h1) fun _ _ _ => rfl
  | .par3 i k j l m n a b c, ρ, h, hn => by
    unfold ex at hn ⊢
    exact bind_le hn (ev_le hc a ρ h) fun x h1 hn => bind_le hn (ev_le hc b ρ h1) fun y h2 hn => bind_le hn (ev_le hc c ρ h2) fun _ _ _ => rfl
  | .unp t e, ρ, h, hn => by
    unfold ex at hn ⊢
    exact bind_le hn (ev_le hc e ρ h) fun _ _ _ => rfl
  | .six i ie ve, ρ, h, hn => by
    unfold ex at hn ⊢
    refine bind_le hn (ev_le hc ve ρ h) fun v h1 hn => ?_
    split at hn
    · rename_i xs er
      exact bind_le hn (ev_le hc ie ρ h1) fun _ _ _ => rfl
    · rfl
  | .sixr oe ie ve, ρ, h, hn => by
    unfold ex at hn ⊢
    refine bind_le hn (ev_le hc ve ρ h) fun v h1 hn => ?_
    revert hn
    cases fz v with
    | none => intro _; rfl
    | some w => intro hn; exact bind_le hn (ev_le hc oe ρ h1) fun o h2 hn => bind_le hn (ev_le hc ie ρ h2) fun _ _ _ => rfl
  | .app i e, ρ, h, hn => by
    unfold ex at hn ⊢
    split at hn
    · rename_i xs er
      exact bind_le hn (ev_le hc e ρ h) fun _ _ _ => rfl
    · rfl
  | .appr oe e, ρ, h, hn => by
    unfold ex at hn ⊢
    refine bind_le hn (ev_le hc oe ρ h) fun o h1 hn => ?_
    cases o with
    | ref a =>
      simp only at hn ⊢
      split at hn
      · exact bind_le hn (ev_le hc e ρ h1) fun _ _ _ => rfl
      · rfl
    | _ => rfl
  | .ex e, ρ, h, hn => by
    unfold ex at hn ⊢
    exact bind_le hn (ev_le hc e ρ h) fun _ _ _ => rfl
  | .cond c a b, ρ, h, hn => by
    unfold ex at hn ⊢
    refine bind_le hn (ev_le hc c ρ h) fun x h1 hn => ?_
    revert hn
    cases truth h1 x with
    | none => intro _; rfl
    | some t => cases t with
      | true => intro hn; exact exs_le a ρ h1 hn
      | false => intro hn; exact exs_le b ρ h1 hn
  | .forr t it b, ρ, h, hn => by
    unfold ex at hn ⊢
    cases e : evIt c1 true it ρ h with
    | bad => rw [e] at hn; exact (hn rfl).elim
    | exc c h' => rw [e] at hn; exact (hn rfl).elim
    | ok xs h' =>
      rw [e] at hn
      rw [evIt_le hc true it ρ h (by rw [e]; intro z; cases z), e]
      exact forL_le (fun ρ h => exs_le b ρ h) xs ρ h' hn
  | .forv t i b, ρ, h, hn => by
    unfold ex at hn ⊢
    split at hn
    · rename_i xs er
      cases e : forL (bindT t) (exs c1 N b) xs (ρ.set i (some lck)) h with
      | bad => rw [e] at hn; exact (hn rfl).elim
      | exc c h' => rw [e] at hn; exact (hn rfl).elim
      | ok f h' => rw [forL_le (fun ρ h => exs_le b ρ h) xs _ h (by rw [e]; intro z; cases z), e]
    · rfl
  | .whil c b, ρ, h, hn => by
    unfold ex at hn ⊢
    exact whileL_le (fun ρ h hn => bind_le hn (ev_le hc c ρ h) fun _ _ _ => rfl) (fun ρ h => exs_le b ρ h) N ρ h hn
  | .ret e, ρ, h, hn => by
    unfold ex at hn ⊢
    exact bind_le hn (ev_le hc e ρ h) fun _ _ _ => rfl
  | .rais c, _, _, _ => by unfold ex; rfl
  | .tryx i k e n j kl, ρ, h, hn => by
    unfold ex at hn ⊢
    split at hn
    · rename_i er
      cases e1 : ev c1 e ρ h with
      | bad => rw [e1] at hn; exact (hn rfl).elim
      | exc c h' => rw [ev_le hc e ρ h (by rw [e1]; intro z; cases z), e1]
      | ok v h' => rw [ev_le hc e ρ h (by rw [e1]; intro z; cases z), e1]
    · rfl
  | .pas, _, _, _ => by unfold ex; rfl
  | .bad, _, _, hn => by unfold ex; rfl
theorem exs_le : ∀ s ρ h, exs c1 N s ρ h ≠ .bad → exs c2 N s ρ h = exs c1 N s ρ h
  | .nil, _, _, _ => by unfold exs; rfl
  | .cons s ss, ρ, h, hn => by
    unfold exs at hn ⊢
    refine bind_le hn (ex_le s ρ h) fun f h1 hn => ?_
    cases f with
    | nx ρ' => exact exs_le ss ρ' h1 hn
    | rt v => rfl
end
end
/-- a def's run by calls c -/
def runF (c : Cf) (N : Nat) (d : FD) (args : List Val) (h : Heap) : R Val :=
  if args.length = d.np then match exs c N d.body (args.map some ++ List.replicate (d.ns - d.np) none) h with
    | .ok (.nx _) h => .ok .non h
    | .ok (.rt v) h => .ok v h
    | .exc c h => .exc c h
    | .bad => .bad
  else .bad
theorem callF_eq {G : Nat → Option FD} {N n f : Nat} {d : FD} (hG : G f = some d) (args : List Val) (h : Heap) : callF G N (n + 1) f args h = runF (callF G N n) N d args h := by
  show (match G f with | none => R.bad | some d => _) = _
  rw [hG]
  rfl
theorem runF_le {c1 c2 : Cf} (hc : Le c1 c2) {N : Nat} {d : FD} {args : List Val} {h : Heap} (hn : runF c1 N d args h ≠ .bad) : runF c2 N d args h = runF c1 N d args h := by
  unfold runF at hn ⊢
  by_cases e : args.length = d.np
  · rw [if_pos e] at hn ⊢
    rw [if_pos e]
    cases ee : exs c1 N d.body (args.map some ++ List.replicate (d.ns - d.np) none) h with
    | bad => rw [ee] at hn; exact (hn rfl).elim
    | ok f h' => rw [exs_le hc _ _ _ (by rw [ee]; intro z; cases z), ee]
    | exc c h' => rw [exs_le hc _ _ _ (by rw [ee]; intro z; cases z), ee]
  · rw [if_neg e, if_neg e]
/-- by weaker calls -/
theorem callF_by {G : Nat → Option FD} {N n f : Nat} {d : FD} {c : Cf} {args : List Val} {h : Heap} {r : R Val} (hG : G f = some d) (hc : Le c (callF G N n)) (hr : runF c N d args h = r) (hb : r ≠ .bad) : callF G N (n + 1) f args h = r := by
  rw [callF_eq hG, runF_le hc (by rw [hr]; exact hb), hr]
/-- deeper -/
theorem callF_le {G : Nat → Option FD} {N : Nat} : ∀ n, Le (callF G N n) (callF G N (n + 1))
  | 0 => fun f a h hn => (hn rfl).elim
  | n + 1 => fun f a h hn => by
    cases hG : G f with
    | none =>
      exfalso
      apply hn
      show (match G f with | none => R.bad | some d => _) = _
      rw [hG]
    | some d =>
      rw [callF_eq hG] at hn ⊢
      rw [callF_eq hG]
      exact runF_le (callF_le n) hn
theorem callF_mono {G : Nat → Option FD} {N n m f : Nat} {a : List Val} {h : Heap} {r : R Val} (hm : n ≤ m) (e : callF G N n f a h = r) (hb : r ≠ .bad) : callF G N m f a h = r := by
  induction hm with
  | refl => exact e
  | step _ ih => rw [callF_le _ f a h (by rw [ih]; exact hb), ih]
end Mi

set_option Elab.async false
set_option linter.all false
set_option autoImplicit false
set_option maxRecDepth 100000
/-! Mi23: the laws' own draws. -/
namespace Mi
open PySem PySem.Spec L2 PyProof.Rows
theorem toDs_ints : ∀ ns : List Int, toDs (ns.map Val.int) = some (ns.map PyData.int)
  | [] => rfl
  | n :: ns => by
    show (match toD (.int n) with | none => none | some d => match toDs (ns.map Val.int) with | none => none | some ds => some (d :: ds)) = _
    rw [toDs_ints ns]
    rfl
theorem shaped_ints (ns : List Int) : SeqAt.shaped (.list (ns.map PyData.int)) = true := by
  have h1 : ∀ l : List Int, PyData.canLayAll0 (l.map PyData.int) = true := fun l => by
    induction l with
    | nil => simp [PyData.canLayAll0]
    | cons a l ih => simp [PyData.canLayAll0, PyData.canLay0, ih]
  have h2 : ∀ l : List Int, PyData.depthAll (l.map PyData.int) ≤ 1 := fun l => by
    induction l with
    | nil => simp [PyData.depthAll]
    | cons a l ih => simp only [List.map_cons, PyData.depthAll, PyData.depth]; omega
  have h3 := h2 ns
  refine Bool.and_eq_true_iff.mpr ⟨by simp only [PyData.canLay0]; exact h1 ns, decide_eq_true ?_⟩
  simp only [PyData.depth]
  omega
theorem atI_nat {α : Type} {xs : List α} {i : Int} {j : Nat} {x : α} (hi : i = j) (h : xs[j]? = some x) : L2.atI xs i = some x := by
  subst hi
  have hl := (List.getElem?_eq_some_iff.mp h).1
  unfold L2.atI L2.ixN
  rw [if_pos (by omega), if_pos (by omega)]
  simpa using h
theorem ixN_nat {n : Nat} {i : Int} {j : Nat} (hi : i = j) (h : j < n) : L2.ixN n i = some j := by
  subst hi
  unfold L2.ixN
  rw [if_pos (by omega), if_pos (by omega)]
  simp
def fdTown : FD := ⟨1, 1, (.cons (.ret (.bin .add (.lst (.cons (.int 0) .nil)) (.p1 .list (.var 0)))) .nil)⟩
def fdDraw : FD := ⟨3, 6, (.cons (.sixr (.var 1) (.int 0) (.bin .add (.idx (.var 1) (.int 0)) (.int 1))) (.cons (.cond (.cmp .eq (.var 0) (.lst .nil)) (.cons (.ret (.bin .mod (.bin .fdiv (.bin .mul (.bin .mul (.idx (.var 1) (.int 0)) (.idx (.var 1) (.int 0))) (.int 7)) (.int 3)) (.var 2))) .nil) .nil) (.cons (.set 3 .fz (.bin .mod (.idx (.var 1) (.int 0)) (.p1 .len (.var 0)))) (.cons (.set 4 .fz (.idx (.var 1) (.bin .add (.int 1) (.var 3)))) (.cons (.cond (.bo true (.cons (.cmp .ge (.idx (.var 0) (.var 3)) (.bin .pow (.int 10) (.int 18))) (.cons (.cmp .gt (.var 4) (.int 0)) .nil))) (.cons (.sixr (.var 1) (.bin .add (.int 1) (.var 3)) (.bin .fdiv (.var 4) (.var 2))) (.cons (.ret (.bin .mod (.var 4) (.var 2))) .nil)) .nil) (.cons (.set 5 .fz (.bin .mod (.bin .add (.idx (.var 0) (.var 3)) (.bin .mul (.int 104729) (.idx (.var 1) (.int 0)))) (.int 4294967291))) (.cons (.set 5 .fz (.bin .mod (.bin .pow (.var 5) (.int 5)) (.int 4294967279))) (.cons (.ret (.bin .mod (.bin .fdiv (.bin .mod (.bin .add (.bin .mul (.bin .fdiv (.var 5) (.int 64)) (.int 69621)) (.var 5)) (.int 4294967231)) (.int 8)) (.var 2))) .nil))))))))⟩
def fdPick : FD := ⟨3, 3, (.cons (.ret (.idx (.var 2) (.call (.fn 7) (.cons (.var 0) (.cons (.var 1) (.cons (.p1 .len (.var 2)) .nil)))))) .nil)⟩
theorem town_ok {c : Cf} {N : Nat} {ns : List Int} {h : Heap} (hn : ns.length ≤ 63) : runF c N fdTown [scrV ns] h = .ok (.lst .own ((0 :: ns).map Val.int)) h := by
  have hf : fits ([Val.int 0].length + (ns.map Val.int).length) = true := by
    have : sizeLine = 16777216 := sizeLine_eq
    simp only [fits, List.length_map, List.length_cons, List.length_nil, decide_eq_true_eq]
    omega
  have hf1 : fits [Val.int 0].length = true := by
    have : sizeLine = 16777216 := sizeLine_eq
    simp only [fits, List.length_cons, List.length_nil, decide_eq_true_eq]
    omega
  show (match exs c N fdTown.body [some (scrV ns)] h with | .ok (.nx _) h => _ | .ok (.rt v) h => _ | .exc c h => _ | .bad => _) = _
  have : exs c N fdTown.body [some (scrV ns)] h = .ok (.rt (.lst .own ((0 :: ns).map Val.int))) h := by
    unfold fdTown
    simp only [exs, ex, ev, evs, R.bind, scrV, p1V, seqOf, fz, R.of, List.getElem?_cons_zero]
    simp only [hf1, if_true, bop]
    simp only [hf]
    rfl
  rw [this]
theorem wide_lt {i j : Int} (hi : i.natAbs < 2 ^ 200) (hj : j.natAbs < 2 ^ 200) : wideMul i j = true := by
  have f : ∀ n : Nat, n < 2 ^ 200 → n.log2 < 200 := fun n h => by
    by_cases e : n = 0
    · subst e; decide
    · exact (Nat.log2_lt e).mpr h
  have := f _ hi
  have := f _ hj
  unfold wideMul
  exact decide_eq_true (by omega)
theorem wdiv_lt {j : Int} (h0 : j ≠ 0) (hj : j.natAbs < 2 ^ 200) : wideDiv j = true := by
  have f : ∀ n : Nat, n < 2 ^ 200 → n.log2 < 200 := fun n h => by
    by_cases e : n = 0
    · subst e; decide
    · exact (Nat.log2_lt e).mpr h
  have := f _ hj
  unfold wideDiv
  rw [decide_eq_true h0, Bool.true_and]
  exact decide_eq_true (by omega)
theorem b_add {i j : Int} {h : Heap} : bop .add (.int i) (.int j) h = some (.int (i + j)) := rfl
theorem b_mul {i j : Int} {h : Heap} (w : wideMul i j = true) : bop .mul (.int i) (.int j) h = some (.int (i * j)) := by simp only [bop, w, if_true]
theorem b_fdiv {i j : Int} {h : Heap} (w : wideDiv j = true) : bop .fdiv (.int i) (.int j) h = some (.int (i.fdiv j)) := by simp only [bop, w, if_true]
theorem b_mod {i j : Int} {h : Heap} (w : j ≠ 0) : bop .mod (.int i) (.int j) h = some (.int (i.fmod j)) := by simp only [bop, decide_eq_true w, if_true]
theorem idx_ref {h : Heap} {a : Nat} {xs : List Val} {i : Int} {j : Nat} {v : Val} (ha : h[a]? = some (.lst xs)) (hi : i = j) (hj : xs[j]? = some v) : idxV (.ref a) (.int i) h = some v := by
  simp only [idxV, seqOf, ha]
  exact atI_nat hi hj
theorem idx_lst {h : Heap} {k : Kd} {xs : List Val} {i : Int} {j : Nat} {v : Val} (hi : i = j) (hj : xs[j]? = some v) : idxV (.lst k xs) (.int i) h = some v := by
  simp only [idxV, seqOf]
  exact atI_nat hi hj
theorem eq_nil {h : Heap} {ns : List Int} {k l : Kd} : cop .eq (.lst k (ns.map Val.int)) (.lst l []) h = some ns.isEmpty := by
  show eqD h _ _ = _
  have e1 : toDh h (.lst k (ns.map Val.int)) = some (.list (ns.map PyData.int)) := by
    show toD (.lst k (ns.map Val.int)) = _
    unfold toD
    rw [toDs_ints]
  have e2 : toDh h (.lst l []) = some (.list []) := rfl
  unfold eqD
  rw [e1, e2]
  simp only [shaped_ints ns, shaped_ints [], List.map_nil, Bool.and_self, if_true]
  have e3 : SeqAt.shaped (.list []) = true := shaped_ints []
  rw [e3]
  cases ns with
  | nil => rfl
  | cons n ns => rfl
theorem fmod_rng {i j : Int} (hj : 0 < j) : 0 ≤ i.fmod j ∧ i.fmod j < j := ⟨Int.fmod_nonneg_of_pos i hj, Int.fmod_lt_of_pos i hj⟩
theorem draw_ok {c : Cf} {N : Nat} {ns us : List Int} {t limit : Int} {a : Nat} {h : Heap} (ha : h[a]? = some (.lst ((t :: us).map Val.int))) (hl : us.length = ns.length) (hn : ns.length ≤ 63) (ht : 0 ≤ t) (ht2 : t < 2 ^ 40) (hm : 0 < limit) (hm2 : limit < 2 ^ 40) :
    ∃ (r : Int) (us' : List Int), runF c N fdDraw [scrV ns, .ref a, .int limit] h = .ok (.int r) (h.set a (.lst (((t + 1) :: us').map Val.int))) ∧ us'.length = us.length ∧ 0 ≤ r ∧ r < limit := by
  have hal : a < h.length := (List.getElem?_eq_some_iff.mp ha).1
  have hs : ∀ X, (h.set a X)[a]? = some X := fun X => List.getElem?_set_self hal
  have hss : ∀ X Y, (h.set a X).set a Y = h.set a Y := fun X Y => List.set_set ..
  let T1 : List Val := ((t + 1) :: us).map Val.int
  let h1 : Heap := h.set a (.lst T1)
  let ρ : Slots := [some (.lst .scr (ns.map Val.int)), some (.ref a), some (.int limit), none, none, none]
  have e1 : ex c N (.sixr (.var 1) (.int 0) (.bin .add (.idx (.var 1) (.int 0)) (.int 1))) ρ h = .ok (.nx ρ) h1 := by
    have i0 : idxV (.ref a) (.int 0) h = some (.int t) := idx_ref (j := 0) ha rfl rfl
    have x0 : ixN (((t :: us).map Val.int)).length 0 = some 0 := ixN_nat (j := 0) rfl (by simp)
    simp only [ex, ev, R.bind, R.of, ρ, List.getElem?_cons_succ, List.getElem?_cons_zero, i0, b_add, fz, ha, x0]
    rfl
  have g1 : h1[a]? = some (.lst T1) := hs _
  have i1 : idxV (.ref a) (.int 0) h1 = some (.int (t + 1)) := idx_ref (j := 0) g1 rfl rfl
  have cmpE : cop .eq (.lst .scr (ns.map Val.int)) (.lst .own []) h1 = some ns.isEmpty := eq_nil
  have fin : ∀ {r : Int} {us' : List Int} {hh : Heap}, exs c N fdDraw.body ρ h = .ok (.rt (.int r)) hh → hh = h.set a (.lst (((t + 1) :: us').map Val.int)) → us'.length = us.length → 0 ≤ r → r < limit →
      ∃ (r : Int) (us' : List Int), runF c N fdDraw [scrV ns, .ref a, .int limit] h = .ok (.int r) (h.set a (.lst (((t + 1) :: us').map Val.int))) ∧ us'.length = us.length ∧ 0 ≤ r ∧ r < limit := fun {r us' hh} hx hh' h1 h2 h3 => by
    refine ⟨r, us', ?_, h1, h2, h3⟩
    show (match exs c N fdDraw.body ρ h with | .ok (.nx _) h => _ | .ok (.rt v) h => _ | .exc c h => _ | .bad => _) = _
    rw [hx, hh']
  have w1 : (t + 1).natAbs < 2 ^ 41 := by omega
  by_cases hE : ns = []
  · have r1 := fmod_rng (i := (((t + 1) * (t + 1)) * 7).fdiv 3) hm
    refine fin (r := ((((t + 1) * (t + 1)) * 7).fdiv 3).fmod limit) (us' := us) (hh := h1) ?_ rfl rfl r1.1 r1.2
    have m1 : bop .mul (.int (t + 1)) (.int (t + 1)) h1 = some (.int ((t + 1) * (t + 1))) := b_mul (wide_lt (by omega) (by omega))
    have q1 : ((t + 1) * (t + 1)).natAbs < 2 ^ 82 := by
      rw [Int.natAbs_mul]
      calc (t + 1).natAbs * (t + 1).natAbs < 2 ^ 41 * 2 ^ 41 := Nat.mul_lt_mul'' w1 w1
        _ = 2 ^ 82 := by decide
    have m2 : bop .mul (.int ((t + 1) * (t + 1))) (.int 7) h1 = some (.int (((t + 1) * (t + 1)) * 7)) := b_mul (wide_lt (Nat.lt_trans q1 (by decide)) (by decide))
    have m3 : bop .fdiv (.int (((t + 1) * (t + 1)) * 7)) (.int 3) h1 = some (.int ((((t + 1) * (t + 1)) * 7).fdiv 3)) := b_fdiv (by decide)
    have m4 : bop .mod (.int ((((t + 1) * (t + 1)) * 7).fdiv 3)) (.int limit) h1 = some (.int (((((t + 1) * (t + 1)) * 7).fdiv 3).fmod limit)) := b_mod (by omega)
    have cE : cop .eq (.lst .scr (ns.map Val.int)) (.lst .own []) h1 = some true := by rw [cmpE, hE]; rfl
    have f0 : fits ([] : List Val).length = true := by decide +kernel
    unfold fdDraw
    simp only [exs, e1, R.bind]
    simp only [ex, exs, ev, evs, R.bind, R.of, ρ, List.getElem?_cons_succ, List.getElem?_cons_zero, f0, if_true, cE, Option.map, truth, i1, m1, m2, m3, m4]
  · have hlen : 0 < ns.length := List.length_pos_iff.mpr hE
    obtain ⟨n, hnn⟩ : ∃ n : Int, n = (ns.length : Int) := ⟨_, rfl⟩
    have r2 := fmod_rng (i := t + 1) (j := n) (by omega)
    obtain ⟨j, hj⟩ : ∃ j : Nat, (t + 1).fmod n = j := ⟨((t + 1).fmod n).toNat, by omega⟩
    have hjl : j < ns.length := by omega
    have hju : j < us.length := by omega
    have lenV : p1V .len (.lst .scr (ns.map Val.int)) h1 = some (.int n) := by
      show (match seqOf h1 (.lst .scr (ns.map Val.int)) with | some xs => some (Val.int xs.length) | none => none) = _
      simp [seqOf, hnn]
    have cE : cop .eq (.lst .scr (ns.map Val.int)) (.lst .own []) h1 = some false := by
      rw [cmpE]
      cases ns with
      | nil => exact (hE rfl).elim
      | cons _ _ => rfl
    have f0 : fits ([] : List Val).length = true := by decide +kernel
    have e2 : ex c N (.cond (.cmp .eq (.var 0) (.lst .nil)) (.cons (.ret (.bin .mod (.bin .fdiv (.bin .mul (.bin .mul (.idx (.var 1) (.int 0)) (.idx (.var 1) (.int 0))) (.int 7)) (.int 3)) (.var 2))) .nil) .nil) ρ h1 = .ok (.nx ρ) h1 := by
      simp only [ex, exs, ev, evs, R.bind, R.of, ρ, List.getElem?_cons_zero, f0, if_true, cE, Option.map, truth]
    let ρ3 : Slots := [some (.lst .scr (ns.map Val.int)), some (.ref a), some (.int limit), some (.int (j : Int)), none, none]
    have e3 : ex c N (.set 3 .fz (.bin .mod (.idx (.var 1) (.int 0)) (.p1 .len (.var 0)))) ρ h1 = .ok (.nx ρ3) h1 := by
      have m1 : bop .mod (.int (t + 1)) (.int n) h1 = some (.int (j : Int)) := by rw [b_mod (by omega), hj]
      simp only [ex, ev, R.bind, R.of, ρ, List.getElem?_cons_succ, List.getElem?_cons_zero, i1, lenV, m1, keep, fz]
      rfl
    let left : Int := us[j]
    let ρ4 : Slots := [some (.lst .scr (ns.map Val.int)), some (.ref a), some (.int limit), some (.int (j : Int)), some (.int left), none]
    have T1j : T1[j + 1]? = some (.int left) := by
      show ((us.map Val.int))[j]? = _
      rw [List.getElem?_map, List.getElem?_eq_getElem hju]
      rfl
    have e4 : ex c N (.set 4 .fz (.idx (.var 1) (.bin .add (.int 1) (.var 3)))) ρ3 h1 = .ok (.nx ρ4) h1 := by
      have i2 : idxV (.ref a) (.int (1 + (j : Int))) h1 = some (.int left) := idx_ref (j := j + 1) g1 (by omega) T1j
      simp only [ex, ev, R.bind, R.of, ρ3, List.getElem?_cons_succ, List.getElem?_cons_zero, b_add, i2, keep, fz]
      rfl
    let x : Int := ns[j]
    have ix : idxV (.lst .scr (ns.map Val.int)) (.int (j : Int)) h1 = some (.int x) := by
      refine idx_lst (j := j) rfl ?_
      rw [List.getElem?_map, List.getElem?_eq_getElem hjl]
      rfl
    have pw : bop .pow (.int 10) (.int 18) h1 = some (.int 1000000000000000000) := by
      show (if (decide ((0 : Int) ≤ 18) && decide ((18 : Int) ≤ 1000000) && decide ((10 : Int).natAbs < 2 ^ 64)) = true then some (Val.int ((10 : Int) ^ (18 : Int).toNat)) else none) = _
      rfl
    by_cases hB : 1000000000000000000 ≤ x ∧ 0 < left
    · have r3 := fmod_rng (i := left) hm
      refine fin (r := left.fmod limit) (us' := us.set j (left.fdiv limit)) (hh := h.set a (.lst (T1.set (j + 1) (.int (left.fdiv limit))))) ?_ ?_ (by simp) r3.1 r3.2
      · have c1 : cop .ge (.int x) (.int 1000000000000000000) h1 = some true := by
          show some (decide ((1000000000000000000 : Int) ≤ x)) = _
          rw [decide_eq_true hB.1]
        have c2 : cop .gt (.int left) (.int 0) h1 = some true := by
          show some (decide ((0 : Int) < left)) = _
          rw [decide_eq_true hB.2]
        have d1 : bop .fdiv (.int left) (.int limit) h1 = some (.int (left.fdiv limit)) := b_fdiv (wdiv_lt (by omega) (by omega))
        have x1 : ixN T1.length (1 + (j : Int)) = some (j + 1) := ixN_nat (by omega) (by simp [T1]; omega)
        have m4 : ∀ hh : Heap, bop .mod (.int left) (.int limit) hh = some (.int (left.fmod limit)) := fun hh => b_mod (by omega)
        unfold fdDraw
        simp only [exs, e1, R.bind, e2, e3, e4]
        simp only [ex, exs, ev, evBo, R.bind, R.of, ρ4, List.getElem?_cons_succ, List.getElem?_cons_zero, ix, pw, c1, c2, Option.map, truth, beq_self_eq_true, if_true, d1, fz, b_add, g1, x1, m4]
        show R.ok _ (h1.set a _) = _
        rw [hss]
      · show _ = h.set a (.lst (((t + 1) :: us.set j (left.fdiv limit)).map Val.int))
        congr 2
        show (((t + 1) :: us).map Val.int).set (j + 1) (.int (left.fdiv limit)) = _
        simp [List.map_set]
    · have e5 : ex c N (.cond (.bo true (.cons (.cmp .ge (.idx (.var 0) (.var 3)) (.bin .pow (.int 10) (.int 18))) (.cons (.cmp .gt (.var 4) (.int 0)) .nil))) (.cons (.sixr (.var 1) (.bin .add (.int 1) (.var 3)) (.bin .fdiv (.var 4) (.var 2))) (.cons (.ret (.bin .mod (.var 4) (.var 2))) .nil)) .nil) ρ4 h1 = .ok (.nx ρ4) h1 := by
        have c1 : cop .ge (.int x) (.int 1000000000000000000) h1 = some (decide ((1000000000000000000 : Int) ≤ x)) := rfl
        have c2 : cop .gt (.int left) (.int 0) h1 = some (decide ((0 : Int) < left)) := rfl
        by_cases hx : (1000000000000000000 : Int) ≤ x
        · have hlf : ¬ (0 : Int) < left := fun z => hB ⟨hx, z⟩
          rw [decide_eq_true hx] at c1
          rw [decide_eq_false hlf] at c2
          simp only [ex, exs, ev, evBo, R.bind, R.of, ρ4, List.getElem?_cons_succ, List.getElem?_cons_zero, ix, pw, c1, c2, Option.map, truth, beq_self_eq_true, if_true]
        · rw [decide_eq_false hx] at c1
          simp only [ex, exs, ev, evBo, R.bind, R.of, ρ4, List.getElem?_cons_succ, List.getElem?_cons_zero, ix, pw, c1, Option.map, truth]
          rfl
      have m6 : bop .mul (.int 104729) (.int (t + 1)) h1 = some (.int (104729 * (t + 1))) := b_mul (wide_lt (by decide) (by omega))
      have r6 := fmod_rng (i := x + 104729 * (t + 1)) (j := 4294967291) (by decide)
      obtain ⟨y, hy⟩ : ∃ y : Int, y = (x + 104729 * (t + 1)).fmod 4294967291 := ⟨_, rfl⟩
      rw [← hy] at r6
      let ρ5 : Slots := [some (.lst .scr (ns.map Val.int)), some (.ref a), some (.int limit), some (.int (j : Int)), some (.int left), some (.int y)]
      have e6 : ex c N (.set 5 .fz (.bin .mod (.bin .add (.idx (.var 0) (.var 3)) (.bin .mul (.int 104729) (.idx (.var 1) (.int 0)))) (.int 4294967291))) ρ4 h1 = .ok (.nx ρ5) h1 := by
        have m7 : bop .mod (.int (x + 104729 * (t + 1))) (.int 4294967291) h1 = some (.int y) := by rw [b_mod (by decide), hy]
        simp only [ex, ev, R.bind, R.of, ρ4, List.getElem?_cons_succ, List.getElem?_cons_zero, ix, i1, m6, b_add, m7, keep, fz]
        rfl
      have r7 := fmod_rng (i := y ^ 5) (j := 4294967279) (by decide)
      obtain ⟨z, hz⟩ : ∃ z : Int, z = (y ^ 5).fmod 4294967279 := ⟨_, rfl⟩
      rw [← hz] at r7
      let ρ6 : Slots := [some (.lst .scr (ns.map Val.int)), some (.ref a), some (.int limit), some (.int (j : Int)), some (.int left), some (.int z)]
      have e7 : ex c N (.set 5 .fz (.bin .mod (.bin .pow (.var 5) (.int 5)) (.int 4294967279))) ρ5 h1 = .ok (.nx ρ6) h1 := by
        have p5 : bop .pow (.int y) (.int 5) h1 = some (.int (y ^ 5)) := by
          have hy64 : y.natAbs < 2 ^ 64 := by omega
          show (if (decide ((0 : Int) ≤ 5) && decide ((5 : Int) ≤ 1000000) && decide (y.natAbs < 2 ^ 64)) = true then some (Val.int (y ^ (5 : Int).toNat)) else none) = _
          rw [decide_eq_true hy64]
          rfl
        have m8 : bop .mod (.int (y ^ 5)) (.int 4294967279) h1 = some (.int z) := by rw [b_mod (by decide), hz]
        simp only [ex, ev, R.bind, R.of, ρ5, List.getElem?_cons_succ, List.getElem?_cons_zero, p5, m8, keep, fz]
        rfl
      have r9 := fmod_rng (i := ((z.fdiv 64 * 69621 + z).fmod 4294967231).fdiv 8) hm
      refine fin (r := (((z.fdiv 64 * 69621 + z).fmod 4294967231).fdiv 8).fmod limit) (us' := us) (hh := h1) ?_ rfl rfl r9.1 r9.2
      have d1 : bop .fdiv (.int z) (.int 64) h1 = some (.int (z.fdiv 64)) := b_fdiv (by decide)
      have zb : (z.fdiv 64).natAbs < 2 ^ 64 := by
        have e : z.fdiv 64 = z / 64 := Int.fdiv_eq_ediv_of_nonneg z (by decide)
        rw [e]
        omega
      have m9 : bop .mul (.int (z.fdiv 64)) (.int 69621) h1 = some (.int (z.fdiv 64 * 69621)) := b_mul (wide_lt (Nat.lt_trans zb (by decide)) (by decide))
      have m10 : bop .mod (.int (z.fdiv 64 * 69621 + z)) (.int 4294967231) h1 = some (.int ((z.fdiv 64 * 69621 + z).fmod 4294967231)) := b_mod (by decide)
      have d2 : bop .fdiv (.int ((z.fdiv 64 * 69621 + z).fmod 4294967231)) (.int 8) h1 = some (.int (((z.fdiv 64 * 69621 + z).fmod 4294967231).fdiv 8)) := b_fdiv (by decide)
      have m11 : bop .mod (.int (((z.fdiv 64 * 69621 + z).fmod 4294967231).fdiv 8)) (.int limit) h1 = some (.int ((((z.fdiv 64 * 69621 + z).fmod 4294967231).fdiv 8).fmod limit)) := b_mod (by omega)
      unfold fdDraw
      simp only [exs, e1, R.bind, e2, e3, e4, e5, e6, e7]
      simp only [ex, ev, R.bind, R.of, ρ6, List.getElem?_cons_succ, List.getElem?_cons_zero, d1, m9, b_add, m10, d2, m11]
end Mi

set_option Elab.async false
set_option linter.all false
set_option autoImplicit false
/-! Mi24: calls by a table. -/
namespace Mi
/-- calls of which the table tells the answer: a def, its arguments, the answer (the heap stays) -/
def tabC (tb : List (Nat × List Val × Val)) : Cf := fun f a h => match tb.find? (fun q => q.1 == f && Val.beqs q.2.1 a) with
  | some q => .ok q.2.2 h
  | none => .bad
theorem tab_le {tb : List (Nat × List Val × Val)} {c : Cf} (H : ∀ q ∈ tb, ∀ h, c q.1 q.2.1 h = .ok q.2.2 h) : Le (tabC tb) c := by
  intro f a h hn
  unfold tabC at hn ⊢
  cases e : tb.find? (fun q => q.1 == f && Val.beqs q.2.1 a) with
  | none => rw [e] at hn; exact (hn rfl).elim
  | some q =>
    have h1 := List.find?_some e
    have h2 := List.mem_of_find?_eq_some e
    simp only [Bool.and_eq_true, beq_iff_eq] at h1
    have ha : q.2.1 = a := Val.beqs_eq _ _ h1.2
    rw [← h1.1, ← ha]
    exact H q h2 h
theorem tab_all {c : Cf} {tb : List (Nat × List Val × Val)} : (∀ q ∈ tb, ∀ h, c q.1 q.2.1 h = .ok q.2.2 h) → ∀ {q : Nat × List Val × Val}, (∀ h, c q.1 q.2.1 h = .ok q.2.2 h) → ∀ p ∈ q :: tb, ∀ h, c p.1 p.2.1 h = .ok p.2.2 h :=
  fun H q hq p hp => by
    rcases List.mem_cons.mp hp with rfl | hp
    · exact hq
    · exact H p hp
theorem tab_none {c : Cf} : ∀ q ∈ ([] : List (Nat × List Val × Val)), ∀ h, c q.1 q.2.1 h = .ok q.2.2 h := fun _ h => by cases h
end Mi

set_option Elab.async false
set_option linter.all false
set_option autoImplicit false
set_option maxRecDepth 100000
/-! Mi25: fractions. -/
namespace Mi
open PySem PySem.Spec L2 PyProof.Rows
def fdDivisor : FD := ⟨2, 2, (.cons (.par2 0 .fz 1 .fz (.p1 .abs (.var 0)) (.p1 .abs (.var 1))) (.cons (.whil (.cmp .ne (.var 1) (.int 0)) (.cons (.par2 0 .fz 1 .fz (.var 1) (.bin .mod (.var 0) (.var 1))) .nil)) (.cons (.ret (.var 0)) .nil)))⟩
theorem beq_dec (i j : Int) : (i == j) = decide (i = j) := by
  by_cases h : i = j
  · subst h; simp
  · rw [decide_eq_false h]; simp [h]
theorem ne_int {i j : Int} {h : Heap} : cop .ne (.int i) (.int j) h = some (decide (i ≠ j)) := by
  show (eqD h (.int i) (.int j)).map (!·) = _
  have e : eqD h (.int i) (.int j) = some (decide (i = j)) := by
    show (if (SeqAt.shaped (.int i) && SeqAt.shaped (.int j)) = true then some (PyData.eqv (.int i) (.int j)) else none) = _
    have q : ∀ k : Int, SeqAt.shaped (.int k) = true := fun k => by simp [SeqAt.shaped, PyData.canLay0, PyData.depth]
    rw [q, q]
    simp [PyData.eqv]
    exact beq_dec i j
  rw [e]
  simp
theorem eq_int {i j : Int} {h : Heap} : cop .eq (.int i) (.int j) h = some (decide (i = j)) := by
  show eqD h (.int i) (.int j) = _
  show (if (SeqAt.shaped (.int i) && SeqAt.shaped (.int j)) = true then some (PyData.eqv (.int i) (.int j)) else none) = _
  have q : ∀ k : Int, SeqAt.shaped (.int k) = true := fun k => by simp [SeqAt.shaped, PyData.canLay0, PyData.depth]
  rw [q, q]
  simp [PyData.eqv]
  exact beq_dec i j
theorem divisor_while {c : Cf} {N : Nat} {h : Heap} : ∀ (M a b : Nat), b < M → whileL (fun ρ h => (ev c (.cmp .ne (.var 1) (.int 0)) ρ h).bind fun x h => .of (truth h x) h) (exs c N (.cons (.par2 0 .fz 1 .fz (.var 1) (.bin .mod (.var 0) (.var 1))) .nil)) M [some (.int a), some (.int b)] h =
    .ok (.nx [some (.int (Nat.gcd a b)), some (.int 0)]) h
  | 0, a, b, hb => by omega
  | M + 1, a, b, hb => by
    unfold whileL
    have t : (ev c (.cmp .ne (.var 1) (.int 0)) [some (.int (a : Int)), some (.int (b : Int))] h).bind (fun x h => .of (truth h x) h) = .ok (decide ((b : Int) ≠ 0)) h := by
      simp only [ev, R.bind, R.of, List.getElem?_cons_succ, List.getElem?_cons_zero, ne_int, Option.map, truth]
    simp only [t]
    by_cases e : b = 0
    · subst e
      simp
    · have hd : decide ((b : Int) ≠ 0) = true := decide_eq_true (by omega)
      rw [hd]
      have bd : exs c N (.cons (.par2 0 .fz 1 .fz (.var 1) (.bin .mod (.var 0) (.var 1))) .nil) [some (.int (a : Int)), some (.int (b : Int))] h = .ok (.nx [some (.int (b : Int)), some (.int ((a % b : Nat) : Int))]) h := by
        have m : bop .mod (.int (a : Int)) (.int (b : Int)) h = some (.int ((a % b : Nat) : Int)) := by
          rw [b_mod (by omega), Int.fmod_eq_emod_of_nonneg _ (by omega)]
          rfl
        simp only [exs, ex, ev, R.bind, R.of, List.getElem?_cons_succ, List.getElem?_cons_zero, m, keep, fz]
        rfl
      simp only [bd]
      have hlt : a % b < M := Nat.lt_of_lt_of_le (Nat.mod_lt _ (by omega)) (by omega)
      rw [divisor_while M b (a % b) hlt]
      have : Nat.gcd b (a % b) = Nat.gcd a b := by rw [Nat.gcd_comm a b, Nat.gcd_rec b a, Nat.gcd_comm]
      rw [this]
theorem divisor_ok {c : Cf} {N : Nat} {h : Heap} {a b : Int} (hN : b.natAbs < N) : runF c N fdDivisor [.int a, .int b] h = .ok (.int (Int.gcd a b)) h := by
  have ab : ∀ i : Int, p1V .abs (.int i) h = some (.int (i.natAbs : Int)) := fun i => by
    show some (Val.int (if i < 0 then -i else i)) = _
    congr 2
    split <;> omega
  have e : exs c N fdDivisor.body [some (.int a), some (.int b)] h = .ok (.rt (.int (Int.gcd a b))) h := by
    unfold fdDivisor
    have e1 : ex c N (.par2 0 .fz 1 .fz (.p1 .abs (.var 0)) (.p1 .abs (.var 1))) [some (.int a), some (.int b)] h = .ok (.nx [some (.int (a.natAbs : Int)), some (.int (b.natAbs : Int))]) h := by
      simp only [ex, ev, R.bind, R.of, List.getElem?_cons_succ, List.getElem?_cons_zero, ab, keep, fz]
      rfl
    have e2 : ex c N (.whil (.cmp .ne (.var 1) (.int 0)) (.cons (.par2 0 .fz 1 .fz (.var 1) (.bin .mod (.var 0) (.var 1))) .nil)) [some (.int (a.natAbs : Int)), some (.int (b.natAbs : Int))] h = .ok (.nx [some (.int (Nat.gcd a.natAbs b.natAbs : Int)), some (.int 0)]) h := by
      unfold ex
      exact divisor_while N _ _ hN
    simp only [exs, e1, e2, R.bind]
    simp only [ex, ev, R.bind, List.getElem?_cons_zero]
    rfl
  show (match exs c N fdDivisor.body [some (.int a), some (.int b)] h with | .ok (.nx _) h => _ | .ok (.rt v) h => _ | .exc c h => _ | .bad => _) = _
  rw [e]
end Mi

set_option Elab.async false
set_option linter.all false
set_option autoImplicit false
set_option maxRecDepth 100000
/-! Mi26: comprehensions over plain lists; tables. -/
namespace Mi
open PySem PySem.Spec L2 PyProof.Rows
theorem compL_filter {α : Type} {bd : Val → Option Slots} {tt : Slots → Heap → R Bool} {el : Slots → Heap → R Val} {h : Heap} {f w : α → Val} {p : α → Bool} : ∀ xs : List α,
    (∀ x ∈ xs, ∃ ρ, bd (f x) = some ρ ∧ tt ρ h = .ok (p x) h ∧ (p x = true → ∃ v, el ρ h = .ok v h ∧ fz v = some (w x))) → compL bd tt el (xs.map f) h = .ok ((xs.filter p).map w) h
  | [], _ => rfl
  | x :: xs, H => by
    obtain ⟨ρ, h1, h2, h3⟩ := H x List.mem_cons_self
    have ih := compL_filter xs fun y hy => H y (List.mem_cons_of_mem _ hy)
    rw [List.map_cons]
    unfold compL
    rw [h1]
    simp only [h2, R.bind]
    cases hp : p x with
    | false =>
      rw [List.filter_cons_of_neg (by rw [hp]; decide)]
      simp only [Bool.false_eq_true, if_false]
      exact ih
    | true =>
      obtain ⟨v, h4, h5⟩ := h3 hp
      rw [List.filter_cons_of_pos hp]
      simp only [if_true, h4, h5, ih, List.map_cons]
theorem ev_compF {α : Type} {c : Cf} {t : Tg} {it : It} {cc : Oe} {e : E} {ρ : Slots} {h : Heap} {xs : List α} {f w : α → Val} {p : α → Bool} (hi : evIt c false it ρ h = .ok (xs.map f) h)
    (H : ∀ x ∈ xs, ∃ ρ', bindT t (f x) (wipe ρ t.slots) = some ρ' ∧ evT c cc ρ' h = .ok (p x) h ∧ (p x = true → ∃ v, ev c e ρ' h = .ok v h ∧ fz v = some (w x))) (hs : xs.length ≤ sizeLine) :
    ev c (.comp t it cc e) ρ h = .ok (.lst .own ((xs.filter p).map w)) h := by
  unfold ev
  rw [hi]
  have k := compL_filter (bd := fun x => bindT t x (wipe ρ t.slots)) (tt := evT c cc) (el := ev c e) xs H
  have hf : fits ((xs.filter p).map w).length = true := by
    have := List.length_filter_le p xs
    simp only [fits, List.length_map]
    exact decide_eq_true (by omega)
  simp only [R.bind, k, noexc, hf, if_true]
theorem ev_comp {α : Type} {c : Cf} {t : Tg} {it : It} {e : E} {ρ : Slots} {h : Heap} {xs : List α} {f w : α → Val} (hi : evIt c false it ρ h = .ok (xs.map f) h)
    (H : ∀ x ∈ xs, ∃ ρ' v, bindT t (f x) (wipe ρ t.slots) = some ρ' ∧ ev c e ρ' h = .ok v h ∧ fz v = some (w x)) (hs : xs.length ≤ sizeLine) :
    ev c (.comp t it .no e) ρ h = .ok (.lst .own (xs.map w)) h := by
  have := ev_compF (c := c) (t := t) (cc := .no) (e := e) (w := w) (p := fun _ => true) hi (fun x hx => by
    obtain ⟨ρ', v, h1, h2, h3⟩ := H x hx
    exact ⟨ρ', h1, by unfold evT; rfl, fun _ => ⟨v, h2, h3⟩⟩) hs
  rw [this, List.filter_eq_self.mpr (fun _ _ => rfl)]
theorem rng_map (lo : Int) : ∀ n : Nat, rng lo n = (List.range n).map fun i => Val.int (lo + (i : Nat))
  | 0 => rfl
  | n + 1 => by
    rw [List.range_succ_eq_map, List.map_cons, List.map_map]
    show Val.int lo :: rng (lo + 1) n = _
    rw [rng_map (lo + 1) n]
    congr 1
    · simp
    · apply List.map_congr_left
      intro i _
      simp only [Function.comp]
      congr 1
      push_cast
      omega
theorem small_nat {n : Nat} (hn : n < 1000000) : smallR (n : Int) = true := by
  unfold smallR
  have a : -4611686018427387904 ≤ (n : Int) := by omega
  have b : (n : Int) < 4611686018427387904 := by omega
  rw [decide_eq_true a, decide_eq_true b]
  rfl
theorem rng0_map (n : Nat) : rng 0 n = (List.range n).map fun (i : Nat) => Val.int (i : Int) := by
  rw [rng_map]
  apply List.map_congr_left
  intro i _
  rw [Int.zero_add]
def rngR (j : Int) (h : Heap) : R (List Val) := if smallR j = true then .ok (rng 0 j.toNat) h else .bad
theorem rngR_nat {n : Nat} (hn : n < 1000000) (h : Heap) : rngR (n : Int) h = .ok ((List.range n).map fun (i : Nat) => Val.int (i : Int)) h := by
  unfold rngR
  rw [if_pos (small_nat hn), Int.toNat_natCast, rng0_map]
theorem it_rng0 {c : Cf} {b : Bool} {e : E} {ρ : Slots} {h : Heap} {j : Int} (he : ev c e ρ h = .ok (.int j) h) : evIt c b (.rng1 e) ρ h = rngR j h := by
  unfold evIt
  rw [he]
  rfl
theorem it_rng {c : Cf} {b : Bool} {e : E} {ρ : Slots} {h : Heap} {n : Nat} (he : ev c e ρ h = .ok (.int (n : Int)) h) (hn : n < 1000000) : evIt c b (.rng1 e) ρ h = .ok ((List.range n).map fun (i : Nat) => Val.int (i : Int)) h := (it_rng0 he).trans (rngR_nat hn h)
theorem sum_ints {k : Kd} {ns : List Int} {h : Heap} : p1V .sum (.lst k (ns.map Val.int)) h = some (.int ns.sum) := by
  have e : ∀ l : List Int, intsOf (l.map Val.int) = some l := fun l => by
    induction l with
    | nil => rfl
    | cons a l ih =>
      show (match intsOf (l.map Val.int) with | some is => some (a :: is) | none => none) = _
      rw [ih]
  show (intsOf (ns.map Val.int)).map (fun is => Val.int is.sum) = _
  rw [e]
  rfl
end Mi

set_option Elab.async false
set_option linter.all false
set_option autoImplicit false
set_option maxRecDepth 100000
/-! Mr0: rules of the evaluator, to be applied backwards. -/
namespace Mi
open PySem PySem.Spec L2 PyProof.Rows
/-- a slot's value as it is read -/
def rd : Val → Option Val
  | .lst .own xs => some (.lst .brw xs)
  | .lst .brw _ => none
  | v => some v
/-- a value as it is returned -/
def un : Val → Val
  | .lst .brw xs => .lst .own xs
  | v => v
def Ss.app : Ss → Ss → Ss
  | .nil, t => t
  | .cons s ss, t => .cons s (ss.app t)
theorem get_zero {α : Type} {x : α} {l : List α} : (x :: l)[0]? = some x := rfl
theorem get_succ {α : Type} {x : α} {l : List α} {n : Nat} {r : Option α} (h : l[n]? = r) : (x :: l)[n + 1]? = r := h
theorem set_zero {α : Type} {x y : α} {l : List α} : (x :: l).set 0 y = y :: l := rfl
theorem set_succ {α : Type} {x y : α} {l m : List α} {n : Nat} (h : l.set n y = m) : (x :: l).set (n + 1) y = x :: m := by rw [List.set_cons_succ, h]
theorem wipe_nm {ρ ρ1 : Slots} {i : Nat} (h : ρ.set i none = ρ1) : wipe ρ (Tg.nm i).slots = ρ1 := h
theorem wipe_app {ρ : Slots} : ∀ a b : List Nat, wipe ρ (a ++ b) = wipe (wipe ρ b) a
  | [], b => rfl
  | x :: a, b => by
    show (wipe ρ (a ++ b)).set x none = _
    rw [wipe_app a b]
    rfl
theorem wipe_tp2 {ρ ρ1 ρ2 : Slots} {a b : Tg} (h1 : wipe ρ b.slots = ρ1) (h2 : wipe ρ1 a.slots = ρ2) : wipe ρ (Tg.tp2 a b).slots = ρ2 := by
  show wipe ρ (a.slots ++ b.slots) = _
  rw [wipe_app, h1, h2]
theorem bT_nm {ρ ρ1 : Slots} {i : Nat} {v : Val} (h : ρ.set i (some v) = ρ1) : bindT (.nm i) v ρ = some ρ1 := by
  subst h
  unfold bindT
  rfl
theorem bT_tp2 {ρ ρ1 ρ2 : Slots} {a b : Tg} {x y : Val} (h1 : bindT a x ρ = some ρ1) (h2 : bindT b y ρ1 = some ρ2) : bindT (.tp2 a b) (.tup [x, y]) ρ = some ρ2 := by
  unfold bindT
  rw [h1]
  exact h2
theorem bT_tp3 {ρ ρ1 ρ2 ρ3 : Slots} {a b d : Tg} {x y z : Val} (h1 : bindT a x ρ = some ρ1) (h2 : bindT b y ρ1 = some ρ2) (h3 : bindT d z ρ2 = some ρ3) : bindT (.tp3 a b d) (.tup [x, y, z]) ρ = some ρ3 := by
  unfold bindT
  rw [h1]
  show (bindT b y ρ1).bind (fun ρ => bindT d z ρ) = _
  rw [h2]
  exact h3
theorem bind_ok {α β : Type} {a : α} {h : Heap} {k : α → Heap → R β} : R.bind (.ok a h) k = k a h := rfl
theorem fits_of {n : Nat} (h : n ≤ 1000000) : fits n = true := by
  have sz : sizeLine = 16777216 := sizeLine_eq
  unfold fits
  exact decide_eq_true (by omega)
section
variable {c : Cf} {ρ : Slots} {h h1 h2 h3 h4 : Heap} {N : Nat}
theorem ev_int {i : Int} : ev c (.int i) ρ h = .ok (.int i) h := by unfold ev; rfl
theorem ev_bl {i : Bool} : ev c (.bl i) ρ h = .ok (.bl i) h := by unfold ev; rfl
theorem ev_non : ev c .non ρ h = .ok .non h := by unfold ev; rfl
theorem ev_str {x : Str} : ev c (.str x) ρ h = .ok (.str x) h := by unfold ev; rfl
theorem ev_fn {i : Nat} : ev c (.fn i) ρ h = .ok (.fn i) h := by unfold ev; rfl
theorem ev_cls {i : Nat} : ev c (.cls i) ρ h = .ok (.cls i) h := by unfold ev; rfl
theorem ev_ty {t : String} : ev c (.ty t) ρ h = .ok (.ty t) h := by unfold ev; rfl
theorem ev_var {i : Nat} {v w : Val} (hr : ρ[i]? = some (some v)) (hv : rd v = some w) : ev c (.var i) ρ h = .ok w h := by
  unfold ev
  rw [hr]
  cases v with
  | lst k xs => cases k <;> first | cases hv; rfl | cases hv
  | _ => cases hv; rfl
theorem ev_bin {o : Bop} {a b : E} {x y v : Val} (ha : ev c a ρ h = .ok x h1) (hb : ev c b ρ h1 = .ok y h2) (ho : bop o x y h2 = some v) : ev c (.bin o a b) ρ h = .ok v h2 := by
  unfold ev
  simp only [ha, hb, ho, R.bind, R.of]
theorem ev_neg {a : E} {i : Int} (ha : ev c a ρ h = .ok (.int i) h1) : ev c (.neg a) ρ h = .ok (.int (-i)) h1 := by
  unfold ev
  simp only [ha, R.bind]
theorem ev_cmp {o : Cop} {a b : E} {x y : Val} {t : Bool} (ha : ev c a ρ h = .ok x h1) (hb : ev c b ρ h1 = .ok y h2) (ho : cop o x y h2 = some t) : ev c (.cmp o a b) ρ h = .ok (.bl t) h2 := by
  unfold ev
  simp only [ha, hb, ho, R.bind, R.of, Option.map]
theorem ev_chn {o p : Cop} {a b d : E} {x y z : Val} {t u : Bool} (ha : ev c a ρ h = .ok x h1) (hb : ev c b ρ h1 = .ok y h2) (ho : cop o x y h2 = some t) (hd : ev c d ρ h2 = .ok z h2) (hp : cop p y z h2 = some u) : ev c (.chn o p a b d) ρ h = .ok (.bl (t && u)) h2 := by
  unfold ev
  simp only [ha, hb, ho, R.bind, R.of]
  cases t
  · rfl
  · simp only [hd, hp, R.bind, Option.map, Bool.true_and]
theorem ev_not {a : E} {x : Val} {t : Bool} (ha : ev c a ρ h = .ok x h1) (ht : truth h1 x = some t) : ev c (.not a) ρ h = .ok (.bl (!t)) h1 := by
  unfold ev
  simp only [ha, R.bind, ht, R.of, Option.map]
theorem ev_bo {k : Bool} {es : Es} {v : Val} (hb : evBo c k es ρ h = .ok v h1) : ev c (.bo k es) ρ h = .ok v h1 := by
  unfold ev
  exact hb
theorem bo_one {k : Bool} {e : E} {v : Val} (ha : ev c e ρ h = .ok v h1) : evBo c k (.cons e .nil) ρ h = .ok v h1 := by
  unfold evBo
  simp only [ha, R.bind]
theorem bo_and {e e2 : E} {es : Es} {t u : Bool} (ha : ev c e ρ h = .ok (.bl t) h1) (hr : t = true → evBo c true (.cons e2 es) ρ h1 = .ok (.bl u) h1) : evBo c true (.cons e (.cons e2 es)) ρ h = .ok (.bl (t && u)) h1 := by
  unfold evBo
  simp only [ha, R.bind, truth]
  cases t
  · rfl
  · exact hr rfl
theorem bo_or {e e2 : E} {es : Es} {t u : Bool} (ha : ev c e ρ h = .ok (.bl t) h1) (hr : t = false → evBo c false (.cons e2 es) ρ h1 = .ok (.bl u) h1) : evBo c false (.cons e (.cons e2 es)) ρ h = .ok (.bl (t || u)) h1 := by
  unfold evBo
  simp only [ha, R.bind, truth]
  cases t
  · exact hr rfl
  · rfl
theorem ev_ite {e a b : E} {x v1 v2 : Val} {t : Bool} (he : ev c e ρ h = .ok x h1) (ht : truth h1 x = some t) (ha : t = true → ev c a ρ h1 = .ok v1 h1) (hb : t = false → ev c b ρ h1 = .ok v2 h1) : ev c (.ite e a b) ρ h = .ok (if t then v1 else v2) h1 := by
  unfold ev
  simp only [he, R.bind, ht]
  cases t
  · exact hb rfl
  · exact ha rfl
theorem ev_iteI {e a b : E} {x : Val} {i j : Int} {t : Bool} (he : ev c e ρ h = .ok x h1) (ht : truth h1 x = some t) (ha : t = true → ev c a ρ h1 = .ok (.int i) h1) (hb : t = false → ev c b ρ h1 = .ok (.int j) h1) : ev c (.ite e a b) ρ h = .ok (.int (if t then i else j)) h1 := by
  rw [ev_ite he ht ha hb]
  cases t <;> rfl
theorem ev_iteT {e a b : E} {x v : Val} {t : Bool} (he : ev c e ρ h = .ok x h1) (ht : truth h1 x = some t) (htt : t = true) (ha : ev c a ρ h1 = .ok v h2) : ev c (.ite e a b) ρ h = .ok v h2 := by
  subst htt
  unfold ev
  simp only [he, R.bind, ht]
  exact ha
theorem ev_iteF {e a b : E} {x v : Val} {t : Bool} (he : ev c e ρ h = .ok x h1) (ht : truth h1 x = some t) (htt : t = false) (hb : ev c b ρ h1 = .ok v h2) : ev c (.ite e a b) ρ h = .ok v h2 := by
  subst htt
  unfold ev
  simp only [he, R.bind, ht]
  exact hb
theorem ev_tup {es : Es} {xs : List Val} (he : evs c es ρ h = .ok xs h1) (hf : fits xs.length = true) : ev c (.tup es) ρ h = .ok (.tup xs) h1 := by
  unfold ev
  simp only [he, R.bind, hf, if_true]
theorem ev_lst {es : Es} {xs : List Val} (he : evs c es ρ h = .ok xs h1) (hf : fits xs.length = true) : ev c (.lst es) ρ h = .ok (.lst .own xs) h1 := by
  unfold ev
  simp only [he, R.bind, hf, if_true]
theorem evs_nil : evs c .nil ρ h = .ok [] h := by unfold evs; rfl
theorem evs_cons {e : E} {es : Es} {x y : Val} {ys : List Val} (he : ev c e ρ h = .ok x h1) (hf : fz x = some y) (hr : evs c es ρ h1 = .ok ys h2) : evs c (.cons e es) ρ h = .ok (y :: ys) h2 := by
  unfold evs
  simp only [he, R.bind, hf, hr]
theorem ev_idx {a i : E} {x y v : Val} (ha : ev c a ρ h = .ok x h1) (hi : ev c i ρ h1 = .ok y h2) (ho : idxV x y h2 = some v) : ev c (.idx a i) ρ h = .ok v h2 := by
  unfold ev
  simp only [ha, hi, ho, R.bind, R.of]
theorem evo_no : evo c .no ρ h = .ok none h := by unfold evo; rfl
theorem evo_so {e : E} {i : Int} (he : ev c e ρ h = .ok (.int i) h1) : evo c (.so e) ρ h = .ok (some i) h1 := by
  unfold evo
  simp only [he, R.bind]
theorem ev_slc {a : E} {lo hi : Oe} {x v : Val} {l u : Option Int} (ha : ev c a ρ h = .ok x h1) (hl : evo c lo ρ h1 = .ok l h2) (hu : evo c hi ρ h2 = .ok u h3) (ho : slcV x l u h3 = some v) : ev c (.slc a lo hi) ρ h = .ok v h3 := by
  unfold ev
  simp only [ha, hl, hu, ho, R.bind, R.of]
theorem ev_call {f : E} {es : Es} {k : Nat} {vs : List Val} {v : Val} (hf : ev c f ρ h = .ok (.fn k) h1) (he : evs c es ρ h1 = .ok vs h2) (hc : c k vs h2 = .ok v h3) : ev c (.call f es) ρ h = .ok v h3 := by
  unfold ev
  simp only [hf, he, hc, R.bind]
theorem ev_callX {f : E} {es : Es} {k d : Nat} {vs : List Val} (hf : ev c f ρ h = .ok (.fn k) h1) (he : evs c es ρ h1 = .ok vs h2) (hc : c k vs h2 = .exc d h3) : ev c (.call f es) ρ h = .exc d h3 := by
  unfold ev
  simp only [hf, he, hc, R.bind]
theorem ev_p1 {p : P1} {a : E} {x v : Val} (ha : ev c a ρ h = .ok x h1) (ho : p1V p x h1 = some v) : ev c (.p1 p a) ρ h = .ok v h1 := by
  unfold ev
  simp only [ha, ho, R.bind, R.of]
theorem ev_p2 {p : P2} {a b : E} {x y v : Val} (ha : ev c a ρ h = .ok x h1) (hb : ev c b ρ h1 = .ok y h2) (ho : p2V p x y = some v) : ev c (.p2 p a b) ρ h = .ok v h2 := by
  unfold ev
  simp only [ha, hb, ho, R.bind, R.of]
theorem ev_m1 {m : M1} {a b : E} {x y v : Val} (ha : ev c a ρ h = .ok x h1) (hm : m1T m x = true) (hb : ev c b ρ h1 = .ok y h2) (ho : m1V m x y = some v) : ev c (.m1 m a b) ρ h = .ok v h2 := by
  unfold ev
  simp only [ha, hb, ho, hm, if_true, R.bind, R.of]
theorem ev_conv {e : E} {v w : Val} (he : ev c e ρ h = .ok v h1) (hv : v = w) : ev c e ρ h = .ok w h1 := hv ▸ he
/-! what is walked -/
theorem it_seq {b : Bool} {e : E} {x : Val} {xs : List Val} (he : ev c e ρ h = .ok x h1) (hb : (isBrw x && b) = false) (hi : itemsOf x = some xs) : evIt c b (.seq e) ρ h = .ok xs h1 := by
  unfold evIt
  simp only [he, R.bind, hb, hi, R.of]
  rfl
theorem it_rng1 {b : Bool} {e : E} {n : Nat} (he : ev c e ρ h = .ok (.int (n : Int)) h1) (hn : n < 1000000) : evIt c b (.rng1 e) ρ h = .ok ((List.range n).map fun (i : Nat) => Val.int (i : Int)) h1 := by
  have e0 : ∀ j : Int, ev c e ρ h = .ok (.int j) h1 → evIt c b (.rng1 e) ρ h = rngR j h1 := fun j he => by
    unfold evIt
    rw [he]
    rfl
  exact (e0 n he).trans (rngR_nat hn h1)
theorem it_rng1I {b : Bool} {e : E} {j : Int} (he : ev c e ρ h = .ok (.int j) h1) (hn : j < 1000000) (hn2 : -1000000 < j) : evIt c b (.rng1 e) ρ h = .ok ((List.range j.toNat).map fun (i : Nat) => Val.int (i : Int)) h1 := by
  have e1 : evIt c b (.rng1 e) ρ h = rngR j h1 := by
    unfold evIt
    rw [he]
    rfl
  rw [e1]
  unfold rngR
  have : smallR j = true := by
    unfold smallR
    rw [decide_eq_true (p := -4611686018427387904 ≤ j) (by omega), decide_eq_true (p := j < 4611686018427387904) (by omega)]
    rfl
  rw [if_pos this, rng0_map]
def rngR2 (i j : Int) (h : Heap) : R (List Val) := if (smallR i && smallR j) = true then .ok (rng i (j - i).toNat) h else .bad
theorem it_rng2 {b : Bool} {a d : E} {i j : Int} (ha : ev c a ρ h = .ok (.int i) h1) (hd : ev c d ρ h1 = .ok (.int j) h2) (hi : -1000000 < i) (hi2 : i < 1000000) (hj : -1000000 < j) (hj2 : j < 1000000) : evIt c b (.rng2 a d) ρ h = .ok ((List.range (j - i).toNat).map fun (k : Nat) => Val.int (i + (k : Int))) h2 := by
  have e1 : evIt c b (.rng2 a d) ρ h = rngR2 i j h2 := by
    unfold evIt
    simp only [ha, hd, R.bind, rngR2]
  have s : ∀ k : Int, -1000000 < k → k < 1000000 → smallR k = true := fun k h1 h2 => by
    unfold smallR
    rw [decide_eq_true (p := -4611686018427387904 ≤ k) (by omega), decide_eq_true (p := k < 4611686018427387904) (by omega)]
    rfl
  rw [e1]
  unfold rngR2
  rw [if_pos (by rw [s i hi hi2, s j hj hj2]; rfl), rng_map]
theorem enumL_map {α : Type} {f : α → Val} : ∀ (xs : List α) (k : Nat), enumL k (xs.map f) = (xs.zipIdx k).map fun p => .tup [.int (p.2 : Int), f p.1]
  | [], k => rfl
  | x :: xs, k => by
    rw [List.zipIdx_cons, List.map_cons, List.map_cons]
    show Val.tup [.int k, f x] :: enumL (k + 1) (xs.map f) = _
    rw [enumL_map xs (k + 1)]
theorem zipL_map {α β : Type} {f : α → Val} {g : β → Val} : ∀ (xs : List α) (ys : List β), zipL (xs.map f) (ys.map g) = (xs.zip ys).map fun p => .tup [f p.1, g p.2]
  | [], ys => by cases ys <;> rfl
  | x :: xs, [] => rfl
  | x :: xs, y :: ys => by
    rw [List.zip_cons_cons, List.map_cons, List.map_cons, List.map_cons]
    show Val.tup [f x, g y] :: zipL (xs.map f) (ys.map g) = _
    rw [zipL_map xs ys]
theorem it_enum {α : Type} {b : Bool} {e : E} {x : Val} {xs : List α} {f : α → Val} (he : ev c e ρ h = .ok x h1) (hs : seqsOf x = some (xs.map f)) : evIt c b (.enum e) ρ h = .ok (xs.zipIdx.map fun p => .tup [.int (p.2 : Int), f p.1]) h1 := by
  unfold evIt
  simp only [he, R.bind, hs, Option.map, R.of, enumL_map]
theorem it_zip {α β : Type} {b : Bool} {a d : E} {x y : Val} {xs : List α} {ys : List β} {f : α → Val} {g : β → Val} (ha : ev c a ρ h = .ok x h1) (hd : ev c d ρ h1 = .ok y h2) (hs : seqsOf x = some (xs.map f)) (ht : seqsOf y = some (ys.map g)) :
    evIt c b (.zip a d) ρ h = .ok ((xs.zip ys).map fun p => .tup [f p.1, g p.2]) h2 := by
  unfold evIt
  simp only [ha, hd, R.bind, hs, ht, zipL_map]
/-! comprehensions that leave the heap as it is -/
theorem evT_no : evT c .no ρ h = .ok true h := by unfold evT; rfl
theorem evT_so {e : E} {x : Val} {t : Bool} (he : ev c e ρ h = .ok x h1) (ht : truth h1 x = some t) : evT c (.so e) ρ h = .ok t h1 := by
  unfold evT
  simp only [he, R.bind, ht, R.of]
/-- an item's turn: bound, evaluated, kept -/
inductive Elt (c : Cf) (t : Tg) (x : Val) (ρ : Slots) (e : E) (h : Heap) (w : Val) : Prop
  | mk {ρ1 : Slots} {v : Val} (hb : bindT t x ρ = some ρ1) (he : ev c e ρ1 h = .ok v h) (hf : fz v = some w) : Elt c t x ρ e h w
/-- the same with a test -/
inductive EltP (c : Cf) (t : Tg) (x : Val) (ρ : Slots) (cc : Oe) (e : E) (h : Heap) (b : Bool) (w : Val) : Prop
  | mk {ρ1 : Slots} {v : Val} (hb : bindT t x ρ = some ρ1) (ht : evT c cc ρ1 h = .ok b h) (he : b = true → ev c e ρ1 h = .ok v h) (hf : fz v = some w) : EltP c t x ρ cc e h b w
theorem ev_compP {α : Type} {t : Tg} {it : It} {cc : Oe} {e : E} {ρ1 : Slots} {xs : List α} {f w : α → Val} {p : α → Bool} (hi : evIt c false it ρ h = .ok (xs.map f) h1) (hw : wipe ρ t.slots = ρ1)
    (H : ∀ x ∈ xs, EltP c t (f x) ρ1 cc e h1 (p x) (w x)) (hs : xs.length ≤ 1000000) :
    ev c (.comp t it cc e) ρ h = .ok (.lst .own ((xs.filter p).map w)) h1 := by
  unfold ev
  rw [hi, hw]
  have k := compL_filter (bd := fun x => bindT t x ρ1) (tt := evT c cc) (el := ev c e) (h := h1) (f := f) (w := w) (p := p) xs (fun x hx => by
    cases H x hx with
    | mk a b d e => exact ⟨_, a, b, fun hp => ⟨_, d hp, e⟩⟩)
  have hf : fits ((xs.filter p).map w).length = true := by
    have := List.length_filter_le p xs
    exact fits_of (by rw [List.length_map]; omega)
  simp only [R.bind, k, noexc, hf, if_true]
theorem ev_compM {α : Type} {t : Tg} {it : It} {e : E} {ρ1 : Slots} {xs : List α} {f w : α → Val} (hi : evIt c false it ρ h = .ok (xs.map f) h1) (hw : wipe ρ t.slots = ρ1)
    (H : ∀ x ∈ xs, Elt c t (f x) ρ1 e h1 (w x)) (hs : xs.length ≤ 1000000) :
    ev c (.comp t it .no e) ρ h = .ok (.lst .own (xs.map w)) h1 := by
  have := ev_compP (c := c) (t := t) (cc := .no) (e := e) (w := w) (p := fun _ => true) hi hw (fun x hx => by
    cases H x hx with
    | mk a b d => exact .mk a evT_no (fun _ => b) d) hs
  rw [this, List.filter_eq_self.mpr (fun _ _ => rfl)]
theorem compO_flat {α : Type} {bd : Val → Option Slots} {inn : Slots → Heap → R (List Val)} {f : α → Val} {g : α → List Val} : ∀ xs : List α, (∀ x ∈ xs, ∃ ρ, bd (f x) = some ρ ∧ inn ρ h = .ok (g x) h) → compO bd inn (xs.map f) h = .ok (xs.flatMap g) h
  | [], _ => rfl
  | x :: xs, H => by
    obtain ⟨ρ, a, b⟩ := H x List.mem_cons_self
    have ih := compO_flat xs fun y hy => H y (List.mem_cons_of_mem _ hy)
    rw [List.map_cons]
    unfold compO
    rw [a]
    simp only [b, R.bind, ih, List.flatMap_cons]
/-- an outer item's turn -/
inductive Elt2 {β : Type} (c : Cf) (t u : Tg) (x : Val) (ρ : Slots) (jt : It) (cc : Oe) (e : E) (h : Heap) (ys : List β) (g w : β → Val) (p : β → Bool) : Prop
  | mk {ρ2 ρ3 : Slots} (hb : bindT t x ρ = some ρ2) (hj : evIt c false jt ρ2 h = .ok (ys.map g) h) (hw : wipe ρ2 u.slots = ρ3) (hy : ∀ y ∈ ys, EltP c u (g y) ρ3 cc e h (p y) (w y)) : Elt2 c t u x ρ jt cc e h ys g w p
theorem wipe_2 {ρ ρ1 ρ2 : Slots} {t u : Tg} (h1 : wipe ρ u.slots = ρ1) (h2 : wipe ρ1 t.slots = ρ2) : wipe ρ (t.slots ++ u.slots) = ρ2 := by rw [wipe_app, h1, h2]
theorem ev_comp2P {α β : Type} {t u : Tg} {it jt : It} {cc : Oe} {e : E} {ρ1 : Slots} {xs : List α} {ys : α → List β} {f : α → Val} {g : α → β → Val} {w : α → β → Val} {p : α → β → Bool} (hi : evIt c false it ρ h = .ok (xs.map f) h1) (hw : wipe ρ (t.slots ++ u.slots) = ρ1)
    (H : ∀ x ∈ xs, Elt2 c t u (f x) ρ1 jt cc e h1 (ys x) (g x) (w x) (p x))
    (hs : (xs.flatMap fun x => ((ys x).filter (p x)).map (w x)).length ≤ 1000000) :
    ev c (.comp2 t it u jt cc e) ρ h = .ok (.lst .own (xs.flatMap fun x => ((ys x).filter (p x)).map (w x))) h1 := by
  unfold ev
  rw [hi, hw]
  have k := compO_flat (h := h1) (bd := fun x => bindT t x ρ1) (inn := fun ρ' h => (evIt c false jt ρ' h).bind fun ys h => compL (fun y => bindT u y (wipe ρ' u.slots)) (evT c cc) (ev c e) ys h) (f := f) (g := fun x => ((ys x).filter (p x)).map (w x)) xs (fun x hx => by
    cases H x hx with
    | @mk ρ2 ρ3 a b d H2 =>
      refine ⟨ρ2, a, ?_⟩
      rw [b]
      simp only [R.bind]
      rw [d]
      exact compL_filter (ys x) (fun y hy => by
        cases H2 y hy with
        | mk a b d e => exact ⟨_, a, b, fun hp => ⟨_, d hp, e⟩⟩))
  have hf := fits_of hs
  simp only [bind_ok, k, noexc, hf, if_true]
theorem EltP.no {t : Tg} {x : Val} {e : E} {w : Val} (H : Elt c t x ρ e h w) : EltP c t x ρ .no e h true w := by
  cases H with
  | mk a b d => exact .mk a evT_no (fun _ => b) d
/-! statements -/
theorem keep_fz {i : Nat} {v w : Val} {ρ1 : Slots} (hf : fz v = some w) (hs : ρ.set i (some w) = ρ1) : keep i .fz v ρ h = .ok ρ1 h := by
  subst hs
  unfold keep
  simp only [hf]
theorem keep_own {i : Nat} {xs : List Val} {ρ1 : Slots} (hs : ρ.set i (some (.lst .own xs)) = ρ1) : keep i .own (.lst .own xs) ρ h = .ok ρ1 h := by
  subst hs
  unfold keep
  rfl
theorem keep_heap {i : Nat} {xs : List Val} {ρ1 : Slots} (hs : ρ.set i (some (.ref h.length)) = ρ1) : keep i .heap (.lst .own xs) ρ h = .ok ρ1 (h ++ [.lst xs]) := by
  subst hs
  unfold keep
  rfl
theorem exs_nil : exs c N .nil ρ h = .ok (.nx ρ) h := by unfold exs; rfl
theorem exs_nx {s : S} {ss : Ss} {ρ1 : Slots} {r : R Fl} (hs : ex c N s ρ h = .ok (.nx ρ1) h1) (hr : exs c N ss ρ1 h1 = r) : exs c N (.cons s ss) ρ h = r := by
  unfold exs
  rw [hs]
  exact hr
theorem exs_rt {s : S} {ss : Ss} {v : Val} (hs : ex c N s ρ h = .ok (.rt v) h1) : exs c N (.cons s ss) ρ h = .ok (.rt v) h1 := by
  unfold exs
  rw [hs]
  rfl
theorem exs_exc {s : S} {ss : Ss} {k : Nat} (hs : ex c N s ρ h = .exc k h1) : exs c N (.cons s ss) ρ h = .exc k h1 := by
  unfold exs
  rw [hs]
  rfl
theorem exs_cons {s : S} {ss : Ss} : exs c N (.cons s ss) ρ h = (ex c N s ρ h).bind fun f h => match f with | .nx ρ => exs c N ss ρ h | .rt v => .ok (.rt v) h := by
  conv => lhs; unfold exs
  all_goals rfl
theorem exs_app {t : Ss} : ∀ (a : Ss) (ρ : Slots) (h : Heap), exs c N (a.app t) ρ h = (exs c N a ρ h).bind fun f h => match f with | .nx ρ => exs c N t ρ h | .rt v => .ok (.rt v) h
  | .nil, ρ, h => by rw [exs_nil]; rfl
  | .cons s ss, ρ, h => by
    show exs c N (.cons s (ss.app t)) ρ h = _
    rw [exs_cons, exs_cons]
    cases e : ex c N s ρ h with
    | bad => rfl
    | exc k h' => rfl
    | ok f h' => cases f with
      | rt v => rfl
      | nx ρ' => exact exs_app ss ρ' h'
theorem exs_cond {e : E} {a b ss : Ss} {x : Val} {t : Bool} {r : R Fl} (he : ev c e ρ h = .ok x h1) (ht : truth h1 x = some t) (ha : t = true → exs c N (a.app ss) ρ h1 = r) (hb : t = false → exs c N (b.app ss) ρ h1 = r) : exs c N (.cons (.cond e a b) ss) ρ h = r := by
  have : exs c N (.cons (.cond e a b) ss) ρ h = exs c N ((if t then a else b).app ss) ρ h1 := by
    have e1 : ex c N (.cond e a b) ρ h = exs c N (if t then a else b) ρ h1 := by
      unfold ex
      rw [he]
      simp only [R.bind, ht]
      cases t <;> rfl
    rw [exs_app, exs_cons, e1]
  rw [this]
  cases t
  · exact hb rfl
  · exact ha rfl
theorem exs_condT {e : E} {a b ss : Ss} {x : Val} {t : Bool} {r : R Fl} (he : ev c e ρ h = .ok x h1) (ht : truth h1 x = some t) (htt : t = true) (ha : exs c N (a.app ss) ρ h1 = r) : exs c N (.cons (.cond e a b) ss) ρ h = r :=
  exs_cond he ht (fun _ => ha) (fun z => by rw [htt] at z; cases z)
theorem exs_condF {e : E} {a b ss : Ss} {x : Val} {t : Bool} {r : R Fl} (he : ev c e ρ h = .ok x h1) (ht : truth h1 x = some t) (htt : t = false) (hb : exs c N (b.app ss) ρ h1 = r) : exs c N (.cons (.cond e a b) ss) ρ h = r :=
  exs_cond he ht (fun z => by rw [htt] at z; cases z) (fun _ => hb)
theorem exs_appc {s : S} {ss t : Ss} {r : R Fl} (hr : exs c N (.cons s (ss.app t)) ρ h = r) : exs c N ((Ss.cons s ss).app t) ρ h = r := hr
theorem exs_appn {t : Ss} {r : R Fl} (hr : exs c N t ρ h = r) : exs c N (Ss.nil.app t) ρ h = r := hr
theorem exs_set {i : Nat} {k : Sk} {e : E} {ss : Ss} {v : Val} {ρ1 : Slots} {r : R Fl} (he : ev c e ρ h = .ok v h1) (hk : keep i k v ρ h1 = .ok ρ1 h2) (hr : exs c N ss ρ1 h2 = r) : exs c N (.cons (.set i k e) ss) ρ h = r :=
  exs_nx (by unfold ex; simp only [he, hk, R.bind]) hr
theorem exs_par2 {i j : Nat} {k l : Sk} {a b : E} {ss : Ss} {x y : Val} {ρ1 ρ2 : Slots} {r : R Fl} (ha : ev c a ρ h = .ok x h1) (hb : ev c b ρ h1 = .ok y h2) (hk : keep i k x ρ h2 = .ok ρ1 h3) (hl : keep j l y ρ1 h3 = .ok ρ2 h4) (hr : exs c N ss ρ2 h4 = r) :
    exs c N (.cons (.par2 i k j l a b) ss) ρ h = r :=
  exs_nx (by unfold ex; simp only [ha, hb, hk, hl, R.bind]) hr
theorem exs_par3 {i j m : Nat} {k l n : Sk} {a b d : E} {ss : Ss} {x y z : Val} {ρ1 ρ2 ρ3 : Slots} {r : R Fl} {h5 h6 : Heap} (ha : ev c a ρ h = .ok x h1) (hb : ev c b ρ h1 = .ok y h2) (hd : ev c d ρ h2 = .ok z h3) (hk : keep i k x ρ h3 = .ok ρ1 h4) (hl : keep j l y ρ1 h4 = .ok ρ2 h5) (hm : keep m n z ρ2 h5 = .ok ρ3 h6) (hr : exs c N ss ρ3 h6 = r) :
    exs c N (.cons (.par3 i k j l m n a b d) ss) ρ h = r :=
  exs_nx (by unfold ex; simp only [ha, hb, hd, hk, hl, hm, R.bind]) hr
theorem exs_unp {t : Tg} {e : E} {ss : Ss} {v : Val} {ρ1 : Slots} {r : R Fl} (he : ev c e ρ h = .ok v h1) (hb : bindT t v ρ = some ρ1) (hr : exs c N ss ρ1 h1 = r) : exs c N (.cons (.unp t e) ss) ρ h = r :=
  exs_nx (by unfold ex; simp only [he, hb, R.bind]) hr
theorem exs_ex {e : E} {ss : Ss} {v : Val} {r : R Fl} (he : ev c e ρ h = .ok v h1) (hr : exs c N ss ρ h1 = r) : exs c N (.cons (.ex e) ss) ρ h = r :=
  exs_nx (by unfold ex; simp only [he, R.bind]) hr
theorem exs_exX {e : E} {ss : Ss} {k : Nat} (he : ev c e ρ h = .exc k h1) : exs c N (.cons (.ex e) ss) ρ h = .exc k h1 :=
  exs_exc (by unfold ex; simp only [he, R.bind])
theorem exs_pas {ss : Ss} {r : R Fl} (hr : exs c N ss ρ h = r) : exs c N (.cons .pas ss) ρ h = r :=
  exs_nx (by unfold ex; rfl) hr
theorem exs_rais {ss : Ss} {k : Nat} : exs c N (.cons (.rais k) ss) ρ h = .exc k h :=
  exs_exc (by unfold ex; rfl)
theorem exs_ret {e : E} {ss : Ss} {v w : Val} (he : ev c e ρ h = .ok v h1) (hu : un v = w) : exs c N (.cons (.ret e) ss) ρ h = .ok (.rt w) h1 := by
  refine exs_rt ?_
  subst hu
  unfold ex
  rw [he]
  simp only [R.bind]
  cases v with
  | lst k xs => cases k <;> rfl
  | _ => rfl
theorem exs_retX {e : E} {ss : Ss} {k : Nat} (he : ev c e ρ h = .exc k h1) : exs c N (.cons (.ret e) ss) ρ h = .exc k h1 :=
  exs_exc (by unfold ex; simp only [he, R.bind])
theorem exs_app1 {i : Nat} {e : E} {ss : Ss} {xs : List Val} {v w : Val} {ρ1 : Slots} {r : R Fl} (hx : ρ[i]? = some (some (.lst .own xs))) (he : ev c e ρ h = .ok v h1) (hf : fz v = some w) (hn : xs.length ≤ 1000000) (hs : ρ.set i (some (.lst .own (xs ++ [w]))) = ρ1) (hr : exs c N ss ρ1 h1 = r) :
    exs c N (.cons (.app i e) ss) ρ h = r := by
  have sz : sizeLine = 16777216 := sizeLine_eq
  have hl : decide (xs.length < sizeLine) = true := decide_eq_true (by omega)
  subst hs
  refine exs_nx ?_ hr
  unfold ex
  rw [hx]
  simp only [he, hf, R.bind, hl, if_true]
theorem exs_six {i : Nat} {ie ve : E} {ss : Ss} {xs : List Val} {v w : Val} {j : Int} {n : Nat} {ρ1 : Slots} {r : R Fl} (hv : ev c ve ρ h = .ok v h1) (hx : ρ[i]? = some (some (.lst .own xs))) (hi : ev c ie ρ h1 = .ok (.int j) h2) (hf : fz v = some w) (hn : L2.ixN xs.length j = some n) (hs : ρ.set i (some (.lst .own (xs.set n w))) = ρ1) (hr : exs c N ss ρ1 h2 = r) :
    exs c N (.cons (.six i ie ve) ss) ρ h = r := by
  subst hs
  refine exs_nx ?_ hr
  unfold ex
  simp only [hv, R.bind, hx, hi, hf, hn]
theorem exs_for {t : Tg} {it : It} {b ss : Ss} {xs : List Val} {ρ1 : Slots} {r : R Fl} (hi : evIt c true it ρ h = .ok xs h1) (hf : forL (bindT t) (exs c N b) xs ρ h1 = .ok (.nx ρ1) h2) (hr : exs c N ss ρ1 h2 = r) : exs c N (.cons (.forr t it b) ss) ρ h = r :=
  exs_nx (by unfold ex; simp only [hi, hf]) hr
theorem exs_forR {t : Tg} {it : It} {b ss : Ss} {xs : List Val} {v : Val} (hi : evIt c true it ρ h = .ok xs h1) (hf : forL (bindT t) (exs c N b) xs ρ h1 = .ok (.rt v) h2) : exs c N (.cons (.forr t it b) ss) ρ h = .ok (.rt v) h2 :=
  exs_rt (by unfold ex; simp only [hi, hf])
/-- a loop's turn -/
inductive Turn (bd : Val → Slots → Option Slots) (body : Slots → Heap → R Fl) (x : Val) (ρ : Slots) (h : Heap) (P : Slots → Prop) : Prop
  | mk {ρ1 ρ2 : Slots} (hb : bd x ρ = some ρ1) (hx : body ρ1 h = .ok (.nx ρ2) h) (hp : P ρ2) : Turn bd body x ρ h P
theorem for_fold {α σ : Type} {bd : Val → Slots → Option Slots} {body : Slots → Heap → R Fl} {f : α → Val} (St : σ → Slots → Prop) (step : σ → α → σ) : ∀ (xs : List α) (s : σ) (ρ : Slots), St s ρ →
    (∀ pre x post, xs = pre ++ x :: post → ∀ ρ, St (pre.foldl step s) ρ → Turn bd body (f x) ρ h (St (step (pre.foldl step s) x))) → ∃ ρ', forL bd body (xs.map f) ρ h = .ok (.nx ρ') h ∧ St (xs.foldl step s) ρ'
  | [], s, ρ, h0, _ => ⟨ρ, rfl, h0⟩
  | x :: xs, s, ρ, h0, H => by
    cases H [] x xs rfl ρ h0 with
    | @mk ρ1 ρ2 a b d =>
      obtain ⟨ρ3, e, f⟩ := for_fold St step xs (step s x) ρ2 d (fun pre y post hp => H (x :: pre) y post (by rw [hp]; rfl))
      refine ⟨ρ3, ?_, f⟩
      rw [List.map_cons]
      unfold forL
      rw [a]
      simp only [b]
      exact e
/-- for: a fold, the turns before known -/
theorem exs_forP {α σ : Type} {t : Tg} {it : It} {b ss : Ss} {xs : List α} {f : α → Val} {r : R Fl} (St : σ → Slots → Prop) (step : σ → α → σ) (s0 : σ) (hi : evIt c true it ρ h = .ok (xs.map f) h1) (h0 : St s0 ρ)
    (H : ∀ pre x post, xs = pre ++ x :: post → ∀ ρ, St (pre.foldl step s0) ρ → Turn (bindT t) (exs c N b) (f x) ρ h1 (St (step (pre.foldl step s0) x))) (hr : ∀ ρ1, St (xs.foldl step s0) ρ1 → exs c N ss ρ1 h1 = r) : exs c N (.cons (.forr t it b) ss) ρ h = r := by
  obtain ⟨ρ', e, d⟩ := for_fold (bd := bindT t) (body := exs c N b) St step xs s0 ρ h0 H
  exact exs_for hi e (hr ρ' d)
/-- for: a fold -/
theorem exs_forF {α σ : Type} {t : Tg} {it : It} {b ss : Ss} {xs : List α} {f : α → Val} {r : R Fl} (St : σ → Slots → Prop) (step : σ → α → σ) (s0 : σ) (hi : evIt c true it ρ h = .ok (xs.map f) h1) (h0 : St s0 ρ)
    (H : ∀ s, ∀ x ∈ xs, ∀ ρ, St s ρ → Turn (bindT t) (exs c N b) (f x) ρ h1 (St (step s x))) (hr : ∀ ρ1, St (xs.foldl step s0) ρ1 → exs c N ss ρ1 h1 = r) : exs c N (.cons (.forr t it b) ss) ρ h = r :=
  exs_forP St step s0 hi h0 (fun pre x post hp ρ hs => H _ x (by rw [hp]; simp) ρ hs) hr
/-- for with a return: the turns' end is told by step (left: returned) -/
def foldE {α σ : Type} (step : σ → α → Except Val σ) : σ → List α → Except Val σ
  | s, [] => .ok s
  | s, x :: xs => match step s x with
    | .ok s' => foldE step s' xs
    | .error v => .error v
inductive TurnE (bd : Val → Slots → Option Slots) (body : Slots → Heap → R Fl) (x : Val) (ρ : Slots) (h : Heap) (P : Slots → Prop) : Except Val Unit → Prop
  | nx {ρ1 ρ2 : Slots} (hb : bd x ρ = some ρ1) (hx : body ρ1 h = .ok (.nx ρ2) h) (hp : P ρ2) : TurnE bd body x ρ h P (.ok ())
  | rt {ρ1 : Slots} {v : Val} (hb : bd x ρ = some ρ1) (hx : body ρ1 h = .ok (.rt v) h) : TurnE bd body x ρ h P (.error v)
theorem for_foldE {α σ : Type} {bd : Val → Slots → Option Slots} {body : Slots → Heap → R Fl} {f : α → Val} (St : σ → Slots → Prop) (step : σ → α → Except Val σ) : ∀ (xs : List α) (s : σ) (ρ : Slots), St s ρ →
    (∀ s, ∀ x ∈ xs, ∀ ρ, St s ρ → match step s x with | .ok s' => Turn bd body (f x) ρ h (St s') | .error v => ∃ ρ1, bd (f x) ρ = some ρ1 ∧ body ρ1 h = .ok (.rt v) h) →
    match foldE step s xs with
    | .ok s' => ∃ ρ', forL bd body (xs.map f) ρ h = .ok (.nx ρ') h ∧ St s' ρ'
    | .error v => forL bd body (xs.map f) ρ h = .ok (.rt v) h
  | [], s, ρ, h0, _ => ⟨ρ, rfl, h0⟩
  | x :: xs, s, ρ, h0, H => by
    have hx := H s x List.mem_cons_self ρ h0
    unfold foldE
    cases e : step s x with
    | ok s' =>
      rw [e] at hx
      cases hx with
      | @mk ρ1 ρ2 a b d =>
        have ih := for_foldE (f := f) St step xs s' ρ2 d (fun s y hy => H s y (List.mem_cons_of_mem _ hy))
        have e2 : forL bd body ((x :: xs).map f) ρ h = forL bd body (xs.map f) ρ2 h := by
          rw [List.map_cons]
          conv => lhs; unfold forL
          rw [a]
          simp only [b]
        simp only
        rw [e2]
        exact ih
    | error v =>
      rw [e] at hx
      obtain ⟨ρ1, a, b⟩ := hx
      simp only
      rw [List.map_cons]
      unfold forL
      rw [a]
      simp only [b]
/-! runs of defs -/
theorem runF_rt {d : FD} {args : List Val} {v : Val} {ρ0 : Slots} (ha : args.length = d.np) (hρ : args.map some ++ List.replicate (d.ns - d.np) none = ρ0) (hb : exs c N d.body ρ0 h = .ok (.rt v) h1) : runF c N d args h = .ok v h1 := by
  subst hρ
  unfold runF
  rw [if_pos ha, hb]
theorem runF_nx {d : FD} {args : List Val} {ρ0 ρ1 : Slots} (ha : args.length = d.np) (hρ : args.map some ++ List.replicate (d.ns - d.np) none = ρ0) (hb : exs c N d.body ρ0 h = .ok (.nx ρ1) h1) : runF c N d args h = .ok .non h1 := by
  subst hρ
  unfold runF
  rw [if_pos ha, hb]
theorem runF_exc {d : FD} {args : List Val} {ρ0 : Slots} {k : Nat} (ha : args.length = d.np) (hρ : args.map some ++ List.replicate (d.ns - d.np) none = ρ0) (hb : exs c N d.body ρ0 h = .exc k h1) : runF c N d args h = .exc k h1 := by
  subst hρ
  unfold runF
  rw [if_pos ha, hb]
end
/-! marks of goals -/
theorem k_call {c : Cf} {k : Nat} {vs : List Val} {h : Heap} {r : R Val} (e : c k vs h = r) : c k vs h = r := e
theorem k_fz {v w : Val} (h : fz v = some w) : fz v = some w := h
theorem k_un {v w : Val} (h : un v = w) : un v = w := h
theorem k_it {v : Val} {xs : List Val} (h : itemsOf v = some xs) : itemsOf v = some xs := h
theorem k_sq {v : Val} {xs : List Val} (h : seqsOf v = some xs) : seqsOf v = some xs := h
theorem k_br {v : Val} {b : Bool} (h : (isBrw v && b) = false) : (isBrw v && b) = false := h
theorem k_m1 {m : M1} {v : Val} (h : m1T m v = true) : m1T m v = true := h
theorem k_set {ρ ρ1 : Slots} {i : Nat} {v : Option Val} (h : ρ.set i v = ρ1) : ρ.set i v = ρ1 := h
theorem k_wipe {ρ ρ1 : Slots} {l : List Nat} (h : wipe ρ l = ρ1) : wipe ρ l = ρ1 := h
theorem k_get {ρ : Slots} {i : Nat} {v : Option (Option Val)} (h : ρ[i]? = v) : ρ[i]? = v := h
/-! leaves -/
section
variable {h : Heap}
theorem o_sub {i j : Int} : bop .sub (.int i) (.int j) h = some (.int (i - j)) := rfl
theorem o_addT {xs ys : List Val} (hf : xs.length + ys.length ≤ 1000000) : bop .add (.tup xs) (.tup ys) h = some (.tup (xs ++ ys)) := by
  unfold bop
  simp only [fits_of hf, if_true]
theorem o_addL {k l : Kd} {xs ys : List Val} (hk : k ≠ .scr) (hl : l ≠ .scr) (hf : xs.length + ys.length ≤ 1000000) : bop .add (.lst k xs) (.lst l ys) h = some (.lst .own (xs ++ ys)) := by
  unfold bop
  simp only [fits_of hf, decide_eq_true hk, decide_eq_true hl, Bool.and_self, if_true]
theorem o_lt {i j : Int} : cop .lt (.int i) (.int j) h = some (decide (i < j)) := rfl
theorem o_le {i j : Int} : cop .le (.int i) (.int j) h = some (decide (i ≤ j)) := rfl
theorem o_gt {i j : Int} : cop .gt (.int i) (.int j) h = some (decide (j < i)) := rfl
theorem o_ge {i j : Int} : cop .ge (.int i) (.int j) h = some (decide (j ≤ i)) := rfl
theorem i_nn : cop .isnot .non .non h = some false := rfl
theorem i_n : cop .is .non .non h = some true := rfl
theorem i_tn {xs : List Val} : cop .isnot (.tup xs) .non h = some true := rfl
theorem i_t {xs : List Val} : cop .is (.tup xs) .non h = some false := rfl
theorem t_bl {b : Bool} : truth h (.bl b) = some b := rfl
theorem t_int {i : Int} : truth h (.int i) = some (i != 0) := rfl
/-- an item of a tuple, of a list -/
theorem x_tup {α : Type} {xs : List α} {f : α → Val} {n : Nat} (d : α) (hn : n < xs.length) : idxV (.tup (xs.map f)) (.int (n : Int)) h = some (f (xs.getD n d)) := by
  have : idxV (.tup (xs.map f)) (.int (n : Int)) h = L2.atI (xs.map f) (n : Int) := rfl
  rw [this]
  refine atI_nat rfl ?_
  rw [List.getElem?_map, List.getElem?_eq_getElem hn]
  simp [List.getD, List.getElem?_eq_getElem hn]
theorem x_lst {α : Type} {k : Kd} {xs : List α} {f : α → Val} {n : Nat} (d : α) (hn : n < xs.length) : idxV (.lst k (xs.map f)) (.int (n : Int)) h = some (f (xs.getD n d)) := by
  have : idxV (.lst k (xs.map f)) (.int (n : Int)) h = L2.atI (xs.map f) (n : Int) := rfl
  rw [this]
  refine atI_nat rfl ?_
  rw [List.getElem?_map, List.getElem?_eq_getElem hn]
  simp [List.getD, List.getElem?_eq_getElem hn]
theorem x_fst {x y : Val} : idxV (.tup [x, y]) (.int 0) h = some x := rfl
theorem x_snd {x y : Val} : idxV (.tup [x, y]) (.int 1) h = some y := rfl
theorem l_tup {α : Type} {xs : List α} {f : α → Val} : p1V .len (.tup (xs.map f)) h = some (.int (xs.length : Int)) := by
  show some (Val.int ((xs.map f).length : Int)) = _
  rw [List.length_map]
theorem l_lst {α : Type} {k : Kd} {xs : List α} {f : α → Val} : p1V .len (.lst k (xs.map f)) h = some (.int (xs.length : Int)) := by
  show some (Val.int ((xs.map f).length : Int)) = _
  rw [List.length_map]
theorem p_tup {k : Kd} {xs : List Val} : p1V .tuple (.lst k xs) h = some (.tup xs) := rfl
theorem p_lst {k : Kd} {xs : List Val} : p1V .list (.lst k xs) h = some (.lst .own xs) := rfl
theorem p_lstT {xs : List Val} : p1V .list (.tup xs) h = some (.lst .own xs) := rfl
theorem p_abs {i : Int} : p1V .abs (.int i) h = some (.int (i.natAbs : Int)) := by
  show some (Val.int (if i < 0 then -i else i)) = _
  congr 2
  split <;> omega
end
/-! plain data that == compares: f's values by data of depth at most k -/
structure EqE {α : Type} (f : α → Val) (k : Nat) where
  d : α → PyData
  to : ∀ a, toD (f a) = some (d a)
  nr : ∀ a h, toDh h (f a) = toD (f a)
  lay : ∀ a, (d a).canLay0 = true
  dep : ∀ a, (d a).depth ≤ k
  inj : ∀ a b, PyData.eqv (d a) (d b) = true ↔ a = b
theorem EqE.eq {α : Type} [DecidableEq α] {f : α → Val} {k : Nat} (E : EqE f k) (hk : k ≤ 64) {a b : α} {h : Heap} : cop .eq (f a) (f b) h = some (decide (a = b)) := by
  show eqD h (f a) (f b) = _
  unfold eqD
  rw [E.nr, E.nr, E.to, E.to]
  have s : ∀ a, SeqAt.shaped (E.d a) = true := fun a => Bool.and_eq_true_iff.mpr ⟨E.lay a, decide_eq_true (Nat.le_trans (E.dep a) hk)⟩
  simp only [s, Bool.and_self, if_true]
  congr 1
  by_cases e : a = b
  · rw [(E.inj a b).mpr e, decide_eq_true e]
  · rw [decide_eq_false e]
    exact Bool.eq_false_iff.mpr fun z => e ((E.inj a b).mp z)
theorem EqE.ne {α : Type} [DecidableEq α] {f : α → Val} {k : Nat} (E : EqE f k) (hk : k ≤ 64) {a b : α} {h : Heap} : cop .ne (f a) (f b) h = some (decide (a ≠ b)) := by
  have := E.eq hk (a := a) (b := b) (h := h)
  show (eqD h (f a) (f b)).map (!·) = _
  have e : eqD h (f a) (f b) = some (decide (a = b)) := this
  rw [e]
  simp
def eqInt : EqE Val.int 1 where
  d := PyData.int
  to _ := rfl
  nr _ _ := rfl
  lay _ := by simp [PyData.canLay0]
  dep _ := by simp [PyData.depth]
  inj a b := by simp [PyData.eqv]
theorem eqv_all {α : Type} {d : α → PyData} (hi : ∀ a b, PyData.eqv (d a) (d b) = true ↔ a = b) : ∀ xs ys : List α, PyData.eqvAll (xs.map d) (ys.map d) = true ↔ xs = ys
  | [], [] => by simp [PyData.eqvAll]
  | [], y :: ys => by simp [PyData.eqvAll]
  | x :: xs, [] => by simp [PyData.eqvAll]
  | x :: xs, y :: ys => by
    simp only [List.map_cons, PyData.eqvAll, Bool.and_eq_true, hi, eqv_all hi xs ys, List.cons.injEq]
theorem lay_all {α : Type} {d : α → PyData} (hl : ∀ a, (d a).canLay0 = true) : ∀ xs : List α, PyData.canLayAll0 (xs.map d) = true
  | [] => by simp [PyData.canLayAll0]
  | x :: xs => by simp [PyData.canLayAll0, hl, lay_all hl xs]
theorem dep_all {α : Type} {d : α → PyData} {k : Nat} (hl : ∀ a, (d a).depth ≤ k) : ∀ xs : List α, PyData.depthAll (xs.map d) ≤ k
  | [] => by simp [PyData.depthAll]
  | x :: xs => by
    have := hl x
    have := dep_all hl xs
    simp only [List.map_cons, PyData.depthAll]
    omega
theorem toDs_map {α : Type} {f : α → Val} {d : α → PyData} (ht : ∀ a, toD (f a) = some (d a)) : ∀ xs : List α, toDs (xs.map f) = some (xs.map d)
  | [] => rfl
  | x :: xs => by
    rw [List.map_cons]
    unfold toDs
    rw [ht, toDs_map ht xs]
    rfl
def EqE.tup {α : Type} {f : α → Val} {k : Nat} (E : EqE f k) : EqE (fun xs : List α => Val.tup (xs.map f)) (k + 1) where
  d xs := .tuple (xs.map E.d)
  to xs := by unfold toD; rw [toDs_map E.to]
  nr _ _ := rfl
  lay xs := by simp only [PyData.canLay0]; exact lay_all E.lay xs
  dep xs := by have := dep_all E.dep xs; simp only [PyData.depth]; omega
  inj a b := by simp only [PyData.eqv]; exact eqv_all E.inj a b
def EqE.pair {α β : Type} {f : α → Val} {g : β → Val} {k : Nat} (E : EqE f k) (F : EqE g k) : EqE (fun p : α × β => Val.tup [f p.1, g p.2]) (k + 1) where
  d p := .tuple [E.d p.1, F.d p.2]
  to p := by simp only [toD, toDs, E.to, F.to]
  nr _ _ := rfl
  lay p := by simp [PyData.canLay0, PyData.canLayAll0, E.lay, F.lay]
  dep p := by
    have := E.dep p.1
    have := F.dep p.2
    simp only [PyData.depth, PyData.depthAll]
    omega
  inj a b := by
    simp only [PyData.eqv, PyData.eqvAll, Bool.and_eq_true, Bool.and_true, E.inj, F.inj]
    constructor
    · rintro ⟨x, y⟩
      exact Prod.ext x y
    · rintro rfl
      exact ⟨rfl, rfl⟩
end Mi

set_option Elab.async false
set_option linter.all false
set_option autoImplicit false
set_option maxRecDepth 100000
/-! Mu: the defs that all laws have alike (printed by gen.py univ). -/
namespace Mi
open PySem PySem.Spec L2 PyProof.Rows
def fd__law_agree : FD := ⟨1, 9, (.cons (.set 1 .own (.lst .nil)) (.cons (.forr (.nm 2) (.seq (.var 0)) (.cons (.forv (.nm 3) 1 (.cons (.set 4 .fz (.idx (.comp (.nm 7) (.rng1 (.p1 .len (.var 3))) (.so (.cmp .ne (.idx (.idx (.var 3) (.var 7)) (.int 0)) (.int 0))) (.var 7)) (.int 0))) (.cons (.set 5 .fz (.call (.fn 29) (.cons (.idx (.var 2) (.var 4)) (.cons (.tup (.cons (.idx (.idx (.var 3) (.var 4)) (.int 1)) (.cons (.int 1) .nil))) .nil)))) (.cons (.set 5 .fz (.call (.fn 22) (.cons (.bin .sub (.int 0) (.idx (.var 5) (.int 0))) (.cons (.bin .mul (.idx (.var 5) (.int 1)) (.idx (.idx (.var 3) (.var 4)) (.int 0))) .nil)))) (.cons (.set 2 .fz (.comp (.tp2 (.nm 6) (.nm 8)) (.zip (.var 2) (.var 3)) .no (.call (.fn 19) (.cons (.var 6) (.cons (.call (.fn 29) (.cons (.var 5) (.cons (.var 8) .nil))) .nil))))) .nil))))) (.cons (.cond (.cmp .ne (.comp (.nm 6) (.seq (.slc (.var 2) .no (.so (.neg (.int 1))))) (.so (.cmp .ne (.idx (.var 6) (.int 0)) (.int 0))) (.var 6)) (.lst .nil)) (.cons (.app 1 (.var 2)) .nil) (.cons (.cond (.cmp .ne (.idx (.idx (.var 2) (.neg (.int 1))) (.int 0)) (.int 0)) (.cons (.ret (.bl false)) .nil) .nil) .nil)) .nil))) (.cons (.ret (.bl true)) .nil)))⟩
def fd__law_all : FD := ⟨2, 7, (.cons (.set 2 .fz (.lst (.cons (.tup .nil) .nil))) (.cons (.forr (.nm 3) (.rng1 (.var 0)) (.cons (.set 4 .fz (.lst .nil)) (.cons (.forr (.nm 5) (.seq (.var 2)) (.cons (.set 4 .fz (.bin .add (.var 4) (.comp (.nm 6) (.rng2 (.bin .sub (.int 0) (.var 1)) (.bin .add (.var 1) (.int 1))) .no (.bin .add (.var 5) (.tup (.cons (.var 6) .nil)))))) .nil)) (.cons (.set 2 .fz (.var 4)) .nil)))) (.cons (.ret (.comp (.nm 5) (.seq (.var 2)) (.so (.cmp .ne (.var 5) (.bin .mul (.tup (.cons (.int 0) .nil)) (.var 0)))) (.var 5))) .nil)))⟩
def fd__law_below : FD := ⟨2, 2, (.cons (.ret (.cmp .lt (.bin .mul (.idx (.var 0) (.int 0)) (.idx (.var 1) (.int 1))) (.bin .mul (.idx (.var 1) (.int 0)) (.idx (.var 0) (.int 1))))) .nil)⟩
def fd__law_changed : FD := ⟨2, 5, (.cons (.ret (.p1 .len (.comp (.nm 2) (.seq (.var 0)) (.so (.cmp .ne (.p1 .sum (.comp (.tp2 (.nm 3) (.nm 4)) (.zip (.var 2) (.var 1)) .no (.bin .mul (.var 3) (.var 4)))) (.int 0))) (.var 2)))) .nil)⟩
def fd__law_det : FD := ⟨1, 6, (.cons (.cond (.cmp .eq (.p1 .len (.var 0)) (.int 1)) (.cons (.ret (.idx (.idx (.var 0) (.int 0)) (.int 0))) .nil) .nil) (.cons (.set 1 .fz (.tup (.cons (.int 0) (.cons (.int 1) .nil)))) (.cons (.forr (.nm 2) (.rng1 (.p1 .len (.var 0))) (.cons (.set 3 .fz (.comp (.nm 5) (.seq (.slc (.var 0) (.so (.int 1)) .no)) .no (.bin .add (.slc (.var 5) .no (.so (.var 2))) (.slc (.var 5) (.so (.bin .add (.var 2) (.int 1))) .no)))) (.cons (.set 4 .fz (.call (.fn 29) (.cons (.idx (.idx (.var 0) (.int 0)) (.var 2)) (.cons (.call (.fn 6) (.cons (.var 3) .nil)) .nil)))) (.cons (.set 1 .fz (.call (.fn 19) (.cons (.var 1) (.cons (.ite (.cmp .eq (.bin .mod (.var 2) (.int 2)) (.int 0)) (.var 4) (.tup (.cons (.bin .sub (.int 0) (.idx (.var 4) (.int 0))) (.cons (.idx (.var 4) (.int 1)) .nil)))) .nil)))) .nil)))) (.cons (.ret (.var 1)) .nil))))⟩
def fd__law_draw : FD := ⟨3, 6, (.cons (.sixr (.var 1) (.int 0) (.bin .add (.idx (.var 1) (.int 0)) (.int 1))) (.cons (.cond (.cmp .eq (.var 0) (.lst .nil)) (.cons (.ret (.bin .mod (.bin .fdiv (.bin .mul (.bin .mul (.idx (.var 1) (.int 0)) (.idx (.var 1) (.int 0))) (.int 7)) (.int 3)) (.var 2))) .nil) .nil) (.cons (.set 3 .fz (.bin .mod (.idx (.var 1) (.int 0)) (.p1 .len (.var 0)))) (.cons (.set 4 .fz (.idx (.var 1) (.bin .add (.int 1) (.var 3)))) (.cons (.cond (.bo true (.cons (.cmp .ge (.idx (.var 0) (.var 3)) (.bin .pow (.int 10) (.int 18))) (.cons (.cmp .gt (.var 4) (.int 0)) .nil))) (.cons (.sixr (.var 1) (.bin .add (.int 1) (.var 3)) (.bin .fdiv (.var 4) (.var 2))) (.cons (.ret (.bin .mod (.var 4) (.var 2))) .nil)) .nil) (.cons (.set 5 .fz (.bin .mod (.bin .add (.idx (.var 0) (.var 3)) (.bin .mul (.int 104729) (.idx (.var 1) (.int 0)))) (.int 4294967291))) (.cons (.set 5 .fz (.bin .mod (.bin .pow (.var 5) (.int 5)) (.int 4294967279))) (.cons (.ret (.bin .mod (.bin .fdiv (.bin .mod (.bin .add (.bin .mul (.bin .fdiv (.var 5) (.int 64)) (.int 69621)) (.var 5)) (.int 4294967231)) (.int 8)) (.var 2))) .nil))))))))⟩
def fd__law_given : FD := ⟨2, 4, (.cons (.par2 2 .own 3 .fz (.p1 .list (.var 0)) (.bin .mod (.bin .add (.var 1) (.int 1)) (.p1 .len (.var 0)))) (.cons (.cond (.cmp .ne (.var 3) (.var 1)) (.cons (.six 2 (.var 3) (.tup (.cons (.call (.fn 19) (.cons (.idx (.idx (.var 0) (.var 1)) (.int 0)) (.cons (.idx (.idx (.var 0) (.var 3)) (.int 0)) .nil))) (.cons (.idx (.idx (.var 0) (.var 3)) (.int 1)) .nil)))) (.cons (.six 2 (.var 1) (.tup (.cons (.tup (.cons (.int 0) (.cons (.int 1) .nil))) (.cons (.idx (.idx (.var 0) (.var 1)) (.int 1)) .nil)))) .nil)) .nil) (.cons (.ret (.p1 .tuple (.var 2))) .nil)))⟩
def fd__law_led : FD := ⟨2, 5, (.cons (.set 2 .fz (.tup (.cons (.int 0) (.cons (.int 1) .nil)))) (.cons (.forr (.tp2 (.nm 3) (.nm 4)) (.zip (.var 0) (.var 1)) (.cons (.set 2 .fz (.call (.fn 19) (.cons (.var 2) (.cons (.call (.fn 29) (.cons (.tup (.cons (.var 3) (.cons (.int 1) .nil))) (.cons (.var 4) .nil))) .nil)))) .nil)) (.cons (.ret (.var 2)) .nil)))⟩
def fd__law_missed : FD := ⟨3, 8, (.cons (.set 3 .own (.lst .nil)) (.cons (.forr (.tp2 (.nm 4) (.nm 5)) (.zip (.var 0) (.var 1)) (.cons (.unp (.tp2 (.nm 6) (.nm 7)) (.call (.fn 9) (.cons (.var 4) (.cons (.var 2) .nil)))) (.cons (.app 3 (.call (.fn 19) (.cons (.var 5) (.cons (.tup (.cons (.bin .sub (.int 0) (.var 6)) (.cons (.var 7) .nil))) .nil)))) .nil))) (.cons (.ret (.call (.fn 27) (.cons (.var 3) .nil))) .nil)))⟩
def fd__law_name : FD := ⟨1, 2, (.cons (.cond (.not (.p2 .isin (.var 0) (.ty "ValueError"))) (.cons (.ret (.neg (.int 1))) .nil) .nil) (.cons (.set 1 .fz (.lst (.cons (.p2 .isin (.var 0) (.cls 1)) (.cons (.p2 .isin (.var 0) (.cls 2)) .nil)))) (.cons (.set 1 .fz (.bin .add (.var 1) (.lst (.cons (.p2 .isin (.var 0) (.cls 3)) (.cons (.p2 .isin (.var 0) (.cls 4)) .nil))))) (.cons (.set 1 .fz (.bin .add (.var 1) (.lst (.cons (.p2 .isin (.var 0) (.cls 5)) (.cons (.p2 .isin (.var 0) (.cls 6)) .nil))))) (.cons (.set 1 .fz (.bin .add (.var 1) (.lst (.cons (.p2 .isin (.var 0) (.cls 7)) (.cons (.p2 .isin (.var 0) (.cls 8)) .nil))))) (.cons (.set 1 .fz (.bin .add (.var 1) (.lst (.cons (.p2 .isin (.var 0) (.cls 9)) (.cons (.p2 .isin (.var 0) (.cls 10)) .nil))))) (.cons (.set 1 .fz (.bin .add (.var 1) (.lst (.cons (.p2 .isin (.var 0) (.cls 11)) (.cons (.p2 .isin (.var 0) (.cls 12)) .nil))))) (.cons (.set 1 .fz (.bin .add (.var 1) (.lst (.cons (.p2 .isin (.var 0) (.cls 13)) (.cons (.p2 .isin (.var 0) (.cls 14)) .nil))))) (.cons (.set 1 .fz (.bin .add (.var 1) (.lst (.cons (.p2 .isin (.var 0) (.cls 15)) (.cons (.p2 .isin (.var 0) (.cls 16)) .nil))))) (.cons (.set 1 .fz (.bin .add (.var 1) (.lst (.cons (.p2 .isin (.var 0) (.cls 17)) (.cons (.p2 .isin (.var 0) (.cls 18)) .nil))))) (.cons (.set 1 .fz (.bin .add (.var 1) (.lst (.cons (.p2 .isin (.var 0) (.cls 19)) (.cons (.p2 .isin (.var 0) (.cls 20)) .nil))))) (.cons (.ret (.ite (.cmp .eq (.m1 .count (.var 1) (.bl true)) (.int 1)) (.m1 .index (.var 1) (.bl true)) (.neg (.int 1)))) .nil))))))))))))⟩
def fd__law_no_weighings : FD := ⟨0, 1, (.cons (.set 0 .fz (.lst (.cons .non (.cons (.int 5) (.cons (.tup .nil) (.cons (.tup (.cons (.int 1) .nil)) (.cons (.tup (.cons (.tup .nil) .nil)) (.cons (.tup (.cons .non .nil)) (.cons (.lst (.cons (.tup (.cons (.int 1) .nil)) .nil)) (.cons (.tup (.cons (.tup (.cons (.int 0) .nil)) .nil)) (.cons (.tup (.cons (.tup (.cons (.int 0) (.cons (.int 0) .nil))) .nil)) (.cons (.tup (.cons (.tup (.cons (.int 1) (.cons (.int 0) .nil))) (.cons (.tup (.cons (.int 0) (.cons (.int 0) .nil))) .nil))) (.cons (.tup (.cons (.tup (.cons (.int 1) .nil)) (.cons (.tup (.cons (.int 1) (.cons (.int 0) .nil))) .nil))) (.cons (.tup (.cons (.tup (.cons (.int 2) .nil)) .nil)) .nil)))))))))))))) (.cons (.ret (.bin .add (.var 0) (.lst (.cons (.tup (.cons (.tup (.cons (.bl true) .nil)) .nil)) (.cons (.tup (.cons (.lst (.cons (.int 1) .nil)) .nil)) (.cons (.tup (.cons (.tup (.cons (.int 1) (.cons (.int 0) (.cons (.int 0) (.cons (.int 0) (.cons (.int 1) .nil)))))) .nil)) (.cons (.tup (.cons (.tup (.cons (.str "1") .nil)) .nil)) (.cons (.tup (.cons (.tup (.cons (.int 1) .nil)) (.cons .non .nil))) (.cons (.tup (.cons (.tup (.cons (.neg (.int 2)) (.cons (.int 1) .nil))) .nil)) (.cons (.str "+") .nil)))))))))) .nil))⟩
def fd__law_often : FD := ⟨2, 7, (.cons (.par2 3 .fz 4 .fz (.call (.fn 22) (.cons (.bin .sub (.call (.fn 7) (.cons (.var 0) (.cons (.var 1) (.cons (.int 19) .nil)))) (.int 9)) (.cons (.int 2) .nil))) (.tup (.cons (.bin .add (.int 1) (.call (.fn 7) (.cons (.var 0) (.cons (.var 1) (.cons (.int 9) .nil))))) (.cons (.int 1) .nil)))) (.cons (.par2 5 .fz 6 .own (.bin .mul (.tup (.cons (.tup (.cons (.int 1) .nil)) .nil)) (.int 5)) (.bin .mul (.lst (.cons (.var 3) .nil)) (.int 5))) (.cons (.set 2 .fz (.call (.fn 7) (.cons (.var 0) (.cons (.var 1) (.cons (.int 5) .nil))))) (.cons (.six 6 (.var 2) (.call (.fn 19) (.cons (.var 3) (.cons (.var 4) .nil)))) (.cons (.cond (.bo false (.cons (.cmp .ne (.call (.fn 67) (.cons (.var 5) (.cons (.p1 .tuple (.var 6)) .nil))) (.tup (.cons (.var 2) .nil))) (.cons (.cmp .ne (.call (.fn 96) (.cons (.var 5) (.cons (.p1 .tuple (.var 6)) .nil))) (.tup (.cons (.var 3) .nil))) .nil))) (.cons (.ret (.bl false)) .nil) .nil) (.cons (.cond (.bo false (.cons (.cmp .ne (.call (.fn 66) (.cons (.var 5) (.cons (.p1 .tuple (.var 6)) .nil))) (.tup (.cons (.call (.fn 19) (.cons (.var 3) (.cons (.call (.fn 29) (.cons (.var 4) (.cons (.tup (.cons (.int 1) (.cons (.int 5) .nil))) .nil))) .nil))) .nil))) (.cons (.cmp .ne (.call (.fn 118) (.cons (.var 5) .nil)) (.int 5)) .nil))) (.cons (.ret (.bl false)) .nil) .nil) (.cons (.ret (.cmp .eq (.call (.fn 92) (.cons (.var 5) (.cons (.p1 .tuple (.var 6)) .nil))) (.call (.fn 29) (.cons (.tup (.cons (.int 4) (.cons (.int 5) .nil))) (.cons (.call (.fn 29) (.cons (.var 4) (.cons (.var 4) .nil))) .nil))))) .nil)))))))⟩
def fd__law_outcome : FD := ⟨2, 5, (.cons (.set 2 .fz .non) (.cons (.set 3 .fz .non) (.cons (.tryx 3 .fz (.call (.fn 4) (.cons (.var 0) (.cons (.var 1) .nil))) 4 2 [0, 1, 2, 3, 4, 5, 6, 7, 8, 9, 10, 11, 12, 13, 14, 15, 16, 17, 18, 19, 20]) (.cons (.cond (.cmp .is (.var 2) .non) (.cons (.ret (.tup (.cons (.str "returned") (.cons (.var 3) .nil)))) .nil) .nil) (.cons (.ret (.tup (.cons (.str "raised") (.cons (.call (.fn 12) (.cons (.var 2) .nil)) .nil)))) .nil)))))⟩
def fd__law_pick : FD := ⟨3, 3, (.cons (.ret (.idx (.var 2) (.call (.fn 7) (.cons (.var 0) (.cons (.var 1) (.cons (.p1 .len (.var 2)) .nil)))))) .nil)⟩
def fd__law_plan : FD := ⟨4, 5, (.cons (.ret (.p1 .tuple (.comp (.nm 4) (.rng1 (.bin .add (.int 1) (.call (.fn 7) (.cons (.var 0) (.cons (.var 1) (.cons (.var 3) .nil)))))) .no (.call (.fn 34) (.cons (.var 0) (.cons (.var 1) (.cons (.var 2) .nil))))))) .nil)⟩
def fd__law_plus : FD := ⟨2, 2, (.cons (.ret (.call (.fn 22) (.cons (.bin .add (.bin .mul (.idx (.var 0) (.int 0)) (.idx (.var 1) (.int 1))) (.bin .mul (.idx (.var 1) (.int 0)) (.idx (.var 0) (.int 1)))) (.cons (.bin .mul (.idx (.var 0) (.int 1)) (.idx (.var 1) (.int 1))) .nil)))) .nil)⟩
def fd__law_raises : FD := ⟨1, 2, (.cons (.set 1 .fz (.lst (.cons (.str "plan") (.cons (.str "list") (.cons (.str "sum") (.cons (.str "results") (.cons (.str "things") (.cons (.str "sort") (.cons (.str "goal") (.cons (.str "number") (.cons (.str "names") .nil))))))))))) (.cons (.set 1 .fz (.bin .add (.var 1) (.lst (.cons (.str "weighing") (.cons (.str "count") (.cons (.str "shares") (.cons (.str "text") (.cons (.str "unequal") (.cons (.str "not_told") (.cons (.str "not_settled") .nil)))))))))) (.cons (.set 1 .fz (.bin .add (.var 1) (.lst (.cons (.str "not_borne") (.cons (.str "last_one") (.cons (.str "many") (.cons (.str "undo") .nil))))))) (.cons (.ret (.tup (.cons (.str "raised") (.cons (.m1 .index (.var 1) (.var 0)) .nil)))) .nil))))⟩
def fd__law_rank : FD := ⟨1, 8, (.cons (.set 1 .own (.lst .nil)) (.cons (.forr (.nm 2) (.seq (.var 0)) (.cons (.forv (.nm 3) 1 (.cons (.set 4 .fz (.idx (.comp (.nm 6) (.rng1 (.p1 .len (.var 3))) (.so (.cmp .ne (.idx (.var 3) (.var 6)) (.int 0))) (.var 6)) (.int 0))) (.cons (.set 2 .fz (.comp (.tp2 (.nm 5) (.nm 7)) (.zip (.var 2) (.var 3)) .no (.bin .sub (.bin .mul (.var 5) (.idx (.var 3) (.var 4))) (.bin .mul (.idx (.var 2) (.var 4)) (.var 7))))) .nil))) (.cons (.cond (.cmp .ne (.comp (.nm 5) (.seq (.var 2)) (.so (.cmp .ne (.var 5) (.int 0))) (.var 5)) (.lst .nil)) (.cons (.app 1 (.var 2)) .nil) .nil) .nil))) (.cons (.ret (.p1 .len (.var 1))) .nil)))⟩
def fd__law_ratio : FD := ⟨2, 4, (.cons (.par2 2 .fz 3 .fz (.p1 .abs (.var 0)) (.p1 .abs (.var 1))) (.cons (.whil (.cmp .ne (.var 3) (.int 0)) (.cons (.par2 2 .fz 3 .fz (.var 3) (.bin .mod (.var 2) (.var 3))) .nil)) (.cons (.set 2 .fz (.ite (.cmp .gt (.var 1) (.int 0)) (.var 2) (.bin .sub (.int 0) (.var 2)))) (.cons (.ret (.tup (.cons (.bin .fdiv (.var 0) (.var 2)) (.cons (.bin .fdiv (.var 1) (.var 2)) .nil)))) .nil))))⟩
def fd__law_results : FD := ⟨4, 5, (.cons (.set 4 .fz (.lst (.cons (.call (.fn 108) (.cons (.var 0) .nil)) (.cons (.call (.fn 120) (.cons (.var 0) .nil)) (.cons (.call (.fn 44) (.cons (.var 0) (.cons (.var 2) .nil))) (.cons (.call (.fn 115) (.cons (.var 0) (.cons (.var 2) .nil))) (.cons (.call (.fn 89) (.cons (.var 0) (.cons (.var 2) .nil))) .nil))))))) (.cons (.set 4 .fz (.bin .add (.var 4) (.lst (.cons (.call (.fn 66) (.cons (.var 0) (.cons (.var 3) .nil))) (.cons (.call (.fn 92) (.cons (.var 0) (.cons (.var 3) .nil))) (.cons (.call (.fn 118) (.cons (.var 0) .nil)) (.cons (.call (.fn 67) (.cons (.var 0) (.cons (.var 3) .nil))) .nil))))))) (.cons (.set 4 .fz (.bin .add (.var 4) (.lst (.cons (.call (.fn 96) (.cons (.var 0) (.cons (.var 3) .nil))) (.cons (.call (.fn 90) (.cons (.var 1) (.cons (.var 2) .nil))) (.cons (.call (.fn 46) (.cons (.var 1) (.cons (.var 2) .nil))) .nil)))))) (.cons (.ret (.bin .add (.var 4) (.lst (.cons (.call (.fn 41) (.cons (.var 1) (.cons (.var 2) .nil))) (.cons (.call (.fn 69) (.cons (.var 0) .nil)) (.cons (.call (.fn 42) (.cons (.var 0) (.cons (.int 1) .nil))) (.cons (.call (.fn 45) (.cons (.int 2) (.cons (.int 3) (.cons (.str "one") (.cons (.str "worst") .nil))))) .nil))))))) .nil))))⟩
def fd__law_sets : FD := ⟨2, 7, (.cons (.set 2 .fz (.lst (.cons (.tup .nil) .nil))) (.cons (.forr (.nm 3) (.rng1 (.var 1)) (.cons (.set 4 .fz (.lst .nil)) (.cons (.forr (.nm 5) (.seq (.var 2)) (.cons (.set 4 .fz (.bin .add (.var 4) (.comp (.nm 6) (.rng1 (.var 0)) (.so (.bo false (.cons (.cmp .eq (.var 5) (.tup .nil)) (.cons (.cmp .lt (.idx (.var 5) (.neg (.int 1))) (.var 6)) .nil)))) (.bin .add (.var 5) (.tup (.cons (.var 6) .nil)))))) .nil)) (.cons (.set 2 .fz (.var 4)) .nil)))) (.cons (.ret (.var 2)) .nil)))⟩
def fd__law_settling : FD := ⟨4, 9, (.cons (.set 4 .own (.lst .nil)) (.cons (.forr (.nm 5) (.rng1 (.var 2)) (.cons (.set 7 .own (.bin .mul (.lst (.cons (.int 0) .nil)) (.var 2))) (.cons (.six 7 (.var 5) (.int 1)) (.cons (.forr (.nm 8) (.rng1 (.var 5)) (.cons (.six 7 (.var 8) (.bin .sub (.call (.fn 7) (.cons (.var 0) (.cons (.var 1) (.cons (.int 3) .nil)))) (.int 1))) .nil)) (.cons (.app 4 (.p1 .tuple (.var 7))) .nil))))) (.cons (.forr (.nm 6) (.rng1 (.call (.fn 7) (.cons (.var 0) (.cons (.var 1) (.cons (.bin .add (.p2 .min (.var 3) (.bin .sub (.int 8) (.var 2))) (.int 1)) .nil))))) (.cons (.app 4 (.call (.fn 34) (.cons (.var 0) (.cons (.var 1) (.cons (.var 2) .nil))))) .nil)) (.cons (.ret (.p1 .tuple (.var 4))) .nil))))⟩
def fd__law_shares_spread : FD := ⟨1, 4, (.cons (.set 1 .fz (.tup (.cons (.int 0) (.cons (.int 1) .nil)))) (.cons (.forr (.tp2 (.nm 2) (.nm 3)) (.seq (.var 0)) (.cons (.cond (.cmp .gt (.idx (.var 2) (.int 0)) (.int 0)) (.cons (.set 1 .fz (.call (.fn 19) (.cons (.var 1) (.cons (.call (.fn 29) (.cons (.call (.fn 29) (.cons (.var 3) (.cons (.var 3) .nil))) (.cons (.tup (.cons (.idx (.var 2) (.int 1)) (.cons (.idx (.var 2) (.int 0)) .nil))) .nil))) .nil)))) .nil) .nil) .nil)) (.cons (.ret (.var 1)) .nil)))⟩
def fd__law_squares : FD := ⟨1, 3, (.cons (.set 1 .fz (.tup (.cons (.int 0) (.cons (.int 1) .nil)))) (.cons (.forr (.nm 2) (.seq (.var 0)) (.cons (.set 1 .fz (.call (.fn 19) (.cons (.var 1) (.cons (.call (.fn 29) (.cons (.var 2) (.cons (.var 2) .nil))) .nil)))) .nil)) (.cons (.ret (.var 1)) .nil)))⟩
def fd__law_sum_of : FD := ⟨1, 3, (.cons (.set 1 .fz (.tup (.cons (.int 0) (.cons (.int 1) .nil)))) (.cons (.forr (.nm 2) (.seq (.var 0)) (.cons (.set 1 .fz (.call (.fn 19) (.cons (.var 1) (.cons (.var 2) .nil)))) .nil)) (.cons (.ret (.var 1)) .nil)))⟩
def fd__law_times : FD := ⟨2, 2, (.cons (.ret (.call (.fn 22) (.cons (.bin .mul (.idx (.var 0) (.int 0)) (.idx (.var 1) (.int 0))) (.cons (.bin .mul (.idx (.var 0) (.int 1)) (.idx (.var 1) (.int 1))) .nil)))) .nil)⟩
def fd__law_town : FD := ⟨1, 1, (.cons (.ret (.bin .add (.lst (.cons (.int 0) .nil)) (.p1 .list (.var 0)))) .nil)⟩
def fd__law_unit : FD := ⟨2, 3, (.cons (.ret (.p1 .tuple (.comp (.nm 2) (.rng1 (.var 0)) .no (.p1 .int (.cmp .eq (.var 2) (.var 1)))))) .nil)⟩
def fd__law_value : FD := ⟨2, 8, (.cons (.set 2 .fz (.call (.fn 120) (.cons (.var 0) .nil))) (.cons (.cond (.cmp .eq (.var 1) (.str "whole")) (.cons (.ret (.call (.fn 6) (.cons (.comp (.nm 7) (.seq (.var 2)) .no (.p1 .list (.var 7))) .nil))) .nil) .nil) (.cons (.set 3 .fz (.comp (.nm 6) (.rng1 (.p1 .len (.var 2))) .no (.idx (.idx (.var 2) (.var 6)) (.var 6)))) (.cons (.cond (.cmp .eq (.var 1) (.str "sum")) (.cons (.ret (.call (.fn 28) (.cons (.var 3) .nil))) .nil) .nil) (.cons (.set 4 .fz (.idx (.var 3) (.int 0))) (.cons (.forr (.nm 5) (.seq (.var 3)) (.cons (.set 4 .fz (.ite (.call (.fn 3) (.cons (.var 4) (.cons (.var 5) .nil))) (.var 5) (.var 4))) .nil)) (.cons (.ret (.var 4)) .nil)))))))⟩
def fd__law_wanted : FD := ⟨3, 6, (.cons (.set 3 .fz (.call (.fn 17) (.cons (.var 0) (.cons (.var 1) (.cons (.lst (.cons (.lst (.cons (.int 0) (.cons (.int 1) .nil))) (.cons (.lst (.cons (.int 0) (.cons (.int 1) (.cons (.int 1) (.cons (.neg (.int 1)) .nil))))) (.cons (.lst (.cons (.neg (.int 20)) (.cons (.neg (.int 3)) (.cons (.int 0) (.cons (.int 1) (.cons (.int 7) (.cons (.int 20) .nil))))))) .nil)))) .nil))))) (.cons (.set 4 .own (.comp (.nm 5) (.rng1 (.var 2)) .no (.call (.fn 17) (.cons (.var 0) (.cons (.var 1) (.cons (.var 3) .nil)))))) (.cons (.cond (.cmp .eq (.var 4) (.bin .mul (.lst (.cons (.int 0) .nil)) (.var 2))) (.cons (.six 4 (.int 0) (.int 1)) .nil) .nil) (.cons (.ret (.p1 .tuple (.var 4))) .nil))))⟩
def fd__law_weighing : FD := ⟨3, 6, (.cons (.set 3 .fz (.bin .sub (.call (.fn 7) (.cons (.var 0) (.cons (.var 1) (.cons (.int 2) .nil)))) (.int 1))) (.cons (.set 4 .own (.comp (.nm 5) (.rng1 (.var 2)) .no (.bin .add (.var 3) (.call (.fn 7) (.cons (.var 0) (.cons (.var 1) (.cons (.bin .sub (.int 2) (.var 3)) .nil))))))) (.cons (.cond (.cmp .eq (.var 4) (.bin .mul (.lst (.cons (.int 0) .nil)) (.var 2))) (.cons (.six 4 (.call (.fn 7) (.cons (.var 0) (.cons (.var 1) (.cons (.var 2) .nil)))) (.int 1)) .nil) .nil) (.cons (.ret (.p1 .tuple (.var 4))) .nil))))⟩
def fd__law_without : FD := ⟨2, 3, (.cons (.ret (.p1 .tuple (.comp (.nm 2) (.rng1 (.p1 .len (.var 0))) (.so (.cmp .notin (.var 2) (.var 1))) (.idx (.var 0) (.var 2))))) .nil)⟩
def fd__wall : FD := ⟨1, 1, (.cons (.whil (.bl true) (.cons .pas .nil)) .nil)⟩
def fd_all_weighings : FD := ⟨2, 2, (.cons (.ex (.call (.fn 58) (.cons (.var 0) .nil))) (.cons (.ex (.call (.fn 56) (.cons (.var 1) .nil))) (.cons (.ret (.p1 .tuple (.call (.fn 75) (.cons (.var 0) (.cons (.var 1) .nil))))) .nil)))⟩
def fd_are_shares : FD := ⟨3, 7, (.cons (.cond (.bo false (.cons (.not (.p2 .isin (.var 2) (.ty "tuple"))) (.cons (.cmp .ne (.p1 .len (.var 2)) (.p1 .len (.var 0))) (.cons (.not (.p1 .all (.comp (.nm 5) (.seq (.var 2)) .no (.call (.fn 85) (.cons (.var 5) .nil))))) .nil)))) (.cons (.ret (.bl false)) .nil) .nil) (.cons (.cond (.cmp .ne (.call (.fn 119) (.cons (.comp (.nm 5) (.seq (.var 2)) .no (.idx (.var 5) (.int 0))) .nil)) (.tup (.cons (.int 1) (.cons (.int 1) .nil)))) (.cons (.ret (.bl false)) .nil) .nil) (.cons (.forr (.tp2 (.nm 3) (.nm 4)) (.enum (.var 1)) (.cons (.cond (.cmp .ne (.call (.fn 91) (.cons (.comp (.nm 6) (.seq (.var 0)) .no (.idx (.var 6) (.var 3))) (.cons (.comp (.nm 5) (.seq (.var 2)) .no (.idx (.var 5) (.int 1))) .nil))) (.tup (.cons (.var 4) (.cons (.int 1) .nil)))) (.cons (.ret (.bl false)) .nil) .nil) .nil)) (.cons (.ret (.bl true)) .nil))))⟩
def fd_are_weighings : FD := ⟨2, 3, (.cons (.cond (.bo false (.cons (.not (.p2 .isin (.var 0) (.ty "tuple"))) (.cons (.not (.chn .le .le (.int 1) (.p1 .len (.var 0)) (.var 1))) (.cons (.not (.p2 .isin (.idx (.var 0) (.int 0)) (.ty "tuple"))) .nil)))) (.cons (.ret (.bl false)) .nil) .nil) (.cons (.ret (.bo true (.cons (.chn .le .le (.int 1) (.p1 .len (.idx (.var 0) (.int 0))) (.int 4)) (.cons (.p1 .all (.comp (.nm 2) (.seq (.var 0)) .no (.call (.fn 87) (.cons (.p1 .len (.idx (.var 0) (.int 0))) (.cons (.var 2) .nil))))) .nil)))) .nil))⟩
def fd_barrier : FD := ⟨2, 2, (.cons (.ret (.p1 .tuple (.idx (.call (.fn 112) (.cons (.var 0) (.cons (.var 1) .nil))) (.int 1)))) .nil)⟩
def fd_bears : FD := ⟨2, 2, (.cons (.ex (.call (.fn 53) (.cons (.var 0) .nil))) (.cons (.cond (.not (.call (.fn 81) (.cons (.var 1) (.cons (.int 0) (.cons (.int 8) .nil))))) (.cons (.rais 11) .nil) .nil) (.cons (.ret (.call (.fn 64) (.cons (.var 0) (.cons (.var 1) .nil)))) .nil)))⟩
def fd_beside : FD := ⟨2, 2, (.cons (.ex (.call (.fn 53) (.cons (.var 0) .nil))) (.cons (.ex (.call (.fn 53) (.cons (.var 1) .nil))) (.cons (.cond (.cmp .ne (.p1 .len (.idx (.var 0) (.int 0))) (.p1 .len (.idx (.var 1) (.int 0)))) (.cons (.rais 14) .nil) .nil) (.cons (.cond (.cmp .gt (.bin .add (.p1 .len (.var 0)) (.p1 .len (.var 1))) (.int 8)) (.cons (.rais 19) .nil) .nil) (.cons (.ret (.bin .add (.var 0) (.var 1))) .nil)))))⟩
def fd_best_factors : FD := ⟨2, 4, (.cons (.set 2 .fz (.call (.fn 59) (.cons (.var 0) (.cons (.var 1) .nil)))) (.cons (.ret (.p1 .tuple (.comp (.nm 3) (.seq (.var 0)) .no (.call (.fn 91) (.cons (.var 3) (.cons (.var 2) .nil)))))) .nil))⟩
def fd_best_plan : FD := ⟨4, 4, (.cons (.ret (.idx (.call (.fn 70) (.cons (.var 0) (.cons (.var 1) (.cons (.var 2) (.cons (.var 3) .nil))))) (.int 0))) .nil)⟩
def fd_best_shares : FD := ⟨2, 7, (.cons (.unp (.tp3 (.tp2 (.nm 4) (.nm 5)) (.nm 2) (.nm 3)) (.call (.fn 112) (.cons (.var 0) (.cons (.var 1) .nil)))) (.cons (.ret (.p1 .tuple (.comp (.nm 6) (.seq (.var 3)) .no (.tup (.cons (.call (.fn 48) (.cons (.tup (.cons (.p1 .abs (.idx (.var 6) (.int 0))) (.cons (.idx (.var 6) (.int 1)) .nil))) (.cons (.tup (.cons (.var 5) (.cons (.var 4) .nil))) .nil))) (.cons (.var 6) .nil)))))) .nil))⟩
def fd_best_value : FD := ⟨4, 4, (.cons (.ret (.idx (.call (.fn 70) (.cons (.var 0) (.cons (.var 1) (.cons (.var 2) (.cons (.var 3) .nil))))) (.int 1))) .nil)⟩
def fd_by_factor : FD := ⟨2, 2, (.cons (.ret (.call (.fn 77) (.cons (.bin .mul (.idx (.var 0) (.int 0)) (.idx (.var 1) (.int 0))) (.cons (.bin .mul (.idx (.var 0) (.int 1)) (.idx (.var 1) (.int 1))) .nil)))) .nil)⟩
def fd_can_tell : FD := ⟨2, 2, (.cons (.ex (.call (.fn 53) (.cons (.var 0) .nil))) (.cons (.ex (.call (.fn 57) (.cons (.p1 .len (.idx (.var 0) (.int 0))) (.cons (.var 1) .nil)))) (.cons (.ret (.cmp .isnot (.call (.fn 72) (.cons (.var 0) (.cons (.var 1) .nil))) .non)) .nil)))⟩
def fd_check_both_estimates : FD := ⟨2, 2, (.cons (.ex (.call (.fn 53) (.cons (.var 0) .nil))) (.cons (.ex (.call (.fn 54) (.cons (.var 0) (.cons (.var 1) .nil)))) (.cons (.ex (.call (.fn 55) (.cons (.var 0) .nil))) .nil)))⟩
def fd_check_both_shares : FD := ⟨2, 2, (.cons (.ex (.call (.fn 52) (.cons (.var 0) .nil))) (.cons (.ex (.call (.fn 57) (.cons (.p1 .len (.idx (.var 0) (.int 0))) (.cons (.var 1) .nil)))) .nil))⟩
def fd_check_list : FD := ⟨1, 1, (.cons (.cond (.not (.call (.fn 83) (.cons (.var 0) .nil))) (.cons (.rais 2) .nil) .nil) .nil)⟩
def fd_check_plan : FD := ⟨1, 1, (.cons (.cond (.not (.call (.fn 84) (.cons (.var 0) .nil))) (.cons (.rais 1) .nil) .nil) .nil)⟩
def fd_check_results : FD := ⟨2, 3, (.cons (.cond (.bo false (.cons (.not (.p2 .isin (.var 1) (.ty "tuple"))) (.cons (.cmp .ne (.p1 .len (.var 1)) (.p1 .len (.var 0))) (.cons (.not (.p1 .all (.comp (.nm 2) (.seq (.var 1)) .no (.call (.fn 82) (.cons (.var 2) .nil))))) .nil)))) (.cons (.rais 4) .nil) .nil) .nil)⟩
def fd_check_settled : FD := ⟨1, 1, (.cons (.ex (.call (.fn 53) (.cons (.var 0) .nil))) (.cons (.cond (.not (.call (.fn 65) (.cons (.var 0) .nil))) (.cons (.rais 16) .nil) .nil) .nil))⟩
def fd_check_sort : FD := ⟨1, 1, (.cons (.cond (.bo false (.cons (.not (.p2 .isin (.var 0) (.ty "str"))) (.cons (.cmp .notin (.var 0) (.tup (.cons (.str "both") (.cons (.str "one") .nil)))) .nil))) (.cons (.rais 6) .nil) .nil) .nil)⟩
def fd_check_sum : FD := ⟨2, 3, (.cons (.cond (.bo false (.cons (.not (.p2 .isin (.var 1) (.ty "tuple"))) (.cons (.cmp .ne (.p1 .len (.var 1)) (.var 0)) (.cons (.not (.p1 .all (.comp (.nm 2) (.seq (.var 1)) .no (.call (.fn 81) (.cons (.var 2) (.cons (.neg (.int 20)) (.cons (.int 20) .nil))))))) .nil)))) (.cons (.rais 3) .nil) .nil) (.cons (.cond (.not (.p1 .any (.var 1))) (.cons (.rais 3) .nil) .nil) .nil))⟩
def fd_check_things : FD := ⟨1, 1, (.cons (.cond (.not (.call (.fn 81) (.cons (.var 0) (.cons (.int 1) (.cons (.int 4) .nil))))) (.cons (.rais 5) .nil) .nil) .nil)⟩
def fd_checked_leading : FD := ⟨2, 3, (.cons (.ex (.call (.fn 53) (.cons (.var 0) .nil))) (.cons (.ex (.call (.fn 57) (.cons (.p1 .len (.idx (.var 0) (.int 0))) (.cons (.var 1) .nil)))) (.cons (.set 2 .fz (.call (.fn 72) (.cons (.var 0) (.cons (.var 1) .nil)))) (.cons (.cond (.cmp .is (.var 2) .non) (.cons (.rais 15) .nil) .nil) (.cons (.ret (.var 2)) .nil)))))⟩
def fd_cleared : FD := ⟨3, 7, (.cons (.par2 3 .fz 4 .fz (.idx (.var 0) (.var 2)) (.idx (.var 1) (.var 2))) (.cons (.cond (.cmp .eq (.var 3) (.int 0)) (.cons (.ret (.var 0)) .nil) .nil) (.cons (.ret (.call (.fn 110) (.cons (.comp (.tp2 (.nm 5) (.nm 6)) (.zip (.var 0) (.var 1)) .no (.bin .sub (.bin .mul (.var 5) (.var 4)) (.bin .mul (.var 3) (.var 6)))) .nil))) .nil)))⟩
def fd_count_of : FD := ⟨2, 4, (.cons (.set 2 .fz (.int 1)) (.cons (.forr (.nm 3) (.rng1 (.var 1)) (.cons (.set 2 .fz (.bin .fdiv (.bin .mul (.var 2) (.bin .add (.var 0) (.var 3))) (.bin .add (.var 3) (.int 1)))) .nil)) (.cons (.ret (.var 2)) .nil)))⟩
def fd_determinant : FD := ⟨1, 6, (.cons (.cond (.cmp .eq (.p1 .len (.var 0)) (.int 0)) (.cons (.ret (.int 1)) .nil) .nil) (.cons (.set 1 .fz (.int 0)) (.cons (.forr (.tp2 (.nm 2) (.nm 3)) (.enum (.idx (.var 0) (.int 0))) (.cons (.cond (.cmp .ne (.var 3) (.int 0)) (.cons (.set 4 .fz (.comp (.nm 5) (.seq (.slc (.var 0) (.so (.int 1)) .no)) .no (.bin .add (.slc (.var 5) .no (.so (.var 2))) (.slc (.var 5) (.so (.bin .add (.var 2) (.int 1))) .no)))) (.cons (.set 1 .fz (.bin .add (.var 1) (.bin .mul (.ite (.cmp .eq (.bin .mod (.var 2) (.int 2)) (.int 0)) (.var 3) (.neg (.var 3))) (.call (.fn 62) (.cons (.var 4) .nil))))) .nil)) .nil) .nil)) (.cons (.ret (.var 1)) .nil))))⟩
def fd_divisor_of : FD := ⟨2, 2, (.cons (.par2 0 .fz 1 .fz (.p1 .abs (.var 0)) (.p1 .abs (.var 1))) (.cons (.whil (.cmp .ne (.var 1) (.int 0)) (.cons (.par2 0 .fz 1 .fz (.var 1) (.bin .mod (.var 0) (.var 1))) .nil)) (.cons (.ret (.var 0)) .nil)))⟩
def fd_does_bear : FD := ⟨2, 3, (.cons (.cond (.cmp .le (.p1 .len (.var 0)) (.var 1)) (.cons (.ret (.bl false)) .nil) .nil) (.cons (.ret (.p1 .all (.comp (.nm 2) (.seq (.call (.fn 114) (.cons (.p1 .len (.var 0)) (.cons (.var 1) .nil)))) .no (.call (.fn 65) (.cons (.call (.fn 93) (.cons (.var 0) (.cons (.var 2) .nil))) .nil))))) .nil))⟩
def fd_does_settle : FD := ⟨1, 1, (.cons (.ret (.cmp .eq (.call (.fn 103) (.cons (.var 0) .nil)) (.p1 .len (.idx (.var 0) (.int 0))))) .nil)⟩
def fd_estimates : FD := ⟨2, 2, (.cons (.ex (.call (.fn 50) (.cons (.var 0) (.cons (.var 1) .nil)))) (.cons (.ret (.p1 .tuple (.call (.fn 71) (.cons (.var 0) (.cons (.var 1) .nil))))) .nil))⟩
def fd_fewest_wrong : FD := ⟨2, 2, (.cons (.ex (.call (.fn 50) (.cons (.var 0) (.cons (.var 1) .nil)))) (.cons (.ret (.call (.fn 76) (.cons (.var 0) (.cons (.var 1) .nil)))) .nil))⟩
def fd_first_place : FD := ⟨1, 3, (.cons (.ret (.idx (.comp (.tp2 (.nm 1) (.nm 2)) (.enum (.var 0)) (.so (.cmp .ne (.var 2) (.int 0))) (.var 1)) (.int 0))) .nil)⟩
def fd_format_plan : FD := ⟨1, 1, (.cons (.ex (.call (.fn 53) (.cons (.var 0) .nil))) (.cons (.ret (.call (.fn 101) (.cons (.var 0) .nil))) .nil))⟩
def fd_found_best : FD := ⟨4, 13, (.cons (.ex (.call (.fn 58) (.cons (.var 0) .nil))) (.cons (.cond (.not (.call (.fn 81) (.cons (.var 1) (.cons (.var 0) (.cons (.int 8) .nil))))) (.cons (.rais 11) .nil) .nil) (.cons (.ex (.call (.fn 56) (.cons (.var 2) .nil))) (.cons (.cond (.bo false (.cons (.not (.p2 .isin (.var 3) (.ty "str"))) (.cons (.cmp .notin (.var 3) (.tup (.cons (.str "sum") (.cons (.str "worst") (.cons (.str "whole") .nil))))) .nil))) (.cons (.rais 7) .nil) .nil) (.cons (.set 4 .fz (.call (.fn 111) (.cons (.var 0) (.cons (.var 2) .nil)))) (.cons (.cond (.cmp .gt (.call (.fn 61) (.cons (.p1 .len (.var 4)) (.cons (.var 1) .nil))) (.int 3100)) (.cons (.rais 19) .nil) .nil) (.cons (.set 5 .fz (.lst (.cons (.tup .nil) .nil))) (.cons (.forr (.nm 6) (.rng1 (.var 1)) (.cons (.set 5 .fz (.comp2 (.nm 7) (.seq (.var 5)) (.nm 12) (.rng1 (.p1 .len (.var 4))) (.so (.bo false (.cons (.cmp .eq (.var 7) (.tup .nil)) (.cons (.cmp .le (.idx (.var 7) (.neg (.int 1))) (.var 12)) .nil)))) (.bin .add (.var 7) (.tup (.cons (.var 12) .nil))))) .nil)) (.cons (.par2 8 .fz 9 .fz .non .non) (.cons (.forr (.nm 7) (.seq (.var 5)) (.cons (.set 10 .fz (.p1 .tuple (.comp (.nm 12) (.seq (.var 7)) .no (.idx (.var 4) (.var 12))))) (.cons (.set 11 .fz (.call (.fn 122) (.cons (.var 10) (.cons (.var 3) .nil)))) (.cons (.cond (.bo true (.cons (.cmp .isnot (.var 11) .non) (.cons (.bo false (.cons (.cmp .is (.var 8) .non) (.cons (.call (.fn 80) (.cons (.var 11) (.cons (.var 8) .nil))) .nil))) .nil))) (.cons (.par2 8 .fz 9 .fz (.var 11) (.var 10)) .nil) .nil) .nil)))) (.cons (.ret (.tup (.cons (.var 9) (.cons (.var 8) .nil)))) .nil)))))))))))⟩
def fd_found_estimates : FD := ⟨2, 7, (.cons (.set 2 .own (.lst .nil)) (.cons (.forr (.nm 3) (.rng1 (.p1 .len (.idx (.var 0) (.int 0)))) (.cons (.app 2 (.call (.fn 91) (.cons (.comp (.nm 4) (.seq (.var 0)) .no (.idx (.var 4) (.var 3))) (.cons (.var 1) .nil)))) .nil)) (.cons (.ret (.comp (.nm 4) (.seq (.call (.fn 74) (.cons (.var 0) .nil))) .no (.call (.fn 119) (.cons (.comp (.tp2 (.nm 5) (.nm 6)) (.zip (.var 4) (.var 2)) .no (.call (.fn 48) (.cons (.var 5) (.cons (.var 6) .nil)))) .nil)))) .nil)))⟩
def fd_found_leading : FD := ⟨2, 5, (.cons (.set 2 .fz (.comp (.tp2 (.nm 3) (.nm 4)) (.zip (.call (.fn 117) (.cons (.var 0) .nil)) (.var 1)) .no (.bin .add (.var 3) (.lst (.cons (.var 4) .nil))))) (.cons (.ret (.call (.fn 113) (.cons (.var 2) .nil))) .nil))⟩
def fd_found_strength : FD := ⟨1, 4, (.cons (.forr (.nm 1) (.rng2 (.int 1) (.bin .add (.p1 .len (.var 0)) (.int 1))) (.cons (.forr (.nm 2) (.seq (.call (.fn 114) (.cons (.p1 .len (.var 0)) (.cons (.var 1) .nil)))) (.cons (.set 3 .fz (.call (.fn 93) (.cons (.var 0) (.cons (.var 2) .nil)))) (.cons (.cond (.bo false (.cons (.cmp .eq (.var 3) (.tup .nil)) (.cons (.not (.call (.fn 65) (.cons (.var 3) .nil))) .nil))) (.cons (.ret (.var 1)) .nil) .nil) .nil))) .nil)) (.cons (.ret (.int 0)) .nil))⟩
def fd_found_ties : FD := ⟨1, 9, (.cons (.set 1 .fz (.call (.fn 117) (.cons (.var 0) .nil))) (.cons (.par2 4 .fz 5 .fz (.call (.fn 62) (.cons (.var 1) .nil)) (.p1 .len (.var 1))) (.cons (.set 2 .own (.lst .nil)) (.cons (.forr (.nm 3) (.rng1 (.var 5)) (.cons (.set 6 .own (.lst .nil)) (.cons (.forr (.nm 7) (.rng1 (.var 5)) (.cons (.set 8 .fz (.call (.fn 62) (.cons (.call (.fn 124) (.cons (.var 1) (.cons (.var 7) (.cons (.var 3) .nil)))) .nil))) (.cons (.app 6 (.call (.fn 77) (.cons (.ite (.cmp .eq (.bin .mod (.bin .add (.var 3) (.var 7)) (.int 2)) (.int 0)) (.var 8) (.neg (.var 8))) (.cons (.var 4) .nil)))) .nil))) (.cons (.app 2 (.p1 .tuple (.var 6))) .nil)))) (.cons (.ret (.var 2)) .nil)))))⟩
def fd_found_weighings : FD := ⟨2, 7, (.cons (.par2 3 .fz 4 .fz (.ite (.cmp .eq (.var 1) (.str "both")) (.neg (.int 1)) (.int 0)) (.lst (.cons (.tup .nil) .nil))) (.cons (.forr (.nm 2) (.rng1 (.var 0)) (.cons (.set 4 .fz (.comp2 (.nm 5) (.seq (.var 4)) (.nm 6) (.rng2 (.var 3) (.int 2)) .no (.bin .add (.var 5) (.tup (.cons (.var 6) .nil))))) .nil)) (.cons (.ret (.comp (.nm 5) (.seq (.var 4)) (.so (.p1 .any (.var 5))) (.var 5))) .nil)))⟩
def fd_found_wrong : FD := ⟨2, 4, (.cons (.forr (.nm 2) (.rng1 (.bin .add (.p1 .len (.var 0)) (.int 1))) (.cons (.forr (.nm 3) (.seq (.call (.fn 114) (.cons (.p1 .len (.var 0)) (.cons (.var 2) .nil)))) (.cons (.cond (.cmp .isnot (.call (.fn 123) (.cons (.var 0) (.cons (.var 1) (.cons (.var 3) .nil)))) .non) (.cons (.ret (.var 3)) .nil) .nil) .nil)) .nil)) (.cons (.ret .non) .nil))⟩
def fd_fraction : FD := ⟨2, 3, (.cons (.set 2 .fz (.call (.fn 63) (.cons (.var 0) (.cons (.var 1) .nil)))) (.cons (.set 2 .fz (.ite (.cmp .gt (.var 1) (.int 0)) (.var 2) (.neg (.var 2)))) (.cons (.ret (.tup (.cons (.bin .fdiv (.var 0) (.var 2)) (.cons (.bin .fdiv (.var 1) (.var 2)) .nil)))) .nil)))⟩
def fd_independent : FD := ⟨1, 4, (.cons (.set 1 .fz (.lst .nil)) (.cons (.forr (.nm 2) (.seq (.var 0)) (.cons (.set 2 .fz (.call (.fn 104) (.cons (.p1 .list (.var 2)) (.cons (.var 1) .nil)))) (.cons (.cond (.p1 .any (.var 2)) (.cons (.set 1 .fz (.bin .add (.comp (.nm 3) (.seq (.var 1)) .no (.call (.fn 104) (.cons (.var 3) (.cons (.lst (.cons (.var 2) .nil)) .nil)))) (.lst (.cons (.var 2) .nil)))) .nil) .nil) .nil))) (.cons (.ret (.var 1)) .nil)))⟩
def fd_is_barrier : FD := ⟨4, 9, (.cons (.ex (.call (.fn 51) (.cons (.var 0) (.cons (.var 1) .nil)))) (.cons (.cond (.not (.call (.fn 82) (.cons (.var 2) .nil))) (.cons (.rais 8) .nil) .nil) (.cons (.cond (.bo false (.cons (.not (.p2 .isin (.var 3) (.ty "tuple"))) (.cons (.cmp .ne (.p1 .len (.var 3)) (.p1 .len (.var 1))) (.cons (.not (.p1 .all (.comp (.nm 8) (.seq (.var 3)) .no (.call (.fn 82) (.cons (.var 8) .nil))))) .nil)))) (.cons (.ret (.bl false)) .nil) .nil) (.cons (.forr (.nm 4) (.seq (.var 0)) (.cons (.unp (.tp2 (.nm 6) (.nm 7)) (.call (.fn 91) (.cons (.var 4) (.cons (.var 3) .nil)))) (.cons (.cond (.cmp .gt (.p1 .abs (.var 6)) (.var 7)) (.cons (.ret (.bl false)) .nil) .nil) .nil))) (.cons (.set 5 .fz (.call (.fn 91) (.cons (.var 1) (.cons (.var 3) .nil)))) (.cons (.ret (.not (.call (.fn 80) (.cons (.call (.fn 48) (.cons (.var 5) (.cons (.var 5) .nil))) (.cons (.var 2) .nil))))) .nil))))))⟩
def fd_is_below : FD := ⟨2, 2, (.cons (.ret (.cmp .lt (.bin .mul (.idx (.var 0) (.int 0)) (.idx (.var 1) (.int 1))) (.bin .mul (.idx (.var 1) (.int 0)) (.idx (.var 0) (.int 1))))) .nil)⟩
def fd_is_between : FD := ⟨3, 3, (.cons (.ret (.bo true (.cons (.p2 .isin (.var 0) (.ty "int")) (.cons (.not (.p2 .isin (.var 0) (.ty "bool"))) (.cons (.chn .le .le (.var 1) (.var 0) (.var 2)) .nil))))) .nil)⟩
def fd_is_fraction : FD := ⟨1, 2, (.cons (.cond (.bo false (.cons (.not (.p2 .isin (.var 0) (.ty "tuple"))) (.cons (.cmp .ne (.p1 .len (.var 0)) (.int 2)) .nil))) (.cons (.ret (.bl false)) .nil) .nil) (.cons (.cond (.not (.p1 .all (.comp (.nm 1) (.seq (.var 0)) .no (.bo true (.cons (.p2 .isin (.var 1) (.ty "int")) (.cons (.not (.p2 .isin (.var 1) (.ty "bool"))) .nil)))))) (.cons (.ret (.bl false)) .nil) .nil) (.cons (.ret (.bo true (.cons (.cmp .gt (.idx (.var 0) (.int 1)) (.int 0)) (.cons (.cmp .eq (.call (.fn 63) (.cons (.idx (.var 0) (.int 0)) (.cons (.idx (.var 0) (.int 1)) .nil))) (.int 1)) .nil)))) .nil)))⟩
def fd_is_list : FD := ⟨1, 2, (.cons (.ret (.bo true (.cons (.call (.fn 40) (.cons (.var 0) (.cons (.int 12) .nil))) (.cons (.p1 .all (.comp (.nm 1) (.rng1 (.bin .sub (.p1 .len (.var 0)) (.int 1))) .no (.cmp .lt (.idx (.var 0) (.var 1)) (.idx (.var 0) (.bin .add (.var 1) (.int 1)))))) .nil)))) .nil)⟩
def fd_is_plan : FD := ⟨1, 1, (.cons (.ret (.call (.fn 40) (.cons (.var 0) (.cons (.int 8) .nil)))) .nil)⟩
def fd_is_share : FD := ⟨1, 1, (.cons (.cond (.bo false (.cons (.not (.p2 .isin (.var 0) (.ty "tuple"))) (.cons (.cmp .ne (.p1 .len (.var 0)) (.int 2)) (.cons (.not (.call (.fn 82) (.cons (.idx (.var 0) (.int 0)) .nil))) (.cons (.not (.call (.fn 82) (.cons (.idx (.var 0) (.int 1)) .nil))) .nil))))) (.cons (.ret (.bl false)) .nil) .nil) (.cons (.ret (.bo false (.cons (.cmp .gt (.idx (.idx (.var 0) (.int 0)) (.int 0)) (.int 0)) (.cons (.cmp .eq (.var 0) (.tup (.cons (.tup (.cons (.int 0) (.cons (.int 1) .nil))) (.cons (.tup (.cons (.int 0) (.cons (.int 1) .nil))) .nil)))) .nil)))) .nil))⟩
def fd_is_shares : FD := ⟨3, 3, (.cons (.ex (.call (.fn 51) (.cons (.var 0) (.cons (.var 1) .nil)))) (.cons (.ret (.call (.fn 39) (.cons (.var 0) (.cons (.var 1) (.cons (.var 2) .nil))))) .nil))⟩
def fd_is_weighing : FD := ⟨2, 3, (.cons (.cond (.bo false (.cons (.not (.p2 .isin (.var 1) (.ty "tuple"))) (.cons (.cmp .ne (.p1 .len (.var 1)) (.var 0)) (.cons (.not (.p1 .all (.comp (.nm 2) (.seq (.var 1)) .no (.call (.fn 81) (.cons (.var 2) (.cons (.neg (.int 1)) (.cons (.int 1) .nil))))))) .nil)))) (.cons (.ret (.bl false)) .nil) .nil) (.cons (.ret (.p1 .any (.var 1))) .nil))⟩
def fd_leading : FD := ⟨2, 2, (.cons (.ret (.p1 .tuple (.call (.fn 59) (.cons (.var 0) (.cons (.var 1) .nil))))) .nil)⟩
def fd_least_spread : FD := ⟨2, 3, (.cons (.set 2 .fz (.idx (.call (.fn 112) (.cons (.var 0) (.cons (.var 1) .nil))) (.int 0))) (.cons (.ret (.call (.fn 48) (.cons (.var 2) (.cons (.var 2) .nil)))) .nil))⟩
def fd_led : FD := ⟨2, 4, (.cons (.ret (.call (.fn 119) (.cons (.comp (.tp2 (.nm 2) (.nm 3)) (.zip (.var 0) (.var 1)) .no (.call (.fn 48) (.cons (.tup (.cons (.var 2) (.cons (.int 1) .nil))) (.cons (.var 3) .nil)))) .nil))) .nil)⟩
def fd_left_over : FD := ⟨2, 8, (.cons (.ex (.call (.fn 50) (.cons (.var 0) (.cons (.var 1) .nil)))) (.cons (.par2 3 .fz 4 .fz (.call (.fn 71) (.cons (.var 0) (.cons (.var 1) .nil))) (.tup (.cons (.int 0) (.cons (.int 1) .nil)))) (.cons (.set 2 .fz (.comp (.tp2 (.nm 5) (.nm 6)) (.zip (.var 0) (.var 1)) .no (.call (.fn 94) (.cons (.var 6) (.cons (.call (.fn 91) (.cons (.var 5) (.cons (.var 3) .nil))) .nil))))) (.cons (.ret (.call (.fn 119) (.cons (.bin .add (.lst (.cons (.var 4) .nil)) (.comp (.nm 7) (.seq (.var 2)) .no (.call (.fn 48) (.cons (.var 7) (.cons (.var 7) .nil))))) .nil))) .nil))))⟩
def fd_left_without : FD := ⟨2, 4, (.cons (.ret (.p1 .tuple (.comp (.tp2 (.nm 2) (.nm 3)) (.enum (.var 0)) (.so (.cmp .notin (.var 2) (.var 1))) (.var 3)))) .nil)⟩
def fd_less : FD := ⟨2, 2, (.cons (.ret (.call (.fn 102) (.cons (.var 0) (.cons (.call (.fn 98) (.cons (.var 1) .nil)) .nil)))) .nil)⟩
def fd_mended : FD := ⟨2, 3, (.cons (.ex (.call (.fn 50) (.cons (.var 0) (.cons (.var 1) .nil)))) (.cons (.set 2 .fz (.call (.fn 76) (.cons (.var 0) (.cons (.var 1) .nil)))) (.cons (.cond (.cmp .gt (.bin .mul (.int 2) (.p1 .len (.var 2))) (.bin .sub (.call (.fn 73) (.cons (.var 0) .nil)) (.int 1))) (.cons (.ret .non) .nil) .nil) (.cons (.ret (.p1 .tuple (.call (.fn 123) (.cons (.var 0) (.cons (.var 1) (.cons (.var 2) .nil)))))) .nil))))⟩
def fd_naive_spread : FD := ⟨3, 6, (.cons (.ex (.call (.fn 51) (.cons (.var 0) (.cons (.var 1) .nil)))) (.cons (.cond (.not (.call (.fn 81) (.cons (.var 2) (.cons (.int 1) (.cons (.int 4) .nil))))) (.cons (.rais 11) .nil) .nil) (.cons (.cond (.cmp .gt (.p1 .len (.var 0)) (.int 4)) (.cons (.rais 19) .nil) .nil) (.cons (.set 3 .fz .non) (.cons (.forr (.nm 4) (.seq (.call (.fn 100) (.cons (.p1 .len (.var 0)) (.cons (.var 2) .nil)))) (.cons (.set 5 .fz (.call (.fn 116) (.cons (.var 0) (.cons (.var 1) (.cons (.var 4) (.cons (.var 2) .nil)))))) (.cons (.cond (.bo true (.cons (.cmp .isnot (.var 5) .non) (.cons (.bo false (.cons (.cmp .is (.var 3) .non) (.cons (.call (.fn 80) (.cons (.var 5) (.cons (.var 3) .nil))) .nil))) .nil))) (.cons (.set 3 .fz (.var 5)) .nil) .nil) .nil))) (.cons (.ret (.var 3)) .nil))))))⟩
def fd_negative : FD := ⟨1, 1, (.cons (.ret (.tup (.cons (.neg (.idx (.var 0) (.int 0))) (.cons (.idx (.var 0) (.int 1)) .nil)))) .nil)⟩
def fd_parts_of : FD := ⟨2, 6, (.cons (.set 2 .fz (.lst (.cons (.tup .nil) .nil))) (.cons (.forr (.nm 3) (.rng1 (.var 0)) (.cons (.set 2 .fz (.comp2 (.nm 4) (.seq (.var 2)) (.nm 5) (.rng1 (.bin .add (.var 1) (.int 1))) (.so (.cmp .le (.bin .add (.p1 .sum (.var 4)) (.var 5)) (.var 1))) (.bin .add (.var 4) (.tup (.cons (.var 5) .nil))))) .nil)) (.cons (.ret (.comp (.nm 4) (.seq (.var 2)) (.so (.cmp .eq (.p1 .sum (.var 4)) (.var 1))) (.var 4))) .nil)))⟩
def fd_plus : FD := ⟨2, 2, (.cons (.ret (.call (.fn 77) (.cons (.bin .add (.bin .mul (.idx (.var 0) (.int 0)) (.idx (.var 1) (.int 1))) (.bin .mul (.idx (.var 1) (.int 0)) (.idx (.var 0) (.int 1)))) (.cons (.bin .mul (.idx (.var 0) (.int 1)) (.idx (.var 1) (.int 1))) .nil)))) .nil)⟩
def fd_rank : FD := ⟨1, 1, (.cons (.ret (.p1 .len (.call (.fn 78) (.cons (.var 0) .nil)))) .nil)⟩
def fd_reduced : FD := ⟨2, 6, (.cons (.forr (.nm 2) (.seq (.var 1)) (.cons (.set 3 .fz (.call (.fn 68) (.cons (.var 2) .nil))) (.cons (.cond (.cmp .ne (.idx (.var 0) (.var 3)) (.int 0)) (.cons (.set 0 .fz (.call (.fn 110) (.cons (.comp (.tp2 (.nm 4) (.nm 5)) (.zip (.var 0) (.var 2)) .no (.bin .sub (.bin .mul (.var 4) (.idx (.var 2) (.var 3))) (.bin .mul (.idx (.var 0) (.var 3)) (.var 5)))) .nil))) .nil) .nil) .nil))) (.cons (.ret (.var 0)) .nil))⟩
def fd_seen : FD := ⟨1, 1, (.cons (.ex (.call (.fn 55) (.cons (.var 0) .nil))) (.cons (.ret (.bin .sub (.call (.fn 73) (.cons (.var 0) .nil)) (.int 1))) .nil))⟩
def fd_settles : FD := ⟨1, 1, (.cons (.ex (.call (.fn 53) (.cons (.var 0) .nil))) (.cons (.ret (.call (.fn 65) (.cons (.var 0) .nil))) .nil))⟩
def fd_shares_spread : FD := ⟨3, 6, (.cons (.ex (.call (.fn 51) (.cons (.var 0) (.cons (.var 1) .nil)))) (.cons (.cond (.not (.call (.fn 39) (.cons (.var 0) (.cons (.var 1) (.cons (.var 2) .nil))))) (.cons (.rais 12) .nil) .nil) (.cons (.set 3 .fz (.tup (.cons (.int 0) (.cons (.int 1) .nil)))) (.cons (.forr (.tp2 (.nm 4) (.nm 5)) (.seq (.var 2)) (.cons (.cond (.cmp .gt (.idx (.var 4) (.int 0)) (.int 0)) (.cons (.set 3 .fz (.call (.fn 102) (.cons (.var 3) (.cons (.call (.fn 48) (.cons (.call (.fn 48) (.cons (.var 5) (.cons (.var 5) .nil))) (.cons (.tup (.cons (.idx (.var 4) (.int 1)) (.cons (.idx (.var 4) (.int 0)) .nil))) .nil))) .nil)))) .nil) .nil) .nil)) (.cons (.ret (.var 3)) .nil)))))⟩
def fd_shortened : FD := ⟨1, 3, (.cons (.set 1 .fz (.int 0)) (.cons (.forr (.nm 2) (.seq (.var 0)) (.cons (.set 1 .fz (.call (.fn 63) (.cons (.var 1) (.cons (.var 2) .nil)))) (.cons (.cond (.cmp .eq (.var 1) (.int 1)) (.cons (.ret (.p1 .list (.var 0))) .nil) .nil) .nil))) (.cons (.ret (.ite (.cmp .gt (.var 1) (.int 1)) (.comp (.nm 2) (.seq (.var 0)) .no (.bin .fdiv (.var 2) (.var 1))) (.p1 .list (.var 0)))) .nil)))⟩
def fd_single_weighings : FD := ⟨2, 4, (.cons (.ret (.comp (.nm 2) (.seq (.call (.fn 75) (.cons (.var 0) (.cons (.var 1) .nil)))) (.so (.cmp .eq (.idx (.comp (.nm 3) (.seq (.var 2)) (.so (.cmp .ne (.var 3) (.int 0))) (.var 3)) (.int 0)) (.int 1))) (.var 2))) .nil)⟩
def fd_solved_tables : FD := ⟨1, 5, (.cons (.par2 3 .fz 4 .fz (.bin .sub (.p1 .len (.idx (.var 0) (.int 0))) (.int 1)) (.call (.fn 78) (.cons (.var 0) .nil))) (.cons (.cond (.p1 .any (.comp (.nm 2) (.seq (.var 4)) .no (.cmp .eq (.call (.fn 68) (.cons (.var 2) .nil)) (.var 3)))) (.cons (.ret .non) .nil) .nil) (.cons (.set 1 .own (.bin .mul (.lst (.cons (.tup (.cons (.int 0) (.cons (.int 1) .nil))) .nil)) (.var 3))) (.cons (.forr (.nm 2) (.seq (.var 4)) (.cons (.six 1 (.call (.fn 68) (.cons (.var 2) .nil)) (.call (.fn 77) (.cons (.idx (.var 2) (.neg (.int 1))) (.cons (.idx (.var 2) (.call (.fn 68) (.cons (.var 2) .nil))) .nil)))) .nil)) (.cons (.ret (.var 1)) .nil)))))⟩
def fd_some_numbers : FD := ⟨2, 6, (.cons (.set 2 .fz (.lst (.cons (.tup .nil) .nil))) (.cons (.forr (.nm 3) (.rng1 (.var 1)) (.cons (.set 2 .fz (.comp2 (.nm 4) (.seq (.var 2)) (.nm 5) (.rng1 (.var 0)) (.so (.bo false (.cons (.cmp .eq (.var 4) (.tup .nil)) (.cons (.cmp .lt (.idx (.var 4) (.neg (.int 1))) (.var 5)) .nil)))) (.bin .add (.var 4) (.tup (.cons (.var 5) .nil))))) .nil)) (.cons (.ret (.var 2)) .nil)))⟩
def fd_spread : FD := ⟨2, 3, (.cons (.ret (.call (.fn 119) (.cons (.comp (.nm 2) (.seq (.call (.fn 44) (.cons (.var 0) (.cons (.var 1) .nil)))) .no (.call (.fn 48) (.cons (.var 2) (.cons (.var 2) .nil)))) .nil))) .nil)⟩
def fd_spread_by : FD := ⟨4, 13, (.cons (.par2 6 .fz 7 .own (.p1 .len (.var 1)) (.lst .nil)) (.cons (.forr (.nm 4) (.rng1 (.var 6)) (.cons (.set 8 .fz (.comp (.nm 9) (.rng1 (.var 6)) .no (.p1 .sum (.comp (.tp2 (.nm 12) (.nm 10)) (.zip (.var 2) (.var 0)) .no (.bin .mul (.bin .mul (.var 12) (.idx (.var 10) (.var 4))) (.idx (.var 10) (.var 9))))))) (.cons (.app 7 (.bin .add (.var 8) (.lst (.cons (.bin .mul (.var 3) (.idx (.var 1) (.var 4))) .nil)))) .nil))) (.cons (.set 5 .fz (.call (.fn 113) (.cons (.var 7) .nil))) (.cons (.cond (.cmp .is (.var 5) .non) (.cons (.ret .non) .nil) .nil) (.cons (.ret (.call (.fn 119) (.cons (.comp (.tp2 (.nm 10) (.nm 11)) (.zip (.var 1) (.var 5)) .no (.call (.fn 48) (.cons (.tup (.cons (.var 10) (.cons (.int 1) .nil))) (.cons (.var 11) .nil)))) .nil))) .nil)))))⟩
def fd_square_of : FD := ⟨1, 5, (.cons (.set 1 .fz (.p1 .len (.idx (.var 0) (.int 0)))) (.cons (.ret (.comp (.nm 2) (.rng1 (.var 1)) .no (.comp (.nm 3) (.rng1 (.var 1)) .no (.p1 .sum (.comp (.nm 4) (.seq (.var 0)) .no (.bin .mul (.idx (.var 4) (.var 2)) (.idx (.var 4) (.var 3)))))))) .nil))⟩
def fd_strength : FD := ⟨1, 1, (.cons (.ex (.call (.fn 55) (.cons (.var 0) .nil))) (.cons (.ret (.call (.fn 73) (.cons (.var 0) .nil))) .nil))⟩
def fd_sum_of : FD := ⟨1, 3, (.cons (.set 1 .fz (.tup (.cons (.int 0) (.cons (.int 1) .nil)))) (.cons (.forr (.nm 2) (.seq (.var 0)) (.cons (.set 1 .fz (.call (.fn 102) (.cons (.var 1) (.cons (.var 2) .nil)))) .nil)) (.cons (.ret (.var 1)) .nil)))⟩
def fd_ties : FD := ⟨1, 1, (.cons (.ex (.call (.fn 55) (.cons (.var 0) .nil))) (.cons (.ret (.p1 .tuple (.call (.fn 74) (.cons (.var 0) .nil)))) .nil))⟩
def fd_turned : FD := ⟨2, 4, (.cons (.ex (.call (.fn 53) (.cons (.var 0) .nil))) (.cons (.cond (.not (.call (.fn 81) (.cons (.var 1) (.cons (.int 0) (.cons (.bin .sub (.p1 .len (.var 0)) (.int 1)) .nil))))) (.cons (.rais 10) .nil) .nil) (.cons (.set 2 .fz (.p1 .tuple (.comp (.nm 3) (.seq (.idx (.var 0) (.var 1))) .no (.neg (.var 3))))) (.cons (.ret (.bin .add (.bin .add (.slc (.var 0) .no (.so (.var 1))) (.tup (.cons (.var 2) .nil))) (.slc (.var 0) (.so (.bin .add (.var 1) (.int 1))) .no))) .nil))))⟩
def fd_value_of : FD := ⟨2, 6, (.cons (.set 2 .fz (.call (.fn 117) (.cons (.var 0) .nil))) (.cons (.set 3 .fz (.call (.fn 62) (.cons (.var 2) .nil))) (.cons (.cond (.cmp .eq (.var 3) (.int 0)) (.cons (.ret .non) .nil) .nil) (.cons (.cond (.cmp .eq (.var 1) (.str "whole")) (.cons (.ret (.call (.fn 77) (.cons (.int 1) (.cons (.var 3) .nil)))) .nil) .nil) (.cons (.set 4 .fz (.comp (.nm 5) (.rng1 (.p1 .len (.var 2))) .no (.call (.fn 62) (.cons (.call (.fn 124) (.cons (.var 2) (.cons (.var 5) (.cons (.var 5) .nil)))) .nil)))) (.cons (.ret (.call (.fn 77) (.cons (.ite (.cmp .eq (.var 1) (.str "sum")) (.p1 .sum (.var 4)) (.p1 .max (.var 4))) (.cons (.var 3) .nil)))) .nil))))))⟩
def fd_without_cross : FD := ⟨3, 5, (.cons (.ret (.comp (.tp2 (.nm 3) (.nm 4)) (.enum (.var 0)) (.so (.cmp .ne (.var 3) (.var 1))) (.bin .add (.slc (.var 4) .no (.so (.var 2))) (.slc (.var 4) (.so (.bin .add (.var 2) (.int 1))) .no)))) .nil)⟩
def fd_worst_lost : FD := ⟨1, 5, (.cons (.ex (.call (.fn 53) (.cons (.var 0) .nil))) (.cons (.cond (.not (.call (.fn 64) (.cons (.var 0) (.cons (.int 1) .nil)))) (.cons (.rais 17) .nil) .nil) (.cons (.set 1 .fz (.comp (.nm 3) (.rng1 (.p1 .len (.var 0))) .no (.call (.fn 122) (.cons (.call (.fn 93) (.cons (.var 0) (.cons (.tup (.cons (.var 3) .nil)) .nil))) (.cons (.str "sum") .nil))))) (.cons (.set 2 .fz (.int 0)) (.cons (.forr (.tp2 (.nm 3) (.nm 4)) (.enum (.var 1)) (.cons (.set 2 .fz (.ite (.call (.fn 80) (.cons (.idx (.var 1) (.var 2)) (.cons (.var 4) .nil))) (.var 3) (.var 2))) .nil)) (.cons (.ret (.var 2)) .nil))))))⟩
def UL : List (Nat × FD) := [(0, fd__law_agree), (1, fd__law_all), (3, fd__law_below), (5, fd__law_changed), (6, fd__law_det), (7, fd__law_draw), (8, fd__law_given), (9, fd__law_led), (11, fd__law_missed), (12, fd__law_name), (13, fd__law_no_weighings), (14, fd__law_often), (16, fd__law_outcome), (17, fd__law_pick), (18, fd__law_plan), (19, fd__law_plus), (20, fd__law_raises), (21, fd__law_rank), (22, fd__law_ratio), (23, fd__law_results), (24, fd__law_sets), (25, fd__law_settling), (26, fd__law_shares_spread), (27, fd__law_squares), (28, fd__law_sum_of), (29, fd__law_times), (30, fd__law_town), (31, fd__law_unit), (32, fd__law_value), (33, fd__law_wanted), (34, fd__law_weighing), (35, fd__law_without), (37, fd__wall), (38, fd_all_weighings), (39, fd_are_shares), (40, fd_are_weighings), (41, fd_barrier), (42, fd_bears), (43, fd_beside), (44, fd_best_factors), (45, fd_best_plan), (46, fd_best_shares), (47, fd_best_value), (48, fd_by_factor), (49, fd_can_tell), (50, fd_check_both_estimates), (51, fd_check_both_shares), (52, fd_check_list), (53, fd_check_plan), (54, fd_check_results), (55, fd_check_settled), (56, fd_check_sort), (57, fd_check_sum), (58, fd_check_things), (59, fd_checked_leading), (60, fd_cleared), (61, fd_count_of), (62, fd_determinant), (63, fd_divisor_of), (64, fd_does_bear), (65, fd_does_settle), (66, fd_estimates), (67, fd_fewest_wrong), (68, fd_first_place), (69, fd_format_plan), (70, fd_found_best), (71, fd_found_estimates), (72, fd_found_leading), (73, fd_found_strength), (74, fd_found_ties), (75, fd_found_weighings), (76, fd_found_wrong), (77, fd_fraction), (78, fd_independent), (79, fd_is_barrier), (80, fd_is_below), (81, fd_is_between), (82, fd_is_fraction), (83, fd_is_list), (84, fd_is_plan), (85, fd_is_share), (86, fd_is_shares), (87, fd_is_weighing), (89, fd_leading), (90, fd_least_spread), (91, fd_led), (92, fd_left_over), (93, fd_left_without), (94, fd_less), (96, fd_mended), (97, fd_naive_spread), (98, fd_negative), (100, fd_parts_of), (102, fd_plus), (103, fd_rank), (104, fd_reduced), (107, fd_seen), (108, fd_settles), (109, fd_shares_spread), (110, fd_shortened), (111, fd_single_weighings), (113, fd_solved_tables), (114, fd_some_numbers), (115, fd_spread), (116, fd_spread_by), (117, fd_square_of), (118, fd_strength), (119, fd_sum_of), (120, fd_ties), (121, fd_turned), (122, fd_value_of), (124, fd_without_cross), (125, fd_worst_lost)]
def U (f : Nat) : Option FD := (UL.find? fun q => q.1 == f).map (·.2)
/-- a table of defs has some of them -/
def Has (G : Nat → Option FD) (S : List Nat) : Prop := ∀ f ∈ S, G f = U f
theorem Has.get {G : Nat → Option FD} {S : List Nat} (hG : Has G S) {f : Nat} {d : FD} (hf : f ∈ S) (hu : U f = some d) : G f = some d := (hG f hf).trans hu
theorem Has.sub {G : Nat → Option FD} {S T : List Nat} (hG : Has G T) (hs : S.all (T.contains ·) = true) : Has G S := fun f hf => hG f (by
  have := List.all_eq_true.mp hs f hf
  simpa using this)
theorem Has.call {G : Nat → Option FD} {S : List Nat} (hG : Has G S) {f : Nat} {d : FD} {N n : Nat} {args : List Val} {h : Heap} {r : R Val} (hf : S.contains f = true) (hu : U f = some d) (hr : runF (callF G N n) N d args h = r) : callF G N (n + 1) f args h = r :=
  (callF_eq (hG.get (by simpa using hf) hu) args h).trans hr
end Mi

set_option Elab.async false
set_option linter.all false
set_option autoImplicit false
set_option maxRecDepth 100000
/-! Mr1: fractions, tables. -/
namespace Mi
open PySem PySem.Spec L2 PyProof.Rows
section
variable {h : Heap}
theorem intsOf_map {α : Type} {g : α → Int} : ∀ xs : List α, intsOf (xs.map fun x => Val.int (g x)) = some (xs.map g)
  | [] => rfl
  | x :: xs => by
    rw [List.map_cons, List.map_cons]
    unfold intsOf
    rw [intsOf_map xs]
theorem sum_map {α : Type} {k : Kd} {xs : List α} {g : α → Int} : p1V .sum (.lst k (xs.map fun x => Val.int (g x))) h = some (.int (xs.map g).sum) := by
  show (intsOf (xs.map fun x => Val.int (g x))).map (fun is => Val.int is.sum) = _
  rw [intsOf_map]
  rfl
theorem x_tup0 {α : Type} {xs : List α} {f : α → Val} (d : α) (hn : 0 < xs.length) : idxV (.tup (xs.map f)) (.int 0) h = some (f (xs.getD 0 d)) := x_tup (n := 0) d hn
theorem x_lst0 {α : Type} {k : Kd} {xs : List α} {f : α → Val} (d : α) (hn : 0 < xs.length) : idxV (.lst k (xs.map f)) (.int 0) h = some (f (xs.getD 0 d)) := x_lst (n := 0) d hn
theorem o_addLM {α : Type} {k l : Kd} {xs ys : List α} {f : α → Val} (hk : k ≠ .scr) (hl : l ≠ .scr) (hf : xs.length + ys.length ≤ 1000000) : bop .add (.lst k (xs.map f)) (.lst l (ys.map f)) h = some (.lst .own ((xs ++ ys).map f)) := by
  rw [o_addL hk hl (by simpa using hf), List.map_append]
theorem o_addTM {α : Type} {xs ys : List α} {f : α → Val} (hf : xs.length + ys.length ≤ 1000000) : bop .add (.tup (xs.map f)) (.tup (ys.map f)) h = some (.tup ((xs ++ ys).map f)) := by
  rw [o_addT (by simpa using hf), List.map_append]
theorem o_addT1 {α : Type} {xs : List α} {x : α} {f : α → Val} (hf : xs.length + 1 ≤ 1000000) : bop .add (.tup (xs.map f)) (.tup [f x]) h = some (.tup ((xs ++ [x]).map f)) := by
  rw [o_addT (by simpa using hf), List.map_append]
  rfl
theorem cut_take {α : Type} (xs : List α) (n : Nat) : cut xs none (some (n : Int)) = xs.take n := by
  unfold cut
  rw [HT.sIx_none, HT.sIx_nat]
  simp
theorem cut_drop {α : Type} (xs : List α) (n : Nat) : cut xs (some (n : Int)) none = xs.drop n := by
  unfold cut
  rw [HT.sIx_none, HT.sIx_nat]
  rcases Nat.le_total n xs.length with e | e
  · rw [Nat.min_eq_left e, List.take_of_length_le (by simp)]
  · rw [Nat.min_eq_right e, List.drop_of_length_le (Nat.le_refl _), List.drop_of_length_le e, List.take_nil]
theorem s_cutL {α : Type} {k : Kd} {xs : List α} {f : α → Val} {n : Nat} : slcV (.lst k (xs.map f)) none (some (n : Int)) h = some (.lst .own ((xs.take n).map f)) := by
  show some (Val.lst .own (cut (xs.map f) none (some (n : Int)))) = _
  rw [cut_take, List.map_take]
theorem s_cutR1 {α : Type} {k : Kd} {xs : List α} {f : α → Val} {n : Nat} : slcV (.lst k (xs.map f)) (some ((n : Int) + 1)) none h = some (.lst .own ((xs.drop (n + 1)).map f)) := by
  show some (Val.lst .own (cut (xs.map f) (some (((n + 1 : Nat) : Int))) none)) = _
  rw [cut_drop, List.map_drop]
theorem s_cut1 {α : Type} {k : Kd} {xs : List α} {f : α → Val} : slcV (.lst k (xs.map f)) (some 1) none h = some (.lst .own ((xs.drop 1).map f)) := s_cutR1 (n := 0)
end
local macro_rules | `(tactic| walk_at "sl") => `(tactic| repeat' (first | (with_reducible exact get_zero) | (with_reducible exact set_zero) | (with_reducible apply get_succ) | (with_reducible apply set_succ) | (with_reducible apply wipe_nm) | (with_reducible apply wipe_tp2) | (with_reducible apply wipe_2)))
local macro_rules | `(tactic| walk_at "op") => `(tactic| first | (with_reducible exact i_nn) | (with_reducible exact i_n) | (with_reducible exact i_tn) | (with_reducible exact i_t) | (with_reducible exact b_add) | (with_reducible exact o_sub) | (with_reducible exact eq_int) | (with_reducible exact ne_int) | (with_reducible exact o_lt) | (with_reducible exact o_le) | (with_reducible exact o_gt) | (with_reducible exact o_ge) | (with_reducible exact t_bl) | (with_reducible exact t_int) | (with_reducible exact x_fst) | (with_reducible exact x_snd) | (with_reducible exact l_tup) | (with_reducible exact l_lst) | (with_reducible exact p_tup) | (with_reducible exact p_lst) | (with_reducible exact p_lstT) | (with_reducible exact p_abs) | (with_reducible exact sum_ints) | (with_reducible exact sum_map) | (with_reducible exact all_map) | (with_reducible exact isin_i) | (with_reducible exact isin_b) | (with_reducible exact isin_t) | (with_reducible exact isin_str) | (with_reducible exact any_lst) | (with_reducible exact any_tup) | (with_reducible exact q_nilN) | (with_reducible exact s_cutL) | (with_reducible exact s_cutR1) | (with_reducible exact s_cut1) | (with_reducible apply b_mul) | (with_reducible apply b_fdiv) | (with_reducible apply b_mod) | (with_reducible apply o_addT1) | (with_reducible apply o_addTM) | (with_reducible apply o_addT) | ((with_reducible apply o_addL1); (first | decide | skip); (first | decide | skip)) | ((with_reducible apply o_addLM); (first | decide | skip); (first | decide | skip)) | ((with_reducible apply o_addL); (first | decide | skip); (first | decide | skip)) | (with_reducible apply x_tup0 (0 : Int)) | (with_reducible apply x_lst0 (0 : Int)) | (with_reducible apply x_tup0 ([] : List Int)) | (with_reducible apply x_lst0 ([] : List Int)) | (with_reducible apply x_last (0 : Nat)) | (with_reducible apply x_tup (0 : Int)) | (with_reducible apply x_lst (0 : Int)) | (with_reducible apply x_tup ([] : List Int)) | (with_reducible apply x_lst ([] : List Int)))
local macro_rules | `(tactic| walk_at "e1") => `(tactic| first | (with_reducible exact ev_int) | (with_reducible exact ev_bl) | (with_reducible exact ev_non) | (with_reducible exact ev_str) | (with_reducible exact ev_fn) | (with_reducible exact ev_cls) | (with_reducible exact ev_ty) | ((with_reducible apply ev_var); (focus walk_at "sl"); exact rfl) | (with_reducible apply ev_bin) | (with_reducible apply ev_neg) | (with_reducible apply ev_cmp) | (with_reducible apply ev_chn) | (with_reducible apply ev_not) | (with_reducible apply ev_bo) | (with_reducible apply bo_one) | (with_reducible apply bo_and) | (with_reducible apply bo_or) | (with_reducible apply ev_iteI) | (with_reducible apply ev_tup) | (with_reducible apply ev_lst) | (with_reducible exact evs_nil) | (with_reducible apply evs_cons) | (with_reducible apply ev_idx) | (with_reducible exact evo_no) | (with_reducible apply evo_so) | (with_reducible apply ev_slc) | (with_reducible apply ev_call) | (with_reducible apply ev_p1) | (with_reducible apply ev_p2) | (with_reducible apply ev_m1) | (with_reducible exact evT_no) | (with_reducible apply evT_so) | (with_reducible exact fits_of (by first | exact Nat.zero_le _ | (simp only [List.length_cons, List.length_nil]; omega))) | (with_reducible apply it_seq) | (with_reducible apply it_rng1) | (with_reducible apply it_rng2) | (with_reducible apply it_enum) | (with_reducible apply it_zip) | (with_reducible apply ev_compM) | (with_reducible apply ev_compP) | (with_reducible apply ev_comp2P) | (intro _ _; (with_reducible apply Elt.mk)) | (intro _ _; (with_reducible apply EltP.mk)) | (intro _ _; (with_reducible apply Elt2.mk)) | ((with_reducible apply bT_nm); walk_at "sl"; done) | (with_reducible apply bT_tp2))
local macro_rules | `(tactic| walk_at "s1") => `(tactic| first | (with_reducible exact exs_nil) | (with_reducible apply exs_appc) | (with_reducible apply exs_appn) | (with_reducible apply exs_set) | (with_reducible apply exs_par2) | (with_reducible apply exs_par3) | (with_reducible apply exs_ret) | (with_reducible exact exs_rais) | (with_reducible apply exs_pas) | (with_reducible apply exs_ex) | (with_reducible apply exs_unp) | (with_reducible apply exs_app1) | (with_reducible apply keep_fz) | (with_reducible apply keep_own) | (with_reducible apply keep_heap))
local macro_rules | `(tactic| walk_at "rf") => `(tactic| first | ((with_reducible apply k_fz); exact rfl) | ((with_reducible apply k_un); exact rfl) | ((with_reducible apply k_it); exact rfl) | ((with_reducible apply k_sq); exact rfl) | ((with_reducible apply k_br); exact rfl) | ((with_reducible apply k_m1); exact rfl) | ((with_reducible apply k_set); walk_at "sl"; done) | ((with_reducible apply k_wipe); walk_at "sl"; done) | ((with_reducible apply k_get); walk_at "sl"; done))
local macro_rules | `(tactic| walk_at "mi") => `(tactic| repeat' (first | walk_at "e1" | walk_at "op" | walk_at "s1" | walk_at "rf" | (intro _; (first | walk_at "e1" | walk_at "s1"))))
local macro_rules | `(tactic| walk_at "mic") => `(tactic| repeat' (first | walk_at "e1" | walk_at "op" | walk_at "s1" | walk_at "rf" | ((with_reducible apply k_call); (with_reducible apply_assumption -exfalso -symm)) | (intro _; (first | walk_at "e1" | walk_at "s1"))))
local macro_rules | `(tactic| walk_at "sd") => `(tactic| first | assumption | omega | (simp only [List.length_range, List.length_map, List.length_cons, List.length_nil]; omega) | (simp only [List.mem_range, List.length_range, List.length_map] at *; omega))
local macro_rules | `(tactic| walk_at "st") => `(tactic| simp only [List.map_cons, List.map_nil, List.cons_append, List.nil_append, List.reduceReplicate, Nat.reduceSub])
abbrev eRow (r : List Int) : Val := .tup (r.map Val.int)
abbrev ePlan (p : List (List Int)) : Val := .tup (p.map eRow)
abbrev lRow (r : List Int) : Val := .lst .imm (r.map Val.int)
abbrev eFr (q : Int × Int) : Val := .tup [.int q.1, .int q.2]
theorem wm {i j : Int} {a b : Nat} (hi : i.natAbs < 2 ^ a) (hj : j.natAbs < 2 ^ b) (hab : a + b ≤ 1000000) : wideMul i j = true := by
  have f : ∀ n k : Nat, n < 2 ^ k → n.log2 ≤ k := fun n k h => by
    by_cases e : n = 0
    · subst e; simp
    · have := (Nat.log2_lt e).mpr h
      omega
  have g : ∀ n k : Nat, n ≠ 0 → n < 2 ^ k → n.log2 < k := fun n k e h => (Nat.log2_lt e).mpr h
  unfold wideMul
  refine decide_eq_true ?_
  by_cases e : i.natAbs = 0
  · rw [e]
    have h1 : Nat.log2 0 = 0 := by simp
    rw [h1]
    by_cases e2 : j.natAbs = 0
    · rw [e2, h1]; omega
    · have := g _ _ e2 hj
      omega
  · have := g _ _ e hi
    have := f _ _ hj
    omega
theorem wd {j : Int} {b : Nat} (h0 : j ≠ 0) (hj : j.natAbs < 2 ^ b) (hb : b ≤ 9000) : wideDiv j = true := by
  unfold wideDiv
  rw [decide_eq_true h0]
  have := (Nat.log2_lt (n := j.natAbs) (k := b) (by omega)).mpr hj
  simp only [Bool.true_and]
  exact decide_eq_true (by omega)
/-! fractions -/
def frac (t b : Int) : Int × Int := let g : Int := if decide (0 < b) = true then (Int.gcd t b : Int) else -(Int.gcd t b : Int); (t.fdiv g, b.fdiv g)
section
variable {G : Nat → Option FD} {N n : Nat} {h : Heap}
theorem divisor_spec (hG : Has G [63]) {a b : Int} (hN : b.natAbs < N) : callF G N (n + 1) 63 [.int a, .int b] h = .ok (.int (Int.gcd a b)) h :=
  hG.call (d := fd_divisor_of) rfl rfl (divisor_ok hN)
theorem gcd_lt {t b : Int} {k : Nat} (h0 : b ≠ 0) (hb : b.natAbs < 2 ^ k) : (Int.gcd t b : Int) ≠ 0 ∧ (Int.gcd t b : Int).natAbs < 2 ^ k := by
  have e : Int.gcd t b ≠ 0 := fun z => h0 (Int.gcd_eq_zero_iff.mp z).2
  have : Int.gcd t b ≤ b.natAbs := Nat.le_of_dvd (by omega) (Int.gcd_dvd_natAbs_right ..)
  refine ⟨by omega, ?_⟩
  rw [Int.natAbs_natCast]
  omega
theorem fraction_spec (hG : Has G [77, 63]) {t b : Int} (h0 : b ≠ 0) (hb : b.natAbs < 2 ^ 9000) (hN : b.natAbs < N) : callF G N (n + 2) 77 [.int t, .int b] h = .ok (eFr (frac t b)) h := by
  refine hG.call (d := fd_fraction) rfl rfl ?_
  unfold fd_fraction
  refine runF_rt rfl rfl ?_
  walk_at "st"
  have hd := divisor_spec (n := n) (h := h) (hG.sub (S := [63]) rfl) (a := t) (b := b) hN
  walk_at "mic"
  all_goals
    obtain ⟨e1, e2⟩ := gcd_lt (t := t) h0 hb
    refine wd (b := 9000) ?_ ?_ (Nat.le_refl _)
    · split <;> omega
    · split <;> first | exact e2 | (rw [Int.natAbs_neg]; exact e2)
theorem below_spec (hG : Has G [80]) {p q : Int × Int} (hp1 : p.1.natAbs < 2 ^ 400000) (hp2 : p.2.natAbs < 2 ^ 400000) (hq1 : q.1.natAbs < 2 ^ 400000) (hq2 : q.2.natAbs < 2 ^ 400000) :
    callF G N (n + 1) 80 [eFr p, eFr q] h = .ok (.bl (decide (p.1 * q.2 < q.1 * p.2))) h := by
  refine hG.call (d := fd_is_below) rfl rfl ?_
  unfold fd_is_below
  refine runF_rt rfl rfl ?_
  walk_at "st"
  walk_at "mi"
  · exact wm hp1 hq2 (by omega)
  · exact wm hq1 hp2 (by omega)
/-! tables -/
def dotAt (plan : List (List Int)) (i j : Nat) : Int := (plan.map fun r => r.getD i 0 * r.getD j 0).sum
def sqT (plan : List (List Int)) (n : Nat) : List (List Int) := (List.range n).map fun i => (List.range n).map fun j => dotAt plan i j
theorem getD_mem {α : Type} {xs : List α} {i : Nat} {d : α} (hi : i < xs.length) : xs.getD i d ∈ xs := by
  rw [List.getD, List.getElem?_eq_getElem hi]
  exact List.getElem_mem _
theorem square_spec (hG : Has G [117]) {plan : List (List Int)} {m k : Nat} (hne : 0 < plan.length) (hn : ∀ r ∈ plan, r.length = m) (hb : ∀ r ∈ plan, ∀ x ∈ r, x.natAbs < 2 ^ k) (hk : k ≤ 1000) (hp : plan.length < 1000) (hn2 : m < 1000) :
    callF G N (n + 1) 117 [ePlan plan] h = .ok (.lst .own ((sqT plan m).map lRow)) h := by
  refine hG.call (d := fd_square_of) rfl rfl ?_
  unfold fd_square_of
  refine runF_rt rfl rfl ?_
  walk_at "st"
  have l0 : (plan.getD 0 []).length = m := hn _ (getD_mem hne)
  refine exs_set (v := .int (m : Int)) (ev_conv (by walk_at "mi"; walk_at "sd") (by rw [l0])) (by walk_at "mi") ?_
  walk_at "mi"
  any_goals walk_at "sd"
  · rename_i i hi j hj r hr
    rw [hn r hr]
    exact List.mem_range.mp hi
  · rename_i i hi j hj r hr
    rw [hn r hr]
    exact List.mem_range.mp hj
  · rename_i i hi j hj r hr
    have e := hn r hr
    refine wm (hb r hr _ (getD_mem ?_)) (hb r hr _ (getD_mem ?_)) (by omega)
    · rw [e]; exact List.mem_range.mp hi
    · rw [e]; exact List.mem_range.mp hj
  · unfold sqT
    rw [List.map_map]
    show Val.lst _ _ = Val.lst _ _
    congr 1
    apply List.map_congr_left
    intro i _
    show Val.lst _ _ = Val.lst _ _
    rw [List.map_map]
    rfl
abbrev cutAt (k : Nat) (r : List Int) : List Int := r.take k ++ r.drop (k + 1)
def detStep (dt : List (List Int) → Int) (t : List (List Int)) (f : Int) (p : Int × Nat) : Int :=
  if decide (p.1 ≠ 0) = true then f + (if decide (((p.2 : Int).fmod 2) = 0) = true then p.1 else -p.1) * dt ((t.drop 1).map (cutAt p.2)) else f
def det : Nat → List (List Int) → Int
  | 0, _ => 1
  | m + 1, t => (t.getD 0 []).zipIdx.foldl (detStep (det m) t) 0
theorem cutAt_length {k : Nat} {r : List Int} (hk : k < r.length) : (cutAt k r).length = r.length - 1 := by
  unfold cutAt
  simp
  omega
theorem cutAt_mem {k : Nat} {r : List Int} {x : Int} (hx : x ∈ cutAt k r) : x ∈ r := by
  unfold cutAt at hx
  rcases List.mem_append.mp hx with e | e
  · exact List.mem_of_mem_take e
  · exact List.mem_of_mem_drop e
theorem mem_zipIdx {α : Type} {xs : List α} {p : α × Nat} (hp : p ∈ xs.zipIdx) : p.2 < xs.length ∧ p.1 ∈ xs := by
  have h1 := List.snd_lt_of_mem_zipIdx hp
  have h2 := List.fst_mem_of_mem_zipIdx hp
  exact ⟨by simpa using h1, h2⟩
theorem foldl_bound {α : Type} {f : Int → α → Int} {A : Nat} : ∀ (xs : List α) (a : Int), (∀ a, ∀ x ∈ xs, (f a x).natAbs ≤ a.natAbs + A) → (xs.foldl f a).natAbs ≤ a.natAbs + xs.length * A
  | [], a, _ => by simp
  | x :: xs, a, H => by
    have h1 := H a x List.mem_cons_self
    have h2 := foldl_bound xs (f a x) fun a y hy => H a y (List.mem_cons_of_mem _ hy)
    simp only [List.foldl_cons, List.length_cons]
    rw [Nat.succ_mul]
    omega
theorem det_bound {k : Nat} : ∀ (m : Nat) (t : List (List Int)), t.length = m → (∀ r ∈ t, r.length = m) → (∀ r ∈ t, ∀ x ∈ r, x.natAbs < 2 ^ k) → m ≤ 7 → (det m t).natAbs < 2 ^ (m * (k + 3) + 1)
  | 0, t, _, _, _, _ => by simp [det]
  | m + 1, t, hl, hr, hb, hm => by
    have l0 : (t.getD 0 []).length = m + 1 := hr _ (getD_mem (by omega))
    have m0 : t.getD 0 [] ∈ t := getD_mem (by omega)
    show ((t.getD 0 []).zipIdx.foldl (detStep (det m) t) 0).natAbs < _
    have := foldl_bound (f := detStep (det m) t) (A := 2 ^ k * 2 ^ (m * (k + 3) + 1)) (t.getD 0 []).zipIdx 0 (fun a p hp => by
      obtain ⟨q1, q2⟩ := mem_zipIdx hp
      unfold detStep
      split
      · have ih := det_bound (k := k) m ((t.drop 1).map (cutAt p.2)) (by simp; omega) (fun r hx => by
          obtain ⟨r', h1, rfl⟩ := List.mem_map.mp hx
          have e := hr r' (List.mem_of_mem_drop h1)
          rw [cutAt_length (by omega)]; omega) (fun r hx x hxx => by
          obtain ⟨r', h1, rfl⟩ := List.mem_map.mp hx
          exact hb r' (List.mem_of_mem_drop h1) x (cutAt_mem hxx)) (by omega)
        have b1 := hb _ m0 _ q2
        have e2 : ((if decide (((p.2 : Int).fmod 2) = 0) = true then p.1 else -p.1)).natAbs = p.1.natAbs := by split <;> simp
        have := Int.natAbs_add_le a ((if decide (((p.2 : Int).fmod 2) = 0) = true then p.1 else -p.1) * det m ((t.drop 1).map (cutAt p.2)))
        rw [Int.natAbs_mul, e2] at this
        have := Nat.mul_le_mul (Nat.le_of_lt b1) (Nat.le_of_lt ih)
        omega
      · omega)
    rw [List.length_zipIdx, l0] at this
    have e : 2 ^ ((m + 1) * (k + 3) + 1) = 2 ^ 3 * (2 ^ k * 2 ^ (m * (k + 3) + 1)) := by
      rw [← Nat.pow_add, ← Nat.pow_add]
      congr 1
      rw [Nat.succ_mul]
      omega
    rw [e]
    have p0 : 0 < 2 ^ k * 2 ^ (m * (k + 3) + 1) := Nat.mul_pos (Nat.pow_pos (by omega)) (Nat.pow_pos (by omega))
    generalize 2 ^ k * 2 ^ (m * (k + 3) + 1) = Z at *
    have : (m + 1) * Z ≤ 7 * Z := Nat.mul_le_mul_right _ hm
    omega
theorem det_spec (hG : Has G [62]) {k : Nat} (hk : k ≤ 1000) : ∀ (m : Nat) (t : List (List Int)), t.length = m → (∀ r ∈ t, r.length = m) → (∀ r ∈ t, ∀ x ∈ r, x.natAbs < 2 ^ k) → m ≤ 7 → ∀ n, callF G N (n + m + 1) 62 [.lst .imm (t.map lRow)] h = .ok (.int (det m t)) h
  | 0, t, hl, _, _, _, n => by
    refine hG.call (d := fd_determinant) rfl rfl ?_
    unfold fd_determinant
    refine runF_rt rfl rfl ?_
    walk_at "st"
    refine exs_cond (by walk_at "mi") (by walk_at "mi") (fun ht => ?_) (fun ht => ?_)
    · show exs _ _ (.cons _ (.cons _ _)) _ _ = _
      walk_at "mi"
    · rw [hl] at ht
      simp at ht
  | m + 1, t, hl, hr, hb, hm, n => by
    have l0 : (t.getD 0 []).length = m + 1 := hr _ (getD_mem (by omega))
    have m0 : t.getD 0 [] ∈ t := getD_mem (by omega)
    refine hG.call (d := fd_determinant) rfl rfl ?_
    unfold fd_determinant
    refine runF_rt rfl rfl ?_
    walk_at "st"
    refine exs_cond (by walk_at "mi") (by walk_at "mi") (fun ht => ?_) (fun ht => ?_)
    · rw [hl] at ht
      simp at ht
      omega
    · show exs _ _ (.cons _ (.cons _ _)) _ _ = _
      refine exs_set (by walk_at "mi") (by walk_at "mi") ?_
      have ih : ∀ q : Nat, q < m + 1 → callF G N (n + m + 1) 62 [.lst .imm (((t.drop 1).map (cutAt q)).map lRow)] h = .ok (.int (det m ((t.drop 1).map (cutAt q)))) h := fun q hq =>
        det_spec hG hk m _ (by simp; omega) (fun r hx => by
          obtain ⟨r', h1, rfl⟩ := List.mem_map.mp hx
          have e := hr r' (List.mem_of_mem_drop h1)
          rw [cutAt_length (by omega)]; omega) (fun r hx x hxx => by
          obtain ⟨r', h1, rfl⟩ := List.mem_map.mp hx
          exact hb r' (List.mem_of_mem_drop h1) x (cutAt_mem hxx)) (by omega) n
      refine exs_forF (fun (s : Int) ρ => ∃ a b c d, ρ = [some (.lst .imm (t.map lRow)), some (.int s), a, b, c, d]) (detStep (det m) t) 0 (f := fun p : Int × Nat => .tup [.int (p.2 : Int), Val.int p.1]) (xs := (t.getD 0 []).zipIdx) (by walk_at "mi"; walk_at "sd") ⟨_, _, _, _, rfl⟩ (fun s p hp ρ hs => ?_) (fun ρ1 hs => ?_)
      · obtain ⟨q1, q2⟩ := mem_zipIdx hp
        obtain ⟨a, b, c, d, rfl⟩ := hs
        rw [l0] at q1
        have e2 : ((if decide (((p.2 : Int).fmod 2) = 0) = true then p.1 else -p.1)).natAbs = p.1.natAbs := by split <;> simp
        have db := det_bound (k := k) m ((t.drop 1).map (cutAt p.2)) (by simp; omega) (fun r hx => by
          obtain ⟨r', h1, rfl⟩ := List.mem_map.mp hx
          have e := hr r' (List.mem_of_mem_drop h1)
          rw [cutAt_length (by omega)]; omega) (fun r hx x hxx => by
          obtain ⟨r', h1, rfl⟩ := List.mem_map.mp hx
          exact hb r' (List.mem_of_mem_drop h1) x (cutAt_mem hxx)) (by omega)
        unfold detStep
        split
        · rename_i hc
          have ih2 : callF G N (n + m + 1) 62 [.lst .imm ((t.drop 1).map fun x => lRow (cutAt p.2 x))] h = .ok (.int (det m ((t.drop 1).map (cutAt p.2)))) h := by
            have := ih p.2 q1
            rw [List.map_map] at this
            exact this
          apply Turn.mk
          · walk_at "mi"
          · apply exs_condT
            · walk_at "mi"
            · walk_at "mi"
            · exact hc
            · walk_at "mi"
              · rename_i r hx
                have := hr r (List.mem_of_mem_drop hx)
                simp only [List.length_take, List.length_drop]
                omega
              · simp only [List.length_drop]; omega
              · decide
              · exact ih2
              · refine wm (a := k) (b := m * (k + 3) + 1) (by rw [e2]; exact hb _ m0 _ q2) db ?_
                have : m * (k + 3) ≤ 7 * 1003 := Nat.mul_le_mul (by omega) (by omega)
                omega
              all_goals walk_at "mi"
          · exact ⟨_, _, _, _, rfl⟩
        · rename_i hc
          apply Turn.mk
          · walk_at "mi"
          · apply exs_condF
            · walk_at "mi"
            · walk_at "mi"
            · simpa using hc
            · walk_at "mi"
          · exact ⟨_, _, _, _, rfl⟩
      · obtain ⟨a, b, c, d, rfl⟩ := hs
        walk_at "mi"
def crossOut (t : List (List Int)) (i j : Nat) : List (List Int) := (t.zipIdx.filter fun p => decide ((p.2 : Int) ≠ (i : Int))).map fun p => cutAt j p.1
theorem cross_spec (hG : Has G [124]) {t : List (List Int)} {i j : Nat} (ht : t.length < 1000) (hr : ∀ r ∈ t, r.length < 1000) : callF G N (n + 1) 124 [.lst .imm (t.map lRow), .int (i : Int), .int (j : Int)] h = .ok (.lst .own ((crossOut t i j).map lRow)) h := by
  refine hG.call (d := fd_without_cross) rfl rfl ?_
  unfold fd_without_cross
  refine runF_rt rfl rfl ?_
  walk_at "st"
  walk_at "mi"
  · rename_i p hp _
    have := hr p.1 (mem_zipIdx hp).2
    simp only [List.length_take, List.length_drop]
    omega
  · simp only [List.length_zipIdx]; omega
  · unfold crossOut
    rw [List.map_map]
    rfl
end
end Mi

set_option Elab.async false
set_option linter.all false
set_option autoImplicit false
set_option maxRecDepth 100000
/-! Mr2: best plans. -/
namespace Mi
open PySem PySem.Spec L2 PyProof.Rows
section
variable {h : Heap}
theorem max_map {α : Type} {k : Kd} {xs : List α} {g : α → Int} {M : Int} (hM : maxI (xs.map g) = some M) : p1V .max (.lst k (xs.map fun x => Val.int (g x))) h = some (.int M) := by
  show ((intsOf (xs.map fun x => Val.int (g x))).bind maxI).map Val.int = _
  rw [intsOf_map]
  show (maxI (xs.map g)).map Val.int = _
  rw [hM]
  rfl
theorem x_last {α : Type} {xs : List α} {f : α → Val} (d : α) (hn : xs ≠ []) : idxV (.tup (xs.map f)) (.int (-1)) h = some (f (xs.getLastD d)) := by
  show L2.atI (xs.map f) (-1) = _
  have hl : 0 < xs.length := List.length_pos_iff.mpr hn
  unfold L2.atI L2.ixN
  rw [if_neg (by omega), if_pos (by simp; omega)]
  have e : ((-1 : Int) + ((xs.map f).length : Nat)).toNat = xs.length - 1 := by simp; omega
  rw [e]
  show (xs.map f)[xs.length - 1]? = _
  rw [List.getElem?_map, List.getElem?_eq_getElem (by omega)]
  simp [List.getLastD_eq_getLast?, List.getLast?_eq_getElem?, List.getElem?_eq_getElem (show xs.length - 1 < xs.length by omega)]
theorem eqD_nil {α : Type} {f : α → Val} {k : Nat} (E : EqE f k) (hk : k < 64) {xs : List α} : cop .eq (.tup (xs.map f)) (.tup []) h = some xs.isEmpty := by
  have : cop .eq (.tup (xs.map f)) (.tup []) h = some (decide (PyData.eqvAll (xs.map E.d) ([].map E.d) = true)) := by
    show eqD h (.tup (xs.map f)) (.tup []) = _
    unfold eqD
    have e1 : toDh h (.tup (xs.map f)) = some (.tuple (xs.map E.d)) := (E.tup.nr xs h).trans (E.tup.to xs)
    have e2 : toDh h (.tup []) = some (.tuple []) := (E.tup.nr [] h).trans (E.tup.to [])
    rw [e1, e2]
    have s : ∀ l : List α, SeqAt.shaped (.tuple (l.map E.d)) = true := fun l => Bool.and_eq_true_iff.mpr ⟨E.tup.lay l, decide_eq_true (Nat.le_trans (E.tup.dep l) hk)⟩
    have s1 := s xs
    have s2 := s []
    simp only [List.map_nil] at s2
    simp only [s1, s2, Bool.and_self, if_true, PyData.eqv, List.map_nil]
    congr 1
    cases PyData.eqvAll (xs.map E.d) [] <;> simp
  rw [this]
  congr 1
  cases xs with
  | nil => simp [PyData.eqvAll]
  | cons x xs => simp [PyData.eqvAll]
def eqNat : EqE (fun n : Nat => Val.int (n : Int)) 1 where
  d n := PyData.int n
  to _ := rfl
  nr _ _ := rfl
  lay _ := by simp [PyData.canLay0]
  dep _ := by simp [PyData.depth]
  inj a b := by simp [PyData.eqv]; omega
theorem q_nilN {xs : List Nat} : cop .eq (.tup (xs.map fun n : Nat => Val.int (n : Int))) (.tup []) h = some xs.isEmpty := eqD_nil eqNat (by omega)
end
abbrev iRow (r : List Nat) : Val := .tup (r.map fun n : Nat => Val.int (n : Int))
def eOF : Option (Int × Int) → Val
  | none => .non
  | some q => eFr q
def eOP : Option (List (List Int)) → Val
  | none => .non
  | some q => ePlan q
theorem i_nonF {h : Heap} {o : Option (Int × Int)} : cop .is (eOF o) .non h = some o.isNone := by cases o <;> rfl
theorem i_nonP {h : Heap} {o : Option (Int × Int)} : cop .isnot (eOF o) .non h = some o.isSome := by cases o <;> rfl
theorem fz_eOF {o : Option (Int × Int)} : fz (eOF o) = some (eOF o) := by cases o <;> rfl
theorem rd_eOF {o : Option (Int × Int)} : rd (eOF o) = some (eOF o) := by cases o <;> rfl
theorem fz_eOP {o : Option (List (List Int))} : fz (eOP o) = some (eOP o) := by cases o <;> rfl
theorem rd_eOP {o : Option (List (List Int))} : rd (eOP o) = some (eOP o) := by cases o <;> rfl
local macro_rules | `(tactic| walk_at "sl") => `(tactic| repeat' (first | (with_reducible exact get_zero) | (with_reducible exact set_zero) | (with_reducible apply get_succ) | (with_reducible apply set_succ) | (with_reducible apply wipe_nm) | (with_reducible apply wipe_tp2) | (with_reducible apply wipe_2)))
local macro_rules | `(tactic| walk_at "op") => `(tactic| first | (with_reducible exact i_nn) | (with_reducible exact i_n) | (with_reducible exact i_tn) | (with_reducible exact i_t) | (with_reducible exact b_add) | (with_reducible exact o_sub) | (with_reducible exact eq_int) | (with_reducible exact ne_int) | (with_reducible exact o_lt) | (with_reducible exact o_le) | (with_reducible exact o_gt) | (with_reducible exact o_ge) | (with_reducible exact t_bl) | (with_reducible exact t_int) | (with_reducible exact x_fst) | (with_reducible exact x_snd) | (with_reducible exact l_tup) | (with_reducible exact l_lst) | (with_reducible exact p_tup) | (with_reducible exact p_lst) | (with_reducible exact p_lstT) | (with_reducible exact p_abs) | (with_reducible exact sum_ints) | (with_reducible exact sum_map) | (with_reducible exact all_map) | (with_reducible exact isin_i) | (with_reducible exact isin_b) | (with_reducible exact isin_t) | (with_reducible exact isin_str) | (with_reducible exact any_lst) | (with_reducible exact any_tup) | (with_reducible exact q_nilN) | (with_reducible exact s_cutL) | (with_reducible exact s_cutR1) | (with_reducible exact s_cut1) | (with_reducible apply b_mul) | (with_reducible apply b_fdiv) | (with_reducible apply b_mod) | (with_reducible apply o_addT1) | (with_reducible apply o_addTM) | (with_reducible apply o_addT) | ((with_reducible apply o_addL1); (first | decide | skip); (first | decide | skip)) | ((with_reducible apply o_addLM); (first | decide | skip); (first | decide | skip)) | ((with_reducible apply o_addL); (first | decide | skip); (first | decide | skip)) | (with_reducible apply x_tup0 (0 : Int)) | (with_reducible apply x_lst0 (0 : Int)) | (with_reducible apply x_tup0 ([] : List Int)) | (with_reducible apply x_lst0 ([] : List Int)) | (with_reducible apply x_last (0 : Nat)) | (with_reducible apply x_tup (0 : Int)) | (with_reducible apply x_lst (0 : Int)) | (with_reducible apply x_tup ([] : List Int)) | (with_reducible apply x_lst ([] : List Int)))
local macro_rules | `(tactic| walk_at "e1") => `(tactic| first | (with_reducible exact ev_int) | (with_reducible exact ev_bl) | (with_reducible exact ev_non) | (with_reducible exact ev_str) | (with_reducible exact ev_fn) | (with_reducible exact ev_cls) | (with_reducible exact ev_ty) | ((with_reducible apply ev_var); (focus walk_at "sl"); exact rfl) | (with_reducible apply ev_bin) | (with_reducible apply ev_neg) | (with_reducible apply ev_cmp) | (with_reducible apply ev_chn) | (with_reducible apply ev_not) | (with_reducible apply ev_bo) | (with_reducible apply bo_one) | (with_reducible apply bo_and) | (with_reducible apply bo_or) | (with_reducible apply ev_iteI) | (with_reducible apply ev_tup) | (with_reducible apply ev_lst) | (with_reducible exact evs_nil) | (with_reducible apply evs_cons) | (with_reducible apply ev_idx) | (with_reducible exact evo_no) | (with_reducible apply evo_so) | (with_reducible apply ev_slc) | (with_reducible apply ev_call) | (with_reducible apply ev_p1) | (with_reducible apply ev_p2) | (with_reducible apply ev_m1) | (with_reducible exact evT_no) | (with_reducible apply evT_so) | (with_reducible exact fits_of (by first | exact Nat.zero_le _ | (simp only [List.length_cons, List.length_nil]; omega))) | (with_reducible apply it_seq) | (with_reducible apply it_rng1) | (with_reducible apply it_rng2) | (with_reducible apply it_enum) | (with_reducible apply it_zip) | (with_reducible apply ev_compM) | (with_reducible apply ev_compP) | (with_reducible apply ev_comp2P) | (intro _ _; (with_reducible apply Elt.mk)) | (intro _ _; (with_reducible apply EltP.mk)) | (intro _ _; (with_reducible apply Elt2.mk)) | ((with_reducible apply bT_nm); walk_at "sl"; done) | (with_reducible apply bT_tp2))
local macro_rules | `(tactic| walk_at "s1") => `(tactic| first | (with_reducible exact exs_nil) | (with_reducible apply exs_appc) | (with_reducible apply exs_appn) | (with_reducible apply exs_set) | (with_reducible apply exs_par2) | (with_reducible apply exs_par3) | (with_reducible apply exs_ret) | (with_reducible exact exs_rais) | (with_reducible apply exs_pas) | (with_reducible apply exs_ex) | (with_reducible apply exs_unp) | (with_reducible apply exs_app1) | (with_reducible apply keep_fz) | (with_reducible apply keep_own) | (with_reducible apply keep_heap))
local macro_rules | `(tactic| walk_at "rf") => `(tactic| first | ((with_reducible apply k_fz); exact rfl) | ((with_reducible apply k_un); exact rfl) | ((with_reducible apply k_it); exact rfl) | ((with_reducible apply k_sq); exact rfl) | ((with_reducible apply k_br); exact rfl) | ((with_reducible apply k_m1); exact rfl) | ((with_reducible apply k_set); walk_at "sl"; done) | ((with_reducible apply k_wipe); walk_at "sl"; done) | ((with_reducible apply k_get); walk_at "sl"; done))
local macro_rules | `(tactic| walk_at "mi") => `(tactic| repeat' (first | walk_at "e1" | walk_at "op" | walk_at "s1" | walk_at "rf" | (intro _; (first | walk_at "e1" | walk_at "s1"))))
local macro_rules | `(tactic| walk_at "mic") => `(tactic| repeat' (first | walk_at "e1" | walk_at "op" | walk_at "s1" | walk_at "rf" | ((with_reducible apply k_call); (with_reducible apply_assumption -exfalso -symm)) | (intro _; (first | walk_at "e1" | walk_at "s1"))))
local macro_rules | `(tactic| walk_at "sd") => `(tactic| first | assumption | omega | (simp only [List.length_range, List.length_map, List.length_cons, List.length_nil]; omega) | (simp only [List.mem_range, List.length_range, List.length_map] at *; omega))
local macro_rules | `(tactic| walk_at "st") => `(tactic| simp only [List.map_cons, List.map_nil, List.cons_append, List.nil_append, List.reduceReplicate, Nat.reduceSub])
inductive Goal where
  | sum | worst | whole
def Goal.s : Goal → Str
  | .sum => "sum"
  | .worst => "worst"
  | .whole => "whole"
def partsOf (t : List (List Int)) (m : Nat) : List Int := (List.range m).map fun k => det (m - 1) (crossOut t k k)
def valOf (g : Goal) (plan : List (List Int)) (m : Nat) : Option (Int × Int) :=
  if decide (det m (sqT plan m) = 0) = true then none else match g with
    | .whole => some (frac 1 (det m (sqT plan m)))
    | .sum => some (frac (partsOf (sqT plan m) m).sum (det m (sqT plan m)))
    | .worst => some (frac ((maxI (partsOf (sqT plan m) m)).getD 0) (det m (sqT plan m)))
theorem sum_bound {α : Type} {g : α → Int} {A : Nat} : ∀ xs : List α, (∀ x ∈ xs, (g x).natAbs ≤ A) → (xs.map g).sum.natAbs ≤ xs.length * A
  | [], _ => by simp
  | x :: xs, H => by
    have h1 := H x List.mem_cons_self
    have h2 := sum_bound xs fun y hy => H y (List.mem_cons_of_mem _ hy)
    have h3 := Int.natAbs_add_le (g x) (xs.map g).sum
    simp only [List.map_cons, List.sum_cons, List.length_cons, Nat.succ_mul]
    omega
theorem dot_bound {plan : List (List Int)} {m i j k : Nat} (hn : ∀ r ∈ plan, r.length = m) (hb : ∀ r ∈ plan, ∀ x ∈ r, x.natAbs < 2 ^ k) (hp : plan.length < 2 ^ 10) (hi : i < m) (hj : j < m) : (dotAt plan i j).natAbs < 2 ^ (k + k + 10) := by
  unfold dotAt
  have h1 := sum_bound (g := fun r : List Int => r.getD i 0 * r.getD j 0) (A := 2 ^ k * 2 ^ k) plan (fun r hr => by
    have e := hn r hr
    rw [Int.natAbs_mul]
    exact Nat.mul_le_mul (Nat.le_of_lt (hb r hr _ (getD_mem (by omega)))) (Nat.le_of_lt (hb r hr _ (getD_mem (by omega)))))
  have p0 : 0 < 2 ^ k * 2 ^ k := Nat.mul_pos (Nat.pow_pos (by omega)) (Nat.pow_pos (by omega))
  have h2 : plan.length * (2 ^ k * 2 ^ k) < 2 ^ 10 * (2 ^ k * 2 ^ k) := Nat.mul_lt_mul_of_pos_right hp p0
  have h3 : 2 ^ (k + k + 10) = 2 ^ 10 * (2 ^ k * 2 ^ k) := by rw [Nat.pow_add, Nat.pow_add, Nat.mul_comm]
  omega
theorem sqT_len {plan : List (List Int)} {m : Nat} : (sqT plan m).length = m := by simp [sqT]
theorem sqT_row {plan : List (List Int)} {m : Nat} : ∀ r ∈ sqT plan m, r.length = m := fun r hr => by
  obtain ⟨i, _, rfl⟩ := List.mem_map.mp hr
  simp
theorem sqT_bound {plan : List (List Int)} {m k : Nat} (hn : ∀ r ∈ plan, r.length = m) (hb : ∀ r ∈ plan, ∀ x ∈ r, x.natAbs < 2 ^ k) (hp : plan.length < 2 ^ 10) : ∀ r ∈ sqT plan m, ∀ x ∈ r, x.natAbs < 2 ^ (k + k + 10) := fun r hr x hx => by
  obtain ⟨i, hi, rfl⟩ := List.mem_map.mp hr
  obtain ⟨j, hj, rfl⟩ := List.mem_map.mp hx
  exact dot_bound hn hb hp (List.mem_range.mp hi) (List.mem_range.mp hj)
theorem zipIdx_count {α : Type} {k : Nat} : ∀ (xs : List α) (s : Nat), s ≤ k → k < s + xs.length → ((xs.zipIdx s).filter fun p => decide ((p.2 : Int) ≠ (k : Int))).length = xs.length - 1
  | [], s, h1, h2 => by simp at h2; omega
  | x :: xs, s, h1, h2 => by
    rw [List.zipIdx_cons]
    by_cases e : s = k
    · subst e
      rw [List.filter_cons_of_neg (by simp)]
      have : ((xs.zipIdx (s + 1)).filter fun p => decide ((p.2 : Int) ≠ (s : Int))) = xs.zipIdx (s + 1) := List.filter_eq_self.mpr fun p hp => by
        have := List.le_snd_of_mem_zipIdx hp
        simp
        omega
      rw [this]
      simp
    · rw [List.filter_cons_of_pos (by simp; omega)]
      simp only [List.length_cons] at h2 ⊢
      rw [zipIdx_count xs (s + 1) (by omega) (by omega)]
      omega
theorem cross_len {t : List (List Int)} {i j : Nat} (hi : i < t.length) : (crossOut t i j).length = t.length - 1 := by
  unfold crossOut
  rw [List.length_map]
  exact zipIdx_count t 0 (by omega) (by omega)
theorem cross_mem {t : List (List Int)} {i j : Nat} {r : List Int} (hr : r ∈ crossOut t i j) : ∃ s ∈ t, r = cutAt j s := by
  unfold crossOut at hr
  obtain ⟨p, hp, rfl⟩ := List.mem_map.mp hr
  exact ⟨p.1, (mem_zipIdx (List.mem_filter.mp hp).1).2, rfl⟩
theorem maxI_some : ∀ {l : List Int}, l ≠ [] → ∃ M, maxI l = some M ∧ M ∈ l
  | [], e => (e rfl).elim
  | [x], _ => ⟨x, by simp [maxI], by simp⟩
  | x :: y :: l, _ => by
    obtain ⟨M, h1, h2⟩ := maxI_some (l := y :: l) (by simp)
    unfold maxI
    rw [h1]
    simp only
    split
    · exact ⟨_, rfl, List.mem_cons_of_mem _ h2⟩
    · exact ⟨_, rfl, by simp⟩
theorem frac_bound {t b : Int} (h0 : b ≠ 0) : (frac t b).1.natAbs ≤ t.natAbs ∧ (frac t b).2.natAbs ≤ b.natAbs := by
  have e : Int.gcd t b ≠ 0 := fun z => h0 (Int.gcd_eq_zero_iff.mp z).2
  have hd : ∀ (g x : Int), g ≠ 0 → g ∣ x → (x.fdiv g).natAbs ≤ x.natAbs := fun g x hg ⟨q, hq⟩ => by
    subst hq
    rw [Int.mul_fdiv_cancel_left _ hg, Int.natAbs_mul]
    exact Nat.le_mul_of_pos_left _ (by omega)
  have d1 : (Int.gcd t b : Int) ∣ t := Int.gcd_dvd_left ..
  have d2 : (Int.gcd t b : Int) ∣ b := Int.gcd_dvd_right ..
  unfold frac
  simp only
  split
  · exact ⟨hd _ _ (by omega) d1, hd _ _ (by omega) d2⟩
  · exact ⟨hd _ _ (by omega) (Int.neg_dvd.mpr d1), hd _ _ (by omega) (Int.neg_dvd.mpr d2)⟩
section
variable {G : Nat → Option FD} {N n : Nat} {h : Heap}
theorem eq_s {a b : Str} {t : Bool} {h : Heap} (e : cop .eq (.str a) (.str b) [] = some t) : cop .eq (.str a) (.str b) h = some t := e
theorem g_whole {g : Goal} : cop .eq (.str g.s) (.str "whole") h = some (match g with | .whole => true | _ => false) := by
  cases g <;> exact eq_s (by kernel_rfl)
theorem g_sum {g : Goal} : cop .eq (.str g.s) (.str "sum") h = some (match g with | .sum => true | _ => false) := by
  cases g <;> exact eq_s (by kernel_rfl)
theorem value_spec (hG : Has G [122, 117, 62, 77, 63, 124]) {plan : List (List Int)} {m k : Nat} {g : Goal} (hne : 0 < plan.length) (hn : ∀ r ∈ plan, r.length = m) (hb : ∀ r ∈ plan, ∀ x ∈ r, x.natAbs < 2 ^ k) (hk : k ≤ 200) (hp : plan.length < 1000) (hm : m ≤ 7) (hm0 : 0 < m) (hN : 2 ^ 6000 ≤ N) :
    callF G N (n + m + 2) 122 [ePlan plan, .str g.s] h = .ok (eOF (valOf g plan m)) h := by
  have hsq := square_spec (G := G) (N := N) (n := n + m) (h := h) (hG.sub (S := [117]) rfl) hne hn hb (by omega) hp (by omega)
  have bd := sqT_bound hn hb (by omega)
  have hdt := det_spec (G := G) (N := N) (h := h) (hG.sub (S := [62]) rfl) (k := k + k + 10) (by omega) m (sqT plan m) sqT_len sqT_row bd hm n
  have db := det_bound (k := k + k + 10) m (sqT plan m) sqT_len sqT_row bd hm
  have dsz : m * (k + k + 10 + 3) + 1 ≤ 6000 := by
    have : m * (k + k + 10 + 3) ≤ 7 * 413 := Nat.mul_le_mul hm (by omega)
    omega
  have db2 : (det m (sqT plan m)).natAbs < 2 ^ 6000 := Nat.lt_of_lt_of_le db (Nat.pow_le_pow_right (by omega) dsz)
  have db3 : (2 : Nat) ^ 6000 ≤ 2 ^ 9000 := Nat.pow_le_pow_right (by omega) (by omega)
  have hcr : ∀ q : Nat, callF G N (n + m + 1) 124 [.lst .imm ((sqT plan m).map lRow), .int (q : Int), .int (q : Int)] h = .ok (.lst .own ((crossOut (sqT plan m) q q).map lRow)) h := fun q =>
    cross_spec (G := G) (N := N) (n := n + m) (h := h) (hG.sub (S := [124]) rfl) (by rw [sqT_len]; omega) (fun r hr => by rw [sqT_row r hr]; omega)
  have hdq : ∀ q : Nat, q < m → callF G N (n + m + 1) 62 [.lst .imm ((crossOut (sqT plan m) q q).map lRow)] h = .ok (.int (det (m - 1) (crossOut (sqT plan m) q q))) h := fun q hq => by
    have := det_spec (G := G) (N := N) (h := h) (hG.sub (S := [62]) rfl) (k := k + k + 10) (by omega) (m - 1) (crossOut (sqT plan m) q q) (by rw [cross_len (by rw [sqT_len]; exact hq), sqT_len]) (fun r hr => by
      obtain ⟨s, hs, rfl⟩ := cross_mem hr
      have := sqT_row s hs
      rw [cutAt_length (by omega)]; omega) (fun r hr x hx => by
      obtain ⟨s, hs, rfl⟩ := cross_mem hr
      exact bd s hs x (cutAt_mem hx)) (by omega) (n + 1)
    rw [show n + 1 + (m - 1) + 1 = n + m + 1 by omega] at this
    exact this
  refine hG.call (d := fd_value_of) rfl rfl ?_
  unfold fd_value_of
  refine runF_rt rfl rfl ?_
  walk_at "st"
  walk_at "mic"
  unfold valOf
  apply exs_cond
  · walk_at "mi"
  · walk_at "mi"
  · intro ht
    rw [if_pos ht]
    walk_at "mi"
  · intro ht
    have hnz : det m (sqT plan m) ≠ 0 := by simpa using ht
    have hfr : ∀ t : Int, callF G N (n + m + 1) 77 [.int t, .int (det m (sqT plan m))] h = .ok (eFr (frac t (det m (sqT plan m)))) h := fun t => by
      have := fraction_spec (G := G) (N := N) (n := n + m - 1) (h := h) (hG.sub (S := [77, 63]) rfl) (t := t) hnz (Nat.lt_of_lt_of_le db2 db3) (Nat.lt_of_lt_of_le db2 hN)
      rw [show n + m - 1 + 2 = n + m + 1 by omega] at this
      exact this
    rw [if_neg (by rw [ht]; decide)]
    walk_at "mi"
    apply exs_cond
    · walk_at "mi"
      exact g_whole
    · walk_at "mi"
    · intro hg
      cases g <;> cases hg
      walk_at "mic"
    · intro hg
      obtain ⟨M, hM, _⟩ := maxI_some (l := partsOf (sqT plan m) m) (by unfold partsOf; intro z; have := congrArg List.length z; simp at this; omega)
      have hM' : maxI ((List.range m).map fun q => det (m - 1) (crossOut (sqT plan m) q q)) = some M := hM
      have hl : ((sqT plan m).length : Int) = (m : Int) := by rw [sqT_len]
      apply exs_appn
      refine exs_set (h1 := h) (v := .lst .own ((List.range m).map fun q => .int (det (m - 1) (crossOut (sqT plan m) q q)))) ?_ (by walk_at "mi") ?_
      · refine ev_compM (it_rng1 (ev_conv (by walk_at "mi") (by rw [hl])) (by omega)) (by walk_at "sl") (fun q hq => ?_) (by simp; omega)
        apply Elt.mk
        · walk_at "mi"
        · have h1 := hcr q
          have h2 := hdq q (List.mem_range.mp hq)
          walk_at "mi"
          · exact h1
          · exact rfl
          · walk_at "mi"
          · exact h2
        · rfl
      · cases g with
        | whole => cases hg
        | sum =>
          have e := g_sum (g := .sum) (h := h)
          have := hfr (partsOf (sqT plan m) m).sum
          apply exs_ret
          · apply ev_call
            · walk_at "mi"
            · apply evs_cons
              · apply ev_iteT
                · walk_at "mi"
                  exact e
                · walk_at "mi"
                · rfl
                · walk_at "mi"
              · rfl
              · walk_at "mi"
            · exact this
          · rfl
        | worst =>
          have e := g_sum (g := .worst) (h := h)
          have := hfr M
          apply exs_ret
          · apply ev_call
            · walk_at "mi"
            · apply evs_cons
              · apply ev_iteF
                · walk_at "mi"
                  exact e
                · walk_at "mi"
                · rfl
                · walk_at "mi"
                  exact max_map hM'
              · rfl
              · walk_at "mi"
            · exact this
          · rw [hM]; rfl
end
end Mi

set_option Elab.async false
set_option linter.all false
set_option autoImplicit false
set_option maxRecDepth 100000
/-! Mr3: found_best. -/
namespace Mi
open PySem PySem.Spec L2 PyProof.Rows
local macro_rules | `(tactic| walk_at "sl") => `(tactic| repeat' (first | (with_reducible exact get_zero) | (with_reducible exact set_zero) | (with_reducible apply get_succ) | (with_reducible apply set_succ) | (with_reducible apply wipe_nm) | (with_reducible apply wipe_tp2) | (with_reducible apply wipe_2)))
local macro_rules | `(tactic| walk_at "op") => `(tactic| first | (with_reducible exact i_nn) | (with_reducible exact i_n) | (with_reducible exact i_tn) | (with_reducible exact i_t) | (with_reducible exact b_add) | (with_reducible exact o_sub) | (with_reducible exact eq_int) | (with_reducible exact ne_int) | (with_reducible exact o_lt) | (with_reducible exact o_le) | (with_reducible exact o_gt) | (with_reducible exact o_ge) | (with_reducible exact t_bl) | (with_reducible exact t_int) | (with_reducible exact x_fst) | (with_reducible exact x_snd) | (with_reducible exact l_tup) | (with_reducible exact l_lst) | (with_reducible exact p_tup) | (with_reducible exact p_lst) | (with_reducible exact p_lstT) | (with_reducible exact p_abs) | (with_reducible exact sum_ints) | (with_reducible exact sum_map) | (with_reducible exact all_map) | (with_reducible exact isin_i) | (with_reducible exact isin_b) | (with_reducible exact isin_t) | (with_reducible exact isin_str) | (with_reducible exact any_lst) | (with_reducible exact any_tup) | (with_reducible exact q_nilN) | (with_reducible exact s_cutL) | (with_reducible exact s_cutR1) | (with_reducible exact s_cut1) | (with_reducible apply b_mul) | (with_reducible apply b_fdiv) | (with_reducible apply b_mod) | (with_reducible apply o_addT1) | (with_reducible apply o_addTM) | (with_reducible apply o_addT) | ((with_reducible apply o_addL1); (first | decide | skip); (first | decide | skip)) | ((with_reducible apply o_addLM); (first | decide | skip); (first | decide | skip)) | ((with_reducible apply o_addL); (first | decide | skip); (first | decide | skip)) | (with_reducible apply x_tup0 (0 : Int)) | (with_reducible apply x_lst0 (0 : Int)) | (with_reducible apply x_tup0 ([] : List Int)) | (with_reducible apply x_lst0 ([] : List Int)) | (with_reducible apply x_last (0 : Nat)) | (with_reducible apply x_tup (0 : Int)) | (with_reducible apply x_lst (0 : Int)) | (with_reducible apply x_tup ([] : List Int)) | (with_reducible apply x_lst ([] : List Int)))
local macro_rules | `(tactic| walk_at "e1") => `(tactic| first | (with_reducible exact ev_int) | (with_reducible exact ev_bl) | (with_reducible exact ev_non) | (with_reducible exact ev_str) | (with_reducible exact ev_fn) | (with_reducible exact ev_cls) | (with_reducible exact ev_ty) | ((with_reducible apply ev_var); (focus walk_at "sl"); exact rfl) | (with_reducible apply ev_bin) | (with_reducible apply ev_neg) | (with_reducible apply ev_cmp) | (with_reducible apply ev_chn) | (with_reducible apply ev_not) | (with_reducible apply ev_bo) | (with_reducible apply bo_one) | (with_reducible apply bo_and) | (with_reducible apply bo_or) | (with_reducible apply ev_iteI) | (with_reducible apply ev_tup) | (with_reducible apply ev_lst) | (with_reducible exact evs_nil) | (with_reducible apply evs_cons) | (with_reducible apply ev_idx) | (with_reducible exact evo_no) | (with_reducible apply evo_so) | (with_reducible apply ev_slc) | (with_reducible apply ev_call) | (with_reducible apply ev_p1) | (with_reducible apply ev_p2) | (with_reducible apply ev_m1) | (with_reducible exact evT_no) | (with_reducible apply evT_so) | (with_reducible exact fits_of (by first | exact Nat.zero_le _ | (simp only [List.length_cons, List.length_nil]; omega))) | (with_reducible apply it_seq) | (with_reducible apply it_rng1) | (with_reducible apply it_rng2) | (with_reducible apply it_enum) | (with_reducible apply it_zip) | (with_reducible apply ev_compM) | (with_reducible apply ev_compP) | (with_reducible apply ev_comp2P) | (intro _ _; (with_reducible apply Elt.mk)) | (intro _ _; (with_reducible apply EltP.mk)) | (intro _ _; (with_reducible apply Elt2.mk)) | ((with_reducible apply bT_nm); walk_at "sl"; done) | (with_reducible apply bT_tp2))
local macro_rules | `(tactic| walk_at "s1") => `(tactic| first | (with_reducible exact exs_nil) | (with_reducible apply exs_appc) | (with_reducible apply exs_appn) | (with_reducible apply exs_set) | (with_reducible apply exs_par2) | (with_reducible apply exs_par3) | (with_reducible apply exs_ret) | (with_reducible exact exs_rais) | (with_reducible apply exs_pas) | (with_reducible apply exs_ex) | (with_reducible apply exs_unp) | (with_reducible apply exs_app1) | (with_reducible apply keep_fz) | (with_reducible apply keep_own) | (with_reducible apply keep_heap))
local macro_rules | `(tactic| walk_at "rf") => `(tactic| first | ((with_reducible apply k_fz); exact rfl) | ((with_reducible apply k_un); exact rfl) | ((with_reducible apply k_it); exact rfl) | ((with_reducible apply k_sq); exact rfl) | ((with_reducible apply k_br); exact rfl) | ((with_reducible apply k_m1); exact rfl) | ((with_reducible apply k_set); walk_at "sl"; done) | ((with_reducible apply k_wipe); walk_at "sl"; done) | ((with_reducible apply k_get); walk_at "sl"; done))
local macro_rules | `(tactic| walk_at "mi") => `(tactic| repeat' (first | walk_at "e1" | walk_at "op" | walk_at "s1" | walk_at "rf" | (intro _; (first | walk_at "e1" | walk_at "s1"))))
local macro_rules | `(tactic| walk_at "mic") => `(tactic| repeat' (first | walk_at "e1" | walk_at "op" | walk_at "s1" | walk_at "rf" | ((with_reducible apply k_call); (with_reducible apply_assumption -exfalso -symm)) | (intro _; (first | walk_at "e1" | walk_at "s1"))))
local macro_rules | `(tactic| walk_at "sd") => `(tactic| first | assumption | omega | (simp only [List.length_range, List.length_map, List.length_cons, List.length_nil]; omega) | (simp only [List.mem_range, List.length_range, List.length_map] at *; omega))
local macro_rules | `(tactic| walk_at "st") => `(tactic| simp only [List.map_cons, List.map_nil, List.cons_append, List.nil_append, List.reduceReplicate, Nat.reduceSub])
def nextRows (m : Nat) (rows : List (List Nat)) : List (List Nat) := rows.flatMap fun r => ((List.range m).filter fun k : Nat => r.isEmpty || decide (((r.getLastD 0 : Nat) : Int) ≤ (k : Int))).map fun k : Nat => r ++ [k]
def fbRows (m : Nat) : Nat → List (List Nat)
  | 0 => [[]]
  | t + 1 => nextRows m (fbRows m t)
theorem foldl_rows {m : Nat} {α : Type} : ∀ (xs : List α) (t : Nat), xs.foldl (fun rows _ => nextRows m rows) (fbRows m t) = fbRows m (t + xs.length)
  | [], t => rfl
  | x :: xs, t => by
    rw [List.foldl_cons, List.length_cons]
    have := foldl_rows (m := m) xs (t + 1)
    rw [show t + (xs.length + 1) = t + 1 + xs.length by omega]
    exact this
theorem fbRows_mem {m : Nat} : ∀ (t : Nat) (r : List Nat), r ∈ fbRows m t → r.length = t ∧ ∀ k ∈ r, k < m
  | 0, r, hr => by
    simp [fbRows] at hr
    subst hr
    simp
  | t + 1, r, hr => by
    simp only [fbRows, nextRows, List.mem_flatMap, List.mem_map, List.mem_filter, List.mem_range] at hr
    obtain ⟨r', h1, k, ⟨h2, _⟩, rfl⟩ := hr
    obtain ⟨a, b⟩ := fbRows_mem t r' h1
    refine ⟨by simp [a], fun q hq => ?_⟩
    rcases List.mem_append.mp hq with e | e
    · exact b q e
    · simp at e; omega
def bestStep (g : Goal) (sm : List (List Int)) (m : Nat) (b : Option ((Int × Int) × List (List Int))) (r : List Nat) : Option ((Int × Int) × List (List Int)) :=
  match valOf g (r.map fun k => sm.getD k []) m with
  | none => b
  | some v => match b with
    | none => some (v, r.map fun k => sm.getD k [])
    | some w => if decide (v.1 * w.1.2 < w.1.1 * v.2) = true then some (v, r.map fun k => sm.getD k []) else b
def foundBest (g : Goal) (sm : List (List Int)) (m t : Nat) : Option ((Int × Int) × List (List Int)) := (fbRows sm.length t).foldl (bestStep g sm m) none
def Qb (k : Nat) (q : Int × Int) : Prop := q.1.natAbs < 2 ^ k ∧ q.2.natAbs < 2 ^ k
theorem valOf_bound {g : Goal} {plan : List (List Int)} {m k : Nat} {v : Int × Int} (hn : ∀ r ∈ plan, r.length = m) (hb : ∀ r ∈ plan, ∀ x ∈ r, x.natAbs < 2 ^ k) (hk : k ≤ 200) (hp : plan.length < 1000) (hm : m ≤ 7) (hv : valOf g plan m = some v) : Qb 6000 v := by
  have bd := sqT_bound hn hb (by omega)
  have dsz : m * (k + k + 10 + 3) + 1 ≤ 5000 := by
    have : m * (k + k + 10 + 3) ≤ 7 * 413 := Nat.mul_le_mul hm (by omega)
    omega
  have db := det_bound (k := k + k + 10) m (sqT plan m) sqT_len sqT_row bd hm
  have db2 : (det m (sqT plan m)).natAbs < 2 ^ 5000 := Nat.lt_of_lt_of_le db (Nat.pow_le_pow_right (by omega) dsz)
  have pb : ∀ x ∈ partsOf (sqT plan m) m, x.natAbs < 2 ^ 5000 := fun x hx => by
    obtain ⟨q, hq, rfl⟩ := List.mem_map.mp hx
    have hq := List.mem_range.mp hq
    refine Nat.lt_of_lt_of_le (det_bound (k := k + k + 10) (m - 1) (crossOut (sqT plan m) q q) (by rw [cross_len (by rw [sqT_len]; exact hq), sqT_len]) (fun r hr => by
      obtain ⟨s, hs, rfl⟩ := cross_mem hr
      have := sqT_row s hs
      rw [cutAt_length (by omega)]; omega) (fun r hr x hx => by
      obtain ⟨s, hs, rfl⟩ := cross_mem hr
      exact bd s hs x (cutAt_mem hx)) (by omega)) (Nat.pow_le_pow_right (by omega) ?_)
    have : (m - 1) * (k + k + 10 + 3) ≤ m * (k + k + 10 + 3) := Nat.mul_le_mul_right _ (by omega)
    omega
  have up : (2 : Nat) ^ 5000 ≤ 2 ^ 6000 := Nat.pow_le_pow_right (by omega) (by omega)
  have up8 : 8 * (2 : Nat) ^ 5000 ≤ 2 ^ 6000 := by
    have : (2 : Nat) ^ (3 + 5000) ≤ 2 ^ 6000 := Nat.pow_le_pow_right (by omega) (by omega)
    rw [Nat.pow_add] at this
    exact this
  have u1 : 1 < (2 : Nat) ^ 5000 := Nat.one_lt_pow (by omega) (by omega)
  unfold valOf at hv
  have fin : ∀ t : Int, t.natAbs < 2 ^ 6000 → det m (sqT plan m) ≠ 0 → Qb 6000 (frac t (det m (sqT plan m))) := fun t ht h0 => by
    obtain ⟨a, b⟩ := frac_bound (t := t) h0
    exact ⟨Nat.lt_of_le_of_lt a ht, Nat.lt_of_le_of_lt b (Nat.lt_of_lt_of_le db2 up)⟩
  by_cases e : det m (sqT plan m) = 0
  · rw [if_pos (decide_eq_true e)] at hv
    cases hv
  · rw [if_neg (by simpa using e)] at hv
    cases g with
    | whole =>
      cases hv
      exact fin 1 (Nat.lt_of_lt_of_le u1 up) e
    | sum =>
      cases hv
      refine fin _ (Nat.lt_of_le_of_lt (sum_bound (A := 2 ^ 5000) (g := fun q => det (m - 1) (crossOut (sqT plan m) q q)) (List.range m) (fun q hq => Nat.le_of_lt (pb _ (List.mem_map.mpr ⟨q, hq, rfl⟩)))) ?_) e
      rw [List.length_range]
      have : m * 2 ^ 5000 ≤ 7 * 2 ^ 5000 := Nat.mul_le_mul_right _ hm
      exact Nat.lt_of_le_of_lt this (Nat.lt_of_lt_of_le (Nat.mul_lt_mul_of_pos_right (by omega) (Nat.lt_trans (by omega) u1)) up8)
    | worst =>
      cases hv
      refine fin _ ?_ e
      by_cases hm0 : m = 0
      · subst hm0
        have z : (maxI (partsOf (sqT plan 0) 0)).getD 0 = 0 := rfl
        rw [z]
        exact Nat.lt_trans (Nat.zero_lt_one) (Nat.lt_of_lt_of_le u1 up)
      · obtain ⟨M, hM, hMm⟩ := maxI_some (l := partsOf (sqT plan m) m) (by unfold partsOf; intro z; have := congrArg List.length z; simp at this; omega)
        rw [hM]
        exact Nat.lt_of_lt_of_le (pb _ hMm) up
theorem rows_map {m : Nat} {rows : List (List Nat)} : (rows.flatMap fun x => (List.filter (fun y : Nat => x.isEmpty || decide (((x.getLastD 0 : Nat) : Int) ≤ (y : Int))) (List.range m)).map fun y => iRow (x ++ [y])) = (nextRows m rows).map iRow := by
  unfold nextRows
  rw [List.map_flatMap]
  congr 1
  funext x
  rw [List.map_map]
  rfl
section
variable {c : Cf} {N : Nat} {h : Heap}
theorem isin_str {s : Str} : p2V .isin (.str s) (.ty "str") = some (.bl true) := rfl
theorem goal_in {g : Goal} : cop .notin (.str g.s) (.tup [.str "sum", .str "worst", .str "whole"]) h = some false := by
  have e : ∀ g : Goal, cop .notin (.str g.s) (.tup [.str "sum", .str "worst", .str "whole"]) [] = some false := fun g => by cases g <;> kernel_rfl
  exact e g
theorem best_run {things many : Nat} {sort : Str} {g : Goal} {sm : List (List Int)} {cnt : Int} (h58 : c 58 [.int things] h = .ok .non h) (h81 : c 81 [.int many, .int things, .int 8] h = .ok (.bl true) h) (h56 : c 56 [.str sort] h = .ok .non h)
    (h111 : c 111 [.int things, .str sort] h = .ok (.lst .own (sm.map eRow)) h) (h61 : c 61 [.int (sm.length : Int), .int many] h = .ok (.int cnt) h) (hcnt : cnt ≤ 3100)
    (hsm : ∀ r ∈ sm, r.length = things ∧ ∀ x ∈ r, x.natAbs < 2 ^ 1) (hl : sm.length < 1000) (hth : things ≤ 4) (hth0 : 0 < things) (hmany : many ≤ 8) (hmany0 : 0 < many) (hrows : ∀ t ≤ many, (fbRows sm.length t).length ≤ 1000000)
    (h122 : ∀ plan : List (List Int), plan.length = many → (∀ r ∈ plan, r ∈ sm) → c 122 [ePlan plan, .str g.s] h = .ok (eOF (valOf g plan things)) h)
    (h80 : ∀ p q : Int × Int, Qb 6000 p → Qb 6000 q → c 80 [eFr p, eFr q] h = .ok (.bl (decide (p.1 * q.2 < q.1 * p.2))) h) :
    runF c N fd_found_best [.int things, .int many, .str sort, .str g.s] h = .ok (.tup [eOP ((foundBest g sm things many).map (·.2)), eOF ((foundBest g sm things many).map (·.1))]) h := by
  unfold fd_found_best
  refine runF_rt rfl rfl ?_
  walk_at "st"
  walk_at "mic"
  apply exs_condF
  · walk_at "mic"
  · walk_at "mi"
  · rfl
  walk_at "mic"
  apply exs_condF
  · apply ev_bo
    apply bo_or
    · walk_at "mi"
      · exact isin_str
      · walk_at "mi"
    · intro _
      walk_at "mi"
      exact goal_in
  · walk_at "mi"
  · rfl
  walk_at "mic"
  apply exs_condF
  · walk_at "mic"
  · walk_at "mi"
  · simpa using hcnt
  apply exs_appn
  apply exs_set
  · apply ev_lst
    · apply evs_cons
      · apply ev_tup
        · exact evs_nil
        · walk_at "e1"
      · rfl
      · exact evs_nil
    · walk_at "e1"
  · walk_at "mi"
  refine exs_forP (fun (rows : List (List Nat)) ρ => ∃ a, ρ = [some (.int things), some (.int many), some (.str sort), some (.str g.s), some (.lst .imm (sm.map eRow)), some (.lst .imm (rows.map iRow)), a, none, none, none, none, none, none]) (fun rows _ => nextRows sm.length rows) [[]] (it_rng1 (n := many) (by walk_at "mi") (by omega)) ⟨_, rfl⟩ (fun pre x post hp ρ hs => ?_) (fun ρ1 hs => ?_)
  · obtain ⟨a, rfl⟩ := hs
    have hpl : pre.length < many := by
      have := congrArg List.length hp
      simp at this
      omega
    have e1 := foldl_rows (m := sm.length) pre 0
    have e2 : fbRows sm.length 0 = [[]] := rfl
    rw [e2, Nat.zero_add] at e1
    rw [e1]
    have b1 : (nextRows sm.length (fbRows sm.length pre.length)).length ≤ 1000000 := hrows (pre.length + 1) (by omega)
    have b0 := hrows pre.length (by omega)
    have rl : ∀ r ∈ fbRows sm.length pre.length, r.length ≤ 8 := fun r hr => by have := (fbRows_mem _ r hr).1; omega
    generalize fbRows sm.length pre.length = rows at *
    apply Turn.mk
    · walk_at "mi"
    · walk_at "mi"
      · omega
      · rename_i r hr k hk hf
        simpa using hf
      · rename_i r hr k hk hf
        have := rl r hr
        omega
      · rw [rows_map, List.length_map]
        exact b1
    · exact ⟨_, by rw [rows_map]⟩
  · obtain ⟨a, rfl⟩ := hs
    have e1 := foldl_rows (m := sm.length) (List.range many) 0
    have e2 : fbRows sm.length 0 = [[]] := rfl
    rw [e2, Nat.zero_add, List.length_range] at e1
    rw [e1]
    have b0 := hrows many (by omega)
    have rl := fbRows_mem (m := sm.length) many
    unfold foundBest
    generalize fbRows sm.length many = rows at *
    apply exs_par2
    · walk_at "mi"
    · walk_at "mi"
    · walk_at "mi"
    · walk_at "mi"
    refine exs_forF (fun (s : Option ((Int × Int) × List (List Int))) ρ => (∀ w, s = some w → Qb 6000 w.1) ∧ ∃ b d e, ρ = [some (.int things), some (.int many), some (.str sort), some (.str g.s), some (.lst .imm (sm.map eRow)), some (.lst .imm (rows.map iRow)), a, b, some (eOF (s.map (·.1))), some (eOP (s.map (·.2))), d, e, none]) (bestStep g sm things) none (by walk_at "mi") ⟨fun _ z => (by cases z), _, _, _, rfl⟩ (fun s r hr ρ hs => ?_) (fun ρ1 hs => ?_)
    · obtain ⟨hq, b, d, e, rfl⟩ := hs
      obtain ⟨r1, r2⟩ := rl r hr
      have pm : ∀ x ∈ r.map (fun k => sm.getD k []), x ∈ sm := fun x hx => by
        obtain ⟨k, hk, rfl⟩ := List.mem_map.mp hx
        exact getD_mem (r2 k hk)
      have hv := h122 (r.map fun k => sm.getD k []) (by simp [r1]) pm
      clear h122
      have vb : ∀ v, valOf g (r.map fun k => sm.getD k []) things = some v → Qb 6000 v := fun v hv => valOf_bound (k := 1) (fun x hx => (hsm x (pm x hx)).1) (fun x hx => (hsm x (pm x hx)).2) (by omega) (by simp [r1]; omega) (by omega) hv
      have ep : Val.tup (r.map fun k => eRow (sm.getD k [])) = ePlan (r.map fun k => sm.getD k []) := by
        show _ = Val.tup _
        rw [List.map_map]
        rfl
      unfold bestStep
      cases ev : valOf g (r.map fun k => sm.getD k []) things with
      | none =>
        rw [ev] at hv
        apply Turn.mk
        · walk_at "mi"
        · refine exs_set (h1 := h) (v := ePlan (r.map fun k => sm.getD k [])) (ev_conv (by walk_at "mi"; exact r2 _ (by assumption); omega; walk_at "mi") ep) (by walk_at "mi") ?_
          apply exs_set
          · walk_at "mic"
          · exact keep_fz (w := .non) rfl (by walk_at "sl")
          apply exs_condF
          · apply ev_bo
            apply bo_and (u := true)
            · walk_at "mi"
            · intro z; cases z
          · walk_at "mi"
          · rfl
          walk_at "mi"
        · exact ⟨hq, _, _, _, rfl⟩
      | some v =>
        rw [ev] at hv
        have hvb := vb v ev
        cases s with
        | none =>
          apply Turn.mk
          · walk_at "mi"
          · refine exs_set (h1 := h) (v := ePlan (r.map fun k => sm.getD k [])) (ev_conv (by walk_at "mi"; exact r2 _ (by assumption); omega; walk_at "mi") ep) (by walk_at "mi") ?_
            apply exs_set
            · walk_at "mic"
            · exact keep_fz (w := eFr v) rfl (by walk_at "sl")
            apply exs_condT
            · apply ev_bo
              apply bo_and (u := true)
              · walk_at "mi"
              · intro z
                apply bo_one
                apply ev_bo
                exact bo_or (t := true) (u := false) (ev_cmp (ev_var (v := .non) (by exact rfl) rfl) ev_non i_n) (fun z => by cases z)
            · walk_at "mi"
            · rfl
            walk_at "mi"
          · exact ⟨fun w hw => by cases hw; exact hvb, _, _, _, rfl⟩
        | some w =>
          have hwb := hq w rfl
          have h8 := h80 v w.1 hvb hwb
          clear h80
          simp only
          split
          · rename_i hc
            apply Turn.mk
            · walk_at "mi"
            · refine exs_set (h1 := h) (v := ePlan (r.map fun k => sm.getD k [])) (ev_conv (by walk_at "mi"; exact r2 _ (by assumption); omega; walk_at "mi") ep) (by walk_at "mi") ?_
              apply exs_set
              · walk_at "mic"
              · exact keep_fz (w := eFr v) rfl (by walk_at "sl")
              apply exs_condT
              · apply ev_bo
                apply bo_and
                · walk_at "mi"
                · intro z
                  apply bo_one
                  apply ev_bo
                  exact bo_or (t := false) (ev_cmp (ev_var (v := eFr w.1) (by exact rfl) rfl) ev_non i_t) (fun z => bo_one (ev_call ev_fn (evs_cons (x := eFr v) (ev_var (v := eFr v) (by exact rfl) rfl) rfl (evs_cons (x := eFr w.1) (ev_var (v := eFr w.1) (by exact rfl) rfl) rfl evs_nil)) h8))
              · walk_at "mi"
              · simp [hc]
              walk_at "mi"
            · exact ⟨fun w hw => by cases hw; exact hvb, _, _, _, rfl⟩
          · rename_i hc
            apply Turn.mk
            · walk_at "mi"
            · refine exs_set (h1 := h) (v := ePlan (r.map fun k => sm.getD k [])) (ev_conv (by walk_at "mi"; exact r2 _ (by assumption); omega; walk_at "mi") ep) (by walk_at "mi") ?_
              apply exs_set
              · walk_at "mic"
              · exact keep_fz (w := eFr v) rfl (by walk_at "sl")
              apply exs_condF
              · apply ev_bo
                apply bo_and
                · walk_at "mi"
                · intro z
                  apply bo_one
                  apply ev_bo
                  exact bo_or (t := false) (ev_cmp (ev_var (v := eFr w.1) (by exact rfl) rfl) ev_non i_t) (fun z => bo_one (ev_call ev_fn (evs_cons (x := eFr v) (ev_var (v := eFr v) (by exact rfl) rfl) rfl (evs_cons (x := eFr w.1) (ev_var (v := eFr w.1) (by exact rfl) rfl) rfl evs_nil)) h8))
              · walk_at "mi"
              · simpa using hc
              walk_at "mi"
            · exact ⟨hq, _, _, _, rfl⟩
    · obtain ⟨hq, b, d, e, rfl⟩ := hs
      generalize List.foldl (bestStep g sm things) none rows = s
      apply exs_ret
      · apply ev_tup
        · apply evs_cons (x := eOP (s.map (·.2)))
          · exact ev_var (by walk_at "sl") rd_eOP
          · exact fz_eOP
          · apply evs_cons (x := eOF (s.map (·.1)))
            · exact ev_var (by walk_at "sl") rd_eOF
            · exact fz_eOF
            · walk_at "mi"
        · walk_at "mi"
      · rfl
end
end Mi

set_option Elab.async false
set_option linter.all false
set_option autoImplicit false
set_option maxRecDepth 100000
/-! Mr4: the laws' draws, as calls. -/
namespace Mi
open PySem PySem.Spec L2 PyProof.Rows
local macro_rules | `(tactic| walk_at "sl") => `(tactic| repeat' (first | (with_reducible exact get_zero) | (with_reducible exact set_zero) | (with_reducible apply get_succ) | (with_reducible apply set_succ) | (with_reducible apply wipe_nm) | (with_reducible apply wipe_tp2) | (with_reducible apply wipe_2)))
local macro_rules | `(tactic| walk_at "op") => `(tactic| first | (with_reducible exact i_nn) | (with_reducible exact i_n) | (with_reducible exact i_tn) | (with_reducible exact i_t) | (with_reducible exact b_add) | (with_reducible exact o_sub) | (with_reducible exact eq_int) | (with_reducible exact ne_int) | (with_reducible exact o_lt) | (with_reducible exact o_le) | (with_reducible exact o_gt) | (with_reducible exact o_ge) | (with_reducible exact t_bl) | (with_reducible exact t_int) | (with_reducible exact x_fst) | (with_reducible exact x_snd) | (with_reducible exact l_tup) | (with_reducible exact l_lst) | (with_reducible exact p_tup) | (with_reducible exact p_lst) | (with_reducible exact p_lstT) | (with_reducible exact p_abs) | (with_reducible exact sum_ints) | (with_reducible exact sum_map) | (with_reducible exact all_map) | (with_reducible exact isin_i) | (with_reducible exact isin_b) | (with_reducible exact isin_t) | (with_reducible exact isin_str) | (with_reducible exact any_lst) | (with_reducible exact any_tup) | (with_reducible exact q_nilN) | (with_reducible exact s_cutL) | (with_reducible exact s_cutR1) | (with_reducible exact s_cut1) | (with_reducible apply b_mul) | (with_reducible apply b_fdiv) | (with_reducible apply b_mod) | (with_reducible apply o_addT1) | (with_reducible apply o_addTM) | (with_reducible apply o_addT) | ((with_reducible apply o_addL1); (first | decide | skip); (first | decide | skip)) | ((with_reducible apply o_addLM); (first | decide | skip); (first | decide | skip)) | ((with_reducible apply o_addL); (first | decide | skip); (first | decide | skip)) | (with_reducible apply x_tup0 (0 : Int)) | (with_reducible apply x_lst0 (0 : Int)) | (with_reducible apply x_tup0 ([] : List Int)) | (with_reducible apply x_lst0 ([] : List Int)) | (with_reducible apply x_last (0 : Nat)) | (with_reducible apply x_tup (0 : Int)) | (with_reducible apply x_lst (0 : Int)) | (with_reducible apply x_tup ([] : List Int)) | (with_reducible apply x_lst ([] : List Int)))
local macro_rules | `(tactic| walk_at "e1") => `(tactic| first | (with_reducible exact ev_int) | (with_reducible exact ev_bl) | (with_reducible exact ev_non) | (with_reducible exact ev_str) | (with_reducible exact ev_fn) | (with_reducible exact ev_cls) | (with_reducible exact ev_ty) | ((with_reducible apply ev_var); (focus walk_at "sl"); exact rfl) | (with_reducible apply ev_bin) | (with_reducible apply ev_neg) | (with_reducible apply ev_cmp) | (with_reducible apply ev_chn) | (with_reducible apply ev_not) | (with_reducible apply ev_bo) | (with_reducible apply bo_one) | (with_reducible apply bo_and) | (with_reducible apply bo_or) | (with_reducible apply ev_iteI) | (with_reducible apply ev_tup) | (with_reducible apply ev_lst) | (with_reducible exact evs_nil) | (with_reducible apply evs_cons) | (with_reducible apply ev_idx) | (with_reducible exact evo_no) | (with_reducible apply evo_so) | (with_reducible apply ev_slc) | (with_reducible apply ev_call) | (with_reducible apply ev_p1) | (with_reducible apply ev_p2) | (with_reducible apply ev_m1) | (with_reducible exact evT_no) | (with_reducible apply evT_so) | (with_reducible exact fits_of (by first | exact Nat.zero_le _ | (simp only [List.length_cons, List.length_nil]; omega))) | (with_reducible apply it_seq) | (with_reducible apply it_rng1) | (with_reducible apply it_rng2) | (with_reducible apply it_enum) | (with_reducible apply it_zip) | (with_reducible apply ev_compM) | (with_reducible apply ev_compP) | (with_reducible apply ev_comp2P) | (intro _ _; (with_reducible apply Elt.mk)) | (intro _ _; (with_reducible apply EltP.mk)) | (intro _ _; (with_reducible apply Elt2.mk)) | ((with_reducible apply bT_nm); walk_at "sl"; done) | (with_reducible apply bT_tp2))
local macro_rules | `(tactic| walk_at "s1") => `(tactic| first | (with_reducible exact exs_nil) | (with_reducible apply exs_appc) | (with_reducible apply exs_appn) | (with_reducible apply exs_set) | (with_reducible apply exs_par2) | (with_reducible apply exs_par3) | (with_reducible apply exs_ret) | (with_reducible exact exs_rais) | (with_reducible apply exs_pas) | (with_reducible apply exs_ex) | (with_reducible apply exs_unp) | (with_reducible apply exs_app1) | (with_reducible apply keep_fz) | (with_reducible apply keep_own) | (with_reducible apply keep_heap))
local macro_rules | `(tactic| walk_at "rf") => `(tactic| first | ((with_reducible apply k_fz); exact rfl) | ((with_reducible apply k_un); exact rfl) | ((with_reducible apply k_it); exact rfl) | ((with_reducible apply k_sq); exact rfl) | ((with_reducible apply k_br); exact rfl) | ((with_reducible apply k_m1); exact rfl) | ((with_reducible apply k_set); walk_at "sl"; done) | ((with_reducible apply k_wipe); walk_at "sl"; done) | ((with_reducible apply k_get); walk_at "sl"; done))
local macro_rules | `(tactic| walk_at "mi") => `(tactic| repeat' (first | walk_at "e1" | walk_at "op" | walk_at "s1" | walk_at "rf" | (intro _; (first | walk_at "e1" | walk_at "s1"))))
local macro_rules | `(tactic| walk_at "mic") => `(tactic| repeat' (first | walk_at "e1" | walk_at "op" | walk_at "s1" | walk_at "rf" | ((with_reducible apply k_call); (with_reducible apply_assumption -exfalso -symm)) | (intro _; (first | walk_at "e1" | walk_at "s1"))))
local macro_rules | `(tactic| walk_at "sd") => `(tactic| first | assumption | omega | (simp only [List.length_range, List.length_map, List.length_cons, List.length_nil]; omega) | (simp only [List.mem_range, List.length_range, List.length_map] at *; omega))
local macro_rules | `(tactic| walk_at "st") => `(tactic| simp only [List.map_cons, List.map_nil, List.cons_append, List.nil_append, List.reduceReplicate, Nat.reduceSub])
/-- the town stands at the heap's place 0, at most B draws so far -/
def Tn (ns : List Int) (B : Nat) (h : Heap) : Prop := ∃ (t : Int) (us : List Int), h[0]? = some (.lst ((t :: us).map Val.int)) ∧ us.length = ns.length ∧ 0 ≤ t ∧ t ≤ (B : Int)
/-- only the town has changed -/
def Dr (h h' : Heap) : Prop := h'.length = h.length ∧ ∀ a, a ≠ 0 → h'[a]? = h[a]?
theorem Dr.refl (h : Heap) : Dr h h := ⟨rfl, fun _ _ => rfl⟩
theorem Dr.trans {h1 h2 h3 : Heap} (a : Dr h1 h2) (b : Dr h2 h3) : Dr h1 h3 := ⟨b.1.trans a.1, fun i hi => (b.2 i hi).trans (a.2 i hi)⟩
theorem Tn.mono {ns : List Int} {A B : Nat} {h : Heap} (hT : Tn ns A h) (hAB : A ≤ B) : Tn ns B h := by
  obtain ⟨t, us, a, b, d, e⟩ := hT
  exact ⟨t, us, a, b, d, by omega⟩
section
variable {G : Nat → Option FD} {N n : Nat} {h : Heap} {ns : List Int}
theorem town_spec (hG : Has G [30]) (hn : ns.length ≤ 63) : callF G N (n + 1) 30 [scrV ns] h = .ok (.lst .own ((0 :: ns).map Val.int)) h :=
  hG.call (d := fd__law_town) rfl rfl (town_ok hn)
theorem Tn.start (hn : ns.length ≤ 63) : Tn ns 0 [.lst ((0 :: ns).map Val.int)] := ⟨0, ns, rfl, rfl, by omega, by omega⟩
theorem draw_spec (hG : Has G [7]) (hn : ns.length ≤ 63) {B : Nat} (hT : Tn ns B h) (hB : B < 1000000) {limit : Int} (hl : 0 < limit) (hl2 : limit < 1000000) :
    ∃ r h', callF G N (n + 1) 7 [scrV ns, .ref 0, .int limit] h = .ok (.int r) h' ∧ 0 ≤ r ∧ r < limit ∧ Tn ns (B + 1) h' ∧ Dr h h' := by
  obtain ⟨t, us, a, b, d, e⟩ := hT
  obtain ⟨r, us', h1, h2, h3, h4⟩ := draw_ok (c := callF G N n) (N := N) (ns := ns) (us := us) (t := t) (limit := limit) (a := 0) (h := h) a b hn d (by omega) hl (by omega)
  have hlen : 0 < h.length := (List.getElem?_eq_some_iff.mp a).1
  refine ⟨r, _, hG.call (d := fd__law_draw) rfl rfl h1, h3, h4, ⟨t + 1, us', ?_, h2.trans b, by omega, by omega⟩, by simp, fun i hi => ?_⟩
  · rw [List.getElem?_set_self hlen]
  · rw [List.getElem?_set_ne (fun z => hi z.symm)]
theorem pick_spec (hG : Has G [17, 7]) (hn : ns.length ≤ 63) {B : Nat} (hT : Tn ns B h) (hB : B < 1000000) {α : Type} {xs : List α} {f : α → Val} {k : Kd} (hk : k = .imm) (hx : xs ≠ []) (hx2 : xs.length < 1000000) :
    ∃ x h', callF G N (n + 2) 17 [scrV ns, .ref 0, .lst k (xs.map f)] h = .ok (un (f x)) h' ∧ x ∈ xs ∧ Tn ns (B + 1) h' ∧ Dr h h' := by
  subst hk
  have hlp : 0 < xs.length := List.length_pos_iff.mpr hx
  obtain ⟨r, h', e, r0, r1, hT', hD⟩ := draw_spec (N := N) (n := n) (hG.sub (S := [7]) rfl) hn hT hB (limit := (xs.length : Int)) (by omega) (by omega)
  obtain ⟨q, rfl⟩ := Int.eq_ofNat_of_zero_le r0
  have hq : q < xs.length := by omega
  refine ⟨xs.getD q (xs[q]), h', hG.call (d := fd__law_pick) rfl rfl ?_, getD_mem hq, hT', hD⟩
  unfold fd__law_pick
  refine runF_rt rfl rfl ?_
  walk_at "st"
  have e' : callF G N (n + 1) 7 [.lst .scr (ns.map Val.int), .ref 0, .int (xs.length : Int)] h = .ok (.int (q : Int)) h' := e
  apply exs_ret
  · apply ev_idx
    · walk_at "mi"
    · walk_at "mi"
      exact e'
    · exact x_lst xs[q] hq
  · rfl
end
end Mi

set_option Elab.async false
set_option linter.all false
set_option autoImplicit false
set_option maxRecDepth 100000
/-! Mr5: fractions as rational numbers. -/
namespace Mi
open PySem PySem.Spec L2 PyProof.Rows
local macro_rules | `(tactic| walk_at "sl") => `(tactic| repeat' (first | (with_reducible exact get_zero) | (with_reducible exact set_zero) | (with_reducible apply get_succ) | (with_reducible apply set_succ) | (with_reducible apply wipe_nm) | (with_reducible apply wipe_tp2) | (with_reducible apply wipe_2)))
local macro_rules | `(tactic| walk_at "op") => `(tactic| first | (with_reducible exact i_nn) | (with_reducible exact i_n) | (with_reducible exact i_tn) | (with_reducible exact i_t) | (with_reducible exact b_add) | (with_reducible exact o_sub) | (with_reducible exact eq_int) | (with_reducible exact ne_int) | (with_reducible exact o_lt) | (with_reducible exact o_le) | (with_reducible exact o_gt) | (with_reducible exact o_ge) | (with_reducible exact t_bl) | (with_reducible exact t_int) | (with_reducible exact x_fst) | (with_reducible exact x_snd) | (with_reducible exact l_tup) | (with_reducible exact l_lst) | (with_reducible exact p_tup) | (with_reducible exact p_lst) | (with_reducible exact p_lstT) | (with_reducible exact p_abs) | (with_reducible exact sum_ints) | (with_reducible exact sum_map) | (with_reducible exact all_map) | (with_reducible exact isin_i) | (with_reducible exact isin_b) | (with_reducible exact isin_t) | (with_reducible exact isin_str) | (with_reducible exact any_lst) | (with_reducible exact any_tup) | (with_reducible exact q_nilN) | (with_reducible exact s_cutL) | (with_reducible exact s_cutR1) | (with_reducible exact s_cut1) | (with_reducible apply b_mul) | (with_reducible apply b_fdiv) | (with_reducible apply b_mod) | (with_reducible apply o_addT1) | (with_reducible apply o_addTM) | (with_reducible apply o_addT) | ((with_reducible apply o_addL1); (first | decide | skip); (first | decide | skip)) | ((with_reducible apply o_addLM); (first | decide | skip); (first | decide | skip)) | ((with_reducible apply o_addL); (first | decide | skip); (first | decide | skip)) | (with_reducible apply x_tup0 (0 : Int)) | (with_reducible apply x_lst0 (0 : Int)) | (with_reducible apply x_tup0 ([] : List Int)) | (with_reducible apply x_lst0 ([] : List Int)) | (with_reducible apply x_last (0 : Nat)) | (with_reducible apply x_tup (0 : Int)) | (with_reducible apply x_lst (0 : Int)) | (with_reducible apply x_tup ([] : List Int)) | (with_reducible apply x_lst ([] : List Int)))
local macro_rules | `(tactic| walk_at "e1") => `(tactic| first | (with_reducible exact ev_int) | (with_reducible exact ev_bl) | (with_reducible exact ev_non) | (with_reducible exact ev_str) | (with_reducible exact ev_fn) | (with_reducible exact ev_cls) | (with_reducible exact ev_ty) | ((with_reducible apply ev_var); (focus walk_at "sl"); exact rfl) | (with_reducible apply ev_bin) | (with_reducible apply ev_neg) | (with_reducible apply ev_cmp) | (with_reducible apply ev_chn) | (with_reducible apply ev_not) | (with_reducible apply ev_bo) | (with_reducible apply bo_one) | (with_reducible apply bo_and) | (with_reducible apply bo_or) | (with_reducible apply ev_iteI) | (with_reducible apply ev_tup) | (with_reducible apply ev_lst) | (with_reducible exact evs_nil) | (with_reducible apply evs_cons) | (with_reducible apply ev_idx) | (with_reducible exact evo_no) | (with_reducible apply evo_so) | (with_reducible apply ev_slc) | (with_reducible apply ev_call) | (with_reducible apply ev_p1) | (with_reducible apply ev_p2) | (with_reducible apply ev_m1) | (with_reducible exact evT_no) | (with_reducible apply evT_so) | (with_reducible exact fits_of (by first | exact Nat.zero_le _ | (simp only [List.length_cons, List.length_nil]; omega))) | (with_reducible apply it_seq) | (with_reducible apply it_rng1) | (with_reducible apply it_rng2) | (with_reducible apply it_enum) | (with_reducible apply it_zip) | (with_reducible apply ev_compM) | (with_reducible apply ev_compP) | (with_reducible apply ev_comp2P) | (intro _ _; (with_reducible apply Elt.mk)) | (intro _ _; (with_reducible apply EltP.mk)) | (intro _ _; (with_reducible apply Elt2.mk)) | ((with_reducible apply bT_nm); walk_at "sl"; done) | (with_reducible apply bT_tp2))
local macro_rules | `(tactic| walk_at "s1") => `(tactic| first | (with_reducible exact exs_nil) | (with_reducible apply exs_appc) | (with_reducible apply exs_appn) | (with_reducible apply exs_set) | (with_reducible apply exs_par2) | (with_reducible apply exs_par3) | (with_reducible apply exs_ret) | (with_reducible exact exs_rais) | (with_reducible apply exs_pas) | (with_reducible apply exs_ex) | (with_reducible apply exs_unp) | (with_reducible apply exs_app1) | (with_reducible apply keep_fz) | (with_reducible apply keep_own) | (with_reducible apply keep_heap))
local macro_rules | `(tactic| walk_at "rf") => `(tactic| first | ((with_reducible apply k_fz); exact rfl) | ((with_reducible apply k_un); exact rfl) | ((with_reducible apply k_it); exact rfl) | ((with_reducible apply k_sq); exact rfl) | ((with_reducible apply k_br); exact rfl) | ((with_reducible apply k_m1); exact rfl) | ((with_reducible apply k_set); walk_at "sl"; done) | ((with_reducible apply k_wipe); walk_at "sl"; done) | ((with_reducible apply k_get); walk_at "sl"; done))
local macro_rules | `(tactic| walk_at "mi") => `(tactic| repeat' (first | walk_at "e1" | walk_at "op" | walk_at "s1" | walk_at "rf" | (intro _; (first | walk_at "e1" | walk_at "s1"))))
local macro_rules | `(tactic| walk_at "mic") => `(tactic| repeat' (first | walk_at "e1" | walk_at "op" | walk_at "s1" | walk_at "rf" | ((with_reducible apply k_call); (with_reducible apply_assumption -exfalso -symm)) | (intro _; (first | walk_at "e1" | walk_at "s1"))))
local macro_rules | `(tactic| walk_at "sd") => `(tactic| first | assumption | omega | (simp only [List.length_range, List.length_map, List.length_cons, List.length_nil]; omega) | (simp only [List.mem_range, List.length_range, List.length_map] at *; omega))
local macro_rules | `(tactic| walk_at "st") => `(tactic| simp only [List.map_cons, List.map_nil, List.cons_append, List.nil_append, List.reduceReplicate, Nat.reduceSub])
/-- a fraction's value -/
abbrev eQ (r : Rat) : Val := .tup [.int r.num, .int (r.den : Int)]
theorem frac_eq {t b : Int} (h0 : b ≠ 0) : frac t b = ((Rat.divInt t b).num, ((Rat.divInt t b).den : Int)) := by
  have hg : Int.gcd t b ≠ 0 := fun z => h0 (Int.gcd_eq_zero_iff.mp z).2
  obtain ⟨x, hx⟩ : (Int.gcd t b : Int) ∣ t := Int.gcd_dvd_left ..
  obtain ⟨y, hy⟩ : (Int.gcd t b : Int) ∣ b := Int.gcd_dvd_right ..
  have hc : b.gcd t = t.gcd b := Int.gcd_comm ..
  have hg' : (t.gcd b : Int) ≠ 0 := by omega
  rw [Rat.num_divInt, Rat.den_divInt, if_neg h0, hc]
  unfold frac
  simp only
  generalize t.gcd b = g at *
  have gp : 0 < (g : Int) := by omega
  rcases Int.lt_or_gt_of_ne h0 with hb | hb
  · rw [if_neg (by simp; omega), Int.sign_eq_neg_one_of_neg hb]
    have e1 : t.fdiv (-(g : Int)) = -x := by
      rw [hx, show (g : Int) * x = -(g : Int) * (-x) by rw [Int.neg_mul_neg], Int.mul_fdiv_cancel_left _ (by omega)]
    have e2 : b.fdiv (-(g : Int)) = -y := by
      rw [hy, show (g : Int) * y = -(g : Int) * (-y) by rw [Int.neg_mul_neg], Int.mul_fdiv_cancel_left _ (by omega)]
    have e3 : -1 * t / (g : Int) = -x := by
      rw [hx, show -1 * ((g : Int) * x) = (g : Int) * (-x) by rw [Int.mul_neg, Int.neg_mul, Int.one_mul], Int.mul_ediv_cancel_left _ hg']
    have hyn : y < 0 := by
      rcases Int.lt_trichotomy y 0 with e | e | e
      · exact e
      · subst e; simp at hy; omega
      · have := Int.mul_pos gp e; omega
    have e4 : ((b.natAbs / g : Nat) : Int) = -y := by
      have : b.natAbs = g * y.natAbs := by rw [hy, Int.natAbs_mul, Int.natAbs_natCast]
      rw [this, Nat.mul_div_cancel_left _ (by omega)]
      omega
    rw [e1, e2, e3, e4]
  · rw [if_pos (by simpa using hb), Int.sign_eq_one_of_pos hb]
    have e1 : t.fdiv (g : Int) = x := by rw [hx, Int.mul_fdiv_cancel_left _ hg']
    have e2 : b.fdiv (g : Int) = y := by rw [hy, Int.mul_fdiv_cancel_left _ hg']
    have e3 : 1 * t / (g : Int) = x := by rw [hx, Int.one_mul, Int.mul_ediv_cancel_left _ hg']
    have hyn : 0 < y := by
      rcases Int.lt_trichotomy y 0 with e | e | e
      · have := Int.mul_neg_of_pos_of_neg gp e; omega
      · subst e; simp at hy; omega
      · exact e
    have e4 : ((b.natAbs / g : Nat) : Int) = y := by
      have : b.natAbs = g * y.natAbs := by rw [hy, Int.natAbs_mul, Int.natAbs_natCast]
      rw [this, Nat.mul_div_cancel_left _ (by omega)]
      omega
    rw [e1, e2, e3, e4]
theorem eFr_frac {t b : Int} (h0 : b ≠ 0) : eFr (frac t b) = eQ ((t : Rat) / (b : Rat)) := by
  rw [← Rat.divInt_eq_div]
  show Val.tup [_, _] = Val.tup [_, _]
  rw [frac_eq h0]
/-- how large a rational number's parts are -/
def Sz (k : Nat) (r : Rat) : Prop := r.num.natAbs < 2 ^ k ∧ r.den < 2 ^ k
theorem Sz.mono {k l : Nat} {r : Rat} (h : Sz k r) (hk : k ≤ l) : Sz l r :=
  have : (2 : Nat) ^ k ≤ 2 ^ l := Nat.pow_le_pow_right (by omega) hk
  ⟨Nat.lt_of_lt_of_le h.1 this, Nat.lt_of_lt_of_le h.2 this⟩
theorem Sz.div {t b : Int} {k : Nat} (h0 : b ≠ 0) (ht : t.natAbs < 2 ^ k) (hb : b.natAbs < 2 ^ k) : Sz k ((t : Rat) / (b : Rat)) := by
  obtain ⟨h1, h2⟩ := frac_bound (t := t) h0
  rw [← Rat.divInt_eq_div]
  rw [frac_eq h0] at h1 h2
  simp only [Int.natAbs_natCast] at h1 h2
  exact ⟨by omega, by omega⟩
theorem rat_add (a b : Rat) : a + b = ((a.num * (b.den : Int) + b.num * (a.den : Int) : Int) : Rat) / ((a.den * b.den : Int) : Rat) := by
  rw [← Rat.divInt_eq_div]
  conv => lhs; rw [← Rat.num_divInt_den a, ← Rat.num_divInt_den b]
  rw [Rat.divInt_add_divInt _ _ (by have := a.den_pos; omega) (by have := b.den_pos; omega)]
theorem rat_mul (a b : Rat) : a * b = ((a.num * b.num : Int) : Rat) / ((a.den * b.den : Int) : Rat) := by
  rw [← Rat.divInt_eq_div]
  conv => lhs; rw [← Rat.num_divInt_den a, ← Rat.num_divInt_den b]
  rw [Rat.divInt_mul_divInt]
theorem mul_lt_pow {a b i j : Nat} (hi : i < 2 ^ a) (hj : j < 2 ^ b) : i * j < 2 ^ (a + b) := by
  rw [Nat.pow_add]
  exact Nat.mul_lt_mul_of_lt_of_le hi (Nat.le_of_lt hj) (Nat.pow_pos (by omega))
theorem den_ne (a : Rat) : (a.den : Int) ≠ 0 := by have := a.den_pos; omega
theorem den_mul_ne (a b : Rat) : (a.den * b.den : Int) ≠ 0 := Int.mul_ne_zero (den_ne a) (den_ne b)
theorem Sz.mul {a b : Rat} {k l : Nat} (ha : Sz k a) (hb : Sz l b) : Sz (k + l) (a * b) := by
  rw [rat_mul]
  refine Sz.div (den_mul_ne a b) ?_ ?_
  · rw [Int.natAbs_mul]; exact mul_lt_pow ha.1 hb.1
  · rw [Int.natAbs_mul, Int.natAbs_natCast, Int.natAbs_natCast]; exact mul_lt_pow ha.2 hb.2
theorem add_num_lt {a b : Rat} {k l : Nat} (ha : Sz k a) (hb : Sz l b) : (a.num * (b.den : Int) + b.num * (a.den : Int)).natAbs < 2 ^ (k + l + 1) := by
  have h1 := Int.natAbs_add_le (a.num * (b.den : Int)) (b.num * (a.den : Int))
  rw [Int.natAbs_mul, Int.natAbs_mul, Int.natAbs_natCast, Int.natAbs_natCast] at h1
  have h2 := mul_lt_pow ha.1 hb.2
  have h3 := mul_lt_pow hb.1 ha.2
  rw [Nat.add_comm l k] at h3
  rw [Nat.pow_succ]
  omega
theorem den_lt {a b : Rat} {k l : Nat} (ha : Sz k a) (hb : Sz l b) : (a.den * b.den : Int).natAbs < 2 ^ (k + l) := by
  rw [Int.natAbs_mul, Int.natAbs_natCast, Int.natAbs_natCast]; exact mul_lt_pow ha.2 hb.2
theorem Sz.add {a b : Rat} {k l : Nat} (ha : Sz k a) (hb : Sz l b) : Sz (k + l + 1) (a + b) := by
  rw [rat_add]
  have : (2 : Nat) ^ (k + l) ≤ 2 ^ (k + l + 1) := Nat.pow_le_pow_right (by omega) (by omega)
  exact Sz.div (den_mul_ne a b) (add_num_lt ha hb) (Nat.lt_of_lt_of_le (den_lt ha hb) this)
theorem Sz.neg {a : Rat} {k : Nat} (ha : Sz k a) : Sz k (-a) := ⟨by rw [Rat.neg_num, Int.natAbs_neg]; exact ha.1, by rw [Rat.neg_den]; exact ha.2⟩
section
variable {G : Nat → Option FD} {N n : Nat} {h : Heap}
theorem fraction_q (hG : Has G [77, 63]) {t b : Int} (h0 : b ≠ 0) (hb : b.natAbs < 2 ^ 9000) (hN : 2 ^ 9000 ≤ N) : callF G N (n + 2) 77 [.int t, .int b] h = .ok (eQ ((t : Rat) / (b : Rat))) h := by
  rw [fraction_spec hG h0 hb (Nat.lt_of_lt_of_le hb hN), eFr_frac h0]
theorem plus_spec (hG : Has G [102, 77, 63]) {a b : Rat} {k l : Nat} (ha : Sz k a) (hb : Sz l b) (hk : k + l ≤ 9000) (hN : 2 ^ 9000 ≤ N) : callF G N (n + 3) 102 [eQ a, eQ b] h = .ok (eQ (a + b)) h := by
  refine hG.call (d := fd_plus) rfl rfl ?_
  unfold fd_plus
  refine runF_rt rfl rfl ?_
  walk_at "st"
  have hf := fraction_q (G := G) (N := N) (n := n) (h := h) (hG.sub (S := [77, 63]) rfl) (t := a.num * (b.den : Int) + b.num * (a.den : Int)) (den_mul_ne a b) (Nat.lt_of_lt_of_le (den_lt ha hb) (Nat.pow_le_pow_right (by omega) hk)) hN
  rw [← rat_add] at hf
  walk_at "mi"
  · exact wm ha.1 (by rw [Int.natAbs_natCast]; exact hb.2) (by omega)
  · exact wm hb.1 (by rw [Int.natAbs_natCast]; exact ha.2) (by omega)
  · exact wm (by rw [Int.natAbs_natCast]; exact ha.2) (by rw [Int.natAbs_natCast]; exact hb.2) (by omega)
  · exact hf
  · rfl
theorem times_spec (hG : Has G [48, 77, 63]) {a b : Rat} {k l : Nat} (ha : Sz k a) (hb : Sz l b) (hk : k + l ≤ 9000) (hN : 2 ^ 9000 ≤ N) : callF G N (n + 3) 48 [eQ a, eQ b] h = .ok (eQ (a * b)) h := by
  refine hG.call (d := fd_by_factor) rfl rfl ?_
  unfold fd_by_factor
  refine runF_rt rfl rfl ?_
  walk_at "st"
  have hf := fraction_q (G := G) (N := N) (n := n) (h := h) (hG.sub (S := [77, 63]) rfl) (t := a.num * b.num) (den_mul_ne a b) (Nat.lt_of_lt_of_le (den_lt ha hb) (Nat.pow_le_pow_right (by omega) hk)) hN
  rw [← rat_mul] at hf
  walk_at "mi"
  · exact wm ha.1 hb.1 (by omega)
  · exact wm (by rw [Int.natAbs_natCast]; exact ha.2) (by rw [Int.natAbs_natCast]; exact hb.2) (by omega)
  · exact hf
  · rfl
theorem negative_spec (hG : Has G [98]) {a : Rat} : callF G N (n + 1) 98 [eQ a] h = .ok (eQ (-a)) h := by
  refine hG.call (d := fd_negative) rfl rfl ?_
  unfold fd_negative
  refine runF_rt rfl rfl ?_
  walk_at "st"
  walk_at "mi"
theorem less_spec (hG : Has G [94, 98, 102, 77, 63]) {a b : Rat} {k l : Nat} (ha : Sz k a) (hb : Sz l b) (hk : k + l ≤ 9000) (hN : 2 ^ 9000 ≤ N) : callF G N (n + 4) 94 [eQ a, eQ b] h = .ok (eQ (a - b)) h := by
  refine hG.call (d := fd_less) rfl rfl ?_
  unfold fd_less
  refine runF_rt rfl rfl ?_
  walk_at "st"
  have h1 := negative_spec (G := G) (N := N) (n := n + 2) (h := h) (hG.sub (S := [98]) rfl) (a := b)
  have h2 := plus_spec (G := G) (N := N) (n := n) (h := h) (hG.sub (S := [102, 77, 63]) rfl) ha hb.neg hk hN
  rw [Rat.sub_eq_add_neg]
  walk_at "mi"
  · exact h1
  · rfl
  · walk_at "mi"
  · exact h2
  · rfl
theorem Sz.zero : Sz 1 (0 : Rat) := ⟨by decide, by decide⟩
theorem Sz.int {i : Int} {k : Nat} (hi : i.natAbs < 2 ^ k) (hk : 0 < k) : Sz k (i : Rat) := by
  refine ⟨?_, ?_⟩
  · rw [Rat.num_intCast]; exact hi
  · rw [Rat.den_intCast]; exact Nat.one_lt_pow (by omega) (by omega)
theorem foldl_sum : ∀ (qs : List Rat) (a : Rat), qs.foldl (fun s q => s + q) a = a + qs.sum
  | [], a => by simp [Rat.add_zero]
  | q :: qs, a => by rw [List.foldl_cons, foldl_sum qs, List.sum_cons, Rat.add_assoc]
theorem Sz.sum {k : Nat} : ∀ (qs : List Rat), (∀ q ∈ qs, Sz k q) → Sz (qs.length * (k + 1) + 1) qs.sum
  | [], _ => by simpa using Sz.zero
  | q :: qs, H => by
    have h1 := H q List.mem_cons_self
    have h2 := Sz.sum qs fun x hx => H x (List.mem_cons_of_mem _ hx)
    rw [List.sum_cons]
    refine (h1.add h2).mono ?_
    rw [List.length_cons, Nat.succ_mul]
    omega
theorem sum_q (hG : Has G [119, 102, 77, 63]) {x : Val} {qs : List Rat} {k : Nat} (hx : itemsOf x = some (qs.map eQ)) (hr : rd x = some x) (hbr : isBrw x = false) (hq : ∀ q ∈ qs, Sz k q) (hk : qs.length * (k + 1) + 1 + k ≤ 9000) (hN : 2 ^ 9000 ≤ N) : callF G N (n + 4) 119 [x] h = .ok (eQ qs.sum) h := by
  refine hG.call (d := fd_sum_of) rfl rfl ?_
  unfold fd_sum_of
  refine runF_rt rfl rfl ?_
  walk_at "st"
  apply exs_set
  · walk_at "mi"
  · walk_at "mi"
  refine exs_forP (fun (s : Rat) ρ => ∃ a, ρ = [some x, some (eQ s), a]) (fun s q => s + q) 0 (it_seq (ev_var (by walk_at "sl") hr) (by rw [hbr]; rfl) hx) ⟨_, rfl⟩ (fun pre q post hp ρ hs => ?_) (fun ρ1 hs => ?_)
  · obtain ⟨a, rfl⟩ := hs
    have hl : pre.length < qs.length := by rw [hp]; simp
    have s1 : Sz (pre.length * (k + 1) + 1) (pre.foldl (fun s q => s + q) 0) := by
      rw [foldl_sum, Rat.zero_add]
      exact Sz.sum pre fun y hy => hq y (by rw [hp]; simp [hy])
    have s2 := hq q (by rw [hp]; simp)
    generalize pre.foldl (fun s q => s + q) 0 = s at *
    have hle : pre.length * (k + 1) ≤ qs.length * (k + 1) := Nat.mul_le_mul_right _ (by omega)
    have hpl := plus_spec (G := G) (N := N) (n := n) (h := h) (hG.sub (S := [102, 77, 63]) rfl) s1 s2 (by omega) hN
    apply Turn.mk
    · walk_at "mi"
    · walk_at "mi"
      · exact hpl
      · rfl
      all_goals walk_at "mi"
    · exact ⟨_, rfl⟩
  · obtain ⟨a, rfl⟩ := hs
    rw [foldl_sum, Rat.zero_add]
    walk_at "mi"
/-- the sum of a row's numbers times others -/
def dotQ (row : List Int) (qs : List Rat) : Rat := ((row.zip qs).map fun p => (p.1 : Rat) * p.2).sum
theorem led_q (hG : Has G [91, 119, 102, 48, 77, 63]) {x y : Val} {row : List Int} {qs : List Rat} {k l : Nat} (hx : seqsOf x = some (row.map Val.int)) (hrx : rd x = some x) (hy : seqsOf y = some (qs.map eQ)) (hry : rd y = some y) (hw : ∀ i ∈ row, i.natAbs < 2 ^ l) (hl : 0 < l) (hq : ∀ q ∈ qs, Sz k q)
    (hlen : row.length ≤ 1000) (hk : row.length * (l + k + 1) + 1 + (l + k) ≤ 9000) (hN : 2 ^ 9000 ≤ N) : callF G N (n + 5) 91 [x, y] h = .ok (eQ (dotQ row qs)) h := by
  refine hG.call (d := fd_led) rfl rfl ?_
  unfold fd_led
  refine runF_rt rfl rfl ?_
  walk_at "st"
  have zl : (row.zip qs).length ≤ row.length := by rw [List.length_zip]; omega
  have zm : ∀ p ∈ row.zip qs, Sz l (p.1 : Rat) ∧ Sz k p.2 := fun p hp => by
    obtain ⟨p1, p2⟩ := p
    have := List.of_mem_zip hp
    exact ⟨Sz.int (hw _ this.1) hl, hq _ this.2⟩
  have hle : (row.zip qs).length * (l + k + 1) ≤ row.length * (l + k + 1) := Nat.mul_le_mul_right _ zl
  by_cases hz : row.zip qs = []
  · have hs := sum_q (G := G) (N := N) (n := n) (h := h) (x := .lst .imm ([].map eQ)) (qs := []) (k := 1) (hG.sub (S := [119, 102, 77, 63]) rfl) rfl rfl rfl (fun _ z => by cases z) (by simp) hN
    have e : dotQ row qs = 0 := by unfold dotQ; rw [hz]; rfl
    rw [e]
    apply exs_ret
    · apply ev_call
      · walk_at "mi"
      · apply evs_cons
        · apply ev_compM (xs := row.zip qs) (w := fun p => eQ ((p.1 : Rat) * p.2))
          · exact it_zip (ev_var (by walk_at "sl") hrx) (ev_var (by walk_at "sl") hry) hx hy
          · walk_at "sl"
          · rw [hz]; intro z hz; cases hz
          · omega
        · rfl
        · walk_at "mi"
      · rw [hz]
        exact hs
    · rfl
  · have hlk : l + k ≤ 9000 := by
      have h1 : 0 < (row.zip qs).length := List.length_pos_iff.mpr hz
      have h2 : 1 * (l + k + 1) ≤ (row.zip qs).length * (l + k + 1) := Nat.mul_le_mul_right _ h1
      omega
    have hs := sum_q (G := G) (N := N) (n := n) (h := h) (x := .lst .imm (((row.zip qs).map fun p => (p.1 : Rat) * p.2).map eQ)) (qs := (row.zip qs).map fun p => (p.1 : Rat) * p.2) (k := l + k) (hG.sub (S := [119, 102, 77, 63]) rfl) rfl rfl rfl (fun q hq => by
      obtain ⟨p, hp, rfl⟩ := List.mem_map.mp hq
      exact (zm p hp).1.mul (zm p hp).2) (by rw [List.length_map]; omega) hN
    apply exs_ret
    · apply ev_call
      · walk_at "mi"
      · apply evs_cons
        · apply ev_compM (xs := row.zip qs) (w := fun p => eQ ((p.1 : Rat) * p.2))
          · exact it_zip (ev_var (by walk_at "sl") hrx) (ev_var (by walk_at "sl") hry) hx hy
          · walk_at "sl"
          · intro p hp
            have ht := times_spec (G := G) (N := N) (n := n + 1) (h := h) (hG.sub (S := [48, 77, 63]) rfl) (zm p hp).1 (zm p hp).2 hlk hN
            apply Elt.mk
            · walk_at "mi"
            · walk_at "mi"
              exact ht
            · rfl
          · omega
        · rfl
        · walk_at "mi"
      · rw [List.map_map] at hs
        exact hs
    · rfl
end
end Mi

set_option Elab.async false
set_option linter.all false
set_option autoImplicit false
set_option maxRecDepth 100000
/-! Mr6: the laws' own fractions. -/
namespace Mi
open PySem PySem.Spec L2 PyProof.Rows
local macro_rules | `(tactic| walk_at "sl") => `(tactic| repeat' (first | (with_reducible exact get_zero) | (with_reducible exact set_zero) | (with_reducible apply get_succ) | (with_reducible apply set_succ) | (with_reducible apply wipe_nm) | (with_reducible apply wipe_tp2) | (with_reducible apply wipe_2)))
local macro_rules | `(tactic| walk_at "op") => `(tactic| first | (with_reducible exact i_nn) | (with_reducible exact i_n) | (with_reducible exact i_tn) | (with_reducible exact i_t) | (with_reducible exact b_add) | (with_reducible exact o_sub) | (with_reducible exact eq_int) | (with_reducible exact ne_int) | (with_reducible exact o_lt) | (with_reducible exact o_le) | (with_reducible exact o_gt) | (with_reducible exact o_ge) | (with_reducible exact t_bl) | (with_reducible exact t_int) | (with_reducible exact x_fst) | (with_reducible exact x_snd) | (with_reducible exact l_tup) | (with_reducible exact l_lst) | (with_reducible exact p_tup) | (with_reducible exact p_lst) | (with_reducible exact p_lstT) | (with_reducible exact p_abs) | (with_reducible exact sum_ints) | (with_reducible exact sum_map) | (with_reducible exact all_map) | (with_reducible exact isin_i) | (with_reducible exact isin_b) | (with_reducible exact isin_t) | (with_reducible exact isin_str) | (with_reducible exact any_lst) | (with_reducible exact any_tup) | (with_reducible exact q_nilN) | (with_reducible exact s_cutL) | (with_reducible exact s_cutR1) | (with_reducible exact s_cut1) | (with_reducible apply b_mul) | (with_reducible apply b_fdiv) | (with_reducible apply b_mod) | (with_reducible apply o_addT1) | (with_reducible apply o_addTM) | (with_reducible apply o_addT) | ((with_reducible apply o_addL1); (first | decide | skip); (first | decide | skip)) | ((with_reducible apply o_addLM); (first | decide | skip); (first | decide | skip)) | ((with_reducible apply o_addL); (first | decide | skip); (first | decide | skip)) | (with_reducible apply x_tup0 (0 : Int)) | (with_reducible apply x_lst0 (0 : Int)) | (with_reducible apply x_tup0 ([] : List Int)) | (with_reducible apply x_lst0 ([] : List Int)) | (with_reducible apply x_last (0 : Nat)) | (with_reducible apply x_tup (0 : Int)) | (with_reducible apply x_lst (0 : Int)) | (with_reducible apply x_tup ([] : List Int)) | (with_reducible apply x_lst ([] : List Int)))
local macro_rules | `(tactic| walk_at "e1") => `(tactic| first | (with_reducible exact ev_int) | (with_reducible exact ev_bl) | (with_reducible exact ev_non) | (with_reducible exact ev_str) | (with_reducible exact ev_fn) | (with_reducible exact ev_cls) | (with_reducible exact ev_ty) | ((with_reducible apply ev_var); (focus walk_at "sl"); exact rfl) | (with_reducible apply ev_bin) | (with_reducible apply ev_neg) | (with_reducible apply ev_cmp) | (with_reducible apply ev_chn) | (with_reducible apply ev_not) | (with_reducible apply ev_bo) | (with_reducible apply bo_one) | (with_reducible apply bo_and) | (with_reducible apply bo_or) | (with_reducible apply ev_iteI) | (with_reducible apply ev_tup) | (with_reducible apply ev_lst) | (with_reducible exact evs_nil) | (with_reducible apply evs_cons) | (with_reducible apply ev_idx) | (with_reducible exact evo_no) | (with_reducible apply evo_so) | (with_reducible apply ev_slc) | (with_reducible apply ev_call) | (with_reducible apply ev_p1) | (with_reducible apply ev_p2) | (with_reducible apply ev_m1) | (with_reducible exact evT_no) | (with_reducible apply evT_so) | (with_reducible exact fits_of (by first | exact Nat.zero_le _ | (simp only [List.length_cons, List.length_nil]; omega))) | (with_reducible apply it_seq) | (with_reducible apply it_rng1) | (with_reducible apply it_rng2) | (with_reducible apply it_enum) | (with_reducible apply it_zip) | (with_reducible apply ev_compM) | (with_reducible apply ev_compP) | (with_reducible apply ev_comp2P) | (intro _ _; (with_reducible apply Elt.mk)) | (intro _ _; (with_reducible apply EltP.mk)) | (intro _ _; (with_reducible apply Elt2.mk)) | ((with_reducible apply bT_nm); walk_at "sl"; done) | (with_reducible apply bT_tp2))
local macro_rules | `(tactic| walk_at "s1") => `(tactic| first | (with_reducible exact exs_nil) | (with_reducible apply exs_appc) | (with_reducible apply exs_appn) | (with_reducible apply exs_set) | (with_reducible apply exs_par2) | (with_reducible apply exs_par3) | (with_reducible apply exs_ret) | (with_reducible exact exs_rais) | (with_reducible apply exs_pas) | (with_reducible apply exs_ex) | (with_reducible apply exs_unp) | (with_reducible apply exs_app1) | (with_reducible apply keep_fz) | (with_reducible apply keep_own) | (with_reducible apply keep_heap))
local macro_rules | `(tactic| walk_at "rf") => `(tactic| first | ((with_reducible apply k_fz); exact rfl) | ((with_reducible apply k_un); exact rfl) | ((with_reducible apply k_it); exact rfl) | ((with_reducible apply k_sq); exact rfl) | ((with_reducible apply k_br); exact rfl) | ((with_reducible apply k_m1); exact rfl) | ((with_reducible apply k_set); walk_at "sl"; done) | ((with_reducible apply k_wipe); walk_at "sl"; done) | ((with_reducible apply k_get); walk_at "sl"; done))
local macro_rules | `(tactic| walk_at "mi") => `(tactic| repeat' (first | walk_at "e1" | walk_at "op" | walk_at "s1" | walk_at "rf" | (intro _; (first | walk_at "e1" | walk_at "s1"))))
local macro_rules | `(tactic| walk_at "mic") => `(tactic| repeat' (first | walk_at "e1" | walk_at "op" | walk_at "s1" | walk_at "rf" | ((with_reducible apply k_call); (with_reducible apply_assumption -exfalso -symm)) | (intro _; (first | walk_at "e1" | walk_at "s1"))))
local macro_rules | `(tactic| walk_at "sd") => `(tactic| first | assumption | omega | (simp only [List.length_range, List.length_map, List.length_cons, List.length_nil]; omega) | (simp only [List.mem_range, List.length_range, List.length_map] at *; omega))
local macro_rules | `(tactic| walk_at "st") => `(tactic| simp only [List.map_cons, List.map_nil, List.cons_append, List.nil_append, List.reduceReplicate, Nat.reduceSub])
theorem ratio_while {c : Cf} {N : Nat} {h : Heap} {t b : Int} : ∀ (M x y : Nat), y < M → whileL (fun ρ h => (ev c (.cmp .ne (.var 3) (.int 0)) ρ h).bind fun x h => .of (truth h x) h) (exs c N (.cons (.par2 2 .fz 3 .fz (.var 3) (.bin .mod (.var 2) (.var 3))) .nil)) M [some (.int t), some (.int b), some (.int x), some (.int y)] h =
    .ok (.nx [some (.int t), some (.int b), some (.int (Nat.gcd x y)), some (.int 0)]) h
  | 0, x, y, hb => by omega
  | M + 1, x, y, hb => by
    unfold whileL
    have tt : (ev c (.cmp .ne (.var 3) (.int 0)) [some (.int t), some (.int b), some (.int (x : Int)), some (.int (y : Int))] h).bind (fun x h => .of (truth h x) h) = .ok (decide ((y : Int) ≠ 0)) h := by
      simp only [ev, R.bind, R.of, List.getElem?_cons_succ, List.getElem?_cons_zero, ne_int, Option.map, truth]
    simp only [tt]
    by_cases e : y = 0
    · subst e
      simp
    · have hd : decide ((y : Int) ≠ 0) = true := decide_eq_true (by omega)
      rw [hd]
      have bd : exs c N (.cons (.par2 2 .fz 3 .fz (.var 3) (.bin .mod (.var 2) (.var 3))) .nil) [some (.int t), some (.int b), some (.int (x : Int)), some (.int (y : Int))] h = .ok (.nx [some (.int t), some (.int b), some (.int (y : Int)), some (.int ((x % y : Nat) : Int))]) h := by
        have m : bop .mod (.int (x : Int)) (.int (y : Int)) h = some (.int ((x % y : Nat) : Int)) := by
          rw [b_mod (by omega), Int.fmod_eq_emod_of_nonneg _ (by omega)]
          rfl
        simp only [exs, ex, ev, R.bind, R.of, List.getElem?_cons_succ, List.getElem?_cons_zero, m, keep, fz]
        rfl
      simp only [bd]
      have hlt : x % y < M := Nat.lt_of_lt_of_le (Nat.mod_lt _ (by omega)) (by omega)
      rw [ratio_while M y (x % y) hlt]
      have : Nat.gcd y (x % y) = Nat.gcd x y := by rw [Nat.gcd_comm x y, Nat.gcd_rec y x, Nat.gcd_comm]
      rw [this]
theorem exs_while {c : Cf} {N : Nat} {h h1 : Heap} {ρ ρ1 : Slots} {e : E} {b ss : Ss} {r : R Fl} (hw : whileL (fun ρ h => (ev c e ρ h).bind fun x h => .of (truth h x) h) (exs c N b) N ρ h = .ok (.nx ρ1) h1) (hr : exs c N ss ρ1 h1 = r) : exs c N (.cons (.whil e b) ss) ρ h = r :=
  exs_nx (by unfold ex; exact hw) hr
section
variable {G : Nat → Option FD} {N n : Nat} {h : Heap}
theorem ratio_spec (hG : Has G [22]) {t b : Int} (h0 : b ≠ 0) (hb : b.natAbs < 2 ^ 9000) (hN : 2 ^ 9000 ≤ N) : callF G N (n + 1) 22 [.int t, .int b] h = .ok (eQ ((t : Rat) / (b : Rat))) h := by
  rw [← eFr_frac h0]
  refine hG.call (d := fd__law_ratio) rfl rfl ?_
  unfold fd__law_ratio
  refine runF_rt rfl rfl ?_
  walk_at "st"
  apply exs_par2
  · walk_at "mi"
  · walk_at "mi"
  · walk_at "mi"
  · walk_at "mi"
  refine exs_while (ratio_while N t.natAbs b.natAbs (Nat.lt_of_lt_of_le hb hN)) ?_
  obtain ⟨e1, e2⟩ := gcd_lt (t := t) h0 hb
  rw [show Nat.gcd t.natAbs b.natAbs = Int.gcd t b from rfl]
  have e3 : (0 : Int) - (Int.gcd t b : Int) = -(Int.gcd t b : Int) := Int.zero_sub _
  unfold frac
  have w1 : wideDiv (if decide (0 < b) = true then (Int.gcd t b : Int) else 0 - (Int.gcd t b : Int)) = true := by
    rw [e3]
    refine wd (b := 9000) ?_ ?_ (Nat.le_refl _)
    · clear hb hN e2
      split <;> omega
    · split <;> first | exact e2 | (rw [Int.natAbs_neg]; exact e2)
  walk_at "mi"
  · exact w1
  · exact w1
  · rw [e3]
    rfl
theorem lplus_spec (hG : Has G [19, 22]) {a b : Rat} {k l : Nat} (ha : Sz k a) (hb : Sz l b) (hk : k + l ≤ 9000) (hN : 2 ^ 9000 ≤ N) : callF G N (n + 2) 19 [eQ a, eQ b] h = .ok (eQ (a + b)) h := by
  refine hG.call (d := fd__law_plus) rfl rfl ?_
  unfold fd__law_plus
  refine runF_rt rfl rfl ?_
  walk_at "st"
  have hf := ratio_spec (G := G) (N := N) (n := n) (h := h) (hG.sub (S := [22]) rfl) (t := a.num * (b.den : Int) + b.num * (a.den : Int)) (den_mul_ne a b) (Nat.lt_of_lt_of_le (den_lt ha hb) (Nat.pow_le_pow_right (by omega) hk)) hN
  rw [← rat_add] at hf
  walk_at "mi"
  · exact wm ha.1 (by rw [Int.natAbs_natCast]; exact hb.2) (by omega)
  · exact wm hb.1 (by rw [Int.natAbs_natCast]; exact ha.2) (by omega)
  · exact wm (by rw [Int.natAbs_natCast]; exact ha.2) (by rw [Int.natAbs_natCast]; exact hb.2) (by omega)
  · exact hf
  · rfl
theorem ltimes_spec (hG : Has G [29, 22]) {a b : Rat} {k l : Nat} (ha : Sz k a) (hb : Sz l b) (hk : k + l ≤ 9000) (hN : 2 ^ 9000 ≤ N) : callF G N (n + 2) 29 [eQ a, eQ b] h = .ok (eQ (a * b)) h := by
  refine hG.call (d := fd__law_times) rfl rfl ?_
  unfold fd__law_times
  refine runF_rt rfl rfl ?_
  walk_at "st"
  have hf := ratio_spec (G := G) (N := N) (n := n) (h := h) (hG.sub (S := [22]) rfl) (t := a.num * b.num) (den_mul_ne a b) (Nat.lt_of_lt_of_le (den_lt ha hb) (Nat.pow_le_pow_right (by omega) hk)) hN
  rw [← rat_mul] at hf
  walk_at "mi"
  · exact wm ha.1 hb.1 (by omega)
  · exact wm (by rw [Int.natAbs_natCast]; exact ha.2) (by rw [Int.natAbs_natCast]; exact hb.2) (by omega)
  · exact hf
  · rfl
theorem lbelow_spec (hG : Has G [3]) {a b : Rat} {k l : Nat} (ha : Sz k a) (hb : Sz l b) (hk : k + l ≤ 100000) : callF G N (n + 1) 3 [eQ a, eQ b] h = .ok (.bl (decide (a < b))) h := by
  refine hG.call (d := fd__law_below) rfl rfl ?_
  unfold fd__law_below
  refine runF_rt rfl rfl ?_
  walk_at "st"
  have e : decide (a < b) = decide (a.num * (b.den : Int) < b.num * (a.den : Int)) := by
    rw [decide_eq_decide]; exact Rat.lt_iff a b
  rw [e]
  walk_at "mi"
  · exact wm ha.1 (by rw [Int.natAbs_natCast]; exact hb.2) (by omega)
  · exact wm hb.1 (by rw [Int.natAbs_natCast]; exact ha.2) (by omega)
theorem below_q (hG : Has G [80]) {a b : Rat} {k l : Nat} (ha : Sz k a) (hb : Sz l b) (hk : k + l ≤ 100000) : callF G N (n + 1) 80 [eQ a, eQ b] h = .ok (.bl (decide (a < b))) h := by
  refine hG.call (d := fd_is_below) rfl rfl ?_
  unfold fd_is_below
  refine runF_rt rfl rfl ?_
  walk_at "st"
  have e : decide (a < b) = decide (a.num * (b.den : Int) < b.num * (a.den : Int)) := by
    rw [decide_eq_decide]; exact Rat.lt_iff a b
  rw [e]
  walk_at "mi"
  · exact wm ha.1 (by rw [Int.natAbs_natCast]; exact hb.2) (by omega)
  · exact wm hb.1 (by rw [Int.natAbs_natCast]; exact ha.2) (by omega)
theorem lsum_q (hG : Has G [28, 19, 22]) {x : Val} {qs : List Rat} {k : Nat} (hx : itemsOf x = some (qs.map eQ)) (hr : rd x = some x) (hbr : isBrw x = false) (hq : ∀ q ∈ qs, Sz k q) (hk : qs.length * (k + 1) + 1 + k ≤ 9000) (hN : 2 ^ 9000 ≤ N) : callF G N (n + 3) 28 [x] h = .ok (eQ qs.sum) h := by
  refine hG.call (d := fd__law_sum_of) rfl rfl ?_
  unfold fd__law_sum_of
  refine runF_rt rfl rfl ?_
  walk_at "st"
  apply exs_set
  · walk_at "mi"
  · walk_at "mi"
  refine exs_forP (fun (s : Rat) ρ => ∃ a, ρ = [some x, some (eQ s), a]) (fun s q => s + q) 0 (it_seq (ev_var (by walk_at "sl") hr) (by rw [hbr]; rfl) hx) ⟨_, rfl⟩ (fun pre q post hp ρ hs => ?_) (fun ρ1 hs => ?_)
  · obtain ⟨a, rfl⟩ := hs
    have hl : pre.length < qs.length := by rw [hp]; simp
    have s1 : Sz (pre.length * (k + 1) + 1) (pre.foldl (fun s q => s + q) 0) := by
      rw [foldl_sum, Rat.zero_add]
      exact Sz.sum pre fun y hy => hq y (by rw [hp]; simp [hy])
    have s2 := hq q (by rw [hp]; simp)
    generalize pre.foldl (fun s q => s + q) 0 = s at *
    have hle : pre.length * (k + 1) ≤ qs.length * (k + 1) := Nat.mul_le_mul_right _ (by omega)
    have hpl := lplus_spec (G := G) (N := N) (n := n) (h := h) (hG.sub (S := [19, 22]) rfl) s1 s2 (by omega) hN
    apply Turn.mk
    · walk_at "mi"
    · walk_at "mi"
      · exact hpl
      · rfl
      all_goals walk_at "mi"
    · exact ⟨_, rfl⟩
  · obtain ⟨a, rfl⟩ := hs
    rw [foldl_sum, Rat.zero_add]
    walk_at "mi"
end
end Mi

set_option Elab.async false
set_option linter.all false
set_option autoImplicit false
set_option maxRecDepth 100000
/-! Mr7: elimination. -/
namespace Mi
open PySem PySem.Spec L2 PyProof.Rows
section
variable {h : Heap}
theorem o_addL1 {α : Type} {k l : Kd} {xs : List α} {x : α} {f : α → Val} (hk : k ≠ .scr) (hl : l ≠ .scr) (hf : xs.length + 1 ≤ 1000000) : bop .add (.lst k (xs.map f)) (.lst l [f x]) h = some (.lst .own ((xs ++ [x]).map f)) := by
  rw [o_addL hk hl (by simpa using hf), List.map_append]
  rfl
theorem trus_ints : ∀ l : List Int, trusOf (l.map Val.int) = some (l.map fun i => i != 0)
  | [] => rfl
  | x :: l => by
    rw [List.map_cons, List.map_cons]
    unfold trusOf
    rw [trus_ints l]
theorem any_lst {k : Kd} {l : List Int} : p1V .any (.lst k (l.map Val.int)) h = some (.bl (l.any fun i => i != 0)) := by
  show (trusOf (l.map Val.int)).map (fun bs => Val.bl (bs.any id)) = _
  rw [trus_ints]
  simp [List.any_map, Function.comp_def]
theorem any_tup {l : List Int} : p1V .any (.tup (l.map Val.int)) h = some (.bl (l.any fun i => i != 0)) := by
  show (trusOf (l.map Val.int)).map (fun bs => Val.bl (bs.any id)) = _
  rw [trus_ints]
  simp [List.any_map, Function.comp_def]
end
theorem exs_forE {α σ : Type} {c : Cf} {N : Nat} {ρ : Slots} {h h1 : Heap} {t : Tg} {it : It} {b ss : Ss} {xs : List α} {f : α → Val} {r : R Fl} (St : σ → Slots → Prop) (step : σ → α → Except Val σ) (s0 : σ) (hi : evIt c true it ρ h = .ok (xs.map f) h1) (h0 : St s0 ρ)
    (H : ∀ s, ∀ x ∈ xs, ∀ ρ, St s ρ → match step s x with | .ok s' => Turn (bindT t) (exs c N b) (f x) ρ h1 (St s') | .error v => ∃ ρ1, bindT t (f x) ρ = some ρ1 ∧ exs c N b ρ1 h1 = .ok (.rt v) h1)
    (hok : ∀ s ρ1, foldE step s0 xs = .ok s → St s ρ1 → exs c N ss ρ1 h1 = r) (her : ∀ v, foldE step s0 xs = .error v → r = .ok (.rt v) h1) : exs c N (.cons (.forr t it b) ss) ρ h = r := by
  have k := for_foldE (bd := bindT t) (body := exs c N b) (f := f) (h := h1) St step xs s0 ρ h0 H
  cases e : foldE step s0 xs with
  | ok s =>
    rw [e] at k
    obtain ⟨ρ', a, d⟩ := k
    exact exs_for hi a (hok s ρ' e d)
  | error v =>
    rw [e] at k
    rw [her v e]
    exact exs_forR hi k
local macro_rules | `(tactic| walk_at "sl") => `(tactic| repeat' (first | (with_reducible exact get_zero) | (with_reducible exact set_zero) | (with_reducible apply get_succ) | (with_reducible apply set_succ) | (with_reducible apply wipe_nm) | (with_reducible apply wipe_tp2) | (with_reducible apply wipe_2)))
local macro_rules | `(tactic| walk_at "op") => `(tactic| first | (with_reducible exact i_nn) | (with_reducible exact i_n) | (with_reducible exact i_tn) | (with_reducible exact i_t) | (with_reducible exact b_add) | (with_reducible exact o_sub) | (with_reducible exact eq_int) | (with_reducible exact ne_int) | (with_reducible exact o_lt) | (with_reducible exact o_le) | (with_reducible exact o_gt) | (with_reducible exact o_ge) | (with_reducible exact t_bl) | (with_reducible exact t_int) | (with_reducible exact x_fst) | (with_reducible exact x_snd) | (with_reducible exact l_tup) | (with_reducible exact l_lst) | (with_reducible exact p_tup) | (with_reducible exact p_lst) | (with_reducible exact p_lstT) | (with_reducible exact p_abs) | (with_reducible exact sum_ints) | (with_reducible exact sum_map) | (with_reducible exact all_map) | (with_reducible exact isin_i) | (with_reducible exact isin_b) | (with_reducible exact isin_t) | (with_reducible exact isin_str) | (with_reducible exact any_lst) | (with_reducible exact any_tup) | (with_reducible exact q_nilN) | (with_reducible exact s_cutL) | (with_reducible exact s_cutR1) | (with_reducible exact s_cut1) | (with_reducible apply b_mul) | (with_reducible apply b_fdiv) | (with_reducible apply b_mod) | (with_reducible apply o_addT1) | (with_reducible apply o_addTM) | (with_reducible apply o_addT) | ((with_reducible apply o_addL1); (first | decide | skip); (first | decide | skip)) | ((with_reducible apply o_addLM); (first | decide | skip); (first | decide | skip)) | ((with_reducible apply o_addL); (first | decide | skip); (first | decide | skip)) | (with_reducible apply x_tup0 (0 : Int)) | (with_reducible apply x_lst0 (0 : Int)) | (with_reducible apply x_tup0 ([] : List Int)) | (with_reducible apply x_lst0 ([] : List Int)) | (with_reducible apply x_last (0 : Nat)) | (with_reducible apply x_tup (0 : Int)) | (with_reducible apply x_lst (0 : Int)) | (with_reducible apply x_tup ([] : List Int)) | (with_reducible apply x_lst ([] : List Int)))
local macro_rules | `(tactic| walk_at "e1") => `(tactic| first | (with_reducible exact ev_int) | (with_reducible exact ev_bl) | (with_reducible exact ev_non) | (with_reducible exact ev_str) | (with_reducible exact ev_fn) | (with_reducible exact ev_cls) | (with_reducible exact ev_ty) | ((with_reducible apply ev_var); (focus walk_at "sl"); exact rfl) | (with_reducible apply ev_bin) | (with_reducible apply ev_neg) | (with_reducible apply ev_cmp) | (with_reducible apply ev_chn) | (with_reducible apply ev_not) | (with_reducible apply ev_bo) | (with_reducible apply bo_one) | (with_reducible apply bo_and) | (with_reducible apply bo_or) | (with_reducible apply ev_iteI) | (with_reducible apply ev_tup) | (with_reducible apply ev_lst) | (with_reducible exact evs_nil) | (with_reducible apply evs_cons) | (with_reducible apply ev_idx) | (with_reducible exact evo_no) | (with_reducible apply evo_so) | (with_reducible apply ev_slc) | (with_reducible apply ev_call) | (with_reducible apply ev_p1) | (with_reducible apply ev_p2) | (with_reducible apply ev_m1) | (with_reducible exact evT_no) | (with_reducible apply evT_so) | (with_reducible exact fits_of (by first | exact Nat.zero_le _ | (simp only [List.length_cons, List.length_nil]; omega))) | (with_reducible apply it_seq) | (with_reducible apply it_rng1) | (with_reducible apply it_rng2) | (with_reducible apply it_enum) | (with_reducible apply it_zip) | (with_reducible apply ev_compM) | (with_reducible apply ev_compP) | (with_reducible apply ev_comp2P) | (intro _ _; (with_reducible apply Elt.mk)) | (intro _ _; (with_reducible apply EltP.mk)) | (intro _ _; (with_reducible apply Elt2.mk)) | ((with_reducible apply bT_nm); walk_at "sl"; done) | (with_reducible apply bT_tp2))
local macro_rules | `(tactic| walk_at "s1") => `(tactic| first | (with_reducible exact exs_nil) | (with_reducible apply exs_appc) | (with_reducible apply exs_appn) | (with_reducible apply exs_set) | (with_reducible apply exs_par2) | (with_reducible apply exs_par3) | (with_reducible apply exs_ret) | (with_reducible exact exs_rais) | (with_reducible apply exs_pas) | (with_reducible apply exs_ex) | (with_reducible apply exs_unp) | (with_reducible apply exs_app1) | (with_reducible apply keep_fz) | (with_reducible apply keep_own) | (with_reducible apply keep_heap))
local macro_rules | `(tactic| walk_at "rf") => `(tactic| first | ((with_reducible apply k_fz); exact rfl) | ((with_reducible apply k_un); exact rfl) | ((with_reducible apply k_it); exact rfl) | ((with_reducible apply k_sq); exact rfl) | ((with_reducible apply k_br); exact rfl) | ((with_reducible apply k_m1); exact rfl) | ((with_reducible apply k_set); walk_at "sl"; done) | ((with_reducible apply k_wipe); walk_at "sl"; done) | ((with_reducible apply k_get); walk_at "sl"; done))
local macro_rules | `(tactic| walk_at "mi") => `(tactic| repeat' (first | walk_at "e1" | walk_at "op" | walk_at "s1" | walk_at "rf" | (intro _; (first | walk_at "e1" | walk_at "s1"))))
local macro_rules | `(tactic| walk_at "mic") => `(tactic| repeat' (first | walk_at "e1" | walk_at "op" | walk_at "s1" | walk_at "rf" | ((with_reducible apply k_call); (with_reducible apply_assumption -exfalso -symm)) | (intro _; (first | walk_at "e1" | walk_at "s1"))))
local macro_rules | `(tactic| walk_at "sd") => `(tactic| first | assumption | omega | (simp only [List.length_range, List.length_map, List.length_cons, List.length_nil]; omega) | (simp only [List.mem_range, List.length_range, List.length_map] at *; omega))
local macro_rules | `(tactic| walk_at "st") => `(tactic| simp only [List.map_cons, List.map_nil, List.cons_append, List.nil_append, List.reduceReplicate, Nat.reduceSub])
/-! shortened -/
def gcdL (l : List Int) : Nat := l.foldl (fun g x => Int.gcd (g : Int) x) 0
def short (l : List Int) : List Int := if 1 < gcdL l then l.map fun x => x.fdiv (gcdL l : Int) else l
theorem gcdL_one {l : List Int} : ∀ {g : Nat}, g = 1 → l.foldl (fun g x => Int.gcd (g : Int) x) g = 1 := by
  induction l with
  | nil => intro g e; exact e
  | cons x l ih =>
    intro g e
    subst e
    rw [List.foldl_cons]
    exact ih (by simp)
def shStep (l : List Int) (g : Nat) (x : Int) : Except Val Nat := if Int.gcd (g : Int) x = 1 then .error (.lst .own (l.map Val.int)) else .ok (Int.gcd (g : Int) x)
theorem shFold (l : List Int) : ∀ (xs : List Int) (g : Nat), match foldE (shStep l) g xs with
    | .ok s => s = xs.foldl (fun g x => Int.gcd (g : Int) x) g ∧ (s = 1 → g = 1)
    | .error v => v = .lst .own (l.map Val.int) ∧ xs.foldl (fun g x => Int.gcd (g : Int) x) g = 1
  | [], g => ⟨rfl, id⟩
  | x :: xs, g => by
    unfold foldE shStep
    by_cases e : Int.gcd (g : Int) x = 1
    · simp only [e, if_true, List.foldl_cons]
      exact ⟨trivial, gcdL_one rfl⟩
    · simp only [e, if_false, List.foldl_cons]
      have ih := shFold l xs (Int.gcd (g : Int) x)
      change match foldE (shStep l) (Int.gcd (g : Int) x) xs with | .ok s => _ | .error v => _
      cases ee : foldE (shStep l) (Int.gcd (g : Int) x) xs with
      | ok s =>
        rw [ee] at ih
        exact ⟨ih.1, fun z => (e (ih.2 z)).elim⟩
      | error v =>
        rw [ee] at ih
        exact ih
theorem gcdL_le {k : Nat} : ∀ (l : List Int) (g : Nat), g < 2 ^ k → (∀ x ∈ l, x.natAbs < 2 ^ k) → l.foldl (fun g x => Int.gcd (g : Int) x) g < 2 ^ k
  | [], g, hg, _ => hg
  | x :: l, g, hg, H => by
    rw [List.foldl_cons]
    refine gcdL_le l _ ?_ fun y hy => H y (List.mem_cons_of_mem _ hy)
    have hx := H x List.mem_cons_self
    by_cases e : x = 0
    · subst e
      simpa using hg
    · exact Nat.lt_of_le_of_lt (Nat.le_of_dvd (by omega) (Int.gcd_dvd_natAbs_right ..)) hx
section
variable {G : Nat → Option FD} {N n : Nat} {h : Heap}
theorem short_spec (hG : Has G [110, 63]) {l : List Int} (hb : ∀ x ∈ l, x.natAbs < 2 ^ 9000) (hl : l.length ≤ 1000) (hN : 2 ^ 9000 ≤ N) : callF G N (n + 2) 110 [.lst .imm (l.map Val.int)] h = .ok (.lst .own ((short l).map Val.int)) h := by
  refine hG.call (d := fd_shortened) rfl rfl ?_
  unfold fd_shortened
  refine runF_rt rfl rfl ?_
  walk_at "st"
  apply exs_set
  · walk_at "mi"
  · walk_at "mi"
  have key := shFold l l 0
  refine exs_forE (fun (g : Nat) ρ => ∃ a, ρ = [some (.lst .imm (l.map Val.int)), some (.int (g : Int)), a]) (shStep l) 0 (by walk_at "mi") ⟨_, rfl⟩ (fun g x hx ρ hs => ?_) (fun g ρ1 e hs => ?_) (fun v e => ?_)
  · obtain ⟨a, rfl⟩ := hs
    have hd := divisor_spec (G := G) (N := N) (n := n) (h := h) (hG.sub (S := [63]) rfl) (a := (g : Int)) (b := x) (Nat.lt_of_lt_of_le (hb x hx) hN)
    unfold shStep
    by_cases e : Int.gcd (g : Int) x = 1
    · simp only [e, if_true]
      rw [e] at hd
      refine ⟨[some (.lst .imm (l.map Val.int)), some (.int (g : Int)), some (.int x)], by walk_at "mi", ?_⟩
      refine exs_set (h1 := h) (v := .int 1) ?_ (by walk_at "mi") ?_
      · walk_at "mi"
        exact hd
      apply exs_condT
      · walk_at "mi"
      · walk_at "mi"
      · rfl
      walk_at "mi"
    · simp only [e, if_false]
      apply Turn.mk
      · walk_at "mi"
      · refine exs_set (h1 := h) (v := .int (Int.gcd (g : Int) x : Int)) ?_ (by walk_at "mi") ?_
        · walk_at "mi"
          exact hd
        apply exs_condF
        · walk_at "mi"
        · walk_at "mi"
        · exact decide_eq_false (by omega)
        walk_at "mi"
      · exact ⟨_, rfl⟩
  · obtain ⟨a, rfl⟩ := hs
    rw [e] at key
    have hg : g = gcdL l := key.1
    unfold short
    rw [← hg]
    by_cases e1 : 1 < g
    · rw [if_pos e1]
      have gb : g < 2 ^ 9000 := by rw [hg]; exact gcdL_le l 0 (Nat.pow_pos (by omega)) hb
      apply exs_ret
      · apply ev_iteT
        · walk_at "mi"
        · walk_at "mi"
        · exact decide_eq_true (by omega)
        · walk_at "mi"
          · exact wd (b := 9000) (by omega) (by rw [Int.natAbs_natCast]; exact gb) (Nat.le_refl _)
          · omega
      · rw [List.map_map]; rfl
    · rw [if_neg e1]
      apply exs_ret
      · apply ev_iteF
        · walk_at "mi"
        · walk_at "mi"
        · exact decide_eq_false (by omega)
        · walk_at "mi"
      · rfl
  · rw [e] at key
    obtain ⟨rfl, k2⟩ := key
    unfold short
    rw [if_neg (by unfold gcdL; omega)]
/-! first_place -/
def fplace (r : List Int) : Nat := ((r.zipIdx.filter fun p => decide (p.1 ≠ 0)).map (·.2)).getD 0 0
theorem fplace_list {r : List Int} (hr : (r.any fun i => i != 0) = true) : (r.zipIdx.filter fun p => decide (p.1 ≠ 0)) ≠ [] := by
  obtain ⟨x, hx, e⟩ := List.any_eq_true.mp hr
  intro z
  obtain ⟨i, hi, rfl⟩ := List.getElem_of_mem hx
  have : (r[i], i) ∈ r.zipIdx.filter fun p => decide (p.1 ≠ 0) := List.mem_filter.mpr ⟨by rw [List.mem_zipIdx_iff_getElem?]; simp [List.getElem?_eq_getElem hi], by simpa using e⟩
  rw [z] at this
  cases this
theorem fplace_find : ∀ (r : List Int) (s d : Nat), (r.any fun i => i != 0) = true → (((r.zipIdx s).filter fun p => decide (p.1 ≠ 0)).map (·.2)).getD 0 d = s + r.findIdx (fun x => x != 0)
  | [], s, d, hr => by cases hr
  | x :: r, s, d, hr => by
    rw [List.zipIdx_cons, List.findIdx_cons]
    by_cases e : x = 0
    · subst e
      rw [List.filter_cons_of_neg (by simp)]
      have := fplace_find r (s + 1) d (by simpa using hr)
      rw [this]
      simp
      omega
    · rw [List.filter_cons_of_pos (by simpa using e)]
      have : (x != 0) = true := by simpa using e
      rw [this]
      rfl
theorem fplace_ok {r : List Int} (hr : (r.any fun i => i != 0) = true) : fplace r < r.length ∧ r.getD (fplace r) 0 ≠ 0 ∧ ∀ j, j < fplace r → r.getD j 0 = 0 := by
  have e : fplace r = r.findIdx (fun x => x != 0) := by
    unfold fplace
    rw [fplace_find r 0 0 hr]
    omega
  have hl : r.findIdx (fun x => x != 0) < r.length := by
    obtain ⟨x, hx, e⟩ := List.any_eq_true.mp hr
    exact List.findIdx_lt_length_of_exists ⟨x, hx, e⟩
  rw [e]
  refine ⟨hl, ?_, fun j hj => ?_⟩
  · have := List.findIdx_getElem (w := hl)
    rw [List.getD, List.getElem?_eq_getElem hl]
    simpa using this
  · have := List.not_of_lt_findIdx hj
    rw [List.getD, List.getElem?_eq_getElem (by omega)]
    simpa using this
theorem fplace_spec (hG : Has G [68]) {r : List Int} (hr : (r.any fun i => i != 0) = true) (hl : r.length ≤ 1000) : callF G N (n + 1) 68 [.lst .imm (r.map Val.int)] h = .ok (.int (fplace r : Int)) h := by
  refine hG.call (d := fd_first_place) rfl rfl ?_
  unfold fd_first_place
  refine runF_rt rfl rfl ?_
  walk_at "st"
  have hne := fplace_list hr
  apply exs_ret
  · apply ev_idx
    · walk_at "mi"
      rw [List.length_zipIdx]; omega
    · walk_at "mi"
    · exact x_lst0 (xs := (r.zipIdx.filter fun p => decide (p.1 ≠ 0))) (f := fun p => Val.int (p.2 : Int)) (0, 0) (List.length_pos_iff.mpr hne)
  · unfold fplace
    cases e : (r.zipIdx.filter fun p => decide (p.1 ≠ 0)) with
    | nil => exact (hne e).elim
    | cons p ps => rfl
/-! reduced -/
def combo (a : Int) (row : List Int) (b : Int) (other : List Int) : List Int := (row.zip other).map fun q => q.1 * a - b * q.2
def redStep (row other : List Int) : List Int := if decide (row.getD (fplace other) 0 ≠ 0) = true then short (combo (other.getD (fplace other) 0) row (row.getD (fplace other) 0) other) else row
def redu (row : List Int) (rows : List (List Int)) : List Int := rows.foldl redStep row
def Bd (k : Nat) (l : List Int) : Prop := ∀ x ∈ l, x.natAbs < 2 ^ k
theorem Bd.mono {k l : Nat} {r : List Int} (h : Bd k r) (hk : k ≤ l) : Bd l r := fun x hx => Nat.lt_of_lt_of_le (h x hx) (Nat.pow_le_pow_right (by omega) hk)
theorem Bd.get {k : Nat} {r : List Int} (h : Bd k r) (i : Nat) : (r.getD i 0).natAbs < 2 ^ k := by
  by_cases e : i < r.length
  · exact h _ (getD_mem e)
  · rw [List.getD, List.getElem?_eq_none (by omega)]
    exact Nat.pow_pos (by omega)
theorem short_len {l : List Int} : (short l).length = l.length := by
  unfold short
  split <;> simp
theorem short_bd {l : List Int} {k : Nat} (h : Bd k l) : Bd k (short l) := by
  unfold short
  split
  · rename_i hg
    intro x hx
    obtain ⟨y, hy, rfl⟩ := List.mem_map.mp hx
    refine Nat.lt_of_le_of_lt ?_ (h y hy)
    have gp : (0 : Int) < (gcdL l : Int) := by omega
    rw [Int.fdiv_eq_ediv_of_nonneg _ (by omega)]
    exact Int.natAbs_ediv_le_natAbs _ _
  · exact h
theorem combo_len {a b : Int} {row other : List Int} (hl : other.length = row.length) : (combo a row b other).length = row.length := by
  unfold combo
  simp [hl]
theorem combo_bd {a b : Int} {row other : List Int} {k l : Nat} (hr : Bd k row) (ho : Bd l other) (ha : a.natAbs < 2 ^ l) (hb : b.natAbs < 2 ^ k) : Bd (k + l + 1) (combo a row b other) := by
  intro x hx
  obtain ⟨⟨p, q⟩, hp, rfl⟩ := List.mem_map.mp hx
  have hm := List.of_mem_zip hp
  have h1 := mul_lt_pow (hr p hm.1) ha
  have h2 := mul_lt_pow hb (ho q hm.2)
  have h3 := Int.natAbs_sub_le (p * a) (b * q)
  rw [Int.natAbs_mul, Int.natAbs_mul] at h3
  rw [Nat.pow_succ]
  simp only
  omega
theorem redStep_len {row other : List Int} (hl : other.length = row.length) : (redStep row other).length = row.length := by
  unfold redStep
  split
  · rw [short_len, combo_len hl]
  · rfl
theorem redStep_bd {row other : List Int} {k l : Nat} (hr : Bd k row) (ho : Bd l other) : Bd (k + l + 1) (redStep row other) := by
  unfold redStep
  split
  · exact short_bd (combo_bd hr ho (ho.get _) (hr.get _))
  · exact hr.mono (by omega)
theorem redu_len {w : Nat} : ∀ (rows : List (List Int)) (row : List Int), row.length = w → (∀ r ∈ rows, r.length = w) → (redu row rows).length = w
  | [], row, h, _ => h
  | o :: rows, row, h, H => by
    have ho := H o List.mem_cons_self
    exact redu_len rows (redStep row o) ((redStep_len (by omega)).trans h) fun r hr => H r (List.mem_cons_of_mem _ hr)
theorem redu_bd {l : Nat} : ∀ (rows : List (List Int)) (row : List Int) (k : Nat), Bd k row → (∀ r ∈ rows, Bd l r) → Bd (k + rows.length * (l + 1)) (redu row rows)
  | [], row, k, h, _ => by simpa [redu] using h
  | o :: rows, row, k, h, H => by
    have := redu_bd rows (redStep row o) (k + l + 1) (redStep_bd h (H o List.mem_cons_self)) fun r hr => H r (List.mem_cons_of_mem _ hr)
    refine this.mono ?_
    rw [List.length_cons, Nat.succ_mul]
    omega
theorem reduced_spec (hG : Has G [104, 110, 68, 63]) {row : List Int} {rows : List (List Int)} {w k l : Nat} (hw : row.length = w) (hws : ∀ r ∈ rows, r.length = w) (hnz : ∀ r ∈ rows, (r.any fun i => i != 0) = true) (hk : Bd k row) (hl : ∀ r ∈ rows, Bd l r) (hw2 : w ≤ 1000) (hsz : k + rows.length * (l + 1) ≤ 9000) (hN : 2 ^ 9000 ≤ N) :
    callF G N (n + 3) 104 [.lst .imm (row.map Val.int), .lst .imm (rows.map lRow)] h = .ok (.lst .imm ((redu row rows).map Val.int)) h := by
  refine hG.call (d := fd_reduced) rfl rfl ?_
  unfold fd_reduced
  refine runF_rt rfl rfl ?_
  walk_at "st"
  refine exs_forP (fun (s : List Int) ρ => ∃ a b, ρ = [some (.lst .imm (s.map Val.int)), some (.lst .imm (rows.map lRow)), a, b, none, none]) redStep row (by walk_at "mi") ⟨_, _, rfl⟩ (fun pre o post hp ρ hs => ?_) (fun ρ1 hs => ?_)
  · obtain ⟨a, b, rfl⟩ := hs
    have ho : o ∈ rows := by rw [hp]; simp
    have hpm : ∀ r ∈ pre, r ∈ rows := fun r hr => by rw [hp]; simp [hr]
    have sl : (redu row pre).length = w := redu_len pre row hw fun r hr => hws r (hpm r hr)
    have sb : Bd (k + pre.length * (l + 1)) (redu row pre) := redu_bd pre row k hk fun r hr => hl r (hpm r hr)
    have hpl : pre.length + 1 ≤ rows.length := by rw [hp]; simp
    have hmm : (pre.length + 1) * (l + 1) ≤ rows.length * (l + 1) := Nat.mul_le_mul_right _ hpl
    rw [Nat.succ_mul] at hmm
    have fp := fplace_spec (G := G) (N := N) (n := n + 1) (h := h) (hG.sub (S := [68]) rfl) (hnz o ho) (by rw [hws o ho]; exact hw2)
    obtain ⟨f1, f2, _⟩ := fplace_ok (hnz o ho)
    show Turn _ _ _ _ _ (fun ρ => ∃ a b, ρ = [some (.lst .imm ((redStep (redu row pre) o).map Val.int)), _, a, b, none, none])
    have ol := hws o ho
    have ob := hl o ho
    have e0 : pre.foldl redStep row = redu row pre := rfl
    rw [e0]
    generalize redu row pre = s at *
    have hsh := short_spec (G := G) (N := N) (n := n) (h := h) (hG.sub (S := [110, 63]) rfl) (l := combo (o.getD (fplace o) 0) s (s.getD (fplace o) 0) o) ((combo_bd sb ob (ob.get _) (sb.get _)).mono (by omega)) (by rw [combo_len (by omega)]; omega) hN
    by_cases hc : decide (s.getD (fplace o) 0 ≠ 0) = true
    · rw [show redStep s o = short (combo (o.getD (fplace o) 0) s (s.getD (fplace o) 0) o) from by unfold redStep; rw [if_pos hc]]
      apply Turn.mk
      · walk_at "mi"
      · apply exs_set
        · walk_at "mi"
          exact fp
        · walk_at "mi"
        · apply exs_condT
          · walk_at "mi"
            omega
          · walk_at "mi"
          · exact hc
          · apply exs_appc
            apply exs_set (h1 := h) (v := .lst .own ((short (combo (o.getD (fplace o) 0) s (s.getD (fplace o) 0) o)).map Val.int))
            · apply ev_call
              · walk_at "mi"
              · apply evs_cons
                · walk_at "mi"
                  · omega
                  · exact wm (sb _ (List.of_mem_zip (by assumption)).1) (ob.get _) (by omega)
                  · omega
                  · exact wm (sb.get _) (ob _ (List.of_mem_zip (by assumption)).2) (by omega)
                  · rw [List.length_zip]; omega
                · rfl
                · walk_at "mi"
              · unfold combo at hsh
                rw [List.map_map] at hsh
                exact hsh
            · walk_at "mi"
            · walk_at "mi"
      · exact ⟨_, _, rfl⟩
    · rw [show redStep s o = s from by unfold redStep; rw [if_neg hc]]
      apply Turn.mk
      · walk_at "mi"
      · apply exs_set
        · walk_at "mi"
          exact fp
        · walk_at "mi"
        · apply exs_condF
          · walk_at "mi"
            omega
          · walk_at "mi"
          · simpa using hc
          · walk_at "mi"
      · exact ⟨_, _, rfl⟩
  · obtain ⟨a, b, rfl⟩ := hs
    walk_at "mi"
end
end Mi

set_option Elab.async false
set_option linter.all false
set_option autoImplicit false
set_option maxRecDepth 100000
/-! Mr8: rows without the first numbers of others. -/
namespace Mi
open PySem PySem.Spec L2 PyProof.Rows
local macro_rules | `(tactic| walk_at "sl") => `(tactic| repeat' (first | (with_reducible exact get_zero) | (with_reducible exact set_zero) | (with_reducible apply get_succ) | (with_reducible apply set_succ) | (with_reducible apply wipe_nm) | (with_reducible apply wipe_tp2) | (with_reducible apply wipe_2)))
local macro_rules | `(tactic| walk_at "op") => `(tactic| first | (with_reducible exact i_nn) | (with_reducible exact i_n) | (with_reducible exact i_tn) | (with_reducible exact i_t) | (with_reducible exact b_add) | (with_reducible exact o_sub) | (with_reducible exact eq_int) | (with_reducible exact ne_int) | (with_reducible exact o_lt) | (with_reducible exact o_le) | (with_reducible exact o_gt) | (with_reducible exact o_ge) | (with_reducible exact t_bl) | (with_reducible exact t_int) | (with_reducible exact x_fst) | (with_reducible exact x_snd) | (with_reducible exact l_tup) | (with_reducible exact l_lst) | (with_reducible exact p_tup) | (with_reducible exact p_lst) | (with_reducible exact p_lstT) | (with_reducible exact p_abs) | (with_reducible exact sum_ints) | (with_reducible exact sum_map) | (with_reducible exact all_map) | (with_reducible exact isin_i) | (with_reducible exact isin_b) | (with_reducible exact isin_t) | (with_reducible exact isin_str) | (with_reducible exact any_lst) | (with_reducible exact any_tup) | (with_reducible exact q_nilN) | (with_reducible exact s_cutL) | (with_reducible exact s_cutR1) | (with_reducible exact s_cut1) | (with_reducible apply b_mul) | (with_reducible apply b_fdiv) | (with_reducible apply b_mod) | (with_reducible apply o_addT1) | (with_reducible apply o_addTM) | (with_reducible apply o_addT) | ((with_reducible apply o_addL1); (first | decide | skip); (first | decide | skip)) | ((with_reducible apply o_addLM); (first | decide | skip); (first | decide | skip)) | ((with_reducible apply o_addL); (first | decide | skip); (first | decide | skip)) | (with_reducible apply x_tup0 (0 : Int)) | (with_reducible apply x_lst0 (0 : Int)) | (with_reducible apply x_tup0 ([] : List Int)) | (with_reducible apply x_lst0 ([] : List Int)) | (with_reducible apply x_last (0 : Nat)) | (with_reducible apply x_tup (0 : Int)) | (with_reducible apply x_lst (0 : Int)) | (with_reducible apply x_tup ([] : List Int)) | (with_reducible apply x_lst ([] : List Int)))
local macro_rules | `(tactic| walk_at "e1") => `(tactic| first | (with_reducible exact ev_int) | (with_reducible exact ev_bl) | (with_reducible exact ev_non) | (with_reducible exact ev_str) | (with_reducible exact ev_fn) | (with_reducible exact ev_cls) | (with_reducible exact ev_ty) | ((with_reducible apply ev_var); (focus walk_at "sl"); exact rfl) | (with_reducible apply ev_bin) | (with_reducible apply ev_neg) | (with_reducible apply ev_cmp) | (with_reducible apply ev_chn) | (with_reducible apply ev_not) | (with_reducible apply ev_bo) | (with_reducible apply bo_one) | (with_reducible apply bo_and) | (with_reducible apply bo_or) | (with_reducible apply ev_iteI) | (with_reducible apply ev_tup) | (with_reducible apply ev_lst) | (with_reducible exact evs_nil) | (with_reducible apply evs_cons) | (with_reducible apply ev_idx) | (with_reducible exact evo_no) | (with_reducible apply evo_so) | (with_reducible apply ev_slc) | (with_reducible apply ev_call) | (with_reducible apply ev_p1) | (with_reducible apply ev_p2) | (with_reducible apply ev_m1) | (with_reducible exact evT_no) | (with_reducible apply evT_so) | (with_reducible exact fits_of (by first | exact Nat.zero_le _ | (simp only [List.length_cons, List.length_nil]; omega))) | (with_reducible apply it_seq) | (with_reducible apply it_rng1) | (with_reducible apply it_rng2) | (with_reducible apply it_enum) | (with_reducible apply it_zip) | (with_reducible apply ev_compM) | (with_reducible apply ev_compP) | (with_reducible apply ev_comp2P) | (intro _ _; (with_reducible apply Elt.mk)) | (intro _ _; (with_reducible apply EltP.mk)) | (intro _ _; (with_reducible apply Elt2.mk)) | ((with_reducible apply bT_nm); walk_at "sl"; done) | (with_reducible apply bT_tp2))
local macro_rules | `(tactic| walk_at "s1") => `(tactic| first | (with_reducible exact exs_nil) | (with_reducible apply exs_appc) | (with_reducible apply exs_appn) | (with_reducible apply exs_set) | (with_reducible apply exs_par2) | (with_reducible apply exs_par3) | (with_reducible apply exs_ret) | (with_reducible exact exs_rais) | (with_reducible apply exs_pas) | (with_reducible apply exs_ex) | (with_reducible apply exs_unp) | (with_reducible apply exs_app1) | (with_reducible apply keep_fz) | (with_reducible apply keep_own) | (with_reducible apply keep_heap))
local macro_rules | `(tactic| walk_at "rf") => `(tactic| first | ((with_reducible apply k_fz); exact rfl) | ((with_reducible apply k_un); exact rfl) | ((with_reducible apply k_it); exact rfl) | ((with_reducible apply k_sq); exact rfl) | ((with_reducible apply k_br); exact rfl) | ((with_reducible apply k_m1); exact rfl) | ((with_reducible apply k_set); walk_at "sl"; done) | ((with_reducible apply k_wipe); walk_at "sl"; done) | ((with_reducible apply k_get); walk_at "sl"; done))
local macro_rules | `(tactic| walk_at "mi") => `(tactic| repeat' (first | walk_at "e1" | walk_at "op" | walk_at "s1" | walk_at "rf" | (intro _; (first | walk_at "e1" | walk_at "s1"))))
local macro_rules | `(tactic| walk_at "mic") => `(tactic| repeat' (first | walk_at "e1" | walk_at "op" | walk_at "s1" | walk_at "rf" | ((with_reducible apply k_call); (with_reducible apply_assumption -exfalso -symm)) | (intro _; (first | walk_at "e1" | walk_at "s1"))))
local macro_rules | `(tactic| walk_at "sd") => `(tactic| first | assumption | omega | (simp only [List.length_range, List.length_map, List.length_cons, List.length_nil]; omega) | (simp only [List.mem_range, List.length_range, List.length_map] at *; omega))
local macro_rules | `(tactic| walk_at "st") => `(tactic| simp only [List.map_cons, List.map_nil, List.cons_append, List.nil_append, List.reduceReplicate, Nat.reduceSub])
theorem mul0 {g x : Int} (hg : 0 < g) (e : g * x = 0) : x = 0 := by
  rcases Int.mul_eq_zero.mp e with e | e
  · omega
  · exact e
theorem gcdL_dvd_from : ∀ (l : List Int) (g : Nat), (l.foldl (fun g x => Int.gcd (g : Int) x) g ∣ g) ∧ ∀ x ∈ l, (((l.foldl (fun g x => Int.gcd (g : Int) x) g : Nat)) : Int) ∣ x
  | [], g => ⟨Nat.dvd_refl _, fun _ h => by cases h⟩
  | y :: l, g => by
    obtain ⟨a, b⟩ := gcdL_dvd_from l (Int.gcd (g : Int) y)
    rw [List.foldl_cons]
    have h1 : Int.gcd (g : Int) y ∣ g := by
      have := Int.gcd_dvd_natAbs_left (g : Int) y
      simpa using this
    refine ⟨Nat.dvd_trans a h1, fun x hx => ?_⟩
    rcases List.mem_cons.mp hx with rfl | hx
    · exact Int.dvd_trans (Int.natCast_dvd_natCast.mpr a) (Int.gcd_dvd_right ..)
    · exact b x hx
theorem gcdL_dvd {l : List Int} {x : Int} (hx : x ∈ l) : (gcdL l : Int) ∣ x := (gcdL_dvd_from l 0).2 x hx
theorem getD_map0 {l : List Int} {f : Int → Int} {i : Nat} (h0 : f 0 = 0) : (l.map f).getD i 0 = f (l.getD i 0) := by
  simp only [List.getD, List.getElem?_map]
  cases l[i]? with
  | none => simp [h0]
  | some x => simp
theorem getD_memD {l : List Int} {i : Nat} : l.getD i 0 = 0 ∨ l.getD i 0 ∈ l := by
  by_cases e : i < l.length
  · exact .inr (getD_mem e)
  · left
    rw [List.getD, List.getElem?_eq_none (by omega)]
    rfl
/-- shortened numbers times their divisor -/
theorem short_mul {l : List Int} : ∃ g : Int, 0 < g ∧ ∀ i, l.getD i 0 = g * (short l).getD i 0 := by
  unfold short
  split
  · rename_i hg
    refine ⟨gcdL l, by omega, fun i => ?_⟩
    rw [getD_map0 (f := fun x => x.fdiv (gcdL l : Int)) (Int.zero_fdiv _)]
    have hd : (gcdL l : Int) ∣ l.getD i 0 := by
      rcases getD_memD (l := l) (i := i) with e | e
      · rw [e]; exact Int.dvd_zero _
      · exact gcdL_dvd e
    obtain ⟨q, hq⟩ := hd
    rw [hq, Int.mul_fdiv_cancel_left _ (by omega)]
  · exact ⟨1, by omega, fun i => by omega⟩
theorem short_zero {l : List Int} {i : Nat} : (short l).getD i 0 = 0 ↔ l.getD i 0 = 0 := by
  obtain ⟨g, hg, h⟩ := short_mul (l := l)
  rw [h i]
  constructor
  · intro e; rw [e]; simp
  · intro e
    rcases Int.mul_eq_zero.mp e with e | e
    · omega
    · exact e
theorem combo_get {a b : Int} {row other : List Int} (hl : other.length = row.length) (i : Nat) : (combo a row b other).getD i 0 = row.getD i 0 * a - b * other.getD i 0 := by
  unfold combo
  by_cases e : i < row.length
  · have e2 : i < other.length := by omega
    have e3 : i < (row.zip other).length := by rw [List.length_zip]; omega
    simp only [List.getD, List.getElem?_map, List.getElem?_eq_getElem e, List.getElem?_eq_getElem e2, List.getElem?_eq_getElem e3, Option.map_some, Option.getD_some, List.getElem_zip]
  · simp only [List.getD, List.getElem?_map]
    rw [List.getElem?_eq_none (by rw [List.length_zip]; omega), List.getElem?_eq_none (by omega), List.getElem?_eq_none (by omega)]
    simp
/-- a step of reducing, by places -/
theorem redStep_get {row other : List Int} (hl : other.length = row.length) : ∃ g : Int, 0 < g ∧ ((row.getD (fplace other) 0 ≠ 0 ∧ ∀ i, g * (redStep row other).getD i 0 = row.getD i 0 * other.getD (fplace other) 0 - row.getD (fplace other) 0 * other.getD i 0) ∨ (row.getD (fplace other) 0 = 0 ∧ redStep row other = row)) := by
  by_cases hc : row.getD (fplace other) 0 = 0
  · refine ⟨1, by omega, .inr ⟨hc, ?_⟩⟩
    unfold redStep
    rw [if_neg (by simpa using hc)]
  · obtain ⟨g, hg, h⟩ := short_mul (l := combo (other.getD (fplace other) 0) row (row.getD (fplace other) 0) other)
    refine ⟨g, hg, .inl ⟨hc, fun i => ?_⟩⟩
    have e : redStep row other = short (combo (other.getD (fplace other) 0) row (row.getD (fplace other) 0) other) := by
      unfold redStep
      rw [if_pos (by simpa using hc)]
    rw [e, ← h i, combo_get hl]
abbrev nzr (r : List Int) : Bool := r.any fun i => i != 0
theorem nzr_of {r : List Int} {i : Nat} (h : r.getD i 0 ≠ 0) : nzr r = true := by
  rcases getD_memD (l := r) (i := i) with e | e
  · exact (h e).elim
  · exact List.any_eq_true.mpr ⟨_, e, by simpa using h⟩
theorem fplace_unique {r : List Int} {p : Nat} (h1 : r.getD p 0 ≠ 0) (h2 : ∀ j, j < p → r.getD j 0 = 0) : fplace r = p := by
  obtain ⟨a, b, c⟩ := fplace_ok (nzr_of h1)
  rcases Nat.lt_trichotomy (fplace r) p with e | e | e
  · exact (b (h2 _ e)).elim
  · exact e
  · exact (h1 (c _ e)).elim
structure Ech (w : Nat) (F : List (List Int)) : Prop where
  len : ∀ r ∈ F, r.length = w
  nz : ∀ r ∈ F, nzr r = true
  sep : F.Pairwise fun r s => r.getD (fplace s) 0 = 0 ∧ s.getD (fplace r) 0 = 0
theorem Ech.apart {w : Nat} {F : List (List Int)} (E : Ech w F) {pre post : List (List Int)} {r : List Int} (hF : F = pre ++ r :: post) : (∀ s ∈ pre, s.getD (fplace r) 0 = 0 ∧ r.getD (fplace s) 0 = 0) ∧ ∀ s ∈ post, s.getD (fplace r) 0 = 0 ∧ r.getD (fplace s) 0 = 0 := by
  have := E.sep
  rw [hF, List.pairwise_append] at this
  obtain ⟨_, h2, h3⟩ := this
  exact ⟨fun s hs => h3 s hs r List.mem_cons_self, fun s hs => ((List.pairwise_cons.mp h2).1 s hs).symm⟩
/-- what is reduced has zeros at the first places -/
theorem redu_zero {w : Nat} : ∀ (F G : List (List Int)) (row : List Int), row.length = w → (∀ r ∈ F, r.length = w) → (∀ r ∈ F, nzr r = true) → (F.Pairwise fun r s => r.getD (fplace s) 0 = 0 ∧ s.getD (fplace r) 0 = 0) → (∀ r ∈ F, ∀ s ∈ G, r.getD (fplace s) 0 = 0) → (∀ s ∈ G, row.getD (fplace s) 0 = 0) → (∀ s ∈ F, (redu row F).getD (fplace s) 0 = 0) ∧ ∀ s ∈ G, (redu row F).getD (fplace s) 0 = 0
  | [], G, row, _, _, _, _, _, h => ⟨fun _ z => (by cases z), h⟩
  | o :: F, G, row, hw, hl, hn, hp, hg, h => by
    have ho := hl o List.mem_cons_self
    obtain ⟨p1, p2⟩ := List.pairwise_cons.mp hp
    have key : ∀ s, (s = o ∨ s ∈ G) → (redStep row o).getD (fplace s) 0 = 0 := fun s hs => by
      obtain ⟨g, g0, hx⟩ := redStep_get (row := row) (other := o) (by omega)
      rcases hs with rfl | hs
      · rcases hx with ⟨_, hx⟩ | ⟨h0, hx⟩
        · have e := hx (fplace s)
          rw [Int.sub_self] at e
          rcases Int.mul_eq_zero.mp e with e | e
          · omega
          · exact e
        · rw [hx]; exact h0
      · rcases hx with ⟨_, hx⟩ | ⟨h0, hx⟩
        · have e := hx (fplace s)
          rw [h s hs, hg o List.mem_cons_self s hs, Int.zero_mul, Int.mul_zero, Int.sub_self] at e
          exact mul0 g0 e
        · rw [hx]; exact h s hs
    have ih := redu_zero F (o :: G) (redStep row o) ((redStep_len (by omega)).trans hw) (fun r hr => hl r (List.mem_cons_of_mem _ hr)) (fun r hr => hn r (List.mem_cons_of_mem _ hr)) p2 (fun r hr s hs => by
      rcases List.mem_cons.mp hs with rfl | hs
      · exact (p1 r hr).2
      · exact hg r (List.mem_cons_of_mem _ hr) s hs) (fun s hs => key s (List.mem_cons.mp hs))
    refine ⟨fun s hs => ?_, fun s hs => ih.2 s (List.mem_cons_of_mem _ hs)⟩
    rcases List.mem_cons.mp hs with rfl | hs
    · exact ih.2 s List.mem_cons_self
    · exact ih.1 s hs
def indStep (F : List (List Int)) (row : List Int) : List (List Int) := if nzr (redu row F) = true then (F.map fun f => redu f [redu row F]) ++ [redu row F] else F
def indep (rows : List (List Int)) : List (List Int) := rows.foldl indStep []
theorem Ech.zero {w : Nat} {F : List (List Int)} (E : Ech w F) {row : List Int} (hw : row.length = w) : ∀ s ∈ F, (redu row F).getD (fplace s) 0 = 0 :=
  (redu_zero F [] row hw E.len E.nz E.sep (fun _ _ _ z => by cases z) (fun _ z => by cases z)).1
/-- a found row without a new one's first place keeps its own -/
theorem redStep_place {f r : List Int} (hl : r.length = f.length) (hf : nzr f = true) (hr : nzr r = true) (h0 : r.getD (fplace f) 0 = 0) : (redStep f r).getD (fplace f) 0 ≠ 0 ∧ fplace (redStep f r) = fplace f ∧ (redStep f r).getD (fplace r) 0 = 0 := by
  obtain ⟨g, g0, hx⟩ := redStep_get (row := f) (other := r) hl
  obtain ⟨f1, f2, f3⟩ := fplace_ok hf
  obtain ⟨r1, r2, r3⟩ := fplace_ok hr
  rcases hx with ⟨hc, hx⟩ | ⟨hc, hx⟩
  · have n1 : (redStep f r).getD (fplace f) 0 ≠ 0 := fun z => by
      have e := hx (fplace f)
      rw [z, h0, Int.mul_zero, Int.mul_zero, Int.sub_zero] at e
      rcases Int.mul_eq_zero.mp e.symm with e | e
      · exact f2 e
      · exact r2 e
    have lt : fplace f < fplace r := by
      rcases Nat.lt_trichotomy (fplace f) (fplace r) with e | e | e
      · exact e
      · rw [e] at h0; exact (r2 h0).elim
      · exact (hc (f3 _ e)).elim
    refine ⟨n1, fplace_unique n1 (fun j hj => ?_), ?_⟩
    · have e := hx j
      rw [f3 j hj, r3 j (by omega), Int.zero_mul, Int.mul_zero, Int.sub_self] at e
      exact mul0 g0 e
    · have e := hx (fplace r)
      rw [Int.sub_self] at e
      rcases Int.mul_eq_zero.mp e with e | e
      · omega
      · exact e
  · rw [hx]
    exact ⟨f2, rfl, hc⟩
theorem Ech.step {w : Nat} {F : List (List Int)} (E : Ech w F) {row : List Int} (hw : row.length = w) : Ech w (indStep F row) := by
  unfold indStep
  split
  · rename_i hn
    have hz := E.zero hw
    have rl := redu_len F row hw E.len
    generalize redu row F = r at *
    have st : ∀ f : List Int, redu f [r] = redStep f r := fun f => rfl
    have pl : ∀ f ∈ F, (redStep f r).getD (fplace f) 0 ≠ 0 ∧ fplace (redStep f r) = fplace f ∧ (redStep f r).getD (fplace r) 0 = 0 := fun f hf => redStep_place (by rw [rl, E.len f hf]) (E.nz f hf) hn (hz f hf)
    refine ⟨fun s hs => ?_, fun s hs => ?_, ?_⟩
    · rcases List.mem_append.mp hs with hs | hs
      · obtain ⟨f, hf, rfl⟩ := List.mem_map.mp hs
        rw [st, redStep_len (by rw [rl, E.len f hf]), E.len f hf]
      · simp at hs; subst hs; exact rl
    · rcases List.mem_append.mp hs with hs | hs
      · obtain ⟨f, hf, rfl⟩ := List.mem_map.mp hs
        rw [st]
        exact nzr_of (pl f hf).1
      · simp at hs; subst hs; exact hn
    · rw [List.pairwise_append]
      refine ⟨?_, List.pairwise_singleton _ _, fun s hs t ht => ?_⟩
      · rw [List.pairwise_map]
        have sep := E.sep
        refine List.Pairwise.imp_of_mem (fun {a b} ha hb hab => ?_) sep
        rw [st, st, (pl a ha).2.1, (pl b hb).2.1]
        have one : ∀ f ∈ F, ∀ s ∈ F, f.getD (fplace s) 0 = 0 → (redStep f r).getD (fplace s) 0 = 0 := fun f hf s hs h0 => by
          obtain ⟨g, g0, hx⟩ := redStep_get (row := f) (other := r) (by rw [rl, E.len f hf])
          rcases hx with ⟨_, hx⟩ | ⟨_, hx⟩
          · have e := hx (fplace s)
            rw [h0, hz s hs, Int.zero_mul, Int.mul_zero, Int.sub_self] at e
            exact mul0 g0 e
          · rw [hx]; exact h0
        exact ⟨one a ha b hb hab.1, one b hb a ha hab.2⟩
      · obtain ⟨f, hf, rfl⟩ := List.mem_map.mp hs
        simp at ht
        subst ht
        rw [st, (pl f hf).2.1]
        exact ⟨(pl f hf).2.2, hz f hf⟩
  · exact E
theorem Ech.nil {w : Nat} : Ech w [] := ⟨fun _ z => (by cases z), fun _ z => (by cases z), List.Pairwise.nil⟩
theorem Ech.indep {w : Nat} : ∀ (rows F : List (List Int)), Ech w F → (∀ r ∈ rows, r.length = w) → Ech w (rows.foldl indStep F)
  | [], F, E, _ => E
  | r :: rows, F, E, H => Ech.indep rows _ (E.step (H r List.mem_cons_self)) fun s hs => H s (List.mem_cons_of_mem _ hs)
theorem nodup_len : ∀ (w : Nat) (l : List Nat), l.Nodup → (∀ x ∈ l, x < w) → l.length ≤ w
  | 0, l, _, h => by
    cases l with
    | nil => simp
    | cons x l => exact absurd (h x List.mem_cons_self) (by omega)
  | w + 1, l, hn, h => by
    have h1 := nodup_len w (l.erase w) (hn.erase w) (fun x hx => by
      have h2 := h x (List.mem_of_mem_erase hx)
      have h3 : x ≠ w := fun z => by
        subst z
        exact absurd hx (hn.not_mem_erase)
      omega)
    have := List.length_erase_le (a := w) (l := l)
    have h4 : l.length ≤ (l.erase w).length + 1 := by
      rw [List.length_erase]
      split <;> omega
    omega
theorem Ech.count {w : Nat} {F : List (List Int)} (E : Ech w F) : F.length ≤ w := by
  have := nodup_len w (F.map fplace) (by
    rw [List.Nodup, List.pairwise_map]
    refine List.Pairwise.imp_of_mem (fun {a b} ha hb hab z => ?_) E.sep
    have := (fplace_ok (E.nz a ha)).2.1
    rw [z] at this
    exact this hab.1) (fun p hp => by
    obtain ⟨f, hf, rfl⟩ := List.mem_map.mp hp
    have := (fplace_ok (E.nz f hf)).1
    rw [E.len f hf] at this
    exact this)
  simpa using this
end Mi

set_option Elab.async false
set_option linter.all false
set_option autoImplicit false
set_option maxRecDepth 100000
/-! Mr9: independent rows, rank; plans. -/
namespace Mi
open PySem PySem.Spec L2 PyProof.Rows
theorem isin_i {i : Int} : p2V .isin (.int i) (.ty "int") = some (.bl true) := rfl
theorem isin_b {i : Int} : p2V .isin (.int i) (.ty "bool") = some (.bl false) := rfl
theorem isin_t {xs : List Val} : p2V .isin (.tup xs) (.ty "tuple") = some (.bl true) := rfl
local macro_rules | `(tactic| walk_at "sl") => `(tactic| repeat' (first | (with_reducible exact get_zero) | (with_reducible exact set_zero) | (with_reducible apply get_succ) | (with_reducible apply set_succ) | (with_reducible apply wipe_nm) | (with_reducible apply wipe_tp2) | (with_reducible apply wipe_2)))
local macro_rules | `(tactic| walk_at "op") => `(tactic| first | (with_reducible exact i_nn) | (with_reducible exact i_n) | (with_reducible exact i_tn) | (with_reducible exact i_t) | (with_reducible exact b_add) | (with_reducible exact o_sub) | (with_reducible exact eq_int) | (with_reducible exact ne_int) | (with_reducible exact o_lt) | (with_reducible exact o_le) | (with_reducible exact o_gt) | (with_reducible exact o_ge) | (with_reducible exact t_bl) | (with_reducible exact t_int) | (with_reducible exact x_fst) | (with_reducible exact x_snd) | (with_reducible exact l_tup) | (with_reducible exact l_lst) | (with_reducible exact p_tup) | (with_reducible exact p_lst) | (with_reducible exact p_lstT) | (with_reducible exact p_abs) | (with_reducible exact sum_ints) | (with_reducible exact sum_map) | (with_reducible exact all_map) | (with_reducible exact isin_i) | (with_reducible exact isin_b) | (with_reducible exact isin_t) | (with_reducible exact isin_str) | (with_reducible exact any_lst) | (with_reducible exact any_tup) | (with_reducible exact q_nilN) | (with_reducible exact s_cutL) | (with_reducible exact s_cutR1) | (with_reducible exact s_cut1) | (with_reducible apply b_mul) | (with_reducible apply b_fdiv) | (with_reducible apply b_mod) | (with_reducible apply o_addT1) | (with_reducible apply o_addTM) | (with_reducible apply o_addT) | ((with_reducible apply o_addL1); (first | decide | skip); (first | decide | skip)) | ((with_reducible apply o_addLM); (first | decide | skip); (first | decide | skip)) | ((with_reducible apply o_addL); (first | decide | skip); (first | decide | skip)) | (with_reducible apply x_tup0 (0 : Int)) | (with_reducible apply x_lst0 (0 : Int)) | (with_reducible apply x_tup0 ([] : List Int)) | (with_reducible apply x_lst0 ([] : List Int)) | (with_reducible apply x_last (0 : Nat)) | (with_reducible apply x_tup (0 : Int)) | (with_reducible apply x_lst (0 : Int)) | (with_reducible apply x_tup ([] : List Int)) | (with_reducible apply x_lst ([] : List Int)))
local macro_rules | `(tactic| walk_at "e1") => `(tactic| first | (with_reducible exact ev_int) | (with_reducible exact ev_bl) | (with_reducible exact ev_non) | (with_reducible exact ev_str) | (with_reducible exact ev_fn) | (with_reducible exact ev_cls) | (with_reducible exact ev_ty) | ((with_reducible apply ev_var); (focus walk_at "sl"); exact rfl) | (with_reducible apply ev_bin) | (with_reducible apply ev_neg) | (with_reducible apply ev_cmp) | (with_reducible apply ev_chn) | (with_reducible apply ev_not) | (with_reducible apply ev_bo) | (with_reducible apply bo_one) | (with_reducible apply bo_and) | (with_reducible apply bo_or) | (with_reducible apply ev_iteI) | (with_reducible apply ev_tup) | (with_reducible apply ev_lst) | (with_reducible exact evs_nil) | (with_reducible apply evs_cons) | (with_reducible apply ev_idx) | (with_reducible exact evo_no) | (with_reducible apply evo_so) | (with_reducible apply ev_slc) | (with_reducible apply ev_call) | (with_reducible apply ev_p1) | (with_reducible apply ev_p2) | (with_reducible apply ev_m1) | (with_reducible exact evT_no) | (with_reducible apply evT_so) | (with_reducible exact fits_of (by first | exact Nat.zero_le _ | (simp only [List.length_cons, List.length_nil]; omega))) | (with_reducible apply it_seq) | (with_reducible apply it_rng1) | (with_reducible apply it_rng2) | (with_reducible apply it_enum) | (with_reducible apply it_zip) | (with_reducible apply ev_compM) | (with_reducible apply ev_compP) | (with_reducible apply ev_comp2P) | (intro _ _; (with_reducible apply Elt.mk)) | (intro _ _; (with_reducible apply EltP.mk)) | (intro _ _; (with_reducible apply Elt2.mk)) | ((with_reducible apply bT_nm); walk_at "sl"; done) | (with_reducible apply bT_tp2))
local macro_rules | `(tactic| walk_at "s1") => `(tactic| first | (with_reducible exact exs_nil) | (with_reducible apply exs_appc) | (with_reducible apply exs_appn) | (with_reducible apply exs_set) | (with_reducible apply exs_par2) | (with_reducible apply exs_par3) | (with_reducible apply exs_ret) | (with_reducible exact exs_rais) | (with_reducible apply exs_pas) | (with_reducible apply exs_ex) | (with_reducible apply exs_unp) | (with_reducible apply exs_app1) | (with_reducible apply keep_fz) | (with_reducible apply keep_own) | (with_reducible apply keep_heap))
local macro_rules | `(tactic| walk_at "rf") => `(tactic| first | ((with_reducible apply k_fz); exact rfl) | ((with_reducible apply k_un); exact rfl) | ((with_reducible apply k_it); exact rfl) | ((with_reducible apply k_sq); exact rfl) | ((with_reducible apply k_br); exact rfl) | ((with_reducible apply k_m1); exact rfl) | ((with_reducible apply k_set); walk_at "sl"; done) | ((with_reducible apply k_wipe); walk_at "sl"; done) | ((with_reducible apply k_get); walk_at "sl"; done))
local macro_rules | `(tactic| walk_at "mi") => `(tactic| repeat' (first | walk_at "e1" | walk_at "op" | walk_at "s1" | walk_at "rf" | (intro _; (first | walk_at "e1" | walk_at "s1"))))
local macro_rules | `(tactic| walk_at "mic") => `(tactic| repeat' (first | walk_at "e1" | walk_at "op" | walk_at "s1" | walk_at "rf" | ((with_reducible apply k_call); (with_reducible apply_assumption -exfalso -symm)) | (intro _; (first | walk_at "e1" | walk_at "s1"))))
local macro_rules | `(tactic| walk_at "sd") => `(tactic| first | assumption | omega | (simp only [List.length_range, List.length_map, List.length_cons, List.length_nil]; omega) | (simp only [List.mem_range, List.length_range, List.length_map] at *; omega))
local macro_rules | `(tactic| walk_at "st") => `(tactic| simp only [List.map_cons, List.map_nil, List.cons_append, List.nil_append, List.reduceReplicate, Nat.reduceSub])
def Bn (a : Nat) : Nat → Nat
  | 0 => a
  | j + 1 => Bn a j + (a + j * (Bn a j + 1)) + 1
theorem Bn_mono {a : Nat} {i j : Nat} (h : i ≤ j) : Bn a i ≤ Bn a j := by
  induction j with
  | zero => have : i = 0 := by omega
            subst this
            exact Nat.le_refl _
  | succ j ih =>
    by_cases e : i = j + 1
    · subst e; exact Nat.le_refl _
    · have := ih (by omega)
      show Bn a i ≤ Bn a j + (a + j * (Bn a j + 1)) + 1
      omega
theorem Bn_new {a j : Nat} : a + j * (Bn a j + 1) ≤ Bn a (j + 1) := by
  show _ ≤ Bn a j + (a + j * (Bn a j + 1)) + 1
  omega
theorem indStep_len {F : List (List Int)} {row : List Int} : (indStep F row).length = F.length ∨ (indStep F row).length = F.length + 1 := by
  unfold indStep
  split
  · right; simp
  · left; rfl
/-- how large the found rows are -/
theorem indStep_bd {F : List (List Int)} {row : List Int} {a : Nat} (hr : Bd a row) (hF : ∀ f ∈ F, Bd (Bn a F.length) f) : ∀ f ∈ indStep F row, Bd (Bn a (indStep F row).length) f := by
  have hb := redu_bd F row a hr hF
  unfold indStep
  split
  · intro f hf
    have e : ((F.map fun f => redu f [redu row F]) ++ [redu row F]).length = F.length + 1 := by simp
    rw [e]
    rcases List.mem_append.mp hf with hf | hf
    · obtain ⟨f', h1, rfl⟩ := List.mem_map.mp hf
      have := redStep_bd (hF f' h1) hb
      refine this.mono ?_
      show _ ≤ Bn a F.length + (a + F.length * (Bn a F.length + 1)) + 1
      omega
    · simp at hf
      subst hf
      exact hb.mono Bn_new
  · exact hF
theorem indep_bd {a : Nat} : ∀ (rows F : List (List Int)), (∀ r ∈ rows, Bd a r) → (∀ f ∈ F, Bd (Bn a F.length) f) → ∀ f ∈ rows.foldl indStep F, Bd (Bn a (rows.foldl indStep F).length) f
  | [], F, _, hF => hF
  | r :: rows, F, H, hF => indep_bd rows (indStep F r) (fun s hs => H s (List.mem_cons_of_mem _ hs)) (indStep_bd (H r List.mem_cons_self) hF)
section
variable {G : Nat → Option FD} {N n : Nat} {h : Heap}
theorem independent_spec (hG : Has G [78, 104, 110, 68, 63]) {x : Val} {rows : List (List Int)} {f : List Int → Val} {w a : Nat} (hx : itemsOf x = some (rows.map f)) (hrx : rd x = some x) (hbr : isBrw x = false) (hf : f = eRow ∨ f = lRow) (hw : ∀ r ∈ rows, r.length = w) (ha : ∀ r ∈ rows, Bd a r) (hw2 : w ≤ 900) (hsz : Bn a (w + 1) ≤ 9000) (hN : 2 ^ 9000 ≤ N) :
    callF G N (n + 4) 78 [x] h = .ok (.lst .imm ((indep rows).map lRow)) h := by
  refine hG.call (d := fd_independent) rfl rfl ?_
  unfold fd_independent
  refine runF_rt rfl rfl ?_
  walk_at "st"
  apply exs_set
  · walk_at "mi"
  · walk_at "mi"
  refine exs_forP (fun (F : List (List Int)) ρ => ∃ b, ρ = [some x, some (.lst .imm (F.map lRow)), b, none]) indStep [] (it_seq (ev_var (by walk_at "sl") hrx) (by rw [hbr]; rfl) hx) ⟨_, rfl⟩ (fun pre r post hp ρ hs => ?_) (fun ρ1 hs => ?_)
  · obtain ⟨b, rfl⟩ := hs
    have hr : r ∈ rows := by rw [hp]; simp
    have hpm : ∀ s ∈ pre, s ∈ rows := fun s hs => by rw [hp]; simp [hs]
    have E : Ech w (pre.foldl indStep []) := Ech.indep pre [] Ech.nil fun s hs => hw s (hpm s hs)
    have hF := indep_bd (a := a) pre [] (fun s hs => ha s (hpm s hs)) (fun _ z => by cases z)
    have hc := E.count
    have rl := hw r hr
    have rb := ha r hr
    generalize pre.foldl indStep [] = F at *
    have m1 : Bn a F.length ≤ Bn a w := Bn_mono hc
    have m2 : a + F.length * (Bn a F.length + 1) ≤ Bn a (F.length + 1) := Bn_new
    have m3 : Bn a (F.length + 1) ≤ Bn a (w + 1) := Bn_mono (by omega)
    have h1 := reduced_spec (G := G) (N := N) (n := n) (h := h) (hG.sub (S := [104, 110, 68, 63]) rfl) (row := r) (rows := F) rl E.len E.nz rb hF (by omega) (by omega) hN
    have hRl := redu_len F r rl E.len
    have hRb := redu_bd F r a rb hF
    have lr : p1V .list (f r) h = some (.lst .own (r.map Val.int)) := by rcases hf with rfl | rfl <;> rfl
    have rdf : rd (f r) = some (f r) := by rcases hf with rfl | rfl <;> rfl
    by_cases hn : nzr (redu r F) = true
    · rw [show indStep F r = (F.map fun f => redu f [redu r F]) ++ [redu r F] from by unfold indStep; rw [if_pos hn]]
      generalize redu r F = R at *
      have h2 : ∀ f ∈ F, callF G N (n + 3) 104 [.lst .imm (f.map Val.int), .lst .imm [lRow R]] h = .ok (.lst .imm ((redu f [R]).map Val.int)) h := fun f hf =>
        reduced_spec (G := G) (N := N) (n := n) (h := h) (hG.sub (S := [104, 110, 68, 63]) rfl) (row := f) (rows := [R]) (E.len f hf) (fun s hs => by simp at hs; subst hs; exact hRl) (fun s hs => by simp at hs; subst hs; exact hn) (hF f hf) (l := a + F.length * (Bn a F.length + 1)) (fun s hs => by simp at hs; subst hs; exact hRb) (by omega) (by
          have : Bn a (F.length + 1) = Bn a F.length + (a + F.length * (Bn a F.length + 1)) + 1 := rfl
          simp only [List.length_singleton]
          omega) hN
      apply Turn.mk
      · walk_at "mi"
      · apply exs_set
        · apply ev_call
          · walk_at "mi"
          · apply evs_cons
            · apply ev_p1
              · exact ev_var (by walk_at "sl") rdf
              · exact lr
            · rfl
            · walk_at "mi"
          · exact h1
        · walk_at "mi"
        · apply exs_condT
          · walk_at "mi"
          · walk_at "mi"
          · exact hn
          · walk_at "mi"
            · exact h2 _ (by assumption)
            · rfl
            · omega
            · simp; omega
            all_goals walk_at "mi"
      · refine ⟨some (lRow R), ?_⟩
        simp [List.map_map, Function.comp_def]
    · rw [show indStep F r = F from by unfold indStep; rw [if_neg hn]]
      apply Turn.mk
      · walk_at "mi"
      · apply exs_set
        · apply ev_call
          · walk_at "mi"
          · apply evs_cons
            · apply ev_p1
              · exact ev_var (by walk_at "sl") rdf
              · exact lr
            · rfl
            · walk_at "mi"
          · exact h1
        · walk_at "mi"
        · apply exs_condF
          · walk_at "mi"
          · walk_at "mi"
          · simpa using hn
          · walk_at "mi"
      · exact ⟨_, rfl⟩
  · obtain ⟨b, rfl⟩ := hs
    walk_at "mi"
theorem indep_count {rows : List (List Int)} {w : Nat} (hw : ∀ r ∈ rows, r.length = w) : (indep rows).length ≤ w := (Ech.indep rows [] Ech.nil hw).count
theorem rank_spec (hG : Has G [103, 78, 104, 110, 68, 63]) {x : Val} {rows : List (List Int)} {f : List Int → Val} {w a : Nat} (hx : itemsOf x = some (rows.map f)) (hrx : rd x = some x) (hfx : fz x = some x) (hbr : isBrw x = false) (hf : f = eRow ∨ f = lRow) (hw : ∀ r ∈ rows, r.length = w) (ha : ∀ r ∈ rows, Bd a r) (hw2 : w ≤ 900) (hsz : Bn a (w + 1) ≤ 9000) (hN : 2 ^ 9000 ≤ N) :
    callF G N (n + 5) 103 [x] h = .ok (.int ((indep rows).length : Int)) h := by
  refine hG.call (d := fd_rank) rfl rfl ?_
  unfold fd_rank
  refine runF_rt rfl rfl ?_
  walk_at "st"
  have h1 := independent_spec (G := G) (N := N) (n := n) (h := h) (hG.sub (S := [78, 104, 110, 68, 63]) rfl) hx hrx hbr hf hw ha hw2 hsz hN
  apply exs_ret
  · apply ev_p1
    · apply ev_call
      · walk_at "mi"
      · apply evs_cons
        · exact ev_var (by walk_at "sl") hrx
        · exact hfx
        · walk_at "mi"
      · exact h1
    · exact l_lst
  · rfl
theorem dsettle_spec (hG : Has G [65, 103, 78, 104, 110, 68, 63]) {plan : List (List Int)} {w a : Nat} (hne : 0 < plan.length) (hw : ∀ r ∈ plan, r.length = w) (ha : ∀ r ∈ plan, Bd a r) (hw2 : w ≤ 900) (hsz : Bn a (w + 1) ≤ 9000) (hN : 2 ^ 9000 ≤ N) :
    callF G N (n + 6) 65 [ePlan plan] h = .ok (.bl (decide ((indep plan).length = w))) h := by
  refine hG.call (d := fd_does_settle) rfl rfl ?_
  unfold fd_does_settle
  refine runF_rt rfl rfl ?_
  walk_at "st"
  have h1 := rank_spec (G := G) (N := N) (n := n) (h := h) (hG.sub (S := [103, 78, 104, 110, 68, 63]) rfl) (x := ePlan plan) (f := eRow) rfl rfl rfl rfl (.inl rfl) hw ha hw2 hsz hN
  have l0 : (plan.getD 0 []).length = w := hw _ (getD_mem hne)
  walk_at "mi"
  · exact h1
  · omega
  · rw [l0, eq_int]
    congr 1
    rw [decide_eq_decide]
    omega
/-! plans -/
theorem between_spec (hG : Has G [81]) {i lo hi : Int} : callF G N (n + 1) 81 [.int i, .int lo, .int hi] h = .ok (.bl (decide (lo ≤ i ∧ i ≤ hi))) h := by
  refine hG.call (d := fd_is_between) rfl rfl ?_
  unfold fd_is_between
  refine runF_rt rfl rfl ?_
  walk_at "st"
  apply exs_ret (v := .bl (true && ((!false) && (decide (lo ≤ i) && decide (i ≤ hi)))))
  · walk_at "mi"
  · simp [un]
end
end Mi

set_option Elab.async false
set_option linter.all false
set_option autoImplicit false
set_option maxRecDepth 100000
/-! Mr10: plans checked, settles, ties. -/
namespace Mi
open PySem PySem.Spec L2 PyProof.Rows
theorem trus_map {α : Type} {p : α → Bool} : ∀ l : List α, trusOf (l.map fun x => Val.bl (p x)) = some (l.map p)
  | [] => rfl
  | x :: l => by
    rw [List.map_cons, List.map_cons]
    unfold trusOf
    rw [trus_map l]
theorem all_map {α : Type} {k : Kd} {l : List α} {p : α → Bool} {h : Heap} : p1V .all (.lst k (l.map fun x => Val.bl (p x))) h = some (.bl (l.all p)) := by
  show (trusOf (l.map fun x => Val.bl (p x))).map (fun bs => Val.bl (bs.all id)) = _
  rw [trus_map]
  simp [List.all_map, Function.comp_def]
local macro_rules | `(tactic| walk_at "sl") => `(tactic| repeat' (first | (with_reducible exact get_zero) | (with_reducible exact set_zero) | (with_reducible apply get_succ) | (with_reducible apply set_succ) | (with_reducible apply wipe_nm) | (with_reducible apply wipe_tp2) | (with_reducible apply wipe_2)))
local macro_rules | `(tactic| walk_at "op") => `(tactic| first | (with_reducible exact i_nn) | (with_reducible exact i_n) | (with_reducible exact i_tn) | (with_reducible exact i_t) | (with_reducible exact b_add) | (with_reducible exact o_sub) | (with_reducible exact eq_int) | (with_reducible exact ne_int) | (with_reducible exact o_lt) | (with_reducible exact o_le) | (with_reducible exact o_gt) | (with_reducible exact o_ge) | (with_reducible exact t_bl) | (with_reducible exact t_int) | (with_reducible exact x_fst) | (with_reducible exact x_snd) | (with_reducible exact l_tup) | (with_reducible exact l_lst) | (with_reducible exact p_tup) | (with_reducible exact p_lst) | (with_reducible exact p_lstT) | (with_reducible exact p_abs) | (with_reducible exact sum_ints) | (with_reducible exact sum_map) | (with_reducible exact all_map) | (with_reducible exact isin_i) | (with_reducible exact isin_b) | (with_reducible exact isin_t) | (with_reducible exact isin_str) | (with_reducible exact any_lst) | (with_reducible exact any_tup) | (with_reducible exact q_nilN) | (with_reducible exact s_cutL) | (with_reducible exact s_cutR1) | (with_reducible exact s_cut1) | (with_reducible apply b_mul) | (with_reducible apply b_fdiv) | (with_reducible apply b_mod) | (with_reducible apply o_addT1) | (with_reducible apply o_addTM) | (with_reducible apply o_addT) | ((with_reducible apply o_addL1); (first | decide | skip); (first | decide | skip)) | ((with_reducible apply o_addLM); (first | decide | skip); (first | decide | skip)) | ((with_reducible apply o_addL); (first | decide | skip); (first | decide | skip)) | (with_reducible apply x_tup0 (0 : Int)) | (with_reducible apply x_lst0 (0 : Int)) | (with_reducible apply x_tup0 ([] : List Int)) | (with_reducible apply x_lst0 ([] : List Int)) | (with_reducible apply x_last (0 : Nat)) | (with_reducible apply x_tup (0 : Int)) | (with_reducible apply x_lst (0 : Int)) | (with_reducible apply x_tup ([] : List Int)) | (with_reducible apply x_lst ([] : List Int)))
local macro_rules | `(tactic| walk_at "e1") => `(tactic| first | (with_reducible exact ev_int) | (with_reducible exact ev_bl) | (with_reducible exact ev_non) | (with_reducible exact ev_str) | (with_reducible exact ev_fn) | (with_reducible exact ev_cls) | (with_reducible exact ev_ty) | ((with_reducible apply ev_var); (focus walk_at "sl"); exact rfl) | (with_reducible apply ev_bin) | (with_reducible apply ev_neg) | (with_reducible apply ev_cmp) | (with_reducible apply ev_chn) | (with_reducible apply ev_not) | (with_reducible apply ev_bo) | (with_reducible apply bo_one) | (with_reducible apply bo_and) | (with_reducible apply bo_or) | (with_reducible apply ev_iteI) | (with_reducible apply ev_tup) | (with_reducible apply ev_lst) | (with_reducible exact evs_nil) | (with_reducible apply evs_cons) | (with_reducible apply ev_idx) | (with_reducible exact evo_no) | (with_reducible apply evo_so) | (with_reducible apply ev_slc) | (with_reducible apply ev_call) | (with_reducible apply ev_p1) | (with_reducible apply ev_p2) | (with_reducible apply ev_m1) | (with_reducible exact evT_no) | (with_reducible apply evT_so) | (with_reducible exact fits_of (by first | exact Nat.zero_le _ | (simp only [List.length_cons, List.length_nil]; omega))) | (with_reducible apply it_seq) | (with_reducible apply it_rng1) | (with_reducible apply it_rng2) | (with_reducible apply it_enum) | (with_reducible apply it_zip) | (with_reducible apply ev_compM) | (with_reducible apply ev_compP) | (with_reducible apply ev_comp2P) | (intro _ _; (with_reducible apply Elt.mk)) | (intro _ _; (with_reducible apply EltP.mk)) | (intro _ _; (with_reducible apply Elt2.mk)) | ((with_reducible apply bT_nm); walk_at "sl"; done) | (with_reducible apply bT_tp2))
local macro_rules | `(tactic| walk_at "s1") => `(tactic| first | (with_reducible exact exs_nil) | (with_reducible apply exs_appc) | (with_reducible apply exs_appn) | (with_reducible apply exs_set) | (with_reducible apply exs_par2) | (with_reducible apply exs_par3) | (with_reducible apply exs_ret) | (with_reducible exact exs_rais) | (with_reducible apply exs_pas) | (with_reducible apply exs_ex) | (with_reducible apply exs_unp) | (with_reducible apply exs_app1) | (with_reducible apply keep_fz) | (with_reducible apply keep_own) | (with_reducible apply keep_heap))
local macro_rules | `(tactic| walk_at "rf") => `(tactic| first | ((with_reducible apply k_fz); exact rfl) | ((with_reducible apply k_un); exact rfl) | ((with_reducible apply k_it); exact rfl) | ((with_reducible apply k_sq); exact rfl) | ((with_reducible apply k_br); exact rfl) | ((with_reducible apply k_m1); exact rfl) | ((with_reducible apply k_set); walk_at "sl"; done) | ((with_reducible apply k_wipe); walk_at "sl"; done) | ((with_reducible apply k_get); walk_at "sl"; done))
local macro_rules | `(tactic| walk_at "mi") => `(tactic| repeat' (first | walk_at "e1" | walk_at "op" | walk_at "s1" | walk_at "rf" | (intro _; (first | walk_at "e1" | walk_at "s1"))))
local macro_rules | `(tactic| walk_at "mic") => `(tactic| repeat' (first | walk_at "e1" | walk_at "op" | walk_at "s1" | walk_at "rf" | ((with_reducible apply k_call); (with_reducible apply_assumption -exfalso -symm)) | (intro _; (first | walk_at "e1" | walk_at "s1"))))
local macro_rules | `(tactic| walk_at "sd") => `(tactic| first | assumption | omega | (simp only [List.length_range, List.length_map, List.length_cons, List.length_nil]; omega) | (simp only [List.mem_range, List.length_range, List.length_map] at *; omega))
local macro_rules | `(tactic| walk_at "st") => `(tactic| simp only [List.map_cons, List.map_nil, List.cons_append, List.nil_append, List.reduceReplicate, Nat.reduceSub])
def isWb (things : Int) (r : List Int) : Bool := decide ((r.length : Int) = things) && (r.all (fun x => decide (-1 ≤ x ∧ x ≤ 1)) && nzr r)
section
variable {G : Nat → Option FD} {N n : Nat} {h : Heap}
theorem weighing_spec (hG : Has G [87, 81]) {things : Int} {r : List Int} (hl : r.length ≤ 1000) : callF G N (n + 2) 87 [.int things, eRow r] h = .ok (.bl (isWb things r)) h := by
  refine hG.call (d := fd_is_weighing) rfl rfl ?_
  unfold fd_is_weighing
  refine runF_rt rfl rfl ?_
  walk_at "st"
  have hb : ∀ x : Int, callF G N (n + 1) 81 [.int x, .int (-1), .int 1] h = .ok (.bl (decide (-1 ≤ x ∧ x ≤ 1))) h := fun x => between_spec (hG.sub (S := [81]) rfl)
  have hc : ev (callF G N (n + 1)) (.bo false (.cons (.not (.p2 .isin (.var 1) (.ty "tuple"))) (.cons (.cmp .ne (.p1 .len (.var 1)) (.var 0)) (.cons (.not (.p1 .all (.comp (.nm 2) (.seq (.var 1)) .no (.call (.fn 81) (.cons (.var 2) (.cons (.neg (.int 1)) (.cons (.int 1) .nil))))))) .nil)))) [some (.int things), some (eRow r), none] h = .ok (.bl ((!true) || (decide ((r.length : Int) ≠ things) || !(r.all (fun x => decide (-1 ≤ x ∧ x ≤ 1)))))) h := by
    walk_at "mi"
    · exact hb _
    · rfl
    · omega
    all_goals first | exact all_map | rfl
  apply exs_cond
  · exact hc
  · exact t_bl
  · intro ht
    have : isWb things r = false := by
      unfold isWb
      simp only [Bool.not_true, Bool.false_or, Bool.or_eq_true, decide_eq_true_eq, Bool.not_eq_true'] at ht
      rcases ht with e | e
      · rw [decide_eq_false e]; rfl
      · rw [e]; simp
    rw [this]
    walk_at "mi"
  · intro ht
    have : isWb things r = nzr r := by
      unfold isWb
      simp only [Bool.not_true, Bool.false_or, Bool.or_eq_false_iff, decide_eq_false_iff_not, Bool.not_eq_false', Decidable.not_not] at ht
      rw [decide_eq_true ht.1, ht.2]
      simp
    rw [this]
    walk_at "mi"
def isPb (most : Int) (plan : List (List Int)) : Bool := decide (1 ≤ (plan.length : Int) ∧ (plan.length : Int) ≤ most) && (decide (1 ≤ ((plan.getD 0 []).length : Int) ∧ ((plan.getD 0 []).length : Int) ≤ 4) && plan.all (isWb ((plan.getD 0 []).length : Int)))
theorem weighings_spec (hG : Has G [40, 87, 81]) {most : Int} {plan : List (List Int)} (hl : plan.length ≤ 1000) (hr : ∀ r ∈ plan, r.length ≤ 1000) : callF G N (n + 3) 40 [ePlan plan, .int most] h = .ok (.bl (isPb most plan)) h := by
  refine hG.call (d := fd_are_weighings) rfl rfl ?_
  unfold fd_are_weighings
  refine runF_rt rfl rfl ?_
  walk_at "st"
  by_cases h1 : 1 ≤ (plan.length : Int) ∧ (plan.length : Int) ≤ most
  · have hne : 0 < plan.length := by omega
    apply exs_condF (t := ((!true) || ((!(decide (1 ≤ (plan.length : Int)) && decide ((plan.length : Int) ≤ most))) || (!true))))
    · walk_at "mi"
      omega
    · walk_at "mi"
    · rw [decide_eq_true h1.1, decide_eq_true h1.2]; rfl
    · have hw : ∀ r ∈ plan, callF G N (n + 2) 87 [.int ((plan.getD 0 []).length : Int), eRow r] h = .ok (.bl (isWb ((plan.getD 0 []).length : Int) r)) h := fun r hx => weighing_spec (hG.sub (S := [87, 81]) rfl) (hr r hx)
      apply exs_appn
      apply exs_ret (v := .bl ((decide (1 ≤ ((plan.getD 0 []).length : Int)) && decide (((plan.getD 0 []).length : Int) ≤ 4)) && plan.all (isWb ((plan.getD 0 []).length : Int))))
      · walk_at "mi"
        · omega
        · omega
        · exact hw _ (by assumption)
        · rfl
        · omega
        all_goals exact all_map
      · unfold isPb
        rw [decide_eq_true h1]
        simp [un]
  · apply exs_condT (t := ((!true) || ((!(decide (1 ≤ (plan.length : Int)) && decide ((plan.length : Int) ≤ most))) || true)))
    · apply ev_bo
      apply bo_or
      · walk_at "mi"
      · intro _
        have e : (decide (1 ≤ (plan.length : Int)) && decide ((plan.length : Int) ≤ most)) = false := by
          rw [Bool.and_eq_false_iff]
          by_cases e : 1 ≤ (plan.length : Int)
          · right; exact decide_eq_false (fun z => h1 ⟨e, z⟩)
          · left; exact decide_eq_false e
        apply bo_or
        · walk_at "mi"
        · intro z
          rw [e] at z
          cases z
    · walk_at "mi"
    · simp
    · have : isPb most plan = false := by unfold isPb; rw [decide_eq_false h1]; rfl
      rw [this]
      walk_at "mi"
theorem isplan_spec (hG : Has G [84, 40, 87, 81]) {plan : List (List Int)} (hl : plan.length ≤ 1000) (hr : ∀ r ∈ plan, r.length ≤ 1000) : callF G N (n + 4) 84 [ePlan plan] h = .ok (.bl (isPb 8 plan)) h := by
  refine hG.call (d := fd_is_plan) rfl rfl ?_
  unfold fd_is_plan
  refine runF_rt rfl rfl ?_
  walk_at "st"
  have h1 := weighings_spec (G := G) (N := N) (n := n) (h := h) (hG.sub (S := [40, 87, 81]) rfl) (most := 8) hl hr
  walk_at "mi"
  · exact h1
  · rfl
theorem check_plan_ok (hG : Has G [53, 84, 40, 87, 81]) {plan : List (List Int)} (hp : isPb 8 plan = true) (hl : plan.length ≤ 1000) (hr : ∀ r ∈ plan, r.length ≤ 1000) : callF G N (n + 5) 53 [ePlan plan] h = .ok .non h := by
  refine hG.call (d := fd_check_plan) rfl rfl ?_
  unfold fd_check_plan
  refine runF_nx (ρ1 := [some (ePlan plan)]) rfl rfl ?_
  walk_at "st"
  have h1 := isplan_spec (G := G) (N := N) (n := n) (h := h) (hG.sub (S := [84, 40, 87, 81]) rfl) hl hr
  rw [hp] at h1
  apply exs_condF
  · walk_at "mi"
    · exact h1
    · exact t_bl
  · exact t_bl
  · rfl
  · walk_at "mi"
theorem check_plan_bad (hG : Has G [53, 84, 40, 87, 81]) {plan : List (List Int)} (hp : isPb 8 plan = false) (hl : plan.length ≤ 1000) (hr : ∀ r ∈ plan, r.length ≤ 1000) : callF G N (n + 5) 53 [ePlan plan] h = .exc 1 h := by
  refine hG.call (d := fd_check_plan) rfl rfl ?_
  unfold fd_check_plan
  refine runF_exc rfl rfl ?_
  walk_at "st"
  have h1 := isplan_spec (G := G) (N := N) (n := n) (h := h) (hG.sub (S := [84, 40, 87, 81]) rfl) hl hr
  rw [hp] at h1
  apply exs_condT
  · walk_at "mi"
    · exact h1
    · exact t_bl
  · exact t_bl
  · rfl
  · walk_at "mi"
end
/-- a plan of w things -/
structure Plan (w : Nat) (plan : List (List Int)) : Prop where
  pos : 1 ≤ plan.length
  most : plan.length ≤ 8
  w1 : 1 ≤ w
  w4 : w ≤ 4
  len : ∀ r ∈ plan, r.length = w
  low : ∀ r ∈ plan, ∀ x ∈ r, -1 ≤ x ∧ x ≤ 1
  nz : ∀ r ∈ plan, nzr r = true
theorem Plan.bd {w : Nat} {plan : List (List Int)} (P : Plan w plan) : ∀ r ∈ plan, Bd 1 r := fun r hr x hx => by
  have := P.low r hr x hx
  omega
theorem Plan.is {w : Nat} {plan : List (List Int)} (P : Plan w plan) : isPb 8 plan = true := by
  have l0 : (plan.getD 0 []).length = w := P.len _ (getD_mem P.pos)
  have := P.pos
  have := P.most
  have := P.w1
  have := P.w4
  unfold isPb
  rw [l0, decide_eq_true (show 1 ≤ (plan.length : Int) ∧ (plan.length : Int) ≤ 8 by omega), decide_eq_true (show 1 ≤ (w : Int) ∧ (w : Int) ≤ 4 by omega)]
  simp only [Bool.true_and]
  refine List.all_eq_true.mpr fun r hr => ?_
  unfold isWb
  rw [decide_eq_true (show (r.length : Int) = (w : Int) by rw [P.len r hr]), P.nz r hr]
  simp only [Bool.true_and, Bool.and_true]
  exact List.all_eq_true.mpr fun x hx => decide_eq_true (P.low r hr x hx)
section
variable {G : Nat → Option FD} {N n : Nat} {h : Heap} {w : Nat} {plan : List (List Int)} (P : Plan w plan) (hN : 2 ^ 9000 ≤ N)
include P
theorem plan_checked (hG : Has G [53, 84, 40, 87, 81]) : callF G N (n + 5) 53 [ePlan plan] h = .ok .non h := check_plan_ok hG P.is (by have := P.most; omega) (fun r hr => by rw [P.len r hr]; have := P.w4; omega)
theorem Plan.row : (plan.getD 0 []).length = w := P.len _ (getD_mem P.pos)
include hN
def settled (w : Nat) (plan : List (List Int)) : Bool := decide ((indep plan).length = w)
theorem plan_dsettle (hG : Has G [65, 103, 78, 104, 110, 68, 63]) : callF G N (n + 6) 65 [ePlan plan] h = .ok (.bl (settled w plan)) h := by
  have hw := P.w4
  refine dsettle_spec (a := 1) hG P.pos P.len P.bd (by omega) (Nat.le_trans (Bn_mono (show w + 1 ≤ 5 by omega)) (by decide)) hN
theorem plan_settles (hG : Has G [108, 53, 84, 40, 87, 81, 65, 103, 78, 104, 110, 68, 63]) : callF G N (n + 7) 108 [ePlan plan] h = .ok (.bl (settled w plan)) h := by
  refine hG.call (d := fd_settles) rfl rfl ?_
  unfold fd_settles
  refine runF_rt rfl rfl ?_
  walk_at "st"
  have h1 := plan_checked (G := G) (N := N) (n := n + 1) (h := h) P (hG.sub (S := [53, 84, 40, 87, 81]) rfl)
  have h2 := plan_dsettle (G := G) (N := N) (n := n) (h := h) P hN (hG.sub (S := [65, 103, 78, 104, 110, 68, 63]) rfl)
  apply exs_ex
  · walk_at "mi"
    exact h1
  · apply exs_ret
    · walk_at "mi"
      exact h2
    · rfl
theorem plan_csettled (hG : Has G [55, 53, 84, 40, 87, 81, 65, 103, 78, 104, 110, 68, 63]) : callF G N (n + 7) 55 [ePlan plan] h = if settled w plan = true then .ok .non h else .exc 16 h := by
  refine hG.call (d := fd_check_settled) rfl rfl ?_
  unfold fd_check_settled
  have h1 := plan_checked (G := G) (N := N) (n := n + 1) (h := h) P (hG.sub (S := [53, 84, 40, 87, 81]) rfl)
  have h2 := plan_dsettle (G := G) (N := N) (n := n) (h := h) P hN (hG.sub (S := [65, 103, 78, 104, 110, 68, 63]) rfl)
  by_cases hs : settled w plan = true
  · rw [if_pos hs]
    rw [hs] at h2
    refine runF_nx (ρ1 := [some (ePlan plan)]) rfl rfl ?_
    walk_at "st"
    apply exs_ex
    · walk_at "mi"
      exact h1
    apply exs_condF
    · walk_at "mi"
      · exact h2
      · exact t_bl
    · exact t_bl
    · rfl
    · walk_at "mi"
  · rw [if_neg hs]
    have hs' : settled w plan = false := by simpa using hs
    rw [hs'] at h2
    refine runF_exc rfl rfl ?_
    walk_at "st"
    apply exs_ex
    · walk_at "mi"
      exact h1
    apply exs_condT
    · walk_at "mi"
      · exact h2
      · exact t_bl
    · exact t_bl
    · rfl
    · walk_at "mi"
end
end Mi

set_option Elab.async false
set_option linter.all false
set_option autoImplicit false
set_option maxRecDepth 100000
/-! Mr11: ties. -/
namespace Mi
open PySem PySem.Spec L2 PyProof.Rows
local macro_rules | `(tactic| walk_at "sl") => `(tactic| repeat' (first | (with_reducible exact get_zero) | (with_reducible exact set_zero) | (with_reducible apply get_succ) | (with_reducible apply set_succ) | (with_reducible apply wipe_nm) | (with_reducible apply wipe_tp2) | (with_reducible apply wipe_2)))
local macro_rules | `(tactic| walk_at "op") => `(tactic| first | (with_reducible exact i_nn) | (with_reducible exact i_n) | (with_reducible exact i_tn) | (with_reducible exact i_t) | (with_reducible exact b_add) | (with_reducible exact o_sub) | (with_reducible exact eq_int) | (with_reducible exact ne_int) | (with_reducible exact o_lt) | (with_reducible exact o_le) | (with_reducible exact o_gt) | (with_reducible exact o_ge) | (with_reducible exact t_bl) | (with_reducible exact t_int) | (with_reducible exact x_fst) | (with_reducible exact x_snd) | (with_reducible exact l_tup) | (with_reducible exact l_lst) | (with_reducible exact p_tup) | (with_reducible exact p_lst) | (with_reducible exact p_lstT) | (with_reducible exact p_abs) | (with_reducible exact sum_ints) | (with_reducible exact sum_map) | (with_reducible exact all_map) | (with_reducible exact isin_i) | (with_reducible exact isin_b) | (with_reducible exact isin_t) | (with_reducible exact isin_str) | (with_reducible exact any_lst) | (with_reducible exact any_tup) | (with_reducible exact q_nilN) | (with_reducible exact s_cutL) | (with_reducible exact s_cutR1) | (with_reducible exact s_cut1) | (with_reducible apply b_mul) | (with_reducible apply b_fdiv) | (with_reducible apply b_mod) | (with_reducible apply o_addT1) | (with_reducible apply o_addTM) | (with_reducible apply o_addT) | ((with_reducible apply o_addL1); (first | decide | skip); (first | decide | skip)) | ((with_reducible apply o_addLM); (first | decide | skip); (first | decide | skip)) | ((with_reducible apply o_addL); (first | decide | skip); (first | decide | skip)) | (with_reducible apply x_tup0 (0 : Int)) | (with_reducible apply x_lst0 (0 : Int)) | (with_reducible apply x_tup0 ([] : List Int)) | (with_reducible apply x_lst0 ([] : List Int)) | (with_reducible apply x_last (0 : Nat)) | (with_reducible apply x_tup (0 : Int)) | (with_reducible apply x_lst (0 : Int)) | (with_reducible apply x_tup ([] : List Int)) | (with_reducible apply x_lst ([] : List Int)))
local macro_rules | `(tactic| walk_at "e1") => `(tactic| first | (with_reducible exact ev_int) | (with_reducible exact ev_bl) | (with_reducible exact ev_non) | (with_reducible exact ev_str) | (with_reducible exact ev_fn) | (with_reducible exact ev_cls) | (with_reducible exact ev_ty) | ((with_reducible apply ev_var); (focus walk_at "sl"); exact rfl) | (with_reducible apply ev_bin) | (with_reducible apply ev_neg) | (with_reducible apply ev_cmp) | (with_reducible apply ev_chn) | (with_reducible apply ev_not) | (with_reducible apply ev_bo) | (with_reducible apply bo_one) | (with_reducible apply bo_and) | (with_reducible apply bo_or) | (with_reducible apply ev_iteI) | (with_reducible apply ev_tup) | (with_reducible apply ev_lst) | (with_reducible exact evs_nil) | (with_reducible apply evs_cons) | (with_reducible apply ev_idx) | (with_reducible exact evo_no) | (with_reducible apply evo_so) | (with_reducible apply ev_slc) | (with_reducible apply ev_call) | (with_reducible apply ev_p1) | (with_reducible apply ev_p2) | (with_reducible apply ev_m1) | (with_reducible exact evT_no) | (with_reducible apply evT_so) | (with_reducible exact fits_of (by first | exact Nat.zero_le _ | (simp only [List.length_cons, List.length_nil]; omega))) | (with_reducible apply it_seq) | (with_reducible apply it_rng1) | (with_reducible apply it_rng2) | (with_reducible apply it_enum) | (with_reducible apply it_zip) | (with_reducible apply ev_compM) | (with_reducible apply ev_compP) | (with_reducible apply ev_comp2P) | (intro _ _; (with_reducible apply Elt.mk)) | (intro _ _; (with_reducible apply EltP.mk)) | (intro _ _; (with_reducible apply Elt2.mk)) | ((with_reducible apply bT_nm); walk_at "sl"; done) | (with_reducible apply bT_tp2))
local macro_rules | `(tactic| walk_at "s1") => `(tactic| first | (with_reducible exact exs_nil) | (with_reducible apply exs_appc) | (with_reducible apply exs_appn) | (with_reducible apply exs_set) | (with_reducible apply exs_par2) | (with_reducible apply exs_par3) | (with_reducible apply exs_ret) | (with_reducible exact exs_rais) | (with_reducible apply exs_pas) | (with_reducible apply exs_ex) | (with_reducible apply exs_unp) | (with_reducible apply exs_app1) | (with_reducible apply keep_fz) | (with_reducible apply keep_own) | (with_reducible apply keep_heap))
local macro_rules | `(tactic| walk_at "rf") => `(tactic| first | ((with_reducible apply k_fz); exact rfl) | ((with_reducible apply k_un); exact rfl) | ((with_reducible apply k_it); exact rfl) | ((with_reducible apply k_sq); exact rfl) | ((with_reducible apply k_br); exact rfl) | ((with_reducible apply k_m1); exact rfl) | ((with_reducible apply k_set); walk_at "sl"; done) | ((with_reducible apply k_wipe); walk_at "sl"; done) | ((with_reducible apply k_get); walk_at "sl"; done))
local macro_rules | `(tactic| walk_at "mi") => `(tactic| repeat' (first | walk_at "e1" | walk_at "op" | walk_at "s1" | walk_at "rf" | (intro _; (first | walk_at "e1" | walk_at "s1"))))
local macro_rules | `(tactic| walk_at "mic") => `(tactic| repeat' (first | walk_at "e1" | walk_at "op" | walk_at "s1" | walk_at "rf" | ((with_reducible apply k_call); (with_reducible apply_assumption -exfalso -symm)) | (intro _; (first | walk_at "e1" | walk_at "s1"))))
local macro_rules | `(tactic| walk_at "sd") => `(tactic| first | assumption | omega | (simp only [List.length_range, List.length_map, List.length_cons, List.length_nil]; omega) | (simp only [List.mem_range, List.length_range, List.length_map] at *; omega))
local macro_rules | `(tactic| walk_at "st") => `(tactic| simp only [List.map_cons, List.map_nil, List.cons_append, List.nil_append, List.reduceReplicate, Nat.reduceSub])
/-- a run that goes on, with a word about the slots -/
def Nx (r : R Fl) (h : Heap) (P : Slots → Prop) : Prop := ∃ ρ, r = .ok (.nx ρ) h ∧ P ρ
theorem Nx_of {r r' : R Fl} {h : Heap} {P : Slots → Prop} (e : r' = r) (hn : Nx r h P) : Nx r' h P := e ▸ hn
theorem Nx_end {ρ : Slots} {r : R Fl} {h : Heap} {P : Slots → Prop} (e : r = .ok (.nx ρ) h) (hp : P ρ) : Nx r h P := ⟨ρ, e, hp⟩
theorem Turn.nx {bd : Val → Slots → Option Slots} {body : Slots → Heap → R Fl} {x : Val} {ρ ρ1 : Slots} {h : Heap} {P : Slots → Prop} (hb : bd x ρ = some ρ1) (hn : Nx (body ρ1 h) h P) : Turn bd body x ρ h P := by
  obtain ⟨ρ2, e, hp⟩ := hn
  exact .mk hb e hp
theorem Nx_forF {α σ : Type} {c : Cf} {N : Nat} {ρ : Slots} {h h1 : Heap} {P : Slots → Prop} {t : Tg} {it : It} {b ss : Ss} {xs : List α} {f : α → Val} (St : σ → Slots → Prop) (step : σ → α → σ) (s0 : σ) (hi : evIt c true it ρ h = .ok (xs.map f) h1) (h0 : St s0 ρ)
    (H : ∀ s, ∀ x ∈ xs, ∀ ρ, St s ρ → Turn (bindT t) (exs c N b) (f x) ρ h1 (St (step s x))) (hr : ∀ ρ1, St (xs.foldl step s0) ρ1 → Nx (exs c N ss ρ1 h1) h1 P) : Nx (exs c N (.cons (.forr t it b) ss) ρ h) h1 P := by
  obtain ⟨ρ', e, d⟩ := for_fold (bd := bindT t) (body := exs c N b) St step xs s0 ρ h0 (fun pre x post hp ρ hs => H _ x (by rw [hp]; simp) ρ hs)
  exact Nx_of (exs_for hi e rfl) (hr ρ' d)
theorem Nx_forP {α σ : Type} {c : Cf} {N : Nat} {ρ : Slots} {h h1 : Heap} {P : Slots → Prop} {t : Tg} {it : It} {b ss : Ss} {xs : List α} {f : α → Val} (St : σ → Slots → Prop) (step : σ → α → σ) (s0 : σ) (hi : evIt c true it ρ h = .ok (xs.map f) h1) (h0 : St s0 ρ)
    (H : ∀ pre x post, xs = pre ++ x :: post → ∀ ρ, St (pre.foldl step s0) ρ → Turn (bindT t) (exs c N b) (f x) ρ h1 (St (step (pre.foldl step s0) x))) (hr : ∀ ρ1, St (xs.foldl step s0) ρ1 → Nx (exs c N ss ρ1 h1) h1 P) : Nx (exs c N (.cons (.forr t it b) ss) ρ h) h1 P := by
  obtain ⟨ρ', e, d⟩ := for_fold (bd := bindT t) (body := exs c N b) St step xs s0 ρ h0 H
  exact Nx_of (exs_for hi e rfl) (hr ρ' d)
theorem range_pre {w i : Nat} {pre post : List Nat} (hp : List.range w = pre ++ i :: post) : pre.length < w ∧ i < w := by
  have h1 := congrArg List.length hp
  have h2 : i ∈ List.range w := by rw [hp]; simp
  simp at h1
  exact ⟨by omega, List.mem_range.mp h2⟩
def cof (t : List (List Int)) (w i j : Nat) : Int := if decide (((i : Int) + (j : Int)).fmod 2 = 0) = true then det (w - 1) (crossOut t j i) else -(det (w - 1) (crossOut t j i))
def tieQ (w : Nat) (plan : List (List Int)) (i j : Nat) : Rat := (cof (sqT plan w) w i j : Rat) / (det w (sqT plan w) : Rat)
def tiesQ (w : Nat) (plan : List (List Int)) : List (List Rat) := (List.range w).map fun i => (List.range w).map fun j => tieQ w plan i j
abbrev eQs (r : List Rat) : Val := .tup (r.map eQ)
theorem foldl_push {α β : Type} (f : α → β) : ∀ (xs : List α) (acc : List β), xs.foldl (fun a x => a ++ [f x]) acc = acc ++ xs.map f
  | [], acc => by simp
  | x :: xs, acc => by rw [List.foldl_cons, foldl_push f xs]; simp
section
variable {G : Nat → Option FD} {N n : Nat} {h : Heap} {w : Nat} {plan : List (List Int)} (P : Plan w plan) (hN : 2 ^ 9000 ≤ N)
include P
theorem Plan.sq_bd : ∀ r ∈ sqT plan w, ∀ x ∈ r, x.natAbs < 2 ^ 12 := by
  have h := sqT_bound (k := 1) P.len P.bd (by have := P.most; omega)
  simp only [Nat.reduceAdd] at h
  exact h
theorem Plan.det_bd : (det w (sqT plan w)).natAbs < 2 ^ 61 := by
  have hw := P.w4
  refine Nat.lt_of_lt_of_le (det_bound (k := 12) w (sqT plan w) sqT_len sqT_row P.sq_bd (by omega)) (Nat.pow_le_pow_right (by omega) ?_)
  omega
theorem Plan.cross_bd {i j : Nat} (hi : i < w) (hj : j < w) : (det (w - 1) (crossOut (sqT plan w) j i)).natAbs < 2 ^ 61 := by
  have hw := P.w4
  refine Nat.lt_of_lt_of_le (det_bound (k := 12) (w - 1) (crossOut (sqT plan w) j i) (by rw [cross_len (by rw [sqT_len]; exact hj), sqT_len]) (fun r hr => by
      obtain ⟨s, hs, rfl⟩ := cross_mem hr
      have := sqT_row s hs
      rw [cutAt_length (by omega)]; omega) (fun r hr x hx => by
      obtain ⟨s, hs, rfl⟩ := cross_mem hr
      exact P.sq_bd s hs x (cutAt_mem hx)) (by omega)) (Nat.pow_le_pow_right (by omega) ?_)
  omega
theorem Plan.cof_bd {i j : Nat} (hi : i < w) (hj : j < w) : (cof (sqT plan w) w i j).natAbs < 2 ^ 61 := by
  unfold cof
  split
  · exact P.cross_bd hi hj
  · rw [Int.natAbs_neg]; exact P.cross_bd hi hj
theorem Plan.tie_sz (h0 : det w (sqT plan w) ≠ 0) {i j : Nat} (hi : i < w) (hj : j < w) : Sz 61 (tieQ w plan i j) := Sz.div h0 (P.cof_bd hi hj) P.det_bd
include hN
theorem found_ties_spec (hG : Has G [74, 117, 62, 124, 77, 63]) (h0 : det w (sqT plan w) ≠ 0) : callF G N (n + w + 2) 74 [ePlan plan] h = .ok (.lst .own ((tiesQ w plan).map eQs)) h := by
  have hw4 := P.w4
  have hw1 := P.w1
  have hpos := P.pos
  have hmost := P.most
  have hsq := square_spec (G := G) (N := N) (n := n + w) (h := h) (hG.sub (S := [117]) rfl) P.pos P.len P.bd (by omega) (by omega) (by omega)
  have hdt := det_spec (G := G) (N := N) (h := h) (hG.sub (S := [62]) rfl) (k := 12) (by omega) w (sqT plan w) sqT_len sqT_row P.sq_bd (by omega) n
  have hcr : ∀ i j : Nat, callF G N (n + w + 1) 124 [.lst .imm ((sqT plan w).map lRow), .int (j : Int), .int (i : Int)] h = .ok (.lst .own ((crossOut (sqT plan w) j i).map lRow)) h := fun i j =>
    cross_spec (G := G) (N := N) (n := n + w) (h := h) (hG.sub (S := [124]) rfl) (by rw [sqT_len]; omega) (fun r hr => by rw [sqT_row r hr]; omega)
  have hdq : ∀ i j : Nat, i < w → j < w → callF G N (n + w + 1) 62 [.lst .imm ((crossOut (sqT plan w) j i).map lRow)] h = .ok (.int (det (w - 1) (crossOut (sqT plan w) j i))) h := fun i j hi hj => by
    have := det_spec (G := G) (N := N) (h := h) (hG.sub (S := [62]) rfl) (k := 12) (by omega) (w - 1) (crossOut (sqT plan w) j i) (by rw [cross_len (by rw [sqT_len]; exact hj), sqT_len]) (fun r hr => by
      obtain ⟨s, hs, rfl⟩ := cross_mem hr
      have := sqT_row s hs
      rw [cutAt_length (by omega)]; omega) (fun r hr x hx => by
      obtain ⟨s, hs, rfl⟩ := cross_mem hr
      exact P.sq_bd s hs x (cutAt_mem hx)) (by omega) (n + 1)
    rw [show n + 1 + (w - 1) + 1 = n + w + 1 by omega] at this
    exact this
  have hfr : ∀ t : Int, callF G N (n + w + 1) 77 [.int t, .int (det w (sqT plan w))] h = .ok (eQ ((t : Rat) / (det w (sqT plan w) : Rat))) h := fun t => by
    have := fraction_q (G := G) (N := N) (n := n + w - 1) (h := h) (hG.sub (S := [77, 63]) rfl) (t := t) h0 (Nat.lt_of_lt_of_le P.det_bd (Nat.pow_le_pow_right (by omega) (by omega))) hN
    rw [show n + w - 1 + 2 = n + w + 1 by omega] at this
    exact this
  refine hG.call (d := fd_found_ties) rfl rfl ?_
  unfold fd_found_ties
  refine runF_rt rfl rfl ?_
  walk_at "st"
  have sl : (sqT plan w).length = w := sqT_len
  have dn0 : det w (sqT plan w) ≠ 0 := h0
  have e2 : ∀ i j, tieQ w plan i j = (cof (sqT plan w) w i j : Rat) / (det w (sqT plan w) : Rat) := fun _ _ => rfl
  unfold tiesQ
  generalize sqT plan w = T at *
  generalize det w T = D at *
  apply exs_set
  · walk_at "mi"
    exact hsq
  · walk_at "mi"
  apply exs_par2 (x := .int D) (y := .int (w : Int))
  · walk_at "mi"
    exact hdt
  · exact ev_conv (by walk_at "mi") (by rw [sl])
  · walk_at "mi"
  · walk_at "mi"
  apply exs_set
  · walk_at "mi"
  · walk_at "mi"
  refine exs_forP (fun (acc : List (List Rat)) ρ => ∃ a b c d, ρ = [some (ePlan plan), some (.lst .imm (T.map lRow)), some (.lst .own (acc.map eQs)), a, some (.int D), some (.int (w : Int)), b, c, d]) (fun acc i => acc ++ [(List.range w).map fun j => tieQ w plan i j]) [] (it_rng1 (n := w) (by walk_at "mi") (by omega)) ⟨_, _, _, _, rfl⟩ (fun pre i post hp ρ hs => ?_) (fun ρ1 hs => ?_)
  · obtain ⟨a, b, c, d, rfl⟩ := hs
    obtain ⟨hpl, hi⟩ := range_pre hp
    have al : (pre.foldl (fun acc i => acc ++ [(List.range w).map fun j => tieQ w plan i j]) []).length = pre.length := by rw [foldl_push]; simp
    generalize pre.foldl (fun acc i => acc ++ [(List.range w).map fun j => tieQ w plan i j]) [] = acc at *
    apply Turn.nx
    · walk_at "mi"
    · apply Nx_of
      · apply exs_set
        · walk_at "mi"
        · walk_at "mi"
        · exact rfl
      refine Nx_forP (fun (r : List Rat) ρ => ∃ a b, ρ = [some (ePlan plan), some (.lst .imm (T.map lRow)), some (.lst .own (acc.map eQs)), some (.int (i : Int)), some (.int D), some (.int (w : Int)), some (.lst .own (r.map eQ)), a, b]) (fun r j => r ++ [tieQ w plan i j]) [] (it_rng1 (n := w) (by walk_at "mi") (by omega)) ⟨_, _, rfl⟩ (fun pre2 j post2 hp2 ρ hs => ?_) (fun ρ1 hs => ?_)
      · obtain ⟨a, b, rfl⟩ := hs
        obtain ⟨hpl2, hj⟩ := range_pre hp2
        have rl : (pre2.foldl (fun r j => r ++ [tieQ w plan i j]) []).length = pre2.length := by rw [foldl_push]; simp
        generalize pre2.foldl (fun r j => r ++ [tieQ w plan i j]) [] = r at *
        have k1 := hcr i j
        have k2 := hdq i j hi hj
        have k3 := hfr (cof T w i j)
        apply Turn.mk
        · walk_at "mi"
        · apply exs_set
          · apply ev_call
            · walk_at "mi"
            · apply evs_cons
              · walk_at "mi"
                exact k1
              · rfl
              · walk_at "mi"
            · exact k2
          · walk_at "mi"
          · walk_at "mi"
            · decide
            · exact k3
            · rfl
            · rw [List.length_map]; omega
            all_goals walk_at "mi"
        · exact ⟨_, _, by rw [e2, List.map_append]; rfl⟩
      · obtain ⟨a, b, rfl⟩ := hs
        rw [foldl_push, List.nil_append]
        apply Nx_end
        · walk_at "mi"
          rw [List.length_map]; omega
          all_goals walk_at "mi"
        · exact ⟨_, _, _, _, by rw [List.map_append]; rfl⟩
  · obtain ⟨a, b, c, d, rfl⟩ := hs
    rw [foldl_push, List.nil_append]
    walk_at "mi"
theorem ties_spec (hG : Has G [120, 55, 53, 84, 40, 87, 81, 65, 103, 78, 104, 110, 68, 74, 117, 62, 124, 77, 63]) (hs : settled w plan = true) (h0 : det w (sqT plan w) ≠ 0) : callF G N (n + w + 8) 120 [ePlan plan] h = .ok (.tup ((tiesQ w plan).map eQs)) h := by
  have h1 := plan_csettled (G := G) (N := N) (n := n + w) (h := h) P hN (hG.sub (S := [55, 53, 84, 40, 87, 81, 65, 103, 78, 104, 110, 68, 63]) rfl)
  rw [if_pos hs] at h1
  have h2 := found_ties_spec (G := G) (N := N) (n := n + 5) (h := h) P hN (hG.sub (S := [74, 117, 62, 124, 77, 63]) rfl) h0
  rw [show n + 5 + w + 2 = n + w + 7 by omega] at h2
  refine hG.call (d := fd_ties) rfl rfl ?_
  unfold fd_ties
  refine runF_rt rfl rfl ?_
  walk_at "st"
  apply exs_ex
  · walk_at "mi"
    exact h1
  · apply exs_ret
    · walk_at "mi"
      · exact h2
      · exact p_tup
    · rfl
theorem ties_bad (hG : Has G [120, 55, 53, 84, 40, 87, 81, 65, 103, 78, 104, 110, 68, 63]) (hs : settled w plan = false) : callF G N (n + 8) 120 [ePlan plan] h = .exc 16 h := by
  have h1 := plan_csettled (G := G) (N := N) (n := n) (h := h) P hN (hG.sub (S := [55, 53, 84, 40, 87, 81, 65, 103, 78, 104, 110, 68, 63]) rfl)
  rw [if_neg (by rw [hs]; decide)] at h1
  refine hG.call (d := fd_ties) rfl rfl ?_
  unfold fd_ties
  refine runF_exc rfl rfl ?_
  walk_at "st"
  apply exs_exX
  apply ev_callX
  · walk_at "mi"
  · walk_at "mi"
  · exact h1
end
end Mi

set_option Elab.async false
set_option linter.all false
set_option autoImplicit false
set_option maxRecDepth 100000
/-! Mr12: the laws' values of plans. -/
namespace Mi
open PySem PySem.Spec L2 PyProof.Rows
abbrev lQs (r : List Rat) : Val := .lst .imm (r.map eQ)
section
variable {h : Heap}
theorem x_Q0 {r : List Rat} {k : Kd} (hn : 0 < r.length) : idxV (.lst k (r.map eQ)) (.int 0) h = some (eQ (r.getD 0 0)) := x_lst0 0 hn
theorem x_Q {r : List Rat} {k : Kd} {n : Nat} (hn : n < r.length) : idxV (.lst k (r.map eQ)) (.int (n : Int)) h = some (eQ (r.getD n 0)) := x_lst 0 hn
theorem x_Qt {r : List Rat} {n : Nat} (hn : n < r.length) : idxV (.tup (r.map eQ)) (.int (n : Int)) h = some (eQ (r.getD n 0)) := x_tup 0 hn
theorem x_R0 {t : List (List Rat)} {k : Kd} (hn : 0 < t.length) : idxV (.lst k (t.map lQs)) (.int 0) h = some (lQs (t.getD 0 [])) := x_lst0 [] hn
theorem x_Rt {t : List (List Rat)} {n : Nat} (hn : n < t.length) : idxV (.tup (t.map eQs)) (.int (n : Int)) h = some (eQs (t.getD n [])) := x_tup [] hn
end
local macro_rules | `(tactic| walk_at "sl") => `(tactic| repeat' (first | (with_reducible exact get_zero) | (with_reducible exact set_zero) | (with_reducible apply get_succ) | (with_reducible apply set_succ) | (with_reducible apply wipe_nm) | (with_reducible apply wipe_tp2) | (with_reducible apply wipe_2)))
local macro_rules | `(tactic| walk_at "op") => `(tactic| first | (with_reducible exact i_nn) | (with_reducible exact i_n) | (with_reducible exact i_tn) | (with_reducible exact i_t) | (with_reducible exact b_add) | (with_reducible exact o_sub) | (with_reducible exact eq_int) | (with_reducible exact ne_int) | (with_reducible exact o_lt) | (with_reducible exact o_le) | (with_reducible exact o_gt) | (with_reducible exact o_ge) | (with_reducible exact t_bl) | (with_reducible exact t_int) | (with_reducible exact x_fst) | (with_reducible exact x_snd) | (with_reducible exact l_tup) | (with_reducible exact l_lst) | (with_reducible exact p_tup) | (with_reducible exact p_lst) | (with_reducible exact p_lstT) | (with_reducible exact p_abs) | (with_reducible exact sum_ints) | (with_reducible exact sum_map) | (with_reducible exact all_map) | (with_reducible exact isin_i) | (with_reducible exact isin_b) | (with_reducible exact isin_t) | (with_reducible exact isin_str) | (with_reducible exact any_lst) | (with_reducible exact any_tup) | (with_reducible exact q_nilN) | (with_reducible exact s_cutL) | (with_reducible exact s_cutR1) | (with_reducible exact s_cut1) | (with_reducible apply b_mul) | (with_reducible apply b_fdiv) | (with_reducible apply b_mod) | (with_reducible apply o_addT1) | (with_reducible apply o_addTM) | (with_reducible apply o_addT) | ((with_reducible apply o_addL1); (first | decide | skip); (first | decide | skip)) | ((with_reducible apply o_addLM); (first | decide | skip); (first | decide | skip)) | ((with_reducible apply o_addL); (first | decide | skip); (first | decide | skip)) | (with_reducible apply x_tup0 (0 : Int)) | (with_reducible apply x_lst0 (0 : Int)) | (with_reducible apply x_tup0 ([] : List Int)) | (with_reducible apply x_lst0 ([] : List Int)) | (with_reducible apply x_last (0 : Nat)) | (with_reducible apply x_tup (0 : Int)) | (with_reducible apply x_lst (0 : Int)) | (with_reducible apply x_tup ([] : List Int)) | (with_reducible apply x_lst ([] : List Int)))
local macro_rules | `(tactic| walk_at "e1") => `(tactic| first | (with_reducible exact ev_int) | (with_reducible exact ev_bl) | (with_reducible exact ev_non) | (with_reducible exact ev_str) | (with_reducible exact ev_fn) | (with_reducible exact ev_cls) | (with_reducible exact ev_ty) | ((with_reducible apply ev_var); (focus walk_at "sl"); exact rfl) | (with_reducible apply ev_bin) | (with_reducible apply ev_neg) | (with_reducible apply ev_cmp) | (with_reducible apply ev_chn) | (with_reducible apply ev_not) | (with_reducible apply ev_bo) | (with_reducible apply bo_one) | (with_reducible apply bo_and) | (with_reducible apply bo_or) | (with_reducible apply ev_iteI) | (with_reducible apply ev_tup) | (with_reducible apply ev_lst) | (with_reducible exact evs_nil) | (with_reducible apply evs_cons) | (with_reducible apply ev_idx) | (with_reducible exact evo_no) | (with_reducible apply evo_so) | (with_reducible apply ev_slc) | (with_reducible apply ev_call) | (with_reducible apply ev_p1) | (with_reducible apply ev_p2) | (with_reducible apply ev_m1) | (with_reducible exact evT_no) | (with_reducible apply evT_so) | (with_reducible exact fits_of (by first | exact Nat.zero_le _ | (simp only [List.length_cons, List.length_nil]; omega))) | (with_reducible apply it_seq) | (with_reducible apply it_rng1) | (with_reducible apply it_rng2) | (with_reducible apply it_enum) | (with_reducible apply it_zip) | (with_reducible apply ev_compM) | (with_reducible apply ev_compP) | (with_reducible apply ev_comp2P) | (intro _ _; (with_reducible apply Elt.mk)) | (intro _ _; (with_reducible apply EltP.mk)) | (intro _ _; (with_reducible apply Elt2.mk)) | ((with_reducible apply bT_nm); walk_at "sl"; done) | (with_reducible apply bT_tp2))
local macro_rules | `(tactic| walk_at "s1") => `(tactic| first | (with_reducible exact exs_nil) | (with_reducible apply exs_appc) | (with_reducible apply exs_appn) | (with_reducible apply exs_set) | (with_reducible apply exs_par2) | (with_reducible apply exs_par3) | (with_reducible apply exs_ret) | (with_reducible exact exs_rais) | (with_reducible apply exs_pas) | (with_reducible apply exs_ex) | (with_reducible apply exs_unp) | (with_reducible apply exs_app1) | (with_reducible apply keep_fz) | (with_reducible apply keep_own) | (with_reducible apply keep_heap))
local macro_rules | `(tactic| walk_at "rf") => `(tactic| first | ((with_reducible apply k_fz); exact rfl) | ((with_reducible apply k_un); exact rfl) | ((with_reducible apply k_it); exact rfl) | ((with_reducible apply k_sq); exact rfl) | ((with_reducible apply k_br); exact rfl) | ((with_reducible apply k_m1); exact rfl) | ((with_reducible apply k_set); walk_at "sl"; done) | ((with_reducible apply k_wipe); walk_at "sl"; done) | ((with_reducible apply k_get); walk_at "sl"; done))
local macro_rules | `(tactic| walk_at "mi") => `(tactic| repeat' (first | walk_at "e1" | walk_at "op" | walk_at "s1" | walk_at "rf" | (intro _; (first | walk_at "e1" | walk_at "s1"))))
local macro_rules | `(tactic| walk_at "mic") => `(tactic| repeat' (first | walk_at "e1" | walk_at "op" | walk_at "s1" | walk_at "rf" | ((with_reducible apply k_call); (with_reducible apply_assumption -exfalso -symm)) | (intro _; (first | walk_at "e1" | walk_at "s1"))))
local macro_rules | `(tactic| walk_at "sd") => `(tactic| first | assumption | omega | (simp only [List.length_range, List.length_map, List.length_cons, List.length_nil]; omega) | (simp only [List.mem_range, List.length_range, List.length_map] at *; omega))
local macro_rules | `(tactic| walk_at "st") => `(tactic| simp only [List.map_cons, List.map_nil, List.cons_append, List.nil_append, List.reduceReplicate, Nat.reduceSub])
abbrev cutQ (k : Nat) (r : List Rat) : List Rat := r.take k ++ r.drop (k + 1)
def sgnQ (k : Nat) (p : Rat) : Rat := if decide ((k : Int).fmod 2 = 0) = true then p else -p
def detQ : Nat → List (List Rat) → Rat
  | 0, _ => 0
  | 1, t => (t.getD 0 []).getD 0 0
  | m + 2, t => ((List.range (m + 2)).map fun k => sgnQ k ((t.getD 0 []).getD k 0 * detQ (m + 1) ((t.drop 1).map (cutQ k)))).sum
def DB (k : Nat) : Nat → Nat
  | 0 => 1
  | 1 => k
  | m + 2 => (m + 2) * (k + DB k (m + 1) + 1) + 1
theorem Sz.sgn {k j : Nat} {p : Rat} (h : Sz k p) : Sz k (sgnQ j p) := by
  unfold sgnQ
  split
  · exact h
  · exact h.neg
theorem getQ_sz {k : Nat} {r : List Rat} (h : ∀ q ∈ r, Sz k q) {i : Nat} (hi : i < r.length) : Sz k (r.getD i 0) := h _ (getD_mem hi)
theorem detQ_sz {k : Nat} (hk : 0 < k) : ∀ (m : Nat) (t : List (List Rat)), t.length = m → (∀ r ∈ t, r.length = m) → (∀ r ∈ t, ∀ q ∈ r, Sz k q) → 0 < m → Sz (DB k m) (detQ m t)
  | 0, t, _, _, _, h => by omega
  | 1, t, hl, hr, hb, _ => by
    have m0 : t.getD 0 [] ∈ t := getD_mem (by omega)
    exact getQ_sz (hb _ m0) (by rw [hr _ m0]; omega)
  | m + 2, t, hl, hr, hb, _ => by
    have m0 : t.getD 0 [] ∈ t := getD_mem (by omega)
    have l0 := hr _ m0
    have := Sz.sum (k := k + DB k (m + 1)) ((List.range (m + 2)).map fun k => sgnQ k ((t.getD 0 []).getD k 0 * detQ (m + 1) ((t.drop 1).map (cutQ k)))) (fun q hq => by
      obtain ⟨j, hj, rfl⟩ := List.mem_map.mp hq
      have hj := List.mem_range.mp hj
      refine Sz.sgn ((getQ_sz (hb _ m0) (by omega)).mul (detQ_sz hk (m + 1) _ (by simp; omega) (fun r hx => ?_) (fun r hx q hq => ?_) (by omega)))
      · obtain ⟨r', h1, rfl⟩ := List.mem_map.mp hx
        have := hr r' (List.mem_of_mem_drop h1)
        simp
        omega
      · obtain ⟨r', h1, rfl⟩ := List.mem_map.mp hx
        have h2 := hb r' (List.mem_of_mem_drop h1)
        rcases List.mem_append.mp hq with e | e
        · exact h2 q (List.mem_of_mem_take e)
        · exact h2 q (List.mem_of_mem_drop e))
    rw [List.length_map, List.length_range] at this
    exact this
theorem DB_le {k : Nat} {m : Nat} : k + DB k (m + 1) + 1 ≤ DB k (m + 2) := by
  show _ ≤ (m + 2) * (k + DB k (m + 1) + 1) + 1
  have : 1 * (k + DB k (m + 1) + 1) ≤ (m + 2) * (k + DB k (m + 1) + 1) := Nat.mul_le_mul_right _ (by omega)
  omega
section
variable {G : Nat → Option FD} {N : Nat} {h : Heap}
theorem ldet_spec (hG : Has G [6, 29, 19, 22]) (hN : 2 ^ 9000 ≤ N) {k : Nat} (hk : 0 < k) : ∀ (m : Nat) (t : List (List Rat)), t.length = m → (∀ r ∈ t, r.length = m) → (∀ r ∈ t, ∀ q ∈ r, Sz k q) → 0 < m → m ≤ 100 → DB k m ≤ 4000 → ∀ n, callF G N (n + m + 3) 6 [.lst .imm (t.map lQs)] h = .ok (eQ (detQ m t)) h
  | 0, t, _, _, _, h, _, _, _ => by omega
  | 1, t, hl, hr, hb, _, _, hd, n => by
    have m0 : t.getD 0 [] ∈ t := getD_mem (by omega)
    have l0 := hr _ m0
    refine hG.call (d := fd__law_det) rfl rfl ?_
    unfold fd__law_det
    refine runF_rt rfl rfl ?_
    walk_at "st"
    apply exs_condT
    · walk_at "mi"
    · walk_at "mi"
    · rw [hl]; rfl
    · apply exs_appc
      apply exs_ret
      · apply ev_idx
        · apply ev_idx
          · walk_at "mi"
          · walk_at "mi"
          · exact x_R0 (by omega)
        · walk_at "mi"
        · exact x_Q0 (by omega)
      · rfl
  | m + 2, t, hl, hr, hb, _, hm, hd, n => by
    have m0 : t.getD 0 [] ∈ t := getD_mem (by omega)
    have l0 := hr _ m0
    have dle := DB_le (k := k) (m := m)
    refine hG.call (d := fd__law_det) rfl rfl ?_
    unfold fd__law_det
    refine runF_rt rfl rfl ?_
    walk_at "st"
    apply exs_condF
    · walk_at "mi"
    · walk_at "mi"
    · rw [hl]; exact decide_eq_false (by omega)
    apply exs_appn
    apply exs_set
    · walk_at "mi"
    · walk_at "mi"
    have hs : ∀ j, j < m + 2 → ((t.drop 1).map (cutQ j)).length = m + 1 ∧ (∀ r ∈ (t.drop 1).map (cutQ j), r.length = m + 1) ∧ ∀ r ∈ (t.drop 1).map (cutQ j), ∀ q ∈ r, Sz k q := fun j hj => by
      refine ⟨by simp; omega, fun r hx => ?_, fun r hx q hq => ?_⟩
      · obtain ⟨r', h1, rfl⟩ := List.mem_map.mp hx
        have := hr r' (List.mem_of_mem_drop h1)
        simp
        omega
      · obtain ⟨r', h1, rfl⟩ := List.mem_map.mp hx
        have h2 := hb r' (List.mem_of_mem_drop h1)
        rcases List.mem_append.mp hq with e | e
        · exact h2 q (List.mem_of_mem_take e)
        · exact h2 q (List.mem_of_mem_drop e)
    have hl2 : (t.length : Int) = ((m + 2 : Nat) : Int) := by rw [hl]
    refine exs_forP (fun (s : Rat) ρ => ∃ a b c, ρ = [some (.lst .imm (t.map lQs)), some (eQ s), a, b, c, none]) (fun s j => s + sgnQ j ((t.getD 0 []).getD j 0 * detQ (m + 1) ((t.drop 1).map (cutQ j)))) 0 (it_rng1 (n := m + 2) (ev_conv (by walk_at "mi") (by rw [hl2])) (by omega)) ⟨_, _, _, rfl⟩ (fun pre j post hp ρ hx => ?_) (fun ρ1 hx => ?_)
    · obtain ⟨a, b, c, rfl⟩ := hx
      obtain ⟨hpl, hj⟩ := range_pre hp
      obtain ⟨s1, s2, s3⟩ := hs j hj
      have pre_sum : pre.foldl (fun s j => s + sgnQ j ((t.getD 0 []).getD j 0 * detQ (m + 1) ((t.drop 1).map (cutQ j)))) 0 = (pre.map fun j => sgnQ j ((t.getD 0 []).getD j 0 * detQ (m + 1) ((t.drop 1).map (cutQ j)))).sum := by
        have := foldl_sum (pre.map fun j => sgnQ j ((t.getD 0 []).getD j 0 * detQ (m + 1) ((t.drop 1).map (cutQ j)))) 0
        rw [List.foldl_map, Rat.zero_add] at this
        exact this
      have preSz : Sz (pre.length * (k + DB k (m + 1) + 1) + 1) (pre.foldl (fun s j => s + sgnQ j ((t.getD 0 []).getD j 0 * detQ (m + 1) ((t.drop 1).map (cutQ j)))) 0) := by
        rw [pre_sum]
        have := Sz.sum (k := k + DB k (m + 1)) (pre.map fun j => sgnQ j ((t.getD 0 []).getD j 0 * detQ (m + 1) ((t.drop 1).map (cutQ j)))) (fun q hq => by
          obtain ⟨i, hi, rfl⟩ := List.mem_map.mp hq
          have hi : i < m + 2 := List.mem_range.mp (by rw [hp]; simp [hi])
          obtain ⟨a1, a2, a3⟩ := hs i hi
          exact Sz.sgn ((getQ_sz (hb _ m0) (by omega)).mul (detQ_sz hk (m + 1) _ a1 a2 a3 (by omega))))
        rw [List.length_map] at this
        exact this
      generalize pre.foldl (fun s j => s + sgnQ j ((t.getD 0 []).getD j 0 * detQ (m + 1) ((t.drop 1).map (cutQ j)))) 0 = s at *
      have dsz := detQ_sz hk (m + 1) _ s1 s2 s3 (by omega)
      have gsz : Sz k ((t.getD 0 []).getD j 0) := getQ_sz (hb _ m0) (by omega)
      have hle : pre.length * (k + DB k (m + 1) + 1) + (k + DB k (m + 1) + 1) ≤ DB k (m + 2) := by
        show _ ≤ (m + 2) * (k + DB k (m + 1) + 1) + 1
        have : (pre.length + 1) * (k + DB k (m + 1) + 1) ≤ (m + 2) * (k + DB k (m + 1) + 1) := Nat.mul_le_mul_right _ (by omega)
        rw [Nat.succ_mul] at this
        omega
      have k1 : callF G N (n + m + 1 + 3) 6 [.lst .imm ((t.drop 1).map fun x => lQs (cutQ j x))] h = .ok (eQ (detQ (m + 1) ((t.drop 1).map (cutQ j)))) h := by
        have := ldet_spec hG hN hk (m + 1) ((t.drop 1).map (cutQ j)) s1 s2 s3 (by omega) (by omega) (by omega) n
        rw [List.map_map] at this
        exact this
      have k2 := ltimes_spec (G := G) (N := N) (n := n + m + 2) (h := h) (hG.sub (S := [29, 22]) rfl) gsz dsz (by omega) hN
      have psz := gsz.mul dsz
      have k3 := lplus_spec (G := G) (N := N) (n := n + m + 2) (h := h) (hG.sub (S := [19, 22]) rfl) preSz (psz.sgn (j := j)) (by omega) hN
      generalize (t.getD 0 []).getD j 0 * detQ (m + 1) ((t.drop 1).map (cutQ j)) = p at *
      apply Turn.mk
      · walk_at "mi"
      · apply exs_set
        · walk_at "mi"
          · have := hr _ (List.mem_of_mem_drop (by assumption))
            simp only [List.length_take, List.length_drop]
            omega
          · simp only [List.length_drop]; omega
        · walk_at "mi"
        apply exs_set
        · apply ev_call
          · walk_at "mi"
          · apply evs_cons
            · apply ev_idx
              · apply ev_idx
                · walk_at "mi"
                · walk_at "mi"
                · exact x_R0 (by omega)
              · walk_at "mi"
              · exact x_Q (by omega)
            · rfl
            · apply evs_cons
              · walk_at "mi"
                exact k1
              · rfl
              · walk_at "mi"
          · exact k2
        · walk_at "mi"
        apply exs_set
        · apply ev_call
          · walk_at "mi"
          · apply evs_cons
            · walk_at "mi"
            · rfl
            · apply evs_cons (x := eQ (sgnQ j p))
              · by_cases hpar : decide ((j : Int).fmod 2 = 0) = true
                · rw [show sgnQ j p = p from by unfold sgnQ; rw [if_pos hpar]]
                  apply ev_iteT
                  · walk_at "mi"
                    decide
                  · walk_at "mi"
                  · exact hpar
                  · walk_at "mi"
                · rw [show sgnQ j p = -p from by unfold sgnQ; rw [if_neg hpar]]
                  apply ev_iteF
                  · walk_at "mi"
                    decide
                  · walk_at "mi"
                  · simpa using hpar
                  · refine ev_conv (v := .tup [.int (0 - p.num), .int (p.den : Int)]) (by walk_at "mi") ?_
                    rw [Int.zero_sub]
                    rfl
              · rfl
              · walk_at "mi"
          · exact k3
        · walk_at "mi"
        · walk_at "mi"
      · exact ⟨_, _, _, rfl⟩
    · obtain ⟨a, b, c, rfl⟩ := hx
      have := foldl_sum ((List.range (m + 2)).map fun j => sgnQ j ((t.getD 0 []).getD j 0 * detQ (m + 1) ((t.drop 1).map (cutQ j)))) 0
      rw [List.foldl_map, Rat.zero_add] at this
      rw [this]
      walk_at "mi"
end
end Mi

set_option Elab.async false
set_option linter.all false
set_option autoImplicit false
set_option maxRecDepth 100000
/-! Mr13: _law_value. -/
namespace Mi
open PySem PySem.Spec L2 PyProof.Rows
section
variable {h : Heap}
theorem p_lQ {r : List Rat} : p1V .list (eQs r) h = some (.lst .own (r.map eQ)) := rfl
end
local macro_rules | `(tactic| walk_at "sl") => `(tactic| repeat' (first | (with_reducible exact get_zero) | (with_reducible exact set_zero) | (with_reducible apply get_succ) | (with_reducible apply set_succ) | (with_reducible apply wipe_nm) | (with_reducible apply wipe_tp2) | (with_reducible apply wipe_2)))
local macro_rules | `(tactic| walk_at "op") => `(tactic| first | (with_reducible exact i_nn) | (with_reducible exact i_n) | (with_reducible exact i_tn) | (with_reducible exact i_t) | (with_reducible exact b_add) | (with_reducible exact o_sub) | (with_reducible exact eq_int) | (with_reducible exact ne_int) | (with_reducible exact o_lt) | (with_reducible exact o_le) | (with_reducible exact o_gt) | (with_reducible exact o_ge) | (with_reducible exact t_bl) | (with_reducible exact t_int) | (with_reducible exact x_fst) | (with_reducible exact x_snd) | (with_reducible exact l_tup) | (with_reducible exact l_lst) | (with_reducible exact p_tup) | (with_reducible exact p_lst) | (with_reducible exact p_lstT) | (with_reducible exact p_abs) | (with_reducible exact sum_ints) | (with_reducible exact sum_map) | (with_reducible exact all_map) | (with_reducible exact isin_i) | (with_reducible exact isin_b) | (with_reducible exact isin_t) | (with_reducible exact isin_str) | (with_reducible exact any_lst) | (with_reducible exact any_tup) | (with_reducible exact q_nilN) | (with_reducible exact s_cutL) | (with_reducible exact s_cutR1) | (with_reducible exact s_cut1) | (with_reducible apply b_mul) | (with_reducible apply b_fdiv) | (with_reducible apply b_mod) | (with_reducible apply o_addT1) | (with_reducible apply o_addTM) | (with_reducible apply o_addT) | ((with_reducible apply o_addL1); (first | decide | skip); (first | decide | skip)) | ((with_reducible apply o_addLM); (first | decide | skip); (first | decide | skip)) | ((with_reducible apply o_addL); (first | decide | skip); (first | decide | skip)) | (with_reducible apply x_tup0 (0 : Int)) | (with_reducible apply x_lst0 (0 : Int)) | (with_reducible apply x_tup0 ([] : List Int)) | (with_reducible apply x_lst0 ([] : List Int)) | (with_reducible apply x_last (0 : Nat)) | (with_reducible apply x_tup (0 : Int)) | (with_reducible apply x_lst (0 : Int)) | (with_reducible apply x_tup ([] : List Int)) | (with_reducible apply x_lst ([] : List Int)))
local macro_rules | `(tactic| walk_at "e1") => `(tactic| first | (with_reducible exact ev_int) | (with_reducible exact ev_bl) | (with_reducible exact ev_non) | (with_reducible exact ev_str) | (with_reducible exact ev_fn) | (with_reducible exact ev_cls) | (with_reducible exact ev_ty) | ((with_reducible apply ev_var); (focus walk_at "sl"); exact rfl) | (with_reducible apply ev_bin) | (with_reducible apply ev_neg) | (with_reducible apply ev_cmp) | (with_reducible apply ev_chn) | (with_reducible apply ev_not) | (with_reducible apply ev_bo) | (with_reducible apply bo_one) | (with_reducible apply bo_and) | (with_reducible apply bo_or) | (with_reducible apply ev_iteI) | (with_reducible apply ev_tup) | (with_reducible apply ev_lst) | (with_reducible exact evs_nil) | (with_reducible apply evs_cons) | (with_reducible apply ev_idx) | (with_reducible exact evo_no) | (with_reducible apply evo_so) | (with_reducible apply ev_slc) | (with_reducible apply ev_call) | (with_reducible apply ev_p1) | (with_reducible apply ev_p2) | (with_reducible apply ev_m1) | (with_reducible exact evT_no) | (with_reducible apply evT_so) | (with_reducible exact fits_of (by first | exact Nat.zero_le _ | (simp only [List.length_cons, List.length_nil]; omega))) | (with_reducible apply it_seq) | (with_reducible apply it_rng1) | (with_reducible apply it_rng2) | (with_reducible apply it_enum) | (with_reducible apply it_zip) | (with_reducible apply ev_compM) | (with_reducible apply ev_compP) | (with_reducible apply ev_comp2P) | (intro _ _; (with_reducible apply Elt.mk)) | (intro _ _; (with_reducible apply EltP.mk)) | (intro _ _; (with_reducible apply Elt2.mk)) | ((with_reducible apply bT_nm); walk_at "sl"; done) | (with_reducible apply bT_tp2))
local macro_rules | `(tactic| walk_at "s1") => `(tactic| first | (with_reducible exact exs_nil) | (with_reducible apply exs_appc) | (with_reducible apply exs_appn) | (with_reducible apply exs_set) | (with_reducible apply exs_par2) | (with_reducible apply exs_par3) | (with_reducible apply exs_ret) | (with_reducible exact exs_rais) | (with_reducible apply exs_pas) | (with_reducible apply exs_ex) | (with_reducible apply exs_unp) | (with_reducible apply exs_app1) | (with_reducible apply keep_fz) | (with_reducible apply keep_own) | (with_reducible apply keep_heap))
local macro_rules | `(tactic| walk_at "rf") => `(tactic| first | ((with_reducible apply k_fz); exact rfl) | ((with_reducible apply k_un); exact rfl) | ((with_reducible apply k_it); exact rfl) | ((with_reducible apply k_sq); exact rfl) | ((with_reducible apply k_br); exact rfl) | ((with_reducible apply k_m1); exact rfl) | ((with_reducible apply k_set); walk_at "sl"; done) | ((with_reducible apply k_wipe); walk_at "sl"; done) | ((with_reducible apply k_get); walk_at "sl"; done))
local macro_rules | `(tactic| walk_at "mi") => `(tactic| repeat' (first | walk_at "e1" | walk_at "op" | walk_at "s1" | walk_at "rf" | (intro _; (first | walk_at "e1" | walk_at "s1"))))
local macro_rules | `(tactic| walk_at "mic") => `(tactic| repeat' (first | walk_at "e1" | walk_at "op" | walk_at "s1" | walk_at "rf" | ((with_reducible apply k_call); (with_reducible apply_assumption -exfalso -symm)) | (intro _; (first | walk_at "e1" | walk_at "s1"))))
local macro_rules | `(tactic| walk_at "sd") => `(tactic| first | assumption | omega | (simp only [List.length_range, List.length_map, List.length_cons, List.length_nil]; omega) | (simp only [List.mem_range, List.length_range, List.length_map] at *; omega))
local macro_rules | `(tactic| walk_at "st") => `(tactic| simp only [List.map_cons, List.map_nil, List.cons_append, List.nil_append, List.reduceReplicate, Nat.reduceSub])
def diagQ (w : Nat) (plan : List (List Int)) : List Rat := (List.range w).map fun k => tieQ w plan k k
def maxQ (a : Rat) (l : List Rat) : Rat := l.foldl (fun b o => if decide (b < o) = true then o else b) a
def lawVal (g : Goal) (w : Nat) (plan : List (List Int)) : Rat := match g with
  | .whole => detQ w (tiesQ w plan)
  | .sum => (diagQ w plan).sum
  | .worst => maxQ ((diagQ w plan).getD 0 0) (diagQ w plan)
theorem maxQ_mem : ∀ (l : List Rat) (a : Rat), maxQ a l = a ∨ maxQ a l ∈ l
  | [], a => .inl rfl
  | x :: l, a => by
    show maxQ (if decide (a < x) = true then x else a) l = a ∨ maxQ (if decide (a < x) = true then x else a) l ∈ x :: l
    split
    · rcases maxQ_mem l x with e | e
      · right; rw [e]; exact List.mem_cons_self
      · right; exact List.mem_cons_of_mem _ e
    · rcases maxQ_mem l a with e | e
      · left; exact e
      · right; exact List.mem_cons_of_mem _ e
section
variable {G : Nat → Option FD} {N n : Nat} {h : Heap} {w : Nat} {plan : List (List Int)} (P : Plan w plan) (hN : 2 ^ 9000 ≤ N)
include P
theorem tiesQ_len : (tiesQ w plan).length = w := by simp [tiesQ]
theorem tiesQ_row : ∀ r ∈ tiesQ w plan, r.length = w := fun r hr => by
  obtain ⟨i, _, rfl⟩ := List.mem_map.mp hr
  simp
theorem tiesQ_sz (h0 : det w (sqT plan w) ≠ 0) : ∀ r ∈ tiesQ w plan, ∀ q ∈ r, Sz 61 q := fun r hr q hq => by
  obtain ⟨i, hi, rfl⟩ := List.mem_map.mp hr
  obtain ⟨j, hj, rfl⟩ := List.mem_map.mp hq
  exact P.tie_sz h0 (List.mem_range.mp hi) (List.mem_range.mp hj)
theorem diagQ_sz (h0 : det w (sqT plan w) ≠ 0) : ∀ q ∈ diagQ w plan, Sz 61 q := fun q hq => by
  obtain ⟨i, hi, rfl⟩ := List.mem_map.mp hq
  exact P.tie_sz h0 (List.mem_range.mp hi) (List.mem_range.mp hi)
theorem lawVal_sz {g : Goal} (h0 : det w (sqT plan w) ≠ 0) (hw : w ≤ 3) : Sz 1000 (lawVal g w plan) := by
  have w1 := P.w1
  cases g with
  | whole =>
    refine (detQ_sz (k := 61) (by omega) w (tiesQ w plan) (tiesQ_len P) (tiesQ_row P) (tiesQ_sz P h0) (by omega)).mono ?_
    have : w = 1 ∨ w = 2 ∨ w = 3 := by omega
    rcases this with rfl | rfl | rfl <;> decide
  | sum =>
    refine (Sz.sum (k := 61) (diagQ w plan) (diagQ_sz P h0)).mono ?_
    have : (diagQ w plan).length = w := by simp [diagQ]
    rw [this]
    omega
  | worst =>
    have l : (diagQ w plan).length = w := by simp [diagQ]
    show Sz 1000 (maxQ _ _)
    rcases maxQ_mem (diagQ w plan) ((diagQ w plan).getD 0 0) with e | e
    · rw [e]; exact (diagQ_sz P h0 _ (getD_mem (by omega))).mono (by omega)
    · exact (diagQ_sz P h0 _ e).mono (by omega)
theorem tiesQ_get {k : Nat} (hk : k < w) : ((tiesQ w plan).getD k []).getD k 0 = tieQ w plan k k := by
  unfold tiesQ
  simp [List.getD, List.getElem?_map, List.getElem?_range hk]
include hN
theorem lvalue_spec (hG : Has G [32, 120, 55, 53, 84, 40, 87, 81, 65, 103, 78, 104, 110, 68, 74, 117, 62, 124, 77, 63, 6, 29, 19, 22, 28, 3]) {g : Goal} (hs : settled w plan = true) (h0 : det w (sqT plan w) ≠ 0) (hw : w ≤ 3) : callF G N (n + w + 9) 32 [ePlan plan, .str g.s] h = .ok (eQ (lawVal g w plan)) h := by
  have w1 := P.w1
  have ht := ties_spec (G := G) (N := N) (n := n) (h := h) P hN (hG.sub (S := [120, 55, 53, 84, 40, 87, 81, 65, 103, 78, 104, 110, 68, 74, 117, 62, 124, 77, 63]) rfl) hs h0
  refine hG.call (d := fd__law_value) rfl rfl ?_
  unfold fd__law_value
  refine runF_rt rfl rfl ?_
  walk_at "st"
  apply exs_set
  · walk_at "mi"
    exact ht
  · walk_at "mi"
  have tl := tiesQ_len P
  have tr := tiesQ_row P
  have tsz := tiesQ_sz P h0
  have tg : ∀ k, k < w → ((tiesQ w plan).getD k []).getD k 0 = tieQ w plan k k := fun k hk => tiesQ_get P hk
  have dl : (diagQ w plan).length = w := by simp [diagQ]
  have dsz := diagQ_sz P h0
  have e1 : lawVal .whole w plan = detQ w (tiesQ w plan) := rfl
  cases g with
  | whole =>
    apply exs_condT
    · walk_at "mi"
      exact g_whole
    · walk_at "mi"
    · rfl
    apply exs_appc
    have hd := ldet_spec (G := G) (N := N) (h := h) (hG.sub (S := [6, 29, 19, 22]) rfl) hN (k := 61) (by omega) w (tiesQ w plan) tl tr tsz (by omega) (by omega) (by
      have : w = 1 ∨ w = 2 ∨ w = 3 := by omega
      rcases this with rfl | rfl | rfl <;> decide) (n + 5)
    rw [show n + 5 + w + 3 = n + w + 8 by omega] at hd
    rw [e1]
    apply exs_ret
    · apply ev_call
      · walk_at "mi"
      · apply evs_cons
        · walk_at "mi"
          omega
        · rfl
        · walk_at "mi"
      · exact hd
    · rfl
  | sum =>
    apply exs_condF
    · walk_at "mi"
      exact g_whole
    · walk_at "mi"
    · rfl
    apply exs_appn
    have hd := lsum_q (G := G) (N := N) (n := n + w + 5) (h := h) (x := .lst .imm ((diagQ w plan).map eQ)) (hG.sub (S := [28, 19, 22]) rfl) rfl rfl rfl dsz (by rw [dl]; omega) hN
    have e2 : Val.lst .own ((List.range w).map fun k => eQ (((tiesQ w plan).getD k []).getD k 0)) = .lst .own ((diagQ w plan).map eQ) := by
      unfold diagQ
      rw [List.map_map]
      show Val.lst _ _ = Val.lst _ _
      congr 1
      apply List.map_congr_left
      intro k hk
      rw [tg k (List.mem_range.mp hk)]
      rfl
    refine exs_set (h1 := h) (v := .lst .own ((diagQ w plan).map eQ)) (ev_conv ?_ e2) (by walk_at "mi") ?_
    · refine ev_compM (it_rng1 (n := w) (ev_conv (by walk_at "mi") (by rw [tl])) (by omega)) (by walk_at "sl") (fun k hk => ?_) (by simp; omega)
      have hk := List.mem_range.mp hk
      apply Elt.mk
      · walk_at "mi"
      · apply ev_idx
        · apply ev_idx
          · walk_at "mi"
          · walk_at "mi"
          · exact x_Rt (by omega)
        · walk_at "mi"
        · exact x_Qt (by rw [tr _ (getD_mem (by omega))]; omega)
      · rfl
    apply exs_condT
    · walk_at "mi"
      exact g_sum
    · walk_at "mi"
    · rfl
    apply exs_appc
    apply exs_ret
    · apply ev_call
      · walk_at "mi"
      · walk_at "mi"
      · exact hd
    · rfl
  | worst =>
    apply exs_condF
    · walk_at "mi"
      exact g_whole
    · walk_at "mi"
    · rfl
    apply exs_appn
    have e2 : Val.lst .own ((List.range w).map fun k => eQ (((tiesQ w plan).getD k []).getD k 0)) = .lst .own ((diagQ w plan).map eQ) := by
      unfold diagQ
      rw [List.map_map]
      show Val.lst _ _ = Val.lst _ _
      congr 1
      apply List.map_congr_left
      intro k hk
      rw [tg k (List.mem_range.mp hk)]
      rfl
    refine exs_set (h1 := h) (v := .lst .own ((diagQ w plan).map eQ)) (ev_conv ?_ e2) (by walk_at "mi") ?_
    · refine ev_compM (it_rng1 (n := w) (ev_conv (by walk_at "mi") (by rw [tl])) (by omega)) (by walk_at "sl") (fun k hk => ?_) (by simp; omega)
      have hk := List.mem_range.mp hk
      apply Elt.mk
      · walk_at "mi"
      · apply ev_idx
        · apply ev_idx
          · walk_at "mi"
          · walk_at "mi"
          · exact x_Rt (by omega)
        · walk_at "mi"
        · exact x_Qt (by rw [tr _ (getD_mem (by omega))]; omega)
      · rfl
    apply exs_condF
    · walk_at "mi"
      exact g_sum
    · walk_at "mi"
    · rfl
    apply exs_appn
    show exs _ _ _ _ _ = .ok (.rt (eQ (maxQ ((diagQ w plan).getD 0 0) (diagQ w plan)))) h
    generalize diagQ w plan = D at *
    apply exs_set
    · apply ev_idx
      · walk_at "mi"
      · walk_at "mi"
      · exact x_Q0 (by omega)
    · walk_at "mi"
    refine exs_forF (fun (b : Rat) ρ => Sz 61 b ∧ ∃ a, ρ = [some (ePlan plan), some (.str Goal.worst.s), some (.tup ((tiesQ w plan).map eQs)), some (.lst .imm (D.map eQ)), some (eQ b), a, none, none]) (fun b o => if decide (b < o) = true then o else b) (D.getD 0 0) (by walk_at "mi") ⟨dsz _ (getD_mem (by omega)), _, rfl⟩ (fun b o ho ρ hs => ?_) (fun ρ1 hs => ?_)
    · obtain ⟨hb, a, rfl⟩ := hs
      have hbl := lbelow_spec (G := G) (N := N) (n := n + w + 7) (h := h) (hG.sub (S := [3]) rfl) hb (dsz o ho) (by omega)
      split
      · rename_i hc
        rw [hc] at hbl
        apply Turn.mk
        · walk_at "mi"
        · apply exs_set
          · apply ev_iteT
            · walk_at "mi"
              exact hbl
            · exact t_bl
            · rfl
            · walk_at "mi"
          · walk_at "mi"
          · walk_at "mi"
        · exact ⟨dsz o ho, _, rfl⟩
      · rename_i hc
        have hc' : decide (b < o) = false := by simpa using hc
        rw [hc'] at hbl
        apply Turn.mk
        · walk_at "mi"
        · apply exs_set
          · apply ev_iteF
            · walk_at "mi"
              exact hbl
            · exact t_bl
            · rfl
            · walk_at "mi"
          · walk_at "mi"
          · walk_at "mi"
        · exact ⟨hb, _, rfl⟩
    · obtain ⟨hb, a, rfl⟩ := hs
      walk_at "mi"
end
end Mi

set_option Elab.async false
set_option linter.all false
set_option maxRecDepth 100000
set_option maxHeartbeats 0
namespace K50
open PySem PySem.Spec L2 PyProof.Rows Mi
def top (i : Nat) : Stmt := PySem.Challenge.pw_weighplans_k50_whole_best_plans.main.body.getD i (.Pass ⟨0, 0, 0, 0⟩)
def d_is_between : DefI := ⟨81, "is_between", "is_between", ["value", "low", "high"], ["value", "low", "high"], fd_is_between, top 10⟩
def d_divisor_of : DefI := ⟨63, "divisor_of", "divisor_of", ["one", "other"], ["one", "other"], fd_divisor_of, top 11⟩
def d_shortened : DefI := ⟨110, "shortened", "shortened", ["numbers", "by", "one"], ["numbers"], fd_shortened, top 12⟩
def d_fraction : DefI := ⟨77, "fraction", "fraction", ["top", "bottom", "by"], ["top", "bottom"], fd_fraction, top 13⟩
def d_is_below : DefI := ⟨80, "is_below", "is_below", ["one", "other"], ["one", "other"], fd_is_below, top 14⟩
def d_is_weighing : DefI := ⟨87, "is_weighing", "is_weighing", ["things", "value", "one"], ["things", "value"], fd_is_weighing, top 16⟩
def d_are_weighings : DefI := ⟨40, "are_weighings", "are_weighings", ["value", "most", "one"], ["value", "most"], fd_are_weighings, top 17⟩
def d_is_plan : DefI := ⟨84, "is_plan", "is_plan", ["value"], ["value"], fd_is_plan, top 18⟩
def d_check_plan : DefI := ⟨53, "check_plan", "check_plan", ["value"], ["value"], fd_check_plan, top 19⟩
def d_check_things : DefI := ⟨58, "check_things", "check_things", ["value"], ["value"], fd_check_things, top 20⟩
def d_check_sort : DefI := ⟨56, "check_sort", "check_sort", ["value"], ["value"], fd_check_sort, top 21⟩
def d_found_weighings : DefI := ⟨75, "found_weighings", "found_weighings", ["things", "sort", "thing", "low", "rows", "row", "one"], ["things", "sort"], fd_found_weighings, top 22⟩
def d_all_weighings : DefI := ⟨38, "all_weighings", "all_weighings", ["things", "sort"], ["things", "sort"], fd_all_weighings, top 23⟩
def d_determinant : DefI := ⟨62, "determinant", "determinant", ["table", "found", "k", "one", "rest", "row"], ["table"], fd_determinant, top 25⟩
def d_without_cross : DefI := ⟨124, "without_cross", "without_cross", ["table", "row", "column", "k", "line"], ["table", "row", "column"], fd_without_cross, top 26⟩
def d_first_place : DefI := ⟨68, "first_place", "first_place", ["row", "k", "one"], ["row"], fd_first_place, top 27⟩
def d_reduced : DefI := ⟨104, "reduced", "reduced", ["row", "rows", "other", "place", "one", "two"], ["row", "rows"], fd_reduced, top 28⟩
def d_independent : DefI := ⟨78, "independent", "independent", ["rows", "found", "row", "one"], ["rows"], fd_independent, top 29⟩
def d_rank : DefI := ⟨103, "rank", "rank", ["rows"], ["rows"], fd_rank, top 30⟩
def d_square_of : DefI := ⟨117, "square_of", "square_of", ["plan", "things", "i", "j", "row"], ["plan"], fd_square_of, top 31⟩
def d_value_of : DefI := ⟨122, "value_of", "value_of", ["plan", "goal", "table", "whole", "parts", "k"], ["plan", "goal"], fd_value_of, top 33⟩
def d_single_weighings : DefI := ⟨111, "single_weighings", "single_weighings", ["things", "sort", "row", "one"], ["things", "sort"], fd_single_weighings, top 34⟩
def d_count_of : DefI := ⟨61, "count_of", "count_of", ["choices", "many", "found", "k"], ["choices", "many"], fd_count_of, top 35⟩
def d_found_best : DefI := ⟨70, "found_best", "found_best", ["things", "many", "sort", "goal", "some", "rows", "time", "row", "best", "found", "plan", "value", "k"], ["things", "many", "sort", "goal"], fd_found_best, top 36⟩
def d_best_plan : DefI := ⟨45, "best_plan", "best_plan", ["things", "many", "sort", "goal"], ["things", "many", "sort", "goal"], fd_best_plan, top 37⟩
def d_best_value : DefI := ⟨47, "best_value", "best_value", ["things", "many", "sort", "goal"], ["things", "many", "sort", "goal"], fd_best_value, top 38⟩
def d_does_settle : DefI := ⟨65, "does_settle", "does_settle", ["plan"], ["plan"], fd_does_settle, top 40⟩
def d_settles : DefI := ⟨108, "settles", "settles", ["plan"], ["plan"], fd_settles, top 41⟩
def d_check_settled : DefI := ⟨55, "check_settled", "check_settled", ["plan"], ["plan"], fd_check_settled, top 42⟩
def d_found_ties : DefI := ⟨74, "found_ties", "found_ties", ["plan", "table", "found", "i", "whole", "things", "row", "j", "part"], ["plan"], fd_found_ties, top 43⟩
def d_ties : DefI := ⟨120, "ties", "ties", ["plan"], ["plan"], fd_ties, top 44⟩
def d__law_town : DefI := ⟨30, "_law_town", "_law_town", ["script"], ["script"], fd__law_town, top 46⟩
def d__law_draw : DefI := ⟨7, "_law_draw", "_law_draw", ["script", "town", "limit", "at", "left", "number"], ["script", "town", "limit"], fd__law_draw, top 47⟩
def d__law_pick : DefI := ⟨17, "_law_pick", "_law_pick", ["script", "town", "choices"], ["script", "town", "choices"], fd__law_pick, top 48⟩
def d__law_ratio : DefI := ⟨22, "_law_ratio", "_law_ratio", ["top", "bottom", "one", "two"], ["top", "bottom"], fd__law_ratio, top 49⟩
def d__law_plus : DefI := ⟨19, "_law_plus", "_law_plus", ["one", "two"], ["one", "two"], fd__law_plus, top 50⟩
def d__law_times : DefI := ⟨29, "_law_times", "_law_times", ["one", "two"], ["one", "two"], fd__law_times, top 51⟩
def d__law_below : DefI := ⟨3, "_law_below", "_law_below", ["one", "two"], ["one", "two"], fd__law_below, top 52⟩
def d__law_sum_of : DefI := ⟨28, "_law_sum_of", "_law_sum_of", ["some", "found", "one"], ["some"], fd__law_sum_of, top 53⟩
def d__law_det : DefI := ⟨6, "_law_det", "_law_det", ["table", "found", "k", "rest", "part", "row"], ["table"], fd__law_det, top 54⟩
def d__law_value : DefI := ⟨32, "_law_value", "_law_value", ["plan", "goal", "table", "sizes", "best", "one", "k", "row"], ["plan", "goal"], fd__law_value, top 55⟩
def fd_law : FD := ⟨1, 18, (.cons (.set 1 .heap (.call (.fn 30) (.cons (.var 0) .nil))) (.cons (.par2 9 .fz 10 .fz (.bin .add (.int 1) (.call (.fn 7) (.cons (.var 0) (.cons (.var 1) (.cons (.int 3) .nil))))) (.call (.fn 17) (.cons (.var 0) (.cons (.var 1) (.cons (.lst (.cons (.str "both") (.cons (.str "one") .nil))) .nil))))) (.cons (.set 2 .fz (.bin .add (.var 9) (.call (.fn 7) (.cons (.var 0) (.cons (.var 1) (.cons (.idx (.tup (.cons (.int 4) (.cons (.int 3) (.cons (.bin .add (.int 1) (.p1 .int (.cmp .eq (.var 10) (.str "one")))) .nil)))) (.bin .sub (.var 9) (.int 1))) .nil)))))) (.cons (.set 3 .fz (.call (.fn 17) (.cons (.var 0) (.cons (.var 1) (.cons (.lst (.cons (.str "sum") (.cons (.str "worst") (.cons (.str "whole") .nil)))) .nil))))) (.cons (.set 4 .fz (.comp (.nm 12) (.seq (.call (.fn 38) (.cons (.var 9) (.cons (.var 10) .nil)))) (.so (.cmp .eq (.idx (.comp (.nm 17) (.seq (.var 12)) (.so (.cmp .ne (.var 17) (.int 0))) (.var 17)) (.int 0)) (.int 1))) (.var 12))) (.cons (.set 5 .fz (.lst (.cons (.tup .nil) .nil))) (.cons (.forr (.nm 6) (.rng1 (.var 2)) (.cons (.set 11 .fz (.lst .nil)) (.cons (.forr (.nm 12) (.seq (.var 5)) (.cons (.set 11 .fz (.bin .add (.var 11) (.comp (.nm 17) (.seq (.var 4)) (.so (.bo false (.cons (.cmp .eq (.var 12) (.tup .nil)) (.cons (.cmp .le (.idx (.var 12) (.neg (.int 1))) (.var 17)) .nil)))) (.bin .add (.var 12) (.tup (.cons (.var 17) .nil)))))) .nil)) (.cons (.set 5 .fz (.var 11)) .nil)))) (.cons (.set 5 .fz (.comp (.nm 7) (.seq (.var 5)) (.so (.call (.fn 108) (.cons (.var 7) .nil))) (.var 7))) (.cons (.par2 13 .fz 14 .fz .non .non) (.cons (.forr (.nm 7) (.seq (.ite (.cmp .gt (.p1 .len (.var 5)) (.int 200)) (.slc (.var 5) .no (.so (.int 60))) (.var 5))) (.cons (.set 15 .fz (.call (.fn 32) (.cons (.var 7) (.cons (.var 3) .nil)))) (.cons (.cond (.bo false (.cons (.cmp .is (.var 13) .non) (.cons (.call (.fn 3) (.cons (.var 15) (.cons (.var 13) .nil))) .nil))) (.cons (.par2 13 .fz 14 .fz (.var 15) (.var 7)) .nil) .nil) .nil))) (.cons (.par2 16 .fz 15 .fz (.call (.fn 45) (.cons (.var 9) (.cons (.var 2) (.cons (.var 10) (.cons (.var 3) .nil))))) (.call (.fn 47) (.cons (.var 9) (.cons (.var 2) (.cons (.var 10) (.cons (.var 3) .nil)))))) (.cons (.cond (.bo false (.cons (.cmp .notin (.var 16) (.var 5)) (.cons (.cmp .ne (.call (.fn 32) (.cons (.var 16) (.cons (.var 3) .nil))) (.var 15)) (.cons (.call (.fn 3) (.cons (.var 13) (.cons (.var 15) .nil))) .nil)))) (.cons (.ret (.bl false)) .nil) .nil) (.cons (.cond (.bo true (.cons (.cmp .le (.p1 .len (.var 5)) (.int 200)) (.cons (.cmp .ne (.tup (.cons (.var 16) (.cons (.var 15) .nil))) (.tup (.cons (.var 14) (.cons (.var 13) .nil)))) .nil))) (.cons (.ret (.bl false)) .nil) .nil) (.cons (.forr (.nm 8) (.rng1 (.int 6)) (.cons (.set 7 .fz (.call (.fn 17) (.cons (.var 0) (.cons (.var 1) (.cons (.var 5) .nil))))) (.cons (.set 17 .fz (.call (.fn 32) (.cons (.var 7) (.cons (.var 3) .nil)))) (.cons (.cond (.bo false (.cons (.call (.fn 3) (.cons (.var 17) (.cons (.var 15) .nil))) (.cons (.bo true (.cons (.cmp .eq (.var 17) (.var 15)) (.cons (.cmp .lt (.var 7) (.var 16)) .nil))) .nil))) (.cons (.ret (.bl false)) .nil) .nil) .nil)))) (.cons (.ret (.not (.call (.fn 3) (.cons (.call (.fn 32) (.cons (.var 16) (.cons (.str "worst") .nil))) (.cons (.tup (.cons (.int 1) (.cons (.var 2) .nil))) .nil))))) .nil)))))))))))))))⟩
def d_law : DefI := ⟨88, "law", "law", ["script", "town", "many", "goal", "some", "rows", "turn", "plan", "k", "things", "sort", "later", "row", "best", "first", "value", "found", "one"], ["script"], fd_law, top 56⟩
def dl : List DefI := [d_is_between, d_divisor_of, d_shortened, d_fraction, d_is_below, d_is_weighing, d_are_weighings, d_is_plan, d_check_plan, d_check_things, d_check_sort, d_found_weighings, d_all_weighings, d_determinant, d_without_cross, d_first_place, d_reduced, d_independent, d_rank, d_square_of, d_value_of, d_single_weighings, d_count_of, d_found_best, d_best_plan, d_best_value, d_does_settle, d_settles, d_check_settled, d_found_ties, d_ties, d__law_town, d__law_draw, d__law_pick, d__law_ratio, d__law_plus, d__law_times, d__law_below, d__law_sum_of, d__law_det, d__law_value, d_law]
def fl0 : List (Str × Nat) := [("is_between", 81), ("divisor_of", 63), ("shortened", 110), ("fraction", 77), ("is_below", 80), ("is_weighing", 87), ("are_weighings", 40), ("is_plan", 84), ("check_plan", 53), ("check_things", 58), ("check_sort", 56), ("found_weighings", 75), ("all_weighings", 38), ("determinant", 62), ("without_cross", 124), ("first_place", 68), ("reduced", 104), ("independent", 78), ("rank", 103), ("square_of", 117), ("value_of", 122), ("single_weighings", 111), ("count_of", 61), ("found_best", 70), ("best_plan", 45)]
def fl1 : List (Str × Nat) := [("best_value", 47), ("does_settle", 65), ("settles", 108), ("check_settled", 55), ("found_ties", 74), ("ties", 120), ("_law_town", 30), ("_law_draw", 7), ("_law_pick", 17), ("_law_ratio", 22), ("_law_plus", 19), ("_law_times", 29), ("_law_below", 3), ("_law_sum_of", 28), ("_law_det", 6), ("_law_value", 32), ("law", 88)]
def fl : List (Str × Nat) := fl0 ++ fl1
def cl0 : List (Str × Nat) := [("WeighError", 0), ("InvalidPlan", 1), ("InvalidThings", 5), ("InvalidSort", 6), ("InvalidGoal", 7), ("InvalidMany", 11), ("NotSettled", 16), ("TooMany", 19)]
def cl : List (Str × Nat) := cl0
def txt : Txt := ⟨dl, fl, cl⟩
theorem b_is_between : d_is_between.Bnd := fun _ _ _ _ _ _ us hl => match us, hl with | [_, _, _], _ => rfl
theorem b_divisor_of : d_divisor_of.Bnd := fun _ _ _ _ _ _ us hl => match us, hl with | [_, _], _ => rfl
theorem b_shortened : d_shortened.Bnd := fun _ _ _ _ _ _ us hl => match us, hl with | [_], _ => rfl
theorem b_fraction : d_fraction.Bnd := fun _ _ _ _ _ _ us hl => match us, hl with | [_, _], _ => rfl
theorem b_is_below : d_is_below.Bnd := fun _ _ _ _ _ _ us hl => match us, hl with | [_, _], _ => rfl
theorem b_is_weighing : d_is_weighing.Bnd := fun _ _ _ _ _ _ us hl => match us, hl with | [_, _], _ => rfl
theorem b_are_weighings : d_are_weighings.Bnd := fun _ _ _ _ _ _ us hl => match us, hl with | [_, _], _ => rfl
theorem b_is_plan : d_is_plan.Bnd := fun _ _ _ _ _ _ us hl => match us, hl with | [_], _ => rfl
theorem b_check_plan : d_check_plan.Bnd := fun _ _ _ _ _ _ us hl => match us, hl with | [_], _ => rfl
theorem b_check_things : d_check_things.Bnd := fun _ _ _ _ _ _ us hl => match us, hl with | [_], _ => rfl
theorem b_check_sort : d_check_sort.Bnd := fun _ _ _ _ _ _ us hl => match us, hl with | [_], _ => rfl
theorem b_found_weighings : d_found_weighings.Bnd := fun _ _ _ _ _ _ us hl => match us, hl with | [_, _], _ => rfl
theorem b_all_weighings : d_all_weighings.Bnd := fun _ _ _ _ _ _ us hl => match us, hl with | [_, _], _ => rfl
theorem b_determinant : d_determinant.Bnd := fun _ _ _ _ _ _ us hl => match us, hl with | [_], _ => rfl
theorem b_without_cross : d_without_cross.Bnd := fun _ _ _ _ _ _ us hl => match us, hl with | [_, _, _], _ => rfl
theorem b_first_place : d_first_place.Bnd := fun _ _ _ _ _ _ us hl => match us, hl with | [_], _ => rfl
theorem b_reduced : d_reduced.Bnd := fun _ _ _ _ _ _ us hl => match us, hl with | [_, _], _ => rfl
theorem b_independent : d_independent.Bnd := fun _ _ _ _ _ _ us hl => match us, hl with | [_], _ => rfl
theorem b_rank : d_rank.Bnd := fun _ _ _ _ _ _ us hl => match us, hl with | [_], _ => rfl
theorem b_square_of : d_square_of.Bnd := fun _ _ _ _ _ _ us hl => match us, hl with | [_], _ => rfl
theorem b_value_of : d_value_of.Bnd := fun _ _ _ _ _ _ us hl => match us, hl with | [_, _], _ => rfl
theorem b_single_weighings : d_single_weighings.Bnd := fun _ _ _ _ _ _ us hl => match us, hl with | [_, _], _ => rfl
theorem b_count_of : d_count_of.Bnd := fun _ _ _ _ _ _ us hl => match us, hl with | [_, _], _ => rfl
theorem b_found_best : d_found_best.Bnd := fun _ _ _ _ _ _ us hl => match us, hl with | [_, _, _, _], _ => rfl
theorem b_best_plan : d_best_plan.Bnd := fun _ _ _ _ _ _ us hl => match us, hl with | [_, _, _, _], _ => rfl
theorem b_best_value : d_best_value.Bnd := fun _ _ _ _ _ _ us hl => match us, hl with | [_, _, _, _], _ => rfl
theorem b_does_settle : d_does_settle.Bnd := fun _ _ _ _ _ _ us hl => match us, hl with | [_], _ => rfl
theorem b_settles : d_settles.Bnd := fun _ _ _ _ _ _ us hl => match us, hl with | [_], _ => rfl
theorem b_check_settled : d_check_settled.Bnd := fun _ _ _ _ _ _ us hl => match us, hl with | [_], _ => rfl
theorem b_found_ties : d_found_ties.Bnd := fun _ _ _ _ _ _ us hl => match us, hl with | [_], _ => rfl
theorem b_ties : d_ties.Bnd := fun _ _ _ _ _ _ us hl => match us, hl with | [_], _ => rfl
theorem b__law_town : d__law_town.Bnd := fun _ _ _ _ _ _ us hl => match us, hl with | [_], _ => rfl
theorem b__law_draw : d__law_draw.Bnd := fun _ _ _ _ _ _ us hl => match us, hl with | [_, _, _], _ => rfl
theorem b__law_pick : d__law_pick.Bnd := fun _ _ _ _ _ _ us hl => match us, hl with | [_, _, _], _ => rfl
theorem b__law_ratio : d__law_ratio.Bnd := fun _ _ _ _ _ _ us hl => match us, hl with | [_, _], _ => rfl
theorem b__law_plus : d__law_plus.Bnd := fun _ _ _ _ _ _ us hl => match us, hl with | [_, _], _ => rfl
theorem b__law_times : d__law_times.Bnd := fun _ _ _ _ _ _ us hl => match us, hl with | [_, _], _ => rfl
theorem b__law_below : d__law_below.Bnd := fun _ _ _ _ _ _ us hl => match us, hl with | [_, _], _ => rfl
theorem b__law_sum_of : d__law_sum_of.Bnd := fun _ _ _ _ _ _ us hl => match us, hl with | [_], _ => rfl
theorem b__law_det : d__law_det.Bnd := fun _ _ _ _ _ _ us hl => match us, hl with | [_], _ => rfl
theorem b__law_value : d__law_value.Bnd := fun _ _ _ _ _ _ us hl => match us, hl with | [_, _], _ => rfl
theorem b_law : d_law.Bnd := fun _ _ _ _ _ _ us hl => match us, hl with | [_], _ => rfl
theorem nd : (dl.map (·.f)).Nodup := by decide +kernel
theorem chk : (txt.dl.all fun d => d.chk txt.tab) = true := by decide +kernel
theorem bnd : ∀ d ∈ txt.dl, d.Bnd := fun d hd => by
  have hd : d ∈ dl := hd
  unfold dl at hd
  simp only [List.mem_cons, List.not_mem_nil, or_false] at hd
  rcases hd with rfl | rfl | rfl | rfl | rfl | rfl | rfl | rfl | rfl | rfl | rfl | rfl | rfl | rfl | rfl | rfl | rfl | rfl | rfl | rfl | rfl | rfl | rfl | rfl | rfl | rfl | rfl | rfl | rfl | rfl | rfl | rfl | rfl | rfl | rfl | rfl | rfl | rfl | rfl | rfl | rfl | rfl
  · exact b_is_between
  · exact b_divisor_of
  · exact b_shortened
  · exact b_fraction
  · exact b_is_below
  · exact b_is_weighing
  · exact b_are_weighings
  · exact b_is_plan
  · exact b_check_plan
  · exact b_check_things
  · exact b_check_sort
  · exact b_found_weighings
  · exact b_all_weighings
  · exact b_determinant
  · exact b_without_cross
  · exact b_first_place
  · exact b_reduced
  · exact b_independent
  · exact b_rank
  · exact b_square_of
  · exact b_value_of
  · exact b_single_weighings
  · exact b_count_of
  · exact b_found_best
  · exact b_best_plan
  · exact b_best_value
  · exact b_does_settle
  · exact b_settles
  · exact b_check_settled
  · exact b_found_ties
  · exact b_ties
  · exact b__law_town
  · exact b__law_draw
  · exact b__law_pick
  · exact b__law_ratio
  · exact b__law_plus
  · exact b__law_times
  · exact b__law_below
  · exact b__law_sum_of
  · exact b__law_det
  · exact b__law_value
  · exact b_law
end K50

set_option Elab.async false
set_option linter.all false
set_option maxRecDepth 100000
set_option maxHeartbeats 0
namespace Mi
open PySem PySem.Spec L2 PyProof.Rows
section
variable {h : Mi.Heap}
theorem q_nilP {xs : List (List Int)} : cop .eq (.tup (xs.map eRow)) (.tup []) h = some xs.isEmpty := eqD_nil (f := eRow) (E := eqInt.tup) (by omega)
theorem intsOf_ints : ∀ l : List Int, intsOf (l.map Val.int) = some l
  | [] => rfl
  | x :: l => by
    rw [List.map_cons]
    unfold intsOf
    rw [intsOf_ints l]
theorem le_row {a b : List Int} : cop .le (eRow a) (eRow b) h = some (leT a b) := by
  show (match intsOf (a.map Val.int), intsOf (b.map Val.int) with | some is, some js => some (leT is js) | _, _ => none) = _
  rw [intsOf_ints, intsOf_ints]
theorem rowsOf_rows : ∀ l : List (List Int), rowsOf (l.map eRow) = some l
  | [] => rfl
  | x :: l => by
    rw [List.map_cons]
    unfold rowsOf
    rw [intsOf_ints, rowsOf_rows l]
theorem lt_plan {a b : List (List Int)} (ha : a ≠ []) : cop .lt (ePlan a) (ePlan b) h = some (ltTT a b) := by
  have e : intsOf (a.map eRow) = none := by
    cases a with
    | nil => exact (ha rfl).elim
    | cons r rs => rfl
  show (match intsOf (a.map eRow), intsOf (b.map eRow) with | some is, some js => some (HT.lexLt is js) | _, _ => match rowsOf (a.map eRow), rowsOf (b.map eRow) with | some is, some js => some (ltTT is js) | _, _ => none) = _
  rw [e, rowsOf_rows, rowsOf_rows]
def EqE.up {α : Type} {f : α → Val} {k l : Nat} (E : EqE f k) (hk : k ≤ l) : EqE f l := ⟨E.d, E.to, E.nr, E.lay, fun a => Nat.le_trans (E.dep a) hk, E.inj⟩
def eqQ : EqE eQ 2 where
  d r := .tuple [.int r.num, .int (r.den : Int)]
  to r := by simp only [toD, toDs]
  nr _ _ := rfl
  lay r := by simp [PyData.canLay0, PyData.canLayAll0]
  dep r := by simp [PyData.depth, PyData.depthAll]
  inj a b := by
    simp only [PyData.eqv, PyData.eqvAll, Bool.and_eq_true, Bool.and_true, beq_iff_eq]
    constructor
    · rintro ⟨x, y⟩
      exact Rat.ext x (by omega)
    · rintro rfl
      exact ⟨rfl, rfl⟩
def eqPlan : EqE ePlan 3 := eqInt.tup.tup
theorem EqE.notin {α : Type} [DecidableEq α] {f : α → Val} {k : Nat} (E : EqE f k) (hk : k < 64) {a : α} {xs : List α} {kd : Kd} : cop .notin (f a) (.lst kd (xs.map f)) h = some (!(decide (a ∈ xs))) := by
  show (inSeq h (f a) (.lst kd (xs.map f))).map (!·) = _
  have e : inSeq h (f a) (.lst kd (xs.map f)) = some (xs.contains a) := by
    show (match toD (f a), toDs (xs.map f) with | some d, some ds => if SeqAt.shaped d && SeqAt.shaped (.list ds) then some (ds.any fun z => PyData.eqv z d) else none | _, _ => none) = _
    rw [E.to, toDs_map E.to]
    have s1 : SeqAt.shaped (E.d a) = true := Bool.and_eq_true_iff.mpr ⟨E.lay a, decide_eq_true (Nat.le_trans (E.dep a) (by omega))⟩
    have s2 : SeqAt.shaped (.list (xs.map E.d)) = true := Bool.and_eq_true_iff.mpr ⟨by simp only [PyData.canLay0]; exact lay_all E.lay xs, decide_eq_true (by have := dep_all E.dep xs; simp only [PyData.depth]; omega)⟩
    simp only [s1, s2, Bool.and_self, if_true]
    congr 1
    rw [List.any_map]
    show xs.any (fun z => PyData.eqv (E.d z) (E.d a)) = _
    induction xs with
    | nil => rfl
    | cons x xs ih =>
      rw [List.any_cons, List.contains_cons, ih (Bool.and_eq_true_iff.mpr ⟨by simp only [PyData.canLay0]; exact lay_all E.lay xs, decide_eq_true (by have := dep_all E.dep xs; simp only [PyData.depth]; omega)⟩)]
      congr 1
      by_cases e : x = a
      · rw [(E.inj x a).mpr e, e]; simp
      · have : PyData.eqv (E.d x) (E.d a) = false := Bool.eq_false_iff.mpr fun z => e ((E.inj x a).mp z)
        rw [this]
        simp
        exact fun z => e z.symm
  rw [e]
  have e2 : xs.contains a = decide (a ∈ xs) := by by_cases h : a ∈ xs <;> simp [h]
  rw [e2]
  rfl
end
def eOQ : Option Rat → Val
  | none => .non
  | some q => eQ q
/-- a loop whose turns change the heap -/
theorem for_heap {α : Type} {bd : Val → Slots → Option Slots} {body : Slots → Mi.Heap → R Fl} {f : α → Val} (I : Nat → Slots → Mi.Heap → Prop) : ∀ (xs : List α) (i : Nat) (ρ : Slots) (h : Mi.Heap), I i ρ h →
    (∀ j, j < i + xs.length → ∀ x ∈ xs, ∀ ρ h, I j ρ h → ∃ ρ1 ρ2 h2, bd (f x) ρ = some ρ1 ∧ body ρ1 h = .ok (.nx ρ2) h2 ∧ I (j + 1) ρ2 h2) → ∃ ρ' h', forL bd body (xs.map f) ρ h = .ok (.nx ρ') h' ∧ I (i + xs.length) ρ' h'
  | [], i, ρ, h, h0, _ => ⟨ρ, h, rfl, h0⟩
  | x :: xs, i, ρ, h, h0, H => by
    obtain ⟨ρ1, ρ2, h2, a, b, d⟩ := H i (by rw [List.length_cons]; omega) x List.mem_cons_self ρ h h0
    obtain ⟨ρ3, h3, e, f⟩ := for_heap I xs (i + 1) ρ2 h2 d (fun j hj y hy => H j (by rw [List.length_cons]; omega) y (List.mem_cons_of_mem _ hy))
    refine ⟨ρ3, h3, ?_, by rw [List.length_cons, show i + (xs.length + 1) = i + 1 + xs.length by omega]; exact f⟩
    rw [List.map_cons]
    unfold forL
    rw [a]
    simp only [b]
    exact e
end Mi

set_option Elab.async false
set_option linter.all false
set_option maxRecDepth 100000
set_option maxHeartbeats 0
namespace K50
open PySem PySem.Spec L2 PyProof.Rows Mi
local macro_rules | `(tactic| walk_at "sl") => `(tactic| repeat' (first | (with_reducible exact get_zero) | (with_reducible exact set_zero) | (with_reducible apply get_succ) | (with_reducible apply set_succ) | (with_reducible apply wipe_nm) | (with_reducible apply wipe_tp2) | (with_reducible apply wipe_2)))
local macro_rules | `(tactic| walk_at "op") => `(tactic| first | (with_reducible exact i_nn) | (with_reducible exact i_n) | (with_reducible exact i_tn) | (with_reducible exact i_t) | (with_reducible exact b_add) | (with_reducible exact o_sub) | (with_reducible exact eq_int) | (with_reducible exact ne_int) | (with_reducible exact o_lt) | (with_reducible exact o_le) | (with_reducible exact o_gt) | (with_reducible exact o_ge) | (with_reducible exact t_bl) | (with_reducible exact t_int) | (with_reducible exact x_fst) | (with_reducible exact x_snd) | (with_reducible exact l_tup) | (with_reducible exact l_lst) | (with_reducible exact p_tup) | (with_reducible exact p_lst) | (with_reducible exact p_lstT) | (with_reducible exact p_abs) | (with_reducible exact sum_ints) | (with_reducible exact sum_map) | (with_reducible exact all_map) | (with_reducible exact isin_i) | (with_reducible exact isin_b) | (with_reducible exact isin_t) | (with_reducible exact isin_str) | (with_reducible exact any_lst) | (with_reducible exact any_tup) | (with_reducible exact q_nilN) | (with_reducible exact s_cutL) | (with_reducible exact s_cutR1) | (with_reducible exact s_cut1) | (with_reducible apply b_mul) | (with_reducible apply b_fdiv) | (with_reducible apply b_mod) | (with_reducible apply o_addT1) | (with_reducible apply o_addTM) | (with_reducible apply o_addT) | ((with_reducible apply o_addL1); (first | decide | skip); (first | decide | skip)) | ((with_reducible apply o_addLM); (first | decide | skip); (first | decide | skip)) | ((with_reducible apply o_addL); (first | decide | skip); (first | decide | skip)) | (with_reducible apply x_tup0 (0 : Int)) | (with_reducible apply x_lst0 (0 : Int)) | (with_reducible apply x_tup0 ([] : List Int)) | (with_reducible apply x_lst0 ([] : List Int)) | (with_reducible apply x_last (0 : Nat)) | (with_reducible apply x_tup (0 : Int)) | (with_reducible apply x_lst (0 : Int)) | (with_reducible apply x_tup ([] : List Int)) | (with_reducible apply x_lst ([] : List Int)))
local macro_rules | `(tactic| walk_at "e1") => `(tactic| first | (with_reducible exact ev_int) | (with_reducible exact ev_bl) | (with_reducible exact ev_non) | (with_reducible exact ev_str) | (with_reducible exact ev_fn) | (with_reducible exact ev_cls) | (with_reducible exact ev_ty) | ((with_reducible apply ev_var); (focus walk_at "sl"); exact rfl) | (with_reducible apply ev_bin) | (with_reducible apply ev_neg) | (with_reducible apply ev_cmp) | (with_reducible apply ev_chn) | (with_reducible apply ev_not) | (with_reducible apply ev_bo) | (with_reducible apply bo_one) | (with_reducible apply bo_and) | (with_reducible apply bo_or) | (with_reducible apply ev_iteI) | (with_reducible apply ev_tup) | (with_reducible apply ev_lst) | (with_reducible exact evs_nil) | (with_reducible apply evs_cons) | (with_reducible apply ev_idx) | (with_reducible exact evo_no) | (with_reducible apply evo_so) | (with_reducible apply ev_slc) | (with_reducible apply ev_call) | (with_reducible apply ev_p1) | (with_reducible apply ev_p2) | (with_reducible apply ev_m1) | (with_reducible exact evT_no) | (with_reducible apply evT_so) | (with_reducible exact fits_of (by first | exact Nat.zero_le _ | (simp only [List.length_cons, List.length_nil]; omega))) | (with_reducible apply it_seq) | (with_reducible apply it_rng1) | (with_reducible apply it_rng2) | (with_reducible apply it_enum) | (with_reducible apply it_zip) | (with_reducible apply ev_compM) | (with_reducible apply ev_compP) | (with_reducible apply ev_comp2P) | (intro _ _; (with_reducible apply Elt.mk)) | (intro _ _; (with_reducible apply EltP.mk)) | (intro _ _; (with_reducible apply Elt2.mk)) | ((with_reducible apply bT_nm); walk_at "sl"; done) | (with_reducible apply bT_tp2))
local macro_rules | `(tactic| walk_at "s1") => `(tactic| first | (with_reducible exact exs_nil) | (with_reducible apply exs_appc) | (with_reducible apply exs_appn) | (with_reducible apply exs_set) | (with_reducible apply exs_par2) | (with_reducible apply exs_par3) | (with_reducible apply exs_ret) | (with_reducible exact exs_rais) | (with_reducible apply exs_pas) | (with_reducible apply exs_ex) | (with_reducible apply exs_unp) | (with_reducible apply exs_app1) | (with_reducible apply keep_fz) | (with_reducible apply keep_own) | (with_reducible apply keep_heap))
local macro_rules | `(tactic| walk_at "rf") => `(tactic| first | ((with_reducible apply k_fz); exact rfl) | ((with_reducible apply k_un); exact rfl) | ((with_reducible apply k_it); exact rfl) | ((with_reducible apply k_sq); exact rfl) | ((with_reducible apply k_br); exact rfl) | ((with_reducible apply k_m1); exact rfl) | ((with_reducible apply k_set); walk_at "sl"; done) | ((with_reducible apply k_wipe); walk_at "sl"; done) | ((with_reducible apply k_get); walk_at "sl"; done))
local macro_rules | `(tactic| walk_at "mi") => `(tactic| repeat' (first | walk_at "e1" | walk_at "op" | walk_at "s1" | walk_at "rf" | (intro _; (first | walk_at "e1" | walk_at "s1"))))
local macro_rules | `(tactic| walk_at "mic") => `(tactic| repeat' (first | walk_at "e1" | walk_at "op" | walk_at "s1" | walk_at "rf" | ((with_reducible apply k_call); (with_reducible apply_assumption -exfalso -symm)) | (intro _; (first | walk_at "e1" | walk_at "s1"))))
local macro_rules | `(tactic| walk_at "sd") => `(tactic| first | assumption | omega | (simp only [List.length_range, List.length_map, List.length_cons, List.length_nil]; omega) | (simp only [List.mem_range, List.length_range, List.length_map] at *; omega))
local macro_rules | `(tactic| walk_at "st") => `(tactic| simp only [List.map_cons, List.map_nil, List.cons_append, List.nil_append, List.reduceReplicate, Nat.reduceSub])
abbrev NN : Nat := 2 ^ 9000
abbrev DD : Nat := 20
abbrev C (n : Nat) : Cf := callF (gOf dl) NN n
def s0 : Mi.S := (.set 1 .heap (.call (.fn 30) (.cons (.var 0) .nil)))
def s1 : Mi.S := (.par2 9 .fz 10 .fz (.bin .add (.int 1) (.call (.fn 7) (.cons (.var 0) (.cons (.var 1) (.cons (.int 3) .nil))))) (.call (.fn 17) (.cons (.var 0) (.cons (.var 1) (.cons (.lst (.cons (.str "both") (.cons (.str "one") .nil))) .nil)))))
def s2 : Mi.S := (.set 2 .fz (.bin .add (.var 9) (.call (.fn 7) (.cons (.var 0) (.cons (.var 1) (.cons (.idx (.tup (.cons (.int 4) (.cons (.int 3) (.cons (.bin .add (.int 1) (.p1 .int (.cmp .eq (.var 10) (.str "one")))) .nil)))) (.bin .sub (.var 9) (.int 1))) .nil))))))
def s3 : Mi.S := (.set 3 .fz (.call (.fn 17) (.cons (.var 0) (.cons (.var 1) (.cons (.lst (.cons (.str "sum") (.cons (.str "worst") (.cons (.str "whole") .nil)))) .nil)))))
def s4 : Mi.S := (.set 4 .fz (.comp (.nm 12) (.seq (.call (.fn 38) (.cons (.var 9) (.cons (.var 10) .nil)))) (.so (.cmp .eq (.idx (.comp (.nm 17) (.seq (.var 12)) (.so (.cmp .ne (.var 17) (.int 0))) (.var 17)) (.int 0)) (.int 1))) (.var 12)))
def s5 : Mi.S := (.set 5 .fz (.lst (.cons (.tup .nil) .nil)))
def s6 : Mi.S := (.forr (.nm 6) (.rng1 (.var 2)) (.cons (.set 11 .fz (.lst .nil)) (.cons (.forr (.nm 12) (.seq (.var 5)) (.cons (.set 11 .fz (.bin .add (.var 11) (.comp (.nm 17) (.seq (.var 4)) (.so (.bo false (.cons (.cmp .eq (.var 12) (.tup .nil)) (.cons (.cmp .le (.idx (.var 12) (.neg (.int 1))) (.var 17)) .nil)))) (.bin .add (.var 12) (.tup (.cons (.var 17) .nil)))))) .nil)) (.cons (.set 5 .fz (.var 11)) .nil))))
def s7 : Mi.S := (.set 5 .fz (.comp (.nm 7) (.seq (.var 5)) (.so (.call (.fn 108) (.cons (.var 7) .nil))) (.var 7)))
def s8 : Mi.S := (.par2 13 .fz 14 .fz .non .non)
def s9 : Mi.S := (.forr (.nm 7) (.seq (.ite (.cmp .gt (.p1 .len (.var 5)) (.int 200)) (.slc (.var 5) .no (.so (.int 60))) (.var 5))) (.cons (.set 15 .fz (.call (.fn 32) (.cons (.var 7) (.cons (.var 3) .nil)))) (.cons (.cond (.bo false (.cons (.cmp .is (.var 13) .non) (.cons (.call (.fn 3) (.cons (.var 15) (.cons (.var 13) .nil))) .nil))) (.cons (.par2 13 .fz 14 .fz (.var 15) (.var 7)) .nil) .nil) .nil)))
def s10 : Mi.S := (.par2 16 .fz 15 .fz (.call (.fn 45) (.cons (.var 9) (.cons (.var 2) (.cons (.var 10) (.cons (.var 3) .nil))))) (.call (.fn 47) (.cons (.var 9) (.cons (.var 2) (.cons (.var 10) (.cons (.var 3) .nil))))))
def s11 : Mi.S := (.cond (.bo false (.cons (.cmp .notin (.var 16) (.var 5)) (.cons (.cmp .ne (.call (.fn 32) (.cons (.var 16) (.cons (.var 3) .nil))) (.var 15)) (.cons (.call (.fn 3) (.cons (.var 13) (.cons (.var 15) .nil))) .nil)))) (.cons (.ret (.bl false)) .nil) .nil)
def s12 : Mi.S := (.cond (.bo true (.cons (.cmp .le (.p1 .len (.var 5)) (.int 200)) (.cons (.cmp .ne (.tup (.cons (.var 16) (.cons (.var 15) .nil))) (.tup (.cons (.var 14) (.cons (.var 13) .nil)))) .nil))) (.cons (.ret (.bl false)) .nil) .nil)
def s13 : Mi.S := (.forr (.nm 8) (.rng1 (.int 6)) (.cons (.set 7 .fz (.call (.fn 17) (.cons (.var 0) (.cons (.var 1) (.cons (.var 5) .nil))))) (.cons (.set 17 .fz (.call (.fn 32) (.cons (.var 7) (.cons (.var 3) .nil)))) (.cons (.cond (.bo false (.cons (.call (.fn 3) (.cons (.var 17) (.cons (.var 15) .nil))) (.cons (.bo true (.cons (.cmp .eq (.var 17) (.var 15)) (.cons (.cmp .lt (.var 7) (.var 16)) .nil))) .nil))) (.cons (.ret (.bl false)) .nil) .nil) .nil))))
def s14 : Mi.S := (.ret (.not (.call (.fn 3) (.cons (.call (.fn 32) (.cons (.var 16) (.cons (.str "worst") .nil))) (.cons (.tup (.cons (.int 1) (.cons (.var 2) .nil))) .nil)))))
theorem law_body : fd_law.body = (.cons s0 (.cons s1 (.cons s2 (.cons s3 (.cons s4 (.cons s5 (.cons s6 (.cons s7 (.cons s8 (.cons s9 (.cons s10 (.cons s11 (.cons s12 (.cons s13 (.cons s14 .nil))))))))))))))) := rfl
def rest : Mi.Ss := (.cons s4 (.cons s5 (.cons s6 (.cons s7 (.cons s8 (.cons s9 (.cons s10 (.cons s11 (.cons s12 (.cons s13 (.cons s14 .nil)))))))))))

theorem has : Has (gOf dl) [122, 117, 62, 77, 63, 124, 80, 70, 7, 17, 30, 108, 53, 84, 40, 87, 81, 65, 103, 78, 104, 110, 68, 32, 120, 55, 74, 6, 29, 19, 22, 28, 3] := fun f hf => by
  simp only [List.mem_cons, List.not_mem_nil, or_false] at hf
  rcases hf with rfl | rfl | rfl | rfl | rfl | rfl | rfl | rfl | rfl | rfl | rfl | rfl | rfl | rfl | rfl | rfl | rfl | rfl | rfl | rfl | rfl | rfl | rfl | rfl | rfl | rfl | rfl | rfl | rfl | rfl | rfl | rfl | rfl <;> rfl
def nextP (sm : List (List Int)) (rows : List (List (List Int))) : List (List (List Int)) := rows.flatMap fun r => (sm.filter fun o => r.isEmpty || leT (r.getLastD []) o).map fun o => r ++ [o]
def pRows (sm : List (List Int)) : Nat → List (List (List Int))
  | 0 => [[]]
  | t + 1 => nextP sm (pRows sm t)
theorem pRows_mem {sm : List (List Int)} : ∀ (t : Nat) (r : List (List Int)), r ∈ pRows sm t → r.length = t ∧ ∀ x ∈ r, x ∈ sm
  | 0, r, hr => by
    simp [pRows] at hr
    subst hr
    simp
  | t + 1, r, hr => by
    simp only [pRows, nextP, List.mem_flatMap, List.mem_map, List.mem_filter] at hr
    obtain ⟨r', h1, o, ⟨h2, _⟩, rfl⟩ := hr
    obtain ⟨a, b⟩ := pRows_mem t r' h1
    refine ⟨by simp [a], fun q hq => ?_⟩
    rcases List.mem_append.mp hq with e | e
    · exact b q e
    · simp at e; subst e; exact h2
def stepB (g : Goal) (w : Nat) (s : Option (Rat × List (List Int))) (p : List (List Int)) : Option (Rat × List (List Int)) := match s with
  | none => some (lawVal g w p, p)
  | some b => if decide (lawVal g w p < b.1) = true then some (lawVal g w p, p) else some b
theorem foldl_cat {α β : Type} (f : α → List β) : ∀ (xs : List α) (acc : List β), xs.foldl (fun a x => a ++ f x) acc = acc ++ xs.flatMap f
  | [], acc => by simp
  | x :: xs, acc => by rw [List.foldl_cons, foldl_cat f xs]; simp
theorem foldl_p {sm : List (List Int)} {α : Type} : ∀ (xs : List α) (t : Nat), xs.foldl (fun rows _ => nextP sm rows) (pRows sm t) = pRows sm (t + xs.length)
  | [], t => rfl
  | x :: xs, t => by
    rw [List.foldl_cons, List.length_cons]
    have := foldl_p (sm := sm) xs (t + 1)
    rw [show t + (xs.length + 1) = t + 1 + xs.length by omega]
    exact this
theorem row_step {sm : List (List Int)} {r : List (List Int)} {acc : List (List (List Int))} : (acc.map ePlan) ++ ((sm.filter fun o => r.isEmpty || leT (r.getLastD []) o).map fun o => ePlan (r ++ [o])) = (acc ++ (sm.filter fun o => r.isEmpty || leT (r.getLastD []) o).map fun o => r ++ [o]).map ePlan := by
  rw [List.map_append, List.map_map]
  rfl
theorem exists_of {r r' : R Fl} {v : Val} (e : r' = r) (hn : ∃ h', r = .ok (.rt v) h') : ∃ h', r' = .ok (.rt v) h' := e ▸ hn
theorem exists_for {α σ : Type} {c : Cf} {N : Nat} {ρ : Slots} {h : Mi.Heap} {v : Val} {t : Tg} {it : Mi.It} {b ss : Mi.Ss} {xs : List α} {f : α → Val} (Z : σ → Slots → Prop) (step : σ → α → σ) (s0 : σ) (hi : evIt c true it ρ h = .ok (xs.map f) h) (h0 : Z s0 ρ)
    (H : ∀ s, ∀ x ∈ xs, ∀ ρ, Z s ρ → Mi.Turn (bindT t) (exs c N b) (f x) ρ h (Z (step s x))) (hr : ∀ ρ1, Z (xs.foldl step s0) ρ1 → ∃ h', exs c N ss ρ1 h = .ok (.rt v) h') : ∃ h', exs c N (.cons (.forr t it b) ss) ρ h = .ok (.rt v) h' := by
  obtain ⟨ρ', e, d⟩ := for_fold (bd := bindT t) (body := exs c N b) Z step xs s0 ρ h0 (fun pre x post hp ρ hs => H _ x (by rw [hp]; simp) ρ hs)
  exact exists_of (exs_for hi e rfl) (hr ρ' d)
/-- the law behind its four draws -/
theorem rest_run {ns : List Int} (hn : ns.length ≤ 63) {B : Nat} {h : Mi.Heap} (hT : Tn ns B h) (hB : B < 1000) {w many : Nat} {sort : Str} {g : Goal} {sm : List (List Int)} {q b : Rat} {found first : List (List Int)} {m1 : Rat}
    (hw1 : 1 ≤ w) (hw : w ≤ 3) (hm1 : 1 ≤ many) (hm : many ≤ 8)
    (hsm : ∀ r ∈ sm, r.length = w ∧ (∀ x ∈ r, -1 ≤ x ∧ x ≤ 1) ∧ nzr r = true) (hsl : sm.length ≤ 1000)
    (hsome : ∀ x y m gl h, ev (C 19) (.comp (.nm 12) (.seq (.call (.fn 38) (.cons (.var 9) (.cons (.var 10) .nil)))) (.so (.cmp .eq (.idx (.comp (.nm 17) (.seq (.var 12)) (.so (.cmp .ne (.var 17) (.int 0))) (.var 17)) (.int 0)) (.int 1))) (.var 12)) [some x, some y, some m, some gl, none, none, none, none, none, some (.int (w : Int)), some (.str sort), none, none, none, none, none, none, none] h = .ok (.lst .own (sm.map eRow)) h)
    (h45 : ∀ h, C 19 45 [.int (w : Int), .int (many : Int), .str sort, .str g.s] h = .ok (ePlan found) h) (h47 : ∀ h, C 19 47 [.int (w : Int), .int (many : Int), .str sort, .str g.s] h = .ok (eQ q) h)
    (hlen : ∀ t ≤ many, (pRows sm t).length ≤ 100000)
    (hdet : ∀ r ∈ pRows sm many, settled w r = true → det w (sqT r w) ≠ 0)
    (hbest : (if decide ((200 : Int) < (((pRows sm many).filter (settled w)).length : Int)) = true then ((pRows sm many).filter (settled w)).take 60 else (pRows sm many).filter (settled w)).foldl (stepB g w) none = some (b, first))
    (hfound : found ∈ (pRows sm many).filter (settled w)) (hq : lawVal g w found = q) (hbq : decide (b < q) = false)
    (hsame : ((pRows sm many).filter (settled w)).length ≤ 200 → found = first ∧ q = b)
    (hall : ∀ r ∈ (pRows sm many).filter (settled w), decide (lawVal g w r < q) = false ∧ (lawVal g w r = q → ltTT r found = false))
    (hm1e : Val.tup [.int 1, .int (many : Int)] = eQ m1) (hm1s : Sz 100 m1) (hlast : decide (lawVal .worst w found < m1) = false) :
    ∃ h', exs (C 19) NN rest [some (scrV ns), some (.ref 0), some (.int (many : Int)), some (.str g.s), none, none, none, none, none, some (.int (w : Int)), some (.str sort), none, none, none, none, none, none, none] h = .ok (.rt (.bl true)) h' := by
  have planOf : ∀ r ∈ pRows sm many, Plan w r := fun r hr => by
    obtain ⟨a, d⟩ := pRows_mem many r hr
    exact ⟨by omega, by omega, hw1, by omega, fun x hx => (hsm x (d x hx)).1, fun x hx => (hsm x (d x hx)).2.1, fun x hx => (hsm x (d x hx)).2.2⟩
  have hset : ∀ r ∈ pRows sm many, ∀ h, C 19 108 [ePlan r] h = .ok (.bl (settled w r)) h := fun r hr h => plan_settles (G := gOf dl) (N := NN) (n := 12) (h := h) (planOf r hr) (Nat.le_refl _) (has.sub (S := [108, 53, 84, 40, 87, 81, 65, 103, 78, 104, 110, 68, 63]) rfl)
  have hval : ∀ (gg : Goal), ∀ r ∈ (pRows sm many).filter (settled w), ∀ h, C 19 32 [ePlan r, .str gg.s] h = .ok (eQ (lawVal gg w r)) h := fun gg r hr h => by
    obtain ⟨r1, r2⟩ := List.mem_filter.mp hr
    have := lvalue_spec (G := gOf dl) (N := NN) (n := 10 - w) (h := h) (planOf r r1) (Nat.le_refl _) (has.sub (S := [32, 120, 55, 53, 84, 40, 87, 81, 65, 103, 78, 104, 110, 68, 74, 117, 62, 124, 77, 63, 6, 29, 19, 22, 28, 3]) rfl) (g := gg) r2 (hdet r r1 r2) hw
    rw [show 10 - w + w + 9 = 19 by omega] at this
    exact this
  have hvsz : ∀ (gg : Goal), ∀ r ∈ (pRows sm many).filter (settled w), Sz 1000 (lawVal gg w r) := fun gg r hr => by
    obtain ⟨r1, r2⟩ := List.mem_filter.mp hr
    exact lawVal_sz (planOf r r1) (hdet r r1 r2) hw
  have hbel : ∀ {x y : Rat}, Sz 1000 x → Sz 1000 y → ∀ h, C 19 3 [eQ x, eQ y] h = .ok (.bl (decide (x < y))) h := fun hx hy h => lbelow_spec (G := gOf dl) (N := NN) (n := 18) (h := h) (has.sub (S := [3]) rfl) hx hy (by omega)
  have rowLen : ∀ t ≤ many, ∀ r ∈ pRows sm t, r.length ≤ 8 := fun t ht r hr => by have := (pRows_mem t r hr).1; omega
  unfold rest s4 s5 s6 s7 s8 s9 s10 s11 s12 s13 s14
  have body : ∀ (t6 l11 r12 : Option Val), ∃ h', exs (C 19) NN (.cons s7 (.cons s8 (.cons s9 (.cons s10 (.cons s11 (.cons s12 (.cons s13 (.cons s14 .nil)))))))) [some (scrV ns), some (.ref 0), some (.int (many : Int)), some (.str g.s), some (.lst .imm (sm.map eRow)), some (.lst .imm ((pRows sm many).map ePlan)), t6, none, none, some (.int (w : Int)), some (.str sort), l11, r12, none, none, none, none, none] h = .ok (.rt (.bl true)) h' := fun t6 l11 r12 => by
    have hRl : ((pRows sm many).filter (settled w)).length ≤ 100000 := Nat.le_trans (List.length_filter_le _ _) (hlen many (Nat.le_refl _))
    have hprl := hlen many (Nat.le_refl _)
    unfold s7
    apply exists_of
    · apply exs_set (h1 := h) (v := .lst .own (((pRows sm many).filter (settled w)).map ePlan))
      · apply ev_compP (xs := pRows sm many) (f := ePlan) (p := settled w) (w := ePlan)
        · walk_at "mi"
        · walk_at "sl"
        · intro r hr
          apply Mi.EltP.mk
          · walk_at "mi"
          · apply evT_so
            · walk_at "mi"
              exact hset r hr h
            · exact t_bl
          · intro _
            walk_at "mi"
          · rfl
        · omega
      · walk_at "mi"
      · exact rfl
    have hne : ∀ p ∈ (pRows sm many).filter (settled w), p ≠ [] := fun p hp z => by
      have := (planOf p (List.mem_filter.mp hp).1).pos
      rw [z] at this
      simp at this
    generalize (pRows sm many).filter (settled w) = Rr at *
    unfold s8
    apply exists_of
    · apply exs_par2
      · walk_at "mi"
      · walk_at "mi"
      · walk_at "mi"
      · walk_at "mi"
      · exact rfl
    have hRm : ∀ r ∈ (if decide ((200 : Int) < (Rr.length : Int)) = true then Rr.take 60 else Rr), r ∈ Rr := fun r hr => by
      split at hr
      · exact List.mem_of_mem_take hr
      · exact hr
    have hIt : evIt (C 19) true (.seq (.ite (.cmp .gt (.p1 .len (.var 5)) (.int 200)) (.slc (.var 5) .no (.so (.int 60))) (.var 5))) [some (scrV ns), some (.ref 0), some (.int (many : Int)), some (.str g.s), some (.lst .imm (sm.map eRow)), some (.lst .imm (Rr.map ePlan)), t6, none, none, some (.int (w : Int)), some (.str sort), l11, r12, some .non, some .non, none, none, none] h = .ok ((if decide ((200 : Int) < (Rr.length : Int)) = true then Rr.take 60 else Rr).map ePlan) h := by
      by_cases hc : decide ((200 : Int) < (Rr.length : Int)) = true
      · rw [if_pos hc]
        refine it_seq (x := .lst .own ((Rr.take 60).map ePlan)) ?_ rfl rfl
        apply ev_iteT
        · walk_at "mi"
        · walk_at "mi"
        · exact hc
        · apply ev_slc
          · walk_at "mi"
          · walk_at "mi"
          · walk_at "mi"
          · exact s_cutL (n := 60)
      · rw [if_neg hc]
        refine it_seq (x := .lst .imm (Rr.map ePlan)) ?_ rfl rfl
        apply ev_iteF
        · walk_at "mi"
        · walk_at "mi"
        · simpa using hc
        · walk_at "mi"
    generalize (if decide ((200 : Int) < (Rr.length : Int)) = true then Rr.take 60 else Rr) = Rt at *
    unfold s9
    apply exists_for (fun (s : Option (Rat × List (List Int))) ρ => (∀ u, s = some u → Sz 1000 u.1) ∧ ∃ a d, ρ = [some (scrV ns), some (.ref 0), some (.int (many : Int)), some (.str g.s), some (.lst .imm (sm.map eRow)), some (.lst .imm (Rr.map ePlan)), t6, a, none, some (.int (w : Int)), some (.str sort), l11, r12, some (eOQ (s.map (·.1))), some (eOP (s.map (·.2))), d, none, none]) (stepB g w) none hIt ⟨fun _ z => (by cases z), _, _, rfl⟩
    · intro s r hr ρ hs
      obtain ⟨hsz, a, d, rfl⟩ := hs
      have hv := hval g r (hRm r hr) h
      have hvz := hvsz g r (hRm r hr)
      cases s with
      | none =>
        show Mi.Turn _ _ _ _ _ (fun ρ => _)
        apply Mi.Turn.mk
        · walk_at "mi"
        · apply exs_set
          · walk_at "mi"
            exact hv
          · walk_at "mi"
          apply exs_condT
          · apply ev_bo
            exact bo_or (t := true) (u := false) (ev_cmp (ev_var (v := .non) (by exact rfl) rfl) ev_non i_n) (fun z => by cases z)
          · walk_at "mi"
          · rfl
          · walk_at "mi"
        · exact ⟨fun u hu => by cases hu; exact hvz, _, _, rfl⟩
      | some u =>
        have huz := hsz u rfl
        have hb := hbel hvz huz h
        by_cases hc : decide (lawVal g w r < u.1) = true
        · rw [hc] at hb
          rw [show stepB g w (some u) r = some (lawVal g w r, r) from by unfold stepB; simp only; rw [if_pos hc]]
          apply Mi.Turn.mk
          · walk_at "mi"
          · apply exs_set
            · walk_at "mi"
              exact hv
            · walk_at "mi"
            apply exs_condT
            · apply ev_bo
              exact bo_or (t := false) (ev_cmp (ev_var (v := eQ u.1) (by exact rfl) rfl) ev_non i_t) (fun z => bo_one (ev_call ev_fn (evs_cons (x := eQ (lawVal g w r)) (ev_var (v := eQ (lawVal g w r)) (by exact rfl) rfl) rfl (evs_cons (x := eQ u.1) (ev_var (v := eQ u.1) (by exact rfl) rfl) rfl evs_nil)) hb))
            · walk_at "mi"
            · rfl
            · walk_at "mi"
          · exact ⟨fun u hu => by cases hu; exact hvz, _, _, rfl⟩
        · have hc' : decide (lawVal g w r < u.1) = false := by simpa using hc
          rw [hc'] at hb
          rw [show stepB g w (some u) r = some u from by unfold stepB; simp only; rw [if_neg hc]]
          apply Mi.Turn.mk
          · walk_at "mi"
          · apply exs_set
            · walk_at "mi"
              exact hv
            · walk_at "mi"
            apply exs_condF
            · apply ev_bo
              exact bo_or (t := false) (ev_cmp (ev_var (v := eQ u.1) (by exact rfl) rfl) ev_non i_t) (fun z => bo_one (ev_call ev_fn (evs_cons (x := eQ (lawVal g w r)) (ev_var (v := eQ (lawVal g w r)) (by exact rfl) rfl) rfl (evs_cons (x := eQ u.1) (ev_var (v := eQ u.1) (by exact rfl) rfl) rfl evs_nil)) hb))
            · walk_at "mi"
            · rfl
            · walk_at "mi"
          · exact ⟨hsz, _, _, rfl⟩
    · intro ρ1 hs
      rw [hbest] at hs
      obtain ⟨hsz, a, d, rfl⟩ := hs
      have hbz : Sz 1000 b := hsz _ rfl
      clear hsz
      have hqz : Sz 1000 q := by rw [← hq]; exact hvsz g found hfound
      change ∃ h', exs _ _ _ [some (scrV ns), some (.ref 0), some (.int (many : Int)), some (.str g.s), some (.lst .imm (sm.map eRow)), some (.lst .imm (Rr.map ePlan)), t6, a, none, some (.int (w : Int)), some (.str sort), l11, r12, some (eQ b), some (ePlan first), d, none, none] h = _
      unfold s10
      apply exists_of
      · apply exs_par2
        · walk_at "mi"
          exact h45 h
        · walk_at "mi"
          exact h47 h
        · walk_at "mi"
        · walk_at "mi"
        · exact rfl
      have hvf := hval g found hfound h
      have hbb := hbel hbz hqz h
      unfold s11
      apply exists_of
      · apply exs_condF
        · apply ev_bo
          apply bo_or
          · apply ev_cmp
            · walk_at "mi"
            · walk_at "mi"
            · exact eqPlan.notin (by omega)
          · intro _
            apply bo_or
            · apply ev_cmp
              · walk_at "mi"
                exact hvf
              · walk_at "mi"
              · exact eqQ.ne (by omega)
            · intro _
              apply bo_one
              walk_at "mi"
              exact hbb
        · exact t_bl
        · rw [hbq, hq]
          simp [hfound]
        · exact rfl
      apply exists_of
      · exact exs_appn rfl
      unfold s12
      apply exists_of
      · apply exs_condF (t := decide ((Rr.length : Int) ≤ 200) && decide ((found, q) ≠ (first, b)))
        · apply ev_bo
          apply bo_and
          · walk_at "mi"
          · intro _
            apply bo_one
            apply ev_cmp
            · walk_at "mi"
            · walk_at "mi"
            · exact (EqE.pair eqPlan (eqQ.up (l := 3) (by omega))).ne (by omega) (a := (found, q)) (b := (first, b))
        · exact t_bl
        · by_cases hc : Rr.length ≤ 200
          · obtain ⟨e1, e2⟩ := hsame hc
            rw [e1, e2]
            simp
          · rw [decide_eq_false (show ¬ ((Rr.length : Int) ≤ 200) by omega)]
            rfl
        · exact rfl
      apply exists_of
      · exact exs_appn rfl
      unfold s13
      obtain ⟨ρ', h', fe, hT', a', d', e', rfl⟩ := for_heap (f := fun i : Nat => Val.int (i : Int)) (bd := bindT (.nm 8)) (body := exs (C 19) NN (.cons (.set 7 .fz (.call (.fn 17) (.cons (.var 0) (.cons (.var 1) (.cons (.var 5) .nil))))) (.cons (.set 17 .fz (.call (.fn 32) (.cons (.var 7) (.cons (.var 3) .nil)))) (.cons (.cond (.bo false (.cons (.call (.fn 3) (.cons (.var 17) (.cons (.var 15) .nil))) (.cons (.bo true (.cons (.cmp .eq (.var 17) (.var 15)) (.cons (.cmp .lt (.var 7) (.var 16)) .nil))) .nil))) (.cons (.ret (.bl false)) .nil) .nil) .nil))))
        (fun j ρ h => Tn ns (B + j) h ∧ ∃ a d e, ρ = [some (scrV ns), some (.ref 0), some (.int (many : Int)), some (.str g.s), some (.lst .imm (sm.map eRow)), some (.lst .imm (Rr.map ePlan)), t6, a, d, some (.int (w : Int)), some (.str sort), l11, r12, some (eQ b), some (ePlan first), some (eQ q), some (ePlan found), e]) (List.range 6) 0 _ h ⟨hT, a, none, none, rfl⟩ (fun j hj x hx ρ h hs => by
          rw [List.length_range] at hj
          obtain ⟨hTj, a, d, e, rfl⟩ := hs
          have hx6 := List.mem_range.mp hx
          have hjB : B + j < 1000000 := by omega
          obtain ⟨p, h2, pe, pm, pT, _⟩ := pick_spec (G := gOf dl) (N := NN) (n := 17) (h := h) (has.sub (S := [17, 7]) rfl) hn hTj hjB (xs := Rr) (f := ePlan) rfl (by intro z; rw [z] at hfound; cases hfound) (by omega)
          have pe : C 19 17 [scrV ns, .ref 0, .lst .imm (Rr.map ePlan)] h = .ok (ePlan p) h2 := pe
          have hv := hval g p pm h2
          have hb2 := hbel (hvsz g p pm) hqz h2
          obtain ⟨a1, a2⟩ := hall p pm
          rw [a1] at hb2
          refine ⟨_, [some (scrV ns), some (.ref 0), some (.int (many : Int)), some (.str g.s), some (.lst .imm (sm.map eRow)), some (.lst .imm (Rr.map ePlan)), t6, some (ePlan p), some (.int (x : Int)), some (.int (w : Int)), some (.str sort), l11, r12, some (eQ b), some (ePlan first), some (eQ q), some (ePlan found), some (eQ (lawVal g w p))], h2, by walk_at "mi", ?_, ?_⟩
          · apply exs_set
            · walk_at "mi"
              exact pe
            · walk_at "mi"
            apply exs_set
            · walk_at "mi"
              exact hv
            · walk_at "mi"
            apply exs_condF (t := false || (decide (lawVal g w p = q) && ltTT p found))
            · apply ev_bo
              apply bo_or
              · walk_at "mi"
                exact hb2
              · intro _
                apply bo_one
                apply ev_bo
                apply bo_and
                · apply ev_cmp
                  · walk_at "mi"
                  · walk_at "mi"
                  · exact eqQ.eq (by omega)
                · intro _
                  apply bo_one
                  apply ev_cmp
                  · walk_at "mi"
                  · walk_at "mi"
                  · exact lt_plan (hne p pm)
            · exact t_bl
            · by_cases hc : lawVal g w p = q
              · rw [a2 hc]; simp
              · rw [decide_eq_false hc]; rfl
            · walk_at "mi"
          · exact ⟨by rw [← Nat.add_assoc]; exact pT, _, _, _, rfl⟩)
      apply exists_of
      · exact exs_for (it_rng1 (n := 6) (show ev _ _ _ h = .ok (.int ((6 : Nat) : Int)) h from ev_int) (by omega)) fe rfl
      have hvl := hval .worst found hfound h'
      have hvlz := hvsz .worst found hfound
      have hbl := hbel hvlz (hm1s.mono (show 100 ≤ 1000 by omega)) h'
      rw [hlast, ← hm1e] at hbl
      refine ⟨h', ?_⟩
      unfold s14
      apply exs_ret
      · apply ev_not
        · apply ev_call
          · walk_at "mi"
          · apply evs_cons
            · walk_at "mi"
              exact hvl
            · rfl
            · walk_at "mi"
          · exact hbl
        · exact t_bl
      · rfl
  unfold s7 s8 s9 s10 s11 s12 s13 s14 at body
  have loop : ∃ t6 l11 r12, ∀ ss, exs (C 19) NN (.cons (.forr (.nm 6) (.rng1 (.var 2)) (.cons (.set 11 .fz (.lst .nil)) (.cons (.forr (.nm 12) (.seq (.var 5)) (.cons (.set 11 .fz (.bin .add (.var 11) (.comp (.nm 17) (.seq (.var 4)) (.so (.bo false (.cons (.cmp .eq (.var 12) (.tup .nil)) (.cons (.cmp .le (.idx (.var 12) (.neg (.int 1))) (.var 17)) .nil)))) (.bin .add (.var 12) (.tup (.cons (.var 17) .nil)))))) .nil)) (.cons (.set 5 .fz (.var 11)) .nil)))) ss) [some (scrV ns), some (.ref 0), some (.int (many : Int)), some (.str g.s), some (.lst .imm (sm.map eRow)), some (.lst .imm ((pRows sm 0).map ePlan)), none, none, none, some (.int (w : Int)), some (.str sort), none, none, none, none, none, none, none] h = exs (C 19) NN ss [some (scrV ns), some (.ref 0), some (.int (many : Int)), some (.str g.s), some (.lst .imm (sm.map eRow)), some (.lst .imm ((pRows sm many).map ePlan)), t6, none, none, some (.int (w : Int)), some (.str sort), l11, r12, none, none, none, none, none] h := by
    obtain ⟨ρ', e, a, b', c, d⟩ := for_fold (h := h) (bd := bindT (.nm 6)) (f := fun i : Nat => Val.int (i : Int)) (body := exs (C 19) NN (.cons (.set 11 .fz (.lst .nil)) (.cons (.forr (.nm 12) (.seq (.var 5)) (.cons (.set 11 .fz (.bin .add (.var 11) (.comp (.nm 17) (.seq (.var 4)) (.so (.bo false (.cons (.cmp .eq (.var 12) (.tup .nil)) (.cons (.cmp .le (.idx (.var 12) (.neg (.int 1))) (.var 17)) .nil)))) (.bin .add (.var 12) (.tup (.cons (.var 17) .nil)))))) .nil)) (.cons (.set 5 .fz (.var 11)) .nil))))
      (fun (rows : List (List (List Int))) ρ => ∃ a b c, ρ = [some (scrV ns), some (.ref 0), some (.int (many : Int)), some (.str g.s), some (.lst .imm (sm.map eRow)), some (.lst .imm (rows.map ePlan)), a, none, none, some (.int (w : Int)), some (.str sort), b, c, none, none, none, none, none]) (fun rows _ => nextP sm rows) (List.range many) (pRows sm 0) _ ⟨none, none, none, rfl⟩ (fun pre x post hp ρ hs => by
        obtain ⟨a, b', c, rfl⟩ := hs
        obtain ⟨hpl, _⟩ := range_pre hp
        have e1 := foldl_p (sm := sm) pre 0
        rw [Nat.zero_add] at e1
        rw [e1]
        have b1 : (nextP sm (pRows sm pre.length)).length ≤ 100000 := hlen (pre.length + 1) (by omega)
        have rl := rowLen pre.length (by omega)
        generalize pRows sm pre.length = rows at *
        apply Mi.Turn.nx
        · walk_at "mi"
        · apply Nx_of
          · apply exs_set
            · walk_at "mi"
            · walk_at "mi"
            · exact rfl
          refine Nx_forP (fun (acc : List (List (List Int))) ρ => ∃ c, ρ = [some (scrV ns), some (.ref 0), some (.int (many : Int)), some (.str g.s), some (.lst .imm (sm.map eRow)), some (.lst .imm (rows.map ePlan)), some (.int (x : Int)), none, none, some (.int (w : Int)), some (.str sort), some (.lst .imm (acc.map ePlan)), c, none, none, none, none, none]) (fun acc r => acc ++ (sm.filter fun o => r.isEmpty || leT (r.getLastD []) o).map fun o => r ++ [o]) [] (by walk_at "mi") ⟨_, rfl⟩ (fun pre2 r post2 hp2 ρ hs => ?_) (fun ρ1 hs => ?_)
          · obtain ⟨c, rfl⟩ := hs
            have hr : r ∈ rows := by rw [hp2]; simp
            have hrl := rl r hr
            have al : (pre2.foldl (fun acc r => acc ++ (sm.filter fun o => r.isEmpty || leT (r.getLastD []) o).map fun o => r ++ [o]) []).length + ((sm.filter fun o => r.isEmpty || leT (r.getLastD []) o).map fun o => r ++ [o]).length ≤ 100000 := by
              rw [foldl_cat, List.nil_append]
              refine Nat.le_trans ?_ b1
              unfold nextP
              rw [hp2, List.flatMap_append, List.flatMap_cons, List.length_append, List.length_append]
              omega
            generalize pre2.foldl (fun acc r => acc ++ (sm.filter fun o => r.isEmpty || leT (r.getLastD []) o).map fun o => r ++ [o]) [] = acc at *
            apply Mi.Turn.mk
            · walk_at "mi"
            · apply exs_set (h1 := h) (v := .lst .own ((acc ++ (sm.filter fun o => r.isEmpty || leT (r.getLastD []) o).map fun o => r ++ [o]).map ePlan))
              · refine ev_conv (v := .lst .own ((acc.map ePlan) ++ ((sm.filter fun o => r.isEmpty || leT (r.getLastD []) o).map fun o => ePlan (r ++ [o])))) ?_ (by rw [row_step])
                apply ev_bin
                · walk_at "mi"
                · apply ev_compP (xs := sm) (f := eRow) (p := fun o => r.isEmpty || leT (r.getLastD []) o) (w := fun o => ePlan (r ++ [o]))
                  · walk_at "mi"
                  · walk_at "sl"
                  · intro o ho
                    apply Mi.EltP.mk
                    · walk_at "mi"
                    · apply evT_so
                      · apply ev_bo
                        apply bo_or
                        · apply ev_cmp
                          · walk_at "mi"
                          · walk_at "mi"
                          · exact q_nilP
                        · intro hne
                          apply bo_one
                          apply ev_cmp
                          · apply ev_idx
                            · walk_at "mi"
                            · walk_at "mi"
                            · exact x_last [] (by intro z; rw [z] at hne; cases hne)
                          · walk_at "mi"
                          · exact le_row
                      · exact t_bl
                    · intro _
                      walk_at "mi"
                      omega
                    · rfl
                  · omega
                · apply o_addL
                  · decide
                  · decide
                  · simp only [List.length_map] at al ⊢
                    omega
              · walk_at "mi"
              · walk_at "mi"
            · exact ⟨_, rfl⟩
          · obtain ⟨c, rfl⟩ := hs
            rw [foldl_cat, List.nil_append]
            apply Nx_end
            · walk_at "mi"
            · exact ⟨_, _, _, rfl⟩)
    have e1 := foldl_p (sm := sm) (List.range many) 0
    rw [Nat.zero_add, List.length_range] at e1
    rw [e1] at d
    subst d
    refine ⟨a, b', c, fun ss => exs_for (it_rng1 (n := many) (by walk_at "mi") (by omega)) e rfl⟩
  obtain ⟨t6, l11, r12, lp⟩ := loop
  obtain ⟨h', bd⟩ := body t6 l11 r12
  refine ⟨h', ?_⟩
  refine exs_set (h1 := h) (hsome _ _ _ _ h) (by walk_at "mi") ?_
  refine exs_set (h1 := h) (v := .lst .own [.tup []]) (by walk_at "mi") (by walk_at "mi") ?_
  refine (lp _).trans ?_
  exact bd
end K50

set_option Elab.async false
set_option linter.all false
set_option maxRecDepth 100000
set_option maxHeartbeats 0
namespace K50
open PySem PySem.Spec L2 PyProof.Rows Mi
local macro_rules | `(tactic| walk_at "sl") => `(tactic| repeat' (first | (with_reducible exact get_zero) | (with_reducible exact set_zero) | (with_reducible apply get_succ) | (with_reducible apply set_succ) | (with_reducible apply wipe_nm) | (with_reducible apply wipe_tp2) | (with_reducible apply wipe_2)))
local macro_rules | `(tactic| walk_at "op") => `(tactic| first | (with_reducible exact i_nn) | (with_reducible exact i_n) | (with_reducible exact i_tn) | (with_reducible exact i_t) | (with_reducible exact b_add) | (with_reducible exact o_sub) | (with_reducible exact eq_int) | (with_reducible exact ne_int) | (with_reducible exact o_lt) | (with_reducible exact o_le) | (with_reducible exact o_gt) | (with_reducible exact o_ge) | (with_reducible exact t_bl) | (with_reducible exact t_int) | (with_reducible exact x_fst) | (with_reducible exact x_snd) | (with_reducible exact l_tup) | (with_reducible exact l_lst) | (with_reducible exact p_tup) | (with_reducible exact p_lst) | (with_reducible exact p_lstT) | (with_reducible exact p_abs) | (with_reducible exact sum_ints) | (with_reducible exact sum_map) | (with_reducible exact all_map) | (with_reducible exact isin_i) | (with_reducible exact isin_b) | (with_reducible exact isin_t) | (with_reducible exact isin_str) | (with_reducible exact any_lst) | (with_reducible exact any_tup) | (with_reducible exact q_nilN) | (with_reducible exact s_cutL) | (with_reducible exact s_cutR1) | (with_reducible exact s_cut1) | (with_reducible apply b_mul) | (with_reducible apply b_fdiv) | (with_reducible apply b_mod) | (with_reducible apply o_addT1) | (with_reducible apply o_addTM) | (with_reducible apply o_addT) | ((with_reducible apply o_addL1); (first | decide | skip); (first | decide | skip)) | ((with_reducible apply o_addLM); (first | decide | skip); (first | decide | skip)) | ((with_reducible apply o_addL); (first | decide | skip); (first | decide | skip)) | (with_reducible apply x_tup0 (0 : Int)) | (with_reducible apply x_lst0 (0 : Int)) | (with_reducible apply x_tup0 ([] : List Int)) | (with_reducible apply x_lst0 ([] : List Int)) | (with_reducible apply x_last (0 : Nat)) | (with_reducible apply x_tup (0 : Int)) | (with_reducible apply x_lst (0 : Int)) | (with_reducible apply x_tup ([] : List Int)) | (with_reducible apply x_lst ([] : List Int)))
local macro_rules | `(tactic| walk_at "e1") => `(tactic| first | (with_reducible exact ev_int) | (with_reducible exact ev_bl) | (with_reducible exact ev_non) | (with_reducible exact ev_str) | (with_reducible exact ev_fn) | (with_reducible exact ev_cls) | (with_reducible exact ev_ty) | ((with_reducible apply ev_var); (focus walk_at "sl"); exact rfl) | (with_reducible apply ev_bin) | (with_reducible apply ev_neg) | (with_reducible apply ev_cmp) | (with_reducible apply ev_chn) | (with_reducible apply ev_not) | (with_reducible apply ev_bo) | (with_reducible apply bo_one) | (with_reducible apply bo_and) | (with_reducible apply bo_or) | (with_reducible apply ev_iteI) | (with_reducible apply ev_tup) | (with_reducible apply ev_lst) | (with_reducible exact evs_nil) | (with_reducible apply evs_cons) | (with_reducible apply ev_idx) | (with_reducible exact evo_no) | (with_reducible apply evo_so) | (with_reducible apply ev_slc) | (with_reducible apply ev_call) | (with_reducible apply ev_p1) | (with_reducible apply ev_p2) | (with_reducible apply ev_m1) | (with_reducible exact evT_no) | (with_reducible apply evT_so) | (with_reducible exact fits_of (by first | exact Nat.zero_le _ | (simp only [List.length_cons, List.length_nil]; omega))) | (with_reducible apply it_seq) | (with_reducible apply it_rng1) | (with_reducible apply it_rng2) | (with_reducible apply it_enum) | (with_reducible apply it_zip) | (with_reducible apply ev_compM) | (with_reducible apply ev_compP) | (with_reducible apply ev_comp2P) | (intro _ _; (with_reducible apply Elt.mk)) | (intro _ _; (with_reducible apply EltP.mk)) | (intro _ _; (with_reducible apply Elt2.mk)) | ((with_reducible apply bT_nm); walk_at "sl"; done) | (with_reducible apply bT_tp2))
local macro_rules | `(tactic| walk_at "s1") => `(tactic| first | (with_reducible exact exs_nil) | (with_reducible apply exs_appc) | (with_reducible apply exs_appn) | (with_reducible apply exs_set) | (with_reducible apply exs_par2) | (with_reducible apply exs_par3) | (with_reducible apply exs_ret) | (with_reducible exact exs_rais) | (with_reducible apply exs_pas) | (with_reducible apply exs_ex) | (with_reducible apply exs_unp) | (with_reducible apply exs_app1) | (with_reducible apply keep_fz) | (with_reducible apply keep_own) | (with_reducible apply keep_heap))
local macro_rules | `(tactic| walk_at "rf") => `(tactic| first | ((with_reducible apply k_fz); exact rfl) | ((with_reducible apply k_un); exact rfl) | ((with_reducible apply k_it); exact rfl) | ((with_reducible apply k_sq); exact rfl) | ((with_reducible apply k_br); exact rfl) | ((with_reducible apply k_m1); exact rfl) | ((with_reducible apply k_set); walk_at "sl"; done) | ((with_reducible apply k_wipe); walk_at "sl"; done) | ((with_reducible apply k_get); walk_at "sl"; done))
local macro_rules | `(tactic| walk_at "mi") => `(tactic| repeat' (first | walk_at "e1" | walk_at "op" | walk_at "s1" | walk_at "rf" | (intro _; (first | walk_at "e1" | walk_at "s1"))))
local macro_rules | `(tactic| walk_at "mic") => `(tactic| repeat' (first | walk_at "e1" | walk_at "op" | walk_at "s1" | walk_at "rf" | ((with_reducible apply k_call); (with_reducible apply_assumption -exfalso -symm)) | (intro _; (first | walk_at "e1" | walk_at "s1"))))
local macro_rules | `(tactic| walk_at "sd") => `(tactic| first | assumption | omega | (simp only [List.length_range, List.length_map, List.length_cons, List.length_nil]; omega) | (simp only [List.mem_range, List.length_range, List.length_map] at *; omega))
local macro_rules | `(tactic| walk_at "st") => `(tactic| simp only [List.map_cons, List.map_nil, List.cons_append, List.nil_append, List.reduceReplicate, Nat.reduceSub])
def okSm (sm : List (List Int)) (w many : Nat) : Bool := sm.all (fun r => decide (r.length = w) && (r.all (fun x => decide (-1 ≤ x ∧ x ≤ 1)) && nzr r)) && (decide (sm.length < 1000) && ((List.range (many + 1)).all (fun t => decide ((fbRows sm.length t).length ≤ 100000)) && (List.range (many + 1)).all fun t => decide ((pRows sm t).length ≤ 100000)))
theorem okSm_1 {sm : List (List Int)} {w many : Nat} (h : okSm sm w many = true) : (∀ r ∈ sm, r.length = w ∧ (∀ x ∈ r, -1 ≤ x ∧ x ≤ 1) ∧ nzr r = true) ∧ sm.length < 1000 ∧ (∀ t ≤ many, (fbRows sm.length t).length ≤ 100000) ∧ ∀ t ≤ many, (pRows sm t).length ≤ 100000 := by
  obtain ⟨k1, k2⟩ := Bool.and_eq_true_iff.mp h
  obtain ⟨k2, k3⟩ := Bool.and_eq_true_iff.mp k2
  obtain ⟨k3, k4⟩ := Bool.and_eq_true_iff.mp k3
  refine ⟨fun r hr => ?_, of_decide_eq_true k2, fun t ht => of_decide_eq_true (List.all_eq_true.mp k3 t (List.mem_range.mpr (by omega))), fun t ht => of_decide_eq_true (List.all_eq_true.mp k4 t (List.mem_range.mpr (by omega)))⟩
  obtain ⟨a, b⟩ := Bool.and_eq_true_iff.mp (List.all_eq_true.mp k1 r hr)
  obtain ⟨b, c⟩ := Bool.and_eq_true_iff.mp b
  exact ⟨of_decide_eq_true a, fun x hx => of_decide_eq_true (List.all_eq_true.mp b x hx), c⟩
theorem fb_of {w many : Nat} {sort : Str} {g : Goal} {sm : List (List Int)} {ct : Int} {q : Rat} {plan : List (List Int)} (h58 : ∀ h, C 17 58 [.int w] h = .ok .non h) (h81 : ∀ h, C 17 81 [.int many, .int w, .int 8] h = .ok (.bl true) h) (h56 : ∀ h, C 17 56 [.str sort] h = .ok .non h)
    (h111 : ∀ h, C 17 111 [.int w, .str sort] h = .ok (.lst .own (sm.map eRow)) h) (h61 : ∀ h, C 17 61 [.int (sm.length : Int), .int many] h = .ok (.int ct) h) (hc : ct ≤ 3100) (hth : w ≤ 4) (hth0 : 0 < w) (hm : many ≤ 8) (hm0 : 0 < many) (ok : okSm sm w many = true) (hf : foundBest g sm w many = some ((q.num, (q.den : Int)), plan)) (h : Mi.Heap) :
    C 18 70 [.int w, .int many, .str sort, .str g.s] h = .ok (.tup [ePlan plan, eQ q]) h := by
  obtain ⟨s1, s2, s3, s4⟩ := okSm_1 ok
  have sb : ∀ r ∈ sm, ∀ x ∈ r, x.natAbs < 2 ^ 1 := fun r hr x hx => by
    have := (s1 r hr).2.1 x hx
    omega
  have up6 : (2 : Nat) ^ 6000 ≤ 2 ^ 9000 := Nat.pow_le_pow_right (by omega) (by omega)
  have e := best_run (c := C 17) (N := NN) (h := h) (things := w) (many := many) (sort := sort) (g := g) (sm := sm) (cnt := ct) (h58 h) (h81 h) (h56 h) (h111 h) (h61 h) hc (fun r hr => ⟨(s1 r hr).1, sb r hr⟩) s2 hth hth0 hm hm0 (fun t ht => Nat.le_trans (s3 t ht) (by omega)) (fun plan hp hr => by
      have hd : 17 = (15 - w) + w + 2 := by omega
      show callF (gOf dl) NN 17 122 _ _ = _
      rw [hd]
      exact value_spec (G := gOf dl) (N := NN) (n := 15 - w) (k := 1) (has.sub (S := [122, 117, 62, 77, 63, 124]) rfl) (by omega) (fun r hx => (s1 r (hr r hx)).1) (fun r hx => sb r (hr r hx)) (by omega) (by omega) (by omega) hth0 up6)
    (fun p q hp hq => by
      have up : (2 : Nat) ^ 6000 ≤ 2 ^ 400000 := Nat.pow_le_pow_right (by omega) (by omega)
      exact below_spec (G := gOf dl) (N := NN) (n := 16) (has.sub (S := [80]) rfl) (Nat.lt_of_lt_of_le hp.1 up) (Nat.lt_of_lt_of_le hp.2 up) (Nat.lt_of_lt_of_le hq.1 up) (Nat.lt_of_lt_of_le hq.2 up))
  rw [hf] at e
  exact (callF_eq (d := fd_found_best) (has.get (f := 70) (by decide) rfl) _ _).trans e
theorem bp_of {w many : Nat} {sort : Str} {g : Goal} {q : Rat} {plan : List (List Int)} (hb : ∀ h, C 18 70 [.int w, .int many, .str sort, .str g.s] h = .ok (.tup [ePlan plan, eQ q]) h) (h : Mi.Heap) : C 19 45 [.int w, .int many, .str sort, .str g.s] h = .ok (ePlan plan) h := by
  refine (callF_eq (d := fd_best_plan) rfl _ _).trans ?_
  unfold fd_best_plan
  refine runF_rt rfl rfl ?_
  walk_at "st"
  apply exs_ret
  · apply ev_idx
    · walk_at "mi"
      exact hb h
    · walk_at "mi"
    · exact x_fst
  · rfl
theorem bv_of {w many : Nat} {sort : Str} {g : Goal} {q : Rat} {plan : List (List Int)} (hb : ∀ h, C 18 70 [.int w, .int many, .str sort, .str g.s] h = .ok (.tup [ePlan plan, eQ q]) h) (h : Mi.Heap) : C 19 47 [.int w, .int many, .str sort, .str g.s] h = .ok (eQ q) h := by
  refine (callF_eq (d := fd_best_value) rfl _ _).trans ?_
  unfold fd_best_value
  refine runF_rt rfl rfl ?_
  walk_at "st"
  apply exs_ret
  · apply ev_idx
    · walk_at "mi"
      exact hb h
    · walk_at "mi"
    · exact x_snd
  · rfl
def chk5 (w many : Nat) (g : Goal) (R : List (List (List Int))) (q b : Rat) (found first : List (List Int)) (m1 : Rat) : Bool :=
  R.all (fun r => decide (det w (sqT r w) ≠ 0) && (!decide (lawVal g w r < q) && (!decide (lawVal g w r = q) || !ltTT r found))) &&
  (decide ((if decide ((200 : Int) < (R.length : Int)) = true then R.take 60 else R).foldl (stepB g w) none = some (b, first)) &&
  (decide (found ∈ R) && (decide (lawVal g w found = q) && (!decide (b < q) && ((!decide (R.length ≤ 200) || (decide (found = first) && decide (q = b))) && !decide (lawVal .worst w found < m1))))))
theorem bad_and {a b : Bool} (h : (a && b) = true) : a = true ∧ b = true := Bool.and_eq_true_iff.mp h
theorem case_of {ns : List Int} (hn : ns.length ≤ 63) {B : Nat} {h : Mi.Heap} (hT : Tn ns B h) (hB : B < 1000) {w many : Nat} {sort : Str} {g : Goal} {sm : List (List Int)} {q b : Rat} {found first : List (List Int)} {m1 : Rat}
    (hw1 : 1 ≤ w) (hw : w ≤ 3) (hm1 : 1 ≤ many) (hm : many ≤ 8) (ok : okSm sm w many = true)
    (hsome : ∀ x y m gl h, ev (C 19) (.comp (.nm 12) (.seq (.call (.fn 38) (.cons (.var 9) (.cons (.var 10) .nil)))) (.so (.cmp .eq (.idx (.comp (.nm 17) (.seq (.var 12)) (.so (.cmp .ne (.var 17) (.int 0))) (.var 17)) (.int 0)) (.int 1))) (.var 12)) [some x, some y, some m, some gl, none, none, none, none, none, some (.int (w : Int)), some (.str sort), none, none, none, none, none, none, none] h = .ok (.lst .own (sm.map eRow)) h)
    (hb : ∀ h, C 18 70 [.int w, .int many, .str sort, .str g.s] h = .ok (.tup [ePlan found, eQ q]) h)
    (hc : chk5 w many g ((pRows sm many).filter (settled w)) q b found first m1 = true) (hm1e : Val.tup [.int 1, .int (many : Int)] = eQ m1) (hm1s : Sz 100 m1) :
    ∃ h', exs (C 19) NN rest [some (scrV ns), some (.ref 0), some (.int (many : Int)), some (.str g.s), none, none, none, none, none, some (.int (w : Int)), some (.str sort), none, none, none, none, none, none, none] h = .ok (.rt (.bl true)) h' := by
  obtain ⟨s1, s2, s3, s4⟩ := okSm_1 ok
  obtain ⟨c1, hc⟩ := bad_and hc
  obtain ⟨c2, hc⟩ := bad_and hc
  obtain ⟨c3, hc⟩ := bad_and hc
  obtain ⟨c4, hc⟩ := bad_and hc
  obtain ⟨c5, hc⟩ := bad_and hc
  obtain ⟨c6, c7⟩ := bad_and hc
  have all := List.all_eq_true.mp c1
  refine rest_run hn hT hB (b := b) (first := first) hw1 hw hm1 hm s1 (by omega) hsome (bp_of hb) (bv_of hb) s4 (fun r hr hs => ?_) (of_decide_eq_true c2) (of_decide_eq_true c3) (of_decide_eq_true c4) (by simpa using c5) (fun hl => ?_) (fun r hr => ?_) hm1e hm1s (by simpa using c7)
  · exact of_decide_eq_true (bad_and (all r (List.mem_filter.mpr ⟨hr, hs⟩))).1
  · rw [decide_eq_true hl] at c6
    simp only [Bool.not_true, Bool.false_or] at c6
    obtain ⟨a, b⟩ := bad_and c6
    exact ⟨of_decide_eq_true a, of_decide_eq_true b⟩
  · obtain ⟨a, b⟩ := bad_and (all r hr)
    obtain ⟨b, d⟩ := bad_and b
    refine ⟨by simpa using b, fun e => ?_⟩
    rw [decide_eq_true e] at d
    simpa using d

def sm1_both : List (List Int) := [[1]]
theorem h111_1_both (h : Mi.Heap) : C 17 111 [.int ((1 : Nat) : Int), .str "both"] h = .ok (.lst .own (sm1_both.map eRow)) h := by kernel_rfl
theorem hsome_1_both (x y m gl : Mi.Val) (h : Mi.Heap) : ev (C 19) (.comp (.nm 12) (.seq (.call (.fn 38) (.cons (.var 9) (.cons (.var 10) .nil)))) (.so (.cmp .eq (.idx (.comp (.nm 17) (.seq (.var 12)) (.so (.cmp .ne (.var 17) (.int 0))) (.var 17)) (.int 0)) (.int 1))) (.var 12)) [some x, some y, some m, some gl, none, none, none, none, none, some (.int ((1 : Nat) : Int)), some (.str "both"), none, none, none, none, none, none, none] h = .ok (.lst .own (sm1_both.map eRow)) h := by kernel_rfl
theorem fb_1_both_1_sum (h : Mi.Heap) : C 18 70 [.int ((1 : Nat) : Int), .int ((1 : Nat) : Int), .str "both", .str Goal.sum.s] h = .ok (.tup [ePlan [[1]], eQ (mkRat 1 1)]) h := fb_of (sm := sm1_both) (ct := 1) (fun h => by kernel_rfl) (fun h => by kernel_rfl) (fun h => by kernel_rfl) h111_1_both (fun h => by kernel_rfl) (by decide) (by decide) (by decide) (by decide) (by decide) (by decide +kernel) (by decide +kernel) h
theorem c_1_both_1_sum : chk5 1 1 .sum ((pRows sm1_both 1).filter (settled 1)) (mkRat 1 1) (mkRat 1 1) [[1]] [[1]] (mkRat 1 1) = true := by decide +kernel
theorem fb_1_both_1_worst (h : Mi.Heap) : C 18 70 [.int ((1 : Nat) : Int), .int ((1 : Nat) : Int), .str "both", .str Goal.worst.s] h = .ok (.tup [ePlan [[1]], eQ (mkRat 1 1)]) h := fb_of (sm := sm1_both) (ct := 1) (fun h => by kernel_rfl) (fun h => by kernel_rfl) (fun h => by kernel_rfl) h111_1_both (fun h => by kernel_rfl) (by decide) (by decide) (by decide) (by decide) (by decide) (by decide +kernel) (by decide +kernel) h
theorem c_1_both_1_worst : chk5 1 1 .worst ((pRows sm1_both 1).filter (settled 1)) (mkRat 1 1) (mkRat 1 1) [[1]] [[1]] (mkRat 1 1) = true := by decide +kernel
theorem fb_1_both_1_whole (h : Mi.Heap) : C 18 70 [.int ((1 : Nat) : Int), .int ((1 : Nat) : Int), .str "both", .str Goal.whole.s] h = .ok (.tup [ePlan [[1]], eQ (mkRat 1 1)]) h := fb_of (sm := sm1_both) (ct := 1) (fun h => by kernel_rfl) (fun h => by kernel_rfl) (fun h => by kernel_rfl) h111_1_both (fun h => by kernel_rfl) (by decide) (by decide) (by decide) (by decide) (by decide) (by decide +kernel) (by decide +kernel) h
theorem c_1_both_1_whole : chk5 1 1 .whole ((pRows sm1_both 1).filter (settled 1)) (mkRat 1 1) (mkRat 1 1) [[1]] [[1]] (mkRat 1 1) = true := by decide +kernel
theorem fb_1_both_2_sum (h : Mi.Heap) : C 18 70 [.int ((1 : Nat) : Int), .int ((2 : Nat) : Int), .str "both", .str Goal.sum.s] h = .ok (.tup [ePlan [[1], [1]], eQ (mkRat 1 2)]) h := fb_of (sm := sm1_both) (ct := 1) (fun h => by kernel_rfl) (fun h => by kernel_rfl) (fun h => by kernel_rfl) h111_1_both (fun h => by kernel_rfl) (by decide) (by decide) (by decide) (by decide) (by decide) (by decide +kernel) (by decide +kernel) h
theorem c_1_both_2_sum : chk5 1 2 .sum ((pRows sm1_both 2).filter (settled 1)) (mkRat 1 2) (mkRat 1 2) [[1], [1]] [[1], [1]] (mkRat 1 2) = true := by decide +kernel
theorem fb_1_both_2_worst (h : Mi.Heap) : C 18 70 [.int ((1 : Nat) : Int), .int ((2 : Nat) : Int), .str "both", .str Goal.worst.s] h = .ok (.tup [ePlan [[1], [1]], eQ (mkRat 1 2)]) h := fb_of (sm := sm1_both) (ct := 1) (fun h => by kernel_rfl) (fun h => by kernel_rfl) (fun h => by kernel_rfl) h111_1_both (fun h => by kernel_rfl) (by decide) (by decide) (by decide) (by decide) (by decide) (by decide +kernel) (by decide +kernel) h
theorem c_1_both_2_worst : chk5 1 2 .worst ((pRows sm1_both 2).filter (settled 1)) (mkRat 1 2) (mkRat 1 2) [[1], [1]] [[1], [1]] (mkRat 1 2) = true := by decide +kernel
theorem fb_1_both_2_whole (h : Mi.Heap) : C 18 70 [.int ((1 : Nat) : Int), .int ((2 : Nat) : Int), .str "both", .str Goal.whole.s] h = .ok (.tup [ePlan [[1], [1]], eQ (mkRat 1 2)]) h := fb_of (sm := sm1_both) (ct := 1) (fun h => by kernel_rfl) (fun h => by kernel_rfl) (fun h => by kernel_rfl) h111_1_both (fun h => by kernel_rfl) (by decide) (by decide) (by decide) (by decide) (by decide) (by decide +kernel) (by decide +kernel) h
theorem c_1_both_2_whole : chk5 1 2 .whole ((pRows sm1_both 2).filter (settled 1)) (mkRat 1 2) (mkRat 1 2) [[1], [1]] [[1], [1]] (mkRat 1 2) = true := by decide +kernel
theorem fb_1_both_3_sum (h : Mi.Heap) : C 18 70 [.int ((1 : Nat) : Int), .int ((3 : Nat) : Int), .str "both", .str Goal.sum.s] h = .ok (.tup [ePlan [[1], [1], [1]], eQ (mkRat 1 3)]) h := fb_of (sm := sm1_both) (ct := 1) (fun h => by kernel_rfl) (fun h => by kernel_rfl) (fun h => by kernel_rfl) h111_1_both (fun h => by kernel_rfl) (by decide) (by decide) (by decide) (by decide) (by decide) (by decide +kernel) (by decide +kernel) h
theorem c_1_both_3_sum : chk5 1 3 .sum ((pRows sm1_both 3).filter (settled 1)) (mkRat 1 3) (mkRat 1 3) [[1], [1], [1]] [[1], [1], [1]] (mkRat 1 3) = true := by decide +kernel
theorem fb_1_both_3_worst (h : Mi.Heap) : C 18 70 [.int ((1 : Nat) : Int), .int ((3 : Nat) : Int), .str "both", .str Goal.worst.s] h = .ok (.tup [ePlan [[1], [1], [1]], eQ (mkRat 1 3)]) h := fb_of (sm := sm1_both) (ct := 1) (fun h => by kernel_rfl) (fun h => by kernel_rfl) (fun h => by kernel_rfl) h111_1_both (fun h => by kernel_rfl) (by decide) (by decide) (by decide) (by decide) (by decide) (by decide +kernel) (by decide +kernel) h
theorem c_1_both_3_worst : chk5 1 3 .worst ((pRows sm1_both 3).filter (settled 1)) (mkRat 1 3) (mkRat 1 3) [[1], [1], [1]] [[1], [1], [1]] (mkRat 1 3) = true := by decide +kernel
theorem fb_1_both_3_whole (h : Mi.Heap) : C 18 70 [.int ((1 : Nat) : Int), .int ((3 : Nat) : Int), .str "both", .str Goal.whole.s] h = .ok (.tup [ePlan [[1], [1], [1]], eQ (mkRat 1 3)]) h := fb_of (sm := sm1_both) (ct := 1) (fun h => by kernel_rfl) (fun h => by kernel_rfl) (fun h => by kernel_rfl) h111_1_both (fun h => by kernel_rfl) (by decide) (by decide) (by decide) (by decide) (by decide) (by decide +kernel) (by decide +kernel) h
theorem c_1_both_3_whole : chk5 1 3 .whole ((pRows sm1_both 3).filter (settled 1)) (mkRat 1 3) (mkRat 1 3) [[1], [1], [1]] [[1], [1], [1]] (mkRat 1 3) = true := by decide +kernel
theorem fb_1_both_4_sum (h : Mi.Heap) : C 18 70 [.int ((1 : Nat) : Int), .int ((4 : Nat) : Int), .str "both", .str Goal.sum.s] h = .ok (.tup [ePlan [[1], [1], [1], [1]], eQ (mkRat 1 4)]) h := fb_of (sm := sm1_both) (ct := 1) (fun h => by kernel_rfl) (fun h => by kernel_rfl) (fun h => by kernel_rfl) h111_1_both (fun h => by kernel_rfl) (by decide) (by decide) (by decide) (by decide) (by decide) (by decide +kernel) (by decide +kernel) h
theorem c_1_both_4_sum : chk5 1 4 .sum ((pRows sm1_both 4).filter (settled 1)) (mkRat 1 4) (mkRat 1 4) [[1], [1], [1], [1]] [[1], [1], [1], [1]] (mkRat 1 4) = true := by decide +kernel
theorem fb_1_both_4_worst (h : Mi.Heap) : C 18 70 [.int ((1 : Nat) : Int), .int ((4 : Nat) : Int), .str "both", .str Goal.worst.s] h = .ok (.tup [ePlan [[1], [1], [1], [1]], eQ (mkRat 1 4)]) h := fb_of (sm := sm1_both) (ct := 1) (fun h => by kernel_rfl) (fun h => by kernel_rfl) (fun h => by kernel_rfl) h111_1_both (fun h => by kernel_rfl) (by decide) (by decide) (by decide) (by decide) (by decide) (by decide +kernel) (by decide +kernel) h
theorem c_1_both_4_worst : chk5 1 4 .worst ((pRows sm1_both 4).filter (settled 1)) (mkRat 1 4) (mkRat 1 4) [[1], [1], [1], [1]] [[1], [1], [1], [1]] (mkRat 1 4) = true := by decide +kernel
theorem fb_1_both_4_whole (h : Mi.Heap) : C 18 70 [.int ((1 : Nat) : Int), .int ((4 : Nat) : Int), .str "both", .str Goal.whole.s] h = .ok (.tup [ePlan [[1], [1], [1], [1]], eQ (mkRat 1 4)]) h := fb_of (sm := sm1_both) (ct := 1) (fun h => by kernel_rfl) (fun h => by kernel_rfl) (fun h => by kernel_rfl) h111_1_both (fun h => by kernel_rfl) (by decide) (by decide) (by decide) (by decide) (by decide) (by decide +kernel) (by decide +kernel) h
theorem c_1_both_4_whole : chk5 1 4 .whole ((pRows sm1_both 4).filter (settled 1)) (mkRat 1 4) (mkRat 1 4) [[1], [1], [1], [1]] [[1], [1], [1], [1]] (mkRat 1 4) = true := by decide +kernel
def sm1_one : List (List Int) := [[1]]
theorem h111_1_one (h : Mi.Heap) : C 17 111 [.int ((1 : Nat) : Int), .str "one"] h = .ok (.lst .own (sm1_one.map eRow)) h := by kernel_rfl
theorem hsome_1_one (x y m gl : Mi.Val) (h : Mi.Heap) : ev (C 19) (.comp (.nm 12) (.seq (.call (.fn 38) (.cons (.var 9) (.cons (.var 10) .nil)))) (.so (.cmp .eq (.idx (.comp (.nm 17) (.seq (.var 12)) (.so (.cmp .ne (.var 17) (.int 0))) (.var 17)) (.int 0)) (.int 1))) (.var 12)) [some x, some y, some m, some gl, none, none, none, none, none, some (.int ((1 : Nat) : Int)), some (.str "one"), none, none, none, none, none, none, none] h = .ok (.lst .own (sm1_one.map eRow)) h := by kernel_rfl
theorem fb_1_one_1_sum (h : Mi.Heap) : C 18 70 [.int ((1 : Nat) : Int), .int ((1 : Nat) : Int), .str "one", .str Goal.sum.s] h = .ok (.tup [ePlan [[1]], eQ (mkRat 1 1)]) h := fb_of (sm := sm1_one) (ct := 1) (fun h => by kernel_rfl) (fun h => by kernel_rfl) (fun h => by kernel_rfl) h111_1_one (fun h => by kernel_rfl) (by decide) (by decide) (by decide) (by decide) (by decide) (by decide +kernel) (by decide +kernel) h
theorem c_1_one_1_sum : chk5 1 1 .sum ((pRows sm1_one 1).filter (settled 1)) (mkRat 1 1) (mkRat 1 1) [[1]] [[1]] (mkRat 1 1) = true := by decide +kernel
theorem fb_1_one_1_worst (h : Mi.Heap) : C 18 70 [.int ((1 : Nat) : Int), .int ((1 : Nat) : Int), .str "one", .str Goal.worst.s] h = .ok (.tup [ePlan [[1]], eQ (mkRat 1 1)]) h := fb_of (sm := sm1_one) (ct := 1) (fun h => by kernel_rfl) (fun h => by kernel_rfl) (fun h => by kernel_rfl) h111_1_one (fun h => by kernel_rfl) (by decide) (by decide) (by decide) (by decide) (by decide) (by decide +kernel) (by decide +kernel) h
theorem c_1_one_1_worst : chk5 1 1 .worst ((pRows sm1_one 1).filter (settled 1)) (mkRat 1 1) (mkRat 1 1) [[1]] [[1]] (mkRat 1 1) = true := by decide +kernel
theorem fb_1_one_1_whole (h : Mi.Heap) : C 18 70 [.int ((1 : Nat) : Int), .int ((1 : Nat) : Int), .str "one", .str Goal.whole.s] h = .ok (.tup [ePlan [[1]], eQ (mkRat 1 1)]) h := fb_of (sm := sm1_one) (ct := 1) (fun h => by kernel_rfl) (fun h => by kernel_rfl) (fun h => by kernel_rfl) h111_1_one (fun h => by kernel_rfl) (by decide) (by decide) (by decide) (by decide) (by decide) (by decide +kernel) (by decide +kernel) h
theorem c_1_one_1_whole : chk5 1 1 .whole ((pRows sm1_one 1).filter (settled 1)) (mkRat 1 1) (mkRat 1 1) [[1]] [[1]] (mkRat 1 1) = true := by decide +kernel
theorem fb_1_one_2_sum (h : Mi.Heap) : C 18 70 [.int ((1 : Nat) : Int), .int ((2 : Nat) : Int), .str "one", .str Goal.sum.s] h = .ok (.tup [ePlan [[1], [1]], eQ (mkRat 1 2)]) h := fb_of (sm := sm1_one) (ct := 1) (fun h => by kernel_rfl) (fun h => by kernel_rfl) (fun h => by kernel_rfl) h111_1_one (fun h => by kernel_rfl) (by decide) (by decide) (by decide) (by decide) (by decide) (by decide +kernel) (by decide +kernel) h
theorem c_1_one_2_sum : chk5 1 2 .sum ((pRows sm1_one 2).filter (settled 1)) (mkRat 1 2) (mkRat 1 2) [[1], [1]] [[1], [1]] (mkRat 1 2) = true := by decide +kernel
theorem fb_1_one_2_worst (h : Mi.Heap) : C 18 70 [.int ((1 : Nat) : Int), .int ((2 : Nat) : Int), .str "one", .str Goal.worst.s] h = .ok (.tup [ePlan [[1], [1]], eQ (mkRat 1 2)]) h := fb_of (sm := sm1_one) (ct := 1) (fun h => by kernel_rfl) (fun h => by kernel_rfl) (fun h => by kernel_rfl) h111_1_one (fun h => by kernel_rfl) (by decide) (by decide) (by decide) (by decide) (by decide) (by decide +kernel) (by decide +kernel) h
theorem c_1_one_2_worst : chk5 1 2 .worst ((pRows sm1_one 2).filter (settled 1)) (mkRat 1 2) (mkRat 1 2) [[1], [1]] [[1], [1]] (mkRat 1 2) = true := by decide +kernel
theorem fb_1_one_2_whole (h : Mi.Heap) : C 18 70 [.int ((1 : Nat) : Int), .int ((2 : Nat) : Int), .str "one", .str Goal.whole.s] h = .ok (.tup [ePlan [[1], [1]], eQ (mkRat 1 2)]) h := fb_of (sm := sm1_one) (ct := 1) (fun h => by kernel_rfl) (fun h => by kernel_rfl) (fun h => by kernel_rfl) h111_1_one (fun h => by kernel_rfl) (by decide) (by decide) (by decide) (by decide) (by decide) (by decide +kernel) (by decide +kernel) h
theorem c_1_one_2_whole : chk5 1 2 .whole ((pRows sm1_one 2).filter (settled 1)) (mkRat 1 2) (mkRat 1 2) [[1], [1]] [[1], [1]] (mkRat 1 2) = true := by decide +kernel
theorem fb_1_one_3_sum (h : Mi.Heap) : C 18 70 [.int ((1 : Nat) : Int), .int ((3 : Nat) : Int), .str "one", .str Goal.sum.s] h = .ok (.tup [ePlan [[1], [1], [1]], eQ (mkRat 1 3)]) h := fb_of (sm := sm1_one) (ct := 1) (fun h => by kernel_rfl) (fun h => by kernel_rfl) (fun h => by kernel_rfl) h111_1_one (fun h => by kernel_rfl) (by decide) (by decide) (by decide) (by decide) (by decide) (by decide +kernel) (by decide +kernel) h
theorem c_1_one_3_sum : chk5 1 3 .sum ((pRows sm1_one 3).filter (settled 1)) (mkRat 1 3) (mkRat 1 3) [[1], [1], [1]] [[1], [1], [1]] (mkRat 1 3) = true := by decide +kernel
theorem fb_1_one_3_worst (h : Mi.Heap) : C 18 70 [.int ((1 : Nat) : Int), .int ((3 : Nat) : Int), .str "one", .str Goal.worst.s] h = .ok (.tup [ePlan [[1], [1], [1]], eQ (mkRat 1 3)]) h := fb_of (sm := sm1_one) (ct := 1) (fun h => by kernel_rfl) (fun h => by kernel_rfl) (fun h => by kernel_rfl) h111_1_one (fun h => by kernel_rfl) (by decide) (by decide) (by decide) (by decide) (by decide) (by decide +kernel) (by decide +kernel) h
theorem c_1_one_3_worst : chk5 1 3 .worst ((pRows sm1_one 3).filter (settled 1)) (mkRat 1 3) (mkRat 1 3) [[1], [1], [1]] [[1], [1], [1]] (mkRat 1 3) = true := by decide +kernel
theorem fb_1_one_3_whole (h : Mi.Heap) : C 18 70 [.int ((1 : Nat) : Int), .int ((3 : Nat) : Int), .str "one", .str Goal.whole.s] h = .ok (.tup [ePlan [[1], [1], [1]], eQ (mkRat 1 3)]) h := fb_of (sm := sm1_one) (ct := 1) (fun h => by kernel_rfl) (fun h => by kernel_rfl) (fun h => by kernel_rfl) h111_1_one (fun h => by kernel_rfl) (by decide) (by decide) (by decide) (by decide) (by decide) (by decide +kernel) (by decide +kernel) h
theorem c_1_one_3_whole : chk5 1 3 .whole ((pRows sm1_one 3).filter (settled 1)) (mkRat 1 3) (mkRat 1 3) [[1], [1], [1]] [[1], [1], [1]] (mkRat 1 3) = true := by decide +kernel
theorem fb_1_one_4_sum (h : Mi.Heap) : C 18 70 [.int ((1 : Nat) : Int), .int ((4 : Nat) : Int), .str "one", .str Goal.sum.s] h = .ok (.tup [ePlan [[1], [1], [1], [1]], eQ (mkRat 1 4)]) h := fb_of (sm := sm1_one) (ct := 1) (fun h => by kernel_rfl) (fun h => by kernel_rfl) (fun h => by kernel_rfl) h111_1_one (fun h => by kernel_rfl) (by decide) (by decide) (by decide) (by decide) (by decide) (by decide +kernel) (by decide +kernel) h
theorem c_1_one_4_sum : chk5 1 4 .sum ((pRows sm1_one 4).filter (settled 1)) (mkRat 1 4) (mkRat 1 4) [[1], [1], [1], [1]] [[1], [1], [1], [1]] (mkRat 1 4) = true := by decide +kernel
theorem fb_1_one_4_worst (h : Mi.Heap) : C 18 70 [.int ((1 : Nat) : Int), .int ((4 : Nat) : Int), .str "one", .str Goal.worst.s] h = .ok (.tup [ePlan [[1], [1], [1], [1]], eQ (mkRat 1 4)]) h := fb_of (sm := sm1_one) (ct := 1) (fun h => by kernel_rfl) (fun h => by kernel_rfl) (fun h => by kernel_rfl) h111_1_one (fun h => by kernel_rfl) (by decide) (by decide) (by decide) (by decide) (by decide) (by decide +kernel) (by decide +kernel) h
theorem c_1_one_4_worst : chk5 1 4 .worst ((pRows sm1_one 4).filter (settled 1)) (mkRat 1 4) (mkRat 1 4) [[1], [1], [1], [1]] [[1], [1], [1], [1]] (mkRat 1 4) = true := by decide +kernel
theorem fb_1_one_4_whole (h : Mi.Heap) : C 18 70 [.int ((1 : Nat) : Int), .int ((4 : Nat) : Int), .str "one", .str Goal.whole.s] h = .ok (.tup [ePlan [[1], [1], [1], [1]], eQ (mkRat 1 4)]) h := fb_of (sm := sm1_one) (ct := 1) (fun h => by kernel_rfl) (fun h => by kernel_rfl) (fun h => by kernel_rfl) h111_1_one (fun h => by kernel_rfl) (by decide) (by decide) (by decide) (by decide) (by decide) (by decide +kernel) (by decide +kernel) h
theorem c_1_one_4_whole : chk5 1 4 .whole ((pRows sm1_one 4).filter (settled 1)) (mkRat 1 4) (mkRat 1 4) [[1], [1], [1], [1]] [[1], [1], [1], [1]] (mkRat 1 4) = true := by decide +kernel
def sm2_both : List (List Int) := [[0, 1], [1, -1], [1, 0], [1, 1]]
theorem h111_2_both (h : Mi.Heap) : C 17 111 [.int ((2 : Nat) : Int), .str "both"] h = .ok (.lst .own (sm2_both.map eRow)) h := by kernel_rfl
theorem hsome_2_both (x y m gl : Mi.Val) (h : Mi.Heap) : ev (C 19) (.comp (.nm 12) (.seq (.call (.fn 38) (.cons (.var 9) (.cons (.var 10) .nil)))) (.so (.cmp .eq (.idx (.comp (.nm 17) (.seq (.var 12)) (.so (.cmp .ne (.var 17) (.int 0))) (.var 17)) (.int 0)) (.int 1))) (.var 12)) [some x, some y, some m, some gl, none, none, none, none, none, some (.int ((2 : Nat) : Int)), some (.str "both"), none, none, none, none, none, none, none] h = .ok (.lst .own (sm2_both.map eRow)) h := by kernel_rfl
theorem fb_2_both_2_sum (h : Mi.Heap) : C 18 70 [.int ((2 : Nat) : Int), .int ((2 : Nat) : Int), .str "both", .str Goal.sum.s] h = .ok (.tup [ePlan [[1, -1], [1, 1]], eQ (mkRat 1 1)]) h := fb_of (sm := sm2_both) (ct := 10) (fun h => by kernel_rfl) (fun h => by kernel_rfl) (fun h => by kernel_rfl) h111_2_both (fun h => by kernel_rfl) (by decide) (by decide) (by decide) (by decide) (by decide) (by decide +kernel) (by decide +kernel) h
theorem c_2_both_2_sum : chk5 2 2 .sum ((pRows sm2_both 2).filter (settled 2)) (mkRat 1 1) (mkRat 1 1) [[1, -1], [1, 1]] [[1, -1], [1, 1]] (mkRat 1 2) = true := by decide +kernel
theorem fb_2_both_2_worst (h : Mi.Heap) : C 18 70 [.int ((2 : Nat) : Int), .int ((2 : Nat) : Int), .str "both", .str Goal.worst.s] h = .ok (.tup [ePlan [[1, -1], [1, 1]], eQ (mkRat 1 2)]) h := fb_of (sm := sm2_both) (ct := 10) (fun h => by kernel_rfl) (fun h => by kernel_rfl) (fun h => by kernel_rfl) h111_2_both (fun h => by kernel_rfl) (by decide) (by decide) (by decide) (by decide) (by decide) (by decide +kernel) (by decide +kernel) h
theorem c_2_both_2_worst : chk5 2 2 .worst ((pRows sm2_both 2).filter (settled 2)) (mkRat 1 2) (mkRat 1 2) [[1, -1], [1, 1]] [[1, -1], [1, 1]] (mkRat 1 2) = true := by decide +kernel
theorem fb_2_both_2_whole (h : Mi.Heap) : C 18 70 [.int ((2 : Nat) : Int), .int ((2 : Nat) : Int), .str "both", .str Goal.whole.s] h = .ok (.tup [ePlan [[1, -1], [1, 1]], eQ (mkRat 1 4)]) h := fb_of (sm := sm2_both) (ct := 10) (fun h => by kernel_rfl) (fun h => by kernel_rfl) (fun h => by kernel_rfl) h111_2_both (fun h => by kernel_rfl) (by decide) (by decide) (by decide) (by decide) (by decide) (by decide +kernel) (by decide +kernel) h
theorem c_2_both_2_whole : chk5 2 2 .whole ((pRows sm2_both 2).filter (settled 2)) (mkRat 1 4) (mkRat 1 4) [[1, -1], [1, 1]] [[1, -1], [1, 1]] (mkRat 1 2) = true := by decide +kernel
theorem fb_2_both_3_sum (h : Mi.Heap) : C 18 70 [.int ((2 : Nat) : Int), .int ((3 : Nat) : Int), .str "both", .str Goal.sum.s] h = .ok (.tup [ePlan [[1, -1], [1, -1], [1, 1]], eQ (mkRat 3 4)]) h := fb_of (sm := sm2_both) (ct := 20) (fun h => by kernel_rfl) (fun h => by kernel_rfl) (fun h => by kernel_rfl) h111_2_both (fun h => by kernel_rfl) (by decide) (by decide) (by decide) (by decide) (by decide) (by decide +kernel) (by decide +kernel) h
theorem c_2_both_3_sum : chk5 2 3 .sum ((pRows sm2_both 3).filter (settled 2)) (mkRat 3 4) (mkRat 3 4) [[1, -1], [1, -1], [1, 1]] [[1, -1], [1, -1], [1, 1]] (mkRat 1 3) = true := by decide +kernel
theorem fb_2_both_3_worst (h : Mi.Heap) : C 18 70 [.int ((2 : Nat) : Int), .int ((3 : Nat) : Int), .str "both", .str Goal.worst.s] h = .ok (.tup [ePlan [[1, -1], [1, -1], [1, 1]], eQ (mkRat 3 8)]) h := fb_of (sm := sm2_both) (ct := 20) (fun h => by kernel_rfl) (fun h => by kernel_rfl) (fun h => by kernel_rfl) h111_2_both (fun h => by kernel_rfl) (by decide) (by decide) (by decide) (by decide) (by decide) (by decide +kernel) (by decide +kernel) h
theorem c_2_both_3_worst : chk5 2 3 .worst ((pRows sm2_both 3).filter (settled 2)) (mkRat 3 8) (mkRat 3 8) [[1, -1], [1, -1], [1, 1]] [[1, -1], [1, -1], [1, 1]] (mkRat 1 3) = true := by decide +kernel
theorem fb_2_both_3_whole (h : Mi.Heap) : C 18 70 [.int ((2 : Nat) : Int), .int ((3 : Nat) : Int), .str "both", .str Goal.whole.s] h = .ok (.tup [ePlan [[1, -1], [1, -1], [1, 1]], eQ (mkRat 1 8)]) h := fb_of (sm := sm2_both) (ct := 20) (fun h => by kernel_rfl) (fun h => by kernel_rfl) (fun h => by kernel_rfl) h111_2_both (fun h => by kernel_rfl) (by decide) (by decide) (by decide) (by decide) (by decide) (by decide +kernel) (by decide +kernel) h
theorem c_2_both_3_whole : chk5 2 3 .whole ((pRows sm2_both 3).filter (settled 2)) (mkRat 1 8) (mkRat 1 8) [[1, -1], [1, -1], [1, 1]] [[1, -1], [1, -1], [1, 1]] (mkRat 1 3) = true := by decide +kernel
theorem fb_2_both_4_sum (h : Mi.Heap) : C 18 70 [.int ((2 : Nat) : Int), .int ((4 : Nat) : Int), .str "both", .str Goal.sum.s] h = .ok (.tup [ePlan [[1, -1], [1, -1], [1, 1], [1, 1]], eQ (mkRat 1 2)]) h := fb_of (sm := sm2_both) (ct := 35) (fun h => by kernel_rfl) (fun h => by kernel_rfl) (fun h => by kernel_rfl) h111_2_both (fun h => by kernel_rfl) (by decide) (by decide) (by decide) (by decide) (by decide) (by decide +kernel) (by decide +kernel) h
theorem c_2_both_4_sum : chk5 2 4 .sum ((pRows sm2_both 4).filter (settled 2)) (mkRat 1 2) (mkRat 1 2) [[1, -1], [1, -1], [1, 1], [1, 1]] [[1, -1], [1, -1], [1, 1], [1, 1]] (mkRat 1 4) = true := by decide +kernel
theorem fb_2_both_4_worst (h : Mi.Heap) : C 18 70 [.int ((2 : Nat) : Int), .int ((4 : Nat) : Int), .str "both", .str Goal.worst.s] h = .ok (.tup [ePlan [[1, -1], [1, -1], [1, 1], [1, 1]], eQ (mkRat 1 4)]) h := fb_of (sm := sm2_both) (ct := 35) (fun h => by kernel_rfl) (fun h => by kernel_rfl) (fun h => by kernel_rfl) h111_2_both (fun h => by kernel_rfl) (by decide) (by decide) (by decide) (by decide) (by decide) (by decide +kernel) (by decide +kernel) h
theorem c_2_both_4_worst : chk5 2 4 .worst ((pRows sm2_both 4).filter (settled 2)) (mkRat 1 4) (mkRat 1 4) [[1, -1], [1, -1], [1, 1], [1, 1]] [[1, -1], [1, -1], [1, 1], [1, 1]] (mkRat 1 4) = true := by decide +kernel
theorem fb_2_both_4_whole (h : Mi.Heap) : C 18 70 [.int ((2 : Nat) : Int), .int ((4 : Nat) : Int), .str "both", .str Goal.whole.s] h = .ok (.tup [ePlan [[1, -1], [1, -1], [1, 1], [1, 1]], eQ (mkRat 1 16)]) h := fb_of (sm := sm2_both) (ct := 35) (fun h => by kernel_rfl) (fun h => by kernel_rfl) (fun h => by kernel_rfl) h111_2_both (fun h => by kernel_rfl) (by decide) (by decide) (by decide) (by decide) (by decide) (by decide +kernel) (by decide +kernel) h
theorem c_2_both_4_whole : chk5 2 4 .whole ((pRows sm2_both 4).filter (settled 2)) (mkRat 1 16) (mkRat 1 16) [[1, -1], [1, -1], [1, 1], [1, 1]] [[1, -1], [1, -1], [1, 1], [1, 1]] (mkRat 1 4) = true := by decide +kernel
def sm2_one : List (List Int) := [[0, 1], [1, 0], [1, 1]]
theorem h111_2_one (h : Mi.Heap) : C 17 111 [.int ((2 : Nat) : Int), .str "one"] h = .ok (.lst .own (sm2_one.map eRow)) h := by kernel_rfl
theorem hsome_2_one (x y m gl : Mi.Val) (h : Mi.Heap) : ev (C 19) (.comp (.nm 12) (.seq (.call (.fn 38) (.cons (.var 9) (.cons (.var 10) .nil)))) (.so (.cmp .eq (.idx (.comp (.nm 17) (.seq (.var 12)) (.so (.cmp .ne (.var 17) (.int 0))) (.var 17)) (.int 0)) (.int 1))) (.var 12)) [some x, some y, some m, some gl, none, none, none, none, none, some (.int ((2 : Nat) : Int)), some (.str "one"), none, none, none, none, none, none, none] h = .ok (.lst .own (sm2_one.map eRow)) h := by kernel_rfl
theorem fb_2_one_2_sum (h : Mi.Heap) : C 18 70 [.int ((2 : Nat) : Int), .int ((2 : Nat) : Int), .str "one", .str Goal.sum.s] h = .ok (.tup [ePlan [[0, 1], [1, 0]], eQ (mkRat 2 1)]) h := fb_of (sm := sm2_one) (ct := 6) (fun h => by kernel_rfl) (fun h => by kernel_rfl) (fun h => by kernel_rfl) h111_2_one (fun h => by kernel_rfl) (by decide) (by decide) (by decide) (by decide) (by decide) (by decide +kernel) (by decide +kernel) h
theorem c_2_one_2_sum : chk5 2 2 .sum ((pRows sm2_one 2).filter (settled 2)) (mkRat 2 1) (mkRat 2 1) [[0, 1], [1, 0]] [[0, 1], [1, 0]] (mkRat 1 2) = true := by decide +kernel
theorem fb_2_one_2_worst (h : Mi.Heap) : C 18 70 [.int ((2 : Nat) : Int), .int ((2 : Nat) : Int), .str "one", .str Goal.worst.s] h = .ok (.tup [ePlan [[0, 1], [1, 0]], eQ (mkRat 1 1)]) h := fb_of (sm := sm2_one) (ct := 6) (fun h => by kernel_rfl) (fun h => by kernel_rfl) (fun h => by kernel_rfl) h111_2_one (fun h => by kernel_rfl) (by decide) (by decide) (by decide) (by decide) (by decide) (by decide +kernel) (by decide +kernel) h
theorem c_2_one_2_worst : chk5 2 2 .worst ((pRows sm2_one 2).filter (settled 2)) (mkRat 1 1) (mkRat 1 1) [[0, 1], [1, 0]] [[0, 1], [1, 0]] (mkRat 1 2) = true := by decide +kernel
theorem fb_2_one_2_whole (h : Mi.Heap) : C 18 70 [.int ((2 : Nat) : Int), .int ((2 : Nat) : Int), .str "one", .str Goal.whole.s] h = .ok (.tup [ePlan [[0, 1], [1, 0]], eQ (mkRat 1 1)]) h := fb_of (sm := sm2_one) (ct := 6) (fun h => by kernel_rfl) (fun h => by kernel_rfl) (fun h => by kernel_rfl) h111_2_one (fun h => by kernel_rfl) (by decide) (by decide) (by decide) (by decide) (by decide) (by decide +kernel) (by decide +kernel) h
theorem c_2_one_2_whole : chk5 2 2 .whole ((pRows sm2_one 2).filter (settled 2)) (mkRat 1 1) (mkRat 1 1) [[0, 1], [1, 0]] [[0, 1], [1, 0]] (mkRat 1 2) = true := by decide +kernel
theorem fb_2_one_3_sum (h : Mi.Heap) : C 18 70 [.int ((2 : Nat) : Int), .int ((3 : Nat) : Int), .str "one", .str Goal.sum.s] h = .ok (.tup [ePlan [[0, 1], [1, 0], [1, 1]], eQ (mkRat 4 3)]) h := fb_of (sm := sm2_one) (ct := 10) (fun h => by kernel_rfl) (fun h => by kernel_rfl) (fun h => by kernel_rfl) h111_2_one (fun h => by kernel_rfl) (by decide) (by decide) (by decide) (by decide) (by decide) (by decide +kernel) (by decide +kernel) h
theorem c_2_one_3_sum : chk5 2 3 .sum ((pRows sm2_one 3).filter (settled 2)) (mkRat 4 3) (mkRat 4 3) [[0, 1], [1, 0], [1, 1]] [[0, 1], [1, 0], [1, 1]] (mkRat 1 3) = true := by decide +kernel
theorem fb_2_one_3_worst (h : Mi.Heap) : C 18 70 [.int ((2 : Nat) : Int), .int ((3 : Nat) : Int), .str "one", .str Goal.worst.s] h = .ok (.tup [ePlan [[0, 1], [1, 0], [1, 1]], eQ (mkRat 2 3)]) h := fb_of (sm := sm2_one) (ct := 10) (fun h => by kernel_rfl) (fun h => by kernel_rfl) (fun h => by kernel_rfl) h111_2_one (fun h => by kernel_rfl) (by decide) (by decide) (by decide) (by decide) (by decide) (by decide +kernel) (by decide +kernel) h
theorem c_2_one_3_worst : chk5 2 3 .worst ((pRows sm2_one 3).filter (settled 2)) (mkRat 2 3) (mkRat 2 3) [[0, 1], [1, 0], [1, 1]] [[0, 1], [1, 0], [1, 1]] (mkRat 1 3) = true := by decide +kernel
theorem fb_2_one_3_whole (h : Mi.Heap) : C 18 70 [.int ((2 : Nat) : Int), .int ((3 : Nat) : Int), .str "one", .str Goal.whole.s] h = .ok (.tup [ePlan [[0, 1], [1, 0], [1, 1]], eQ (mkRat 1 3)]) h := fb_of (sm := sm2_one) (ct := 10) (fun h => by kernel_rfl) (fun h => by kernel_rfl) (fun h => by kernel_rfl) h111_2_one (fun h => by kernel_rfl) (by decide) (by decide) (by decide) (by decide) (by decide) (by decide +kernel) (by decide +kernel) h
theorem c_2_one_3_whole : chk5 2 3 .whole ((pRows sm2_one 3).filter (settled 2)) (mkRat 1 3) (mkRat 1 3) [[0, 1], [1, 0], [1, 1]] [[0, 1], [1, 0], [1, 1]] (mkRat 1 3) = true := by decide +kernel
theorem fb_2_one_4_sum (h : Mi.Heap) : C 18 70 [.int ((2 : Nat) : Int), .int ((4 : Nat) : Int), .str "one", .str Goal.sum.s] h = .ok (.tup [ePlan [[0, 1], [0, 1], [1, 0], [1, 0]], eQ (mkRat 1 1)]) h := fb_of (sm := sm2_one) (ct := 15) (fun h => by kernel_rfl) (fun h => by kernel_rfl) (fun h => by kernel_rfl) h111_2_one (fun h => by kernel_rfl) (by decide) (by decide) (by decide) (by decide) (by decide) (by decide +kernel) (by decide +kernel) h
theorem c_2_one_4_sum : chk5 2 4 .sum ((pRows sm2_one 4).filter (settled 2)) (mkRat 1 1) (mkRat 1 1) [[0, 1], [0, 1], [1, 0], [1, 0]] [[0, 1], [0, 1], [1, 0], [1, 0]] (mkRat 1 4) = true := by decide +kernel
theorem fb_2_one_4_worst (h : Mi.Heap) : C 18 70 [.int ((2 : Nat) : Int), .int ((4 : Nat) : Int), .str "one", .str Goal.worst.s] h = .ok (.tup [ePlan [[0, 1], [0, 1], [1, 0], [1, 0]], eQ (mkRat 1 2)]) h := fb_of (sm := sm2_one) (ct := 15) (fun h => by kernel_rfl) (fun h => by kernel_rfl) (fun h => by kernel_rfl) h111_2_one (fun h => by kernel_rfl) (by decide) (by decide) (by decide) (by decide) (by decide) (by decide +kernel) (by decide +kernel) h
theorem c_2_one_4_worst : chk5 2 4 .worst ((pRows sm2_one 4).filter (settled 2)) (mkRat 1 2) (mkRat 1 2) [[0, 1], [0, 1], [1, 0], [1, 0]] [[0, 1], [0, 1], [1, 0], [1, 0]] (mkRat 1 4) = true := by decide +kernel
theorem fb_2_one_4_whole (h : Mi.Heap) : C 18 70 [.int ((2 : Nat) : Int), .int ((4 : Nat) : Int), .str "one", .str Goal.whole.s] h = .ok (.tup [ePlan [[0, 1], [0, 1], [1, 0], [1, 1]], eQ (mkRat 1 5)]) h := fb_of (sm := sm2_one) (ct := 15) (fun h => by kernel_rfl) (fun h => by kernel_rfl) (fun h => by kernel_rfl) h111_2_one (fun h => by kernel_rfl) (by decide) (by decide) (by decide) (by decide) (by decide) (by decide +kernel) (by decide +kernel) h
theorem c_2_one_4_whole : chk5 2 4 .whole ((pRows sm2_one 4).filter (settled 2)) (mkRat 1 5) (mkRat 1 5) [[0, 1], [0, 1], [1, 0], [1, 1]] [[0, 1], [0, 1], [1, 0], [1, 1]] (mkRat 1 4) = true := by decide +kernel
def sm3_both : List (List Int) := [[0, 0, 1], [0, 1, -1], [0, 1, 0], [0, 1, 1], [1, -1, -1], [1, -1, 0], [1, -1, 1], [1, 0, -1], [1, 0, 0], [1, 0, 1], [1, 1, -1], [1, 1, 0], [1, 1, 1]]
theorem h111_3_both (h : Mi.Heap) : C 17 111 [.int ((3 : Nat) : Int), .str "both"] h = .ok (.lst .own (sm3_both.map eRow)) h := by kernel_rfl
theorem hsome_3_both (x y m gl : Mi.Val) (h : Mi.Heap) : ev (C 19) (.comp (.nm 12) (.seq (.call (.fn 38) (.cons (.var 9) (.cons (.var 10) .nil)))) (.so (.cmp .eq (.idx (.comp (.nm 17) (.seq (.var 12)) (.so (.cmp .ne (.var 17) (.int 0))) (.var 17)) (.int 0)) (.int 1))) (.var 12)) [some x, some y, some m, some gl, none, none, none, none, none, some (.int ((3 : Nat) : Int)), some (.str "both"), none, none, none, none, none, none, none] h = .ok (.lst .own (sm3_both.map eRow)) h := by kernel_rfl
theorem fb_3_both_3_sum (h : Mi.Heap) : C 18 70 [.int ((3 : Nat) : Int), .int ((3 : Nat) : Int), .str "both", .str Goal.sum.s] h = .ok (.tup [ePlan [[0, 1, -1], [1, -1, -1], [1, 1, 1]], eQ (mkRat 5 4)]) h := fb_of (sm := sm3_both) (ct := 455) (fun h => by kernel_rfl) (fun h => by kernel_rfl) (fun h => by kernel_rfl) h111_3_both (fun h => by kernel_rfl) (by decide) (by decide) (by decide) (by decide) (by decide) (by decide +kernel) (by decide +kernel) h
theorem c_3_both_3_sum : chk5 3 3 .sum ((pRows sm3_both 3).filter (settled 3)) (mkRat 5 4) (mkRat 2 1) [[0, 1, -1], [1, -1, -1], [1, 1, 1]] [[0, 0, 1], [1, -1, 0], [1, 1, 0]] (mkRat 1 3) = true := by decide +kernel
theorem fb_3_both_3_worst (h : Mi.Heap) : C 18 70 [.int ((3 : Nat) : Int), .int ((3 : Nat) : Int), .str "both", .str Goal.worst.s] h = .ok (.tup [ePlan [[0, 1, -1], [1, -1, -1], [1, 1, 1]], eQ (mkRat 1 2)]) h := fb_of (sm := sm3_both) (ct := 455) (fun h => by kernel_rfl) (fun h => by kernel_rfl) (fun h => by kernel_rfl) h111_3_both (fun h => by kernel_rfl) (by decide) (by decide) (by decide) (by decide) (by decide) (by decide +kernel) (by decide +kernel) h
theorem c_3_both_3_worst : chk5 3 3 .worst ((pRows sm3_both 3).filter (settled 3)) (mkRat 1 2) (mkRat 1 1) [[0, 1, -1], [1, -1, -1], [1, 1, 1]] [[0, 0, 1], [0, 1, 0], [1, 0, 0]] (mkRat 1 3) = true := by decide +kernel
theorem fb_3_both_3_whole (h : Mi.Heap) : C 18 70 [.int ((3 : Nat) : Int), .int ((3 : Nat) : Int), .str "both", .str Goal.whole.s] h = .ok (.tup [ePlan [[0, 1, -1], [1, -1, -1], [1, 1, 1]], eQ (mkRat 1 16)]) h := fb_of (sm := sm3_both) (ct := 455) (fun h => by kernel_rfl) (fun h => by kernel_rfl) (fun h => by kernel_rfl) h111_3_both (fun h => by kernel_rfl) (by decide) (by decide) (by decide) (by decide) (by decide) (by decide +kernel) (by decide +kernel) h
theorem c_3_both_3_whole : chk5 3 3 .whole ((pRows sm3_both 3).filter (settled 3)) (mkRat 1 16) (mkRat 1 4) [[0, 1, -1], [1, -1, -1], [1, 1, 1]] [[0, 0, 1], [1, -1, -1], [1, 1, -1]] (mkRat 1 3) = true := by decide +kernel
def sm3_one : List (List Int) := [[0, 0, 1], [0, 1, 0], [0, 1, 1], [1, 0, 0], [1, 0, 1], [1, 1, 0], [1, 1, 1]]
theorem h111_3_one (h : Mi.Heap) : C 17 111 [.int ((3 : Nat) : Int), .str "one"] h = .ok (.lst .own (sm3_one.map eRow)) h := by kernel_rfl
theorem hsome_3_one (x y m gl : Mi.Val) (h : Mi.Heap) : ev (C 19) (.comp (.nm 12) (.seq (.call (.fn 38) (.cons (.var 9) (.cons (.var 10) .nil)))) (.so (.cmp .eq (.idx (.comp (.nm 17) (.seq (.var 12)) (.so (.cmp .ne (.var 17) (.int 0))) (.var 17)) (.int 0)) (.int 1))) (.var 12)) [some x, some y, some m, some gl, none, none, none, none, none, some (.int ((3 : Nat) : Int)), some (.str "one"), none, none, none, none, none, none, none] h = .ok (.lst .own (sm3_one.map eRow)) h := by kernel_rfl
theorem fb_3_one_3_sum (h : Mi.Heap) : C 18 70 [.int ((3 : Nat) : Int), .int ((3 : Nat) : Int), .str "one", .str Goal.sum.s] h = .ok (.tup [ePlan [[0, 1, 1], [1, 0, 1], [1, 1, 0]], eQ (mkRat 9 4)]) h := fb_of (sm := sm3_one) (ct := 84) (fun h => by kernel_rfl) (fun h => by kernel_rfl) (fun h => by kernel_rfl) h111_3_one (fun h => by kernel_rfl) (by decide) (by decide) (by decide) (by decide) (by decide) (by decide +kernel) (by decide +kernel) h
theorem c_3_one_3_sum : chk5 3 3 .sum ((pRows sm3_one 3).filter (settled 3)) (mkRat 9 4) (mkRat 9 4) [[0, 1, 1], [1, 0, 1], [1, 1, 0]] [[0, 1, 1], [1, 0, 1], [1, 1, 0]] (mkRat 1 3) = true := by decide +kernel
theorem fb_3_one_3_worst (h : Mi.Heap) : C 18 70 [.int ((3 : Nat) : Int), .int ((3 : Nat) : Int), .str "one", .str Goal.worst.s] h = .ok (.tup [ePlan [[0, 1, 1], [1, 0, 1], [1, 1, 0]], eQ (mkRat 3 4)]) h := fb_of (sm := sm3_one) (ct := 84) (fun h => by kernel_rfl) (fun h => by kernel_rfl) (fun h => by kernel_rfl) h111_3_one (fun h => by kernel_rfl) (by decide) (by decide) (by decide) (by decide) (by decide) (by decide +kernel) (by decide +kernel) h
theorem c_3_one_3_worst : chk5 3 3 .worst ((pRows sm3_one 3).filter (settled 3)) (mkRat 3 4) (mkRat 3 4) [[0, 1, 1], [1, 0, 1], [1, 1, 0]] [[0, 1, 1], [1, 0, 1], [1, 1, 0]] (mkRat 1 3) = true := by decide +kernel
theorem fb_3_one_3_whole (h : Mi.Heap) : C 18 70 [.int ((3 : Nat) : Int), .int ((3 : Nat) : Int), .str "one", .str Goal.whole.s] h = .ok (.tup [ePlan [[0, 1, 1], [1, 0, 1], [1, 1, 0]], eQ (mkRat 1 4)]) h := fb_of (sm := sm3_one) (ct := 84) (fun h => by kernel_rfl) (fun h => by kernel_rfl) (fun h => by kernel_rfl) h111_3_one (fun h => by kernel_rfl) (by decide) (by decide) (by decide) (by decide) (by decide) (by decide +kernel) (by decide +kernel) h
theorem c_3_one_3_whole : chk5 3 3 .whole ((pRows sm3_one 3).filter (settled 3)) (mkRat 1 4) (mkRat 1 4) [[0, 1, 1], [1, 0, 1], [1, 1, 0]] [[0, 1, 1], [1, 0, 1], [1, 1, 0]] (mkRat 1 3) = true := by decide +kernel
theorem fb_3_one_4_sum (h : Mi.Heap) : C 18 70 [.int ((3 : Nat) : Int), .int ((4 : Nat) : Int), .str "one", .str Goal.sum.s] h = .ok (.tup [ePlan [[0, 0, 1], [0, 1, 1], [1, 0, 1], [1, 1, 0]], eQ (mkRat 13 7)]) h := fb_of (sm := sm3_one) (ct := 210) (fun h => by kernel_rfl) (fun h => by kernel_rfl) (fun h => by kernel_rfl) h111_3_one (fun h => by kernel_rfl) (by decide) (by decide) (by decide) (by decide) (by decide) (by decide +kernel) (by decide +kernel) h
theorem c_3_one_4_sum : chk5 3 4 .sum ((pRows sm3_one 4).filter (settled 3)) (mkRat 13 7) (mkRat 13 7) [[0, 0, 1], [0, 1, 1], [1, 0, 1], [1, 1, 0]] [[0, 0, 1], [0, 1, 1], [1, 0, 1], [1, 1, 0]] (mkRat 1 4) = true := by decide +kernel
theorem fb_3_one_4_worst (h : Mi.Heap) : C 18 70 [.int ((3 : Nat) : Int), .int ((4 : Nat) : Int), .str "one", .str Goal.worst.s] h = .ok (.tup [ePlan [[0, 1, 1], [0, 1, 1], [1, 0, 1], [1, 1, 0]], eQ (mkRat 5 8)]) h := fb_of (sm := sm3_one) (ct := 210) (fun h => by kernel_rfl) (fun h => by kernel_rfl) (fun h => by kernel_rfl) h111_3_one (fun h => by kernel_rfl) (by decide) (by decide) (by decide) (by decide) (by decide) (by decide +kernel) (by decide +kernel) h
theorem c_3_one_4_worst : chk5 3 4 .worst ((pRows sm3_one 4).filter (settled 3)) (mkRat 5 8) (mkRat 5 8) [[0, 1, 1], [0, 1, 1], [1, 0, 1], [1, 1, 0]] [[0, 1, 1], [0, 1, 1], [1, 0, 1], [1, 1, 0]] (mkRat 1 4) = true := by decide +kernel
theorem fb_3_one_4_whole (h : Mi.Heap) : C 18 70 [.int ((3 : Nat) : Int), .int ((4 : Nat) : Int), .str "one", .str Goal.whole.s] h = .ok (.tup [ePlan [[0, 1, 1], [0, 1, 1], [1, 0, 1], [1, 1, 0]], eQ (mkRat 1 8)]) h := fb_of (sm := sm3_one) (ct := 210) (fun h => by kernel_rfl) (fun h => by kernel_rfl) (fun h => by kernel_rfl) h111_3_one (fun h => by kernel_rfl) (by decide) (by decide) (by decide) (by decide) (by decide) (by decide +kernel) (by decide +kernel) h
theorem c_3_one_4_whole : chk5 3 4 .whole ((pRows sm3_one 4).filter (settled 3)) (mkRat 1 8) (mkRat 1 8) [[0, 1, 1], [0, 1, 1], [1, 0, 1], [1, 1, 0]] [[0, 1, 1], [0, 1, 1], [1, 0, 1], [1, 1, 0]] (mkRat 1 4) = true := by decide +kernel
end K50

set_option Elab.async false
set_option linter.all false
set_option maxRecDepth 100000
set_option maxHeartbeats 0
namespace K50
open PySem PySem.Spec L2 PyProof.Rows Mi
local macro_rules | `(tactic| walk_at "sl") => `(tactic| repeat' (first | (with_reducible exact get_zero) | (with_reducible exact set_zero) | (with_reducible apply get_succ) | (with_reducible apply set_succ) | (with_reducible apply wipe_nm) | (with_reducible apply wipe_tp2) | (with_reducible apply wipe_2)))
local macro_rules | `(tactic| walk_at "op") => `(tactic| first | (with_reducible exact i_nn) | (with_reducible exact i_n) | (with_reducible exact i_tn) | (with_reducible exact i_t) | (with_reducible exact b_add) | (with_reducible exact o_sub) | (with_reducible exact eq_int) | (with_reducible exact ne_int) | (with_reducible exact o_lt) | (with_reducible exact o_le) | (with_reducible exact o_gt) | (with_reducible exact o_ge) | (with_reducible exact t_bl) | (with_reducible exact t_int) | (with_reducible exact x_fst) | (with_reducible exact x_snd) | (with_reducible exact l_tup) | (with_reducible exact l_lst) | (with_reducible exact p_tup) | (with_reducible exact p_lst) | (with_reducible exact p_lstT) | (with_reducible exact p_abs) | (with_reducible exact sum_ints) | (with_reducible exact sum_map) | (with_reducible exact all_map) | (with_reducible exact isin_i) | (with_reducible exact isin_b) | (with_reducible exact isin_t) | (with_reducible exact isin_str) | (with_reducible exact any_lst) | (with_reducible exact any_tup) | (with_reducible exact q_nilN) | (with_reducible exact s_cutL) | (with_reducible exact s_cutR1) | (with_reducible exact s_cut1) | (with_reducible apply b_mul) | (with_reducible apply b_fdiv) | (with_reducible apply b_mod) | (with_reducible apply o_addT1) | (with_reducible apply o_addTM) | (with_reducible apply o_addT) | ((with_reducible apply o_addL1); (first | decide | skip); (first | decide | skip)) | ((with_reducible apply o_addLM); (first | decide | skip); (first | decide | skip)) | ((with_reducible apply o_addL); (first | decide | skip); (first | decide | skip)) | (with_reducible apply x_tup0 (0 : Int)) | (with_reducible apply x_lst0 (0 : Int)) | (with_reducible apply x_tup0 ([] : List Int)) | (with_reducible apply x_lst0 ([] : List Int)) | (with_reducible apply x_last (0 : Nat)) | (with_reducible apply x_tup (0 : Int)) | (with_reducible apply x_lst (0 : Int)) | (with_reducible apply x_tup ([] : List Int)) | (with_reducible apply x_lst ([] : List Int)))
local macro_rules | `(tactic| walk_at "e1") => `(tactic| first | (with_reducible exact ev_int) | (with_reducible exact ev_bl) | (with_reducible exact ev_non) | (with_reducible exact ev_str) | (with_reducible exact ev_fn) | (with_reducible exact ev_cls) | (with_reducible exact ev_ty) | ((with_reducible apply ev_var); (focus walk_at "sl"); exact rfl) | (with_reducible apply ev_bin) | (with_reducible apply ev_neg) | (with_reducible apply ev_cmp) | (with_reducible apply ev_chn) | (with_reducible apply ev_not) | (with_reducible apply ev_bo) | (with_reducible apply bo_one) | (with_reducible apply bo_and) | (with_reducible apply bo_or) | (with_reducible apply ev_iteI) | (with_reducible apply ev_tup) | (with_reducible apply ev_lst) | (with_reducible exact evs_nil) | (with_reducible apply evs_cons) | (with_reducible apply ev_idx) | (with_reducible exact evo_no) | (with_reducible apply evo_so) | (with_reducible apply ev_slc) | (with_reducible apply ev_call) | (with_reducible apply ev_p1) | (with_reducible apply ev_p2) | (with_reducible apply ev_m1) | (with_reducible exact evT_no) | (with_reducible apply evT_so) | (with_reducible exact fits_of (by first | exact Nat.zero_le _ | (simp only [List.length_cons, List.length_nil]; omega))) | (with_reducible apply it_seq) | (with_reducible apply it_rng1) | (with_reducible apply it_rng2) | (with_reducible apply it_enum) | (with_reducible apply it_zip) | (with_reducible apply ev_compM) | (with_reducible apply ev_compP) | (with_reducible apply ev_comp2P) | (intro _ _; (with_reducible apply Elt.mk)) | (intro _ _; (with_reducible apply EltP.mk)) | (intro _ _; (with_reducible apply Elt2.mk)) | ((with_reducible apply bT_nm); walk_at "sl"; done) | (with_reducible apply bT_tp2))
local macro_rules | `(tactic| walk_at "s1") => `(tactic| first | (with_reducible exact exs_nil) | (with_reducible apply exs_appc) | (with_reducible apply exs_appn) | (with_reducible apply exs_set) | (with_reducible apply exs_par2) | (with_reducible apply exs_par3) | (with_reducible apply exs_ret) | (with_reducible exact exs_rais) | (with_reducible apply exs_pas) | (with_reducible apply exs_ex) | (with_reducible apply exs_unp) | (with_reducible apply exs_app1) | (with_reducible apply keep_fz) | (with_reducible apply keep_own) | (with_reducible apply keep_heap))
local macro_rules | `(tactic| walk_at "rf") => `(tactic| first | ((with_reducible apply k_fz); exact rfl) | ((with_reducible apply k_un); exact rfl) | ((with_reducible apply k_it); exact rfl) | ((with_reducible apply k_sq); exact rfl) | ((with_reducible apply k_br); exact rfl) | ((with_reducible apply k_m1); exact rfl) | ((with_reducible apply k_set); walk_at "sl"; done) | ((with_reducible apply k_wipe); walk_at "sl"; done) | ((with_reducible apply k_get); walk_at "sl"; done))
local macro_rules | `(tactic| walk_at "mi") => `(tactic| repeat' (first | walk_at "e1" | walk_at "op" | walk_at "s1" | walk_at "rf" | (intro _; (first | walk_at "e1" | walk_at "s1"))))
local macro_rules | `(tactic| walk_at "mic") => `(tactic| repeat' (first | walk_at "e1" | walk_at "op" | walk_at "s1" | walk_at "rf" | ((with_reducible apply k_call); (with_reducible apply_assumption -exfalso -symm)) | (intro _; (first | walk_at "e1" | walk_at "s1"))))
local macro_rules | `(tactic| walk_at "sd") => `(tactic| first | assumption | omega | (simp only [List.length_range, List.length_map, List.length_cons, List.length_nil]; omega) | (simp only [List.mem_range, List.length_range, List.length_map] at *; omega))
local macro_rules | `(tactic| walk_at "st") => `(tactic| simp only [List.map_cons, List.map_nil, List.cons_append, List.nil_append, List.reduceReplicate, Nat.reduceSub])
theorem ex_set {c : Cf} {N i : Nat} {k : Sk} {e : Mi.E} {v : Val} {ρ ρ1 : Slots} {h h1 h2 : Mi.Heap} (he : ev c e ρ h = .ok v h1) (hk : keep i k v ρ h1 = .ok ρ1 h2) : ex c N (.set i k e) ρ h = .ok (.nx ρ1) h2 := by unfold ex; simp only [he, hk, R.bind]
def Rest (w many : Nat) (sort : Str) (g : Goal) : Prop := ∀ (ns : List Int), ns.length ≤ 63 → ∀ (B : Nat) (h : Mi.Heap), Tn ns B h → B < 1000 → ∃ h', exs (C 19) NN rest [some (scrV ns), some (.ref 0), some (.int (many : Int)), some (.str g.s), none, none, none, none, none, some (.int (w : Int)), some (.str sort), none, none, none, none, none, none, none] h = .ok (.rt (.bl true)) h'
def LIM : Mi.E := (.idx (.tup (.cons (.int 4) (.cons (.int 3) (.cons (.bin .add (.int 1) (.p1 .int (.cmp .eq (.var 10) (.str "one")))) .nil)))) (.bin .sub (.var 9) (.int 1)))
theorem goals_in {gs : Str} (h : gs ∈ [("sum" : Str), "worst", "whole"]) : ∃ g : Goal, gs = g.s := by
  simp only [List.mem_cons, List.not_mem_nil, or_false] at h
  rcases h with rfl | rfl | rfl
  · exact ⟨.sum, rfl⟩
  · exact ⟨.worst, rfl⟩
  · exact ⟨.whole, rfl⟩
theorem tail_run {ns : List Int} (hn : ns.length ≤ 63) {B : Nat} {h : Mi.Heap} (hT : Tn ns B h) (hB : B < 100) {w : Nat} {sort : Str} {L : Nat} (hw : w ≤ 10) (hL0 : 0 < L) (hL : L < 100)
    (hlim : ∀ x y h, ev (C 19) LIM [some x, some y, none, none, none, none, none, none, none, some (.int (w : Int)), some (.str sort), none, none, none, none, none, none, none] h = .ok (.int (L : Int)) h)
    (H : ∀ r : Nat, r < L → ∀ g, Rest w (w + r) sort g) :
    ∃ h', exs (C 19) NN (.cons s2 (.cons s3 rest)) [some (scrV ns), some (.ref 0), none, none, none, none, none, none, none, some (.int (w : Int)), some (.str sort), none, none, none, none, none, none, none] h = .ok (.rt (.bl true)) h' := by
  obtain ⟨r, h1, d1, r0, r1, T1, _⟩ := draw_spec (G := gOf dl) (N := NN) (n := 18) (h := h) (has.sub (S := [7]) rfl) hn hT (by omega) (limit := (L : Int)) (by omega) (by omega)
  obtain ⟨r, rfl⟩ := Int.eq_ofNat_of_zero_le r0
  obtain ⟨gs, h2, d2, hg, T2, _⟩ := pick_spec (G := gOf dl) (N := NN) (n := 17) (h := h1) (has.sub (S := [17, 7]) rfl) hn T1 (by omega) (xs := [("sum" : Str), "worst", "whole"]) (f := Val.str) rfl (by simp) (by simp)
  obtain ⟨g, rfl⟩ := goals_in hg
  obtain ⟨h', e⟩ := H r (by omega) g ns hn _ h2 T2 (by omega)
  refine ⟨h', ?_⟩
  refine exs_nx (h1 := h1) (ρ1 := [some (scrV ns), some (.ref 0), some (.int ((w + r : Nat) : Int)), none, none, none, none, none, none, some (.int (w : Int)), some (.str sort), none, none, none, none, none, none, none]) ?_ ?_
  · unfold s2
    apply ex_set (v := .int ((w + r : Nat) : Int))
    · apply ev_bin
      · walk_at "mi"
      · apply ev_call
        · walk_at "mi"
        · apply evs_cons
          · walk_at "mi"
          · rfl
          · apply evs_cons
            · walk_at "mi"
            · rfl
            · apply evs_cons
              · exact hlim _ _ h
              · rfl
              · walk_at "mi"
        · exact d1
      · rw [b_add]
        rfl
    · walk_at "mi"
  refine exs_nx (h1 := h2) (ρ1 := [some (scrV ns), some (.ref 0), some (.int ((w + r : Nat) : Int)), some (.str g.s), none, none, none, none, none, some (.int (w : Int)), some (.str sort), none, none, none, none, none, none, none]) ?_ ?_
  · unfold s3
    apply ex_set (v := .str g.s)
    · walk_at "mi"
      exact d2
    · walk_at "mi"
  exact e
theorem szm (n : Nat) (h : n < 100) (h0 : 0 < n) : Sz 100 (mkRat 1 n) := by
  have e : mkRat 1 n = ((1 : Int) : Rat) / ((n : Int) : Rat) := by rw [Rat.mkRat_eq_div]; rfl
  rw [e]
  exact Sz.div (by omega) (Nat.one_lt_pow (by omega) (by omega)) (Nat.lt_of_lt_of_le (show (n : Int).natAbs < 2 ^ 7 by omega) (Nat.pow_le_pow_right (by omega) (by omega)))

theorem r_1_both_1_sum : Rest 1 1 "both" .sum := fun ns hn B h hT hB => case_of (w := 1) (many := 1) (sort := "both") (g := .sum) hn hT hB (by decide) (by decide) (by decide) (by decide) (by decide +kernel) hsome_1_both fb_1_both_1_sum c_1_both_1_sum rfl (szm 1 (by decide) (by decide))
theorem r_1_both_1_worst : Rest 1 1 "both" .worst := fun ns hn B h hT hB => case_of (w := 1) (many := 1) (sort := "both") (g := .worst) hn hT hB (by decide) (by decide) (by decide) (by decide) (by decide +kernel) hsome_1_both fb_1_both_1_worst c_1_both_1_worst rfl (szm 1 (by decide) (by decide))
theorem r_1_both_1_whole : Rest 1 1 "both" .whole := fun ns hn B h hT hB => case_of (w := 1) (many := 1) (sort := "both") (g := .whole) hn hT hB (by decide) (by decide) (by decide) (by decide) (by decide +kernel) hsome_1_both fb_1_both_1_whole c_1_both_1_whole rfl (szm 1 (by decide) (by decide))
theorem r_1_both_2_sum : Rest 1 2 "both" .sum := fun ns hn B h hT hB => case_of (w := 1) (many := 2) (sort := "both") (g := .sum) hn hT hB (by decide) (by decide) (by decide) (by decide) (by decide +kernel) hsome_1_both fb_1_both_2_sum c_1_both_2_sum rfl (szm 2 (by decide) (by decide))
theorem r_1_both_2_worst : Rest 1 2 "both" .worst := fun ns hn B h hT hB => case_of (w := 1) (many := 2) (sort := "both") (g := .worst) hn hT hB (by decide) (by decide) (by decide) (by decide) (by decide +kernel) hsome_1_both fb_1_both_2_worst c_1_both_2_worst rfl (szm 2 (by decide) (by decide))
theorem r_1_both_2_whole : Rest 1 2 "both" .whole := fun ns hn B h hT hB => case_of (w := 1) (many := 2) (sort := "both") (g := .whole) hn hT hB (by decide) (by decide) (by decide) (by decide) (by decide +kernel) hsome_1_both fb_1_both_2_whole c_1_both_2_whole rfl (szm 2 (by decide) (by decide))
theorem r_1_both_3_sum : Rest 1 3 "both" .sum := fun ns hn B h hT hB => case_of (w := 1) (many := 3) (sort := "both") (g := .sum) hn hT hB (by decide) (by decide) (by decide) (by decide) (by decide +kernel) hsome_1_both fb_1_both_3_sum c_1_both_3_sum rfl (szm 3 (by decide) (by decide))
theorem r_1_both_3_worst : Rest 1 3 "both" .worst := fun ns hn B h hT hB => case_of (w := 1) (many := 3) (sort := "both") (g := .worst) hn hT hB (by decide) (by decide) (by decide) (by decide) (by decide +kernel) hsome_1_both fb_1_both_3_worst c_1_both_3_worst rfl (szm 3 (by decide) (by decide))
theorem r_1_both_3_whole : Rest 1 3 "both" .whole := fun ns hn B h hT hB => case_of (w := 1) (many := 3) (sort := "both") (g := .whole) hn hT hB (by decide) (by decide) (by decide) (by decide) (by decide +kernel) hsome_1_both fb_1_both_3_whole c_1_both_3_whole rfl (szm 3 (by decide) (by decide))
theorem r_1_both_4_sum : Rest 1 4 "both" .sum := fun ns hn B h hT hB => case_of (w := 1) (many := 4) (sort := "both") (g := .sum) hn hT hB (by decide) (by decide) (by decide) (by decide) (by decide +kernel) hsome_1_both fb_1_both_4_sum c_1_both_4_sum rfl (szm 4 (by decide) (by decide))
theorem r_1_both_4_worst : Rest 1 4 "both" .worst := fun ns hn B h hT hB => case_of (w := 1) (many := 4) (sort := "both") (g := .worst) hn hT hB (by decide) (by decide) (by decide) (by decide) (by decide +kernel) hsome_1_both fb_1_both_4_worst c_1_both_4_worst rfl (szm 4 (by decide) (by decide))
theorem r_1_both_4_whole : Rest 1 4 "both" .whole := fun ns hn B h hT hB => case_of (w := 1) (many := 4) (sort := "both") (g := .whole) hn hT hB (by decide) (by decide) (by decide) (by decide) (by decide +kernel) hsome_1_both fb_1_both_4_whole c_1_both_4_whole rfl (szm 4 (by decide) (by decide))
theorem r_1_one_1_sum : Rest 1 1 "one" .sum := fun ns hn B h hT hB => case_of (w := 1) (many := 1) (sort := "one") (g := .sum) hn hT hB (by decide) (by decide) (by decide) (by decide) (by decide +kernel) hsome_1_one fb_1_one_1_sum c_1_one_1_sum rfl (szm 1 (by decide) (by decide))
theorem r_1_one_1_worst : Rest 1 1 "one" .worst := fun ns hn B h hT hB => case_of (w := 1) (many := 1) (sort := "one") (g := .worst) hn hT hB (by decide) (by decide) (by decide) (by decide) (by decide +kernel) hsome_1_one fb_1_one_1_worst c_1_one_1_worst rfl (szm 1 (by decide) (by decide))
theorem r_1_one_1_whole : Rest 1 1 "one" .whole := fun ns hn B h hT hB => case_of (w := 1) (many := 1) (sort := "one") (g := .whole) hn hT hB (by decide) (by decide) (by decide) (by decide) (by decide +kernel) hsome_1_one fb_1_one_1_whole c_1_one_1_whole rfl (szm 1 (by decide) (by decide))
theorem r_1_one_2_sum : Rest 1 2 "one" .sum := fun ns hn B h hT hB => case_of (w := 1) (many := 2) (sort := "one") (g := .sum) hn hT hB (by decide) (by decide) (by decide) (by decide) (by decide +kernel) hsome_1_one fb_1_one_2_sum c_1_one_2_sum rfl (szm 2 (by decide) (by decide))
theorem r_1_one_2_worst : Rest 1 2 "one" .worst := fun ns hn B h hT hB => case_of (w := 1) (many := 2) (sort := "one") (g := .worst) hn hT hB (by decide) (by decide) (by decide) (by decide) (by decide +kernel) hsome_1_one fb_1_one_2_worst c_1_one_2_worst rfl (szm 2 (by decide) (by decide))
theorem r_1_one_2_whole : Rest 1 2 "one" .whole := fun ns hn B h hT hB => case_of (w := 1) (many := 2) (sort := "one") (g := .whole) hn hT hB (by decide) (by decide) (by decide) (by decide) (by decide +kernel) hsome_1_one fb_1_one_2_whole c_1_one_2_whole rfl (szm 2 (by decide) (by decide))
theorem r_1_one_3_sum : Rest 1 3 "one" .sum := fun ns hn B h hT hB => case_of (w := 1) (many := 3) (sort := "one") (g := .sum) hn hT hB (by decide) (by decide) (by decide) (by decide) (by decide +kernel) hsome_1_one fb_1_one_3_sum c_1_one_3_sum rfl (szm 3 (by decide) (by decide))
theorem r_1_one_3_worst : Rest 1 3 "one" .worst := fun ns hn B h hT hB => case_of (w := 1) (many := 3) (sort := "one") (g := .worst) hn hT hB (by decide) (by decide) (by decide) (by decide) (by decide +kernel) hsome_1_one fb_1_one_3_worst c_1_one_3_worst rfl (szm 3 (by decide) (by decide))
theorem r_1_one_3_whole : Rest 1 3 "one" .whole := fun ns hn B h hT hB => case_of (w := 1) (many := 3) (sort := "one") (g := .whole) hn hT hB (by decide) (by decide) (by decide) (by decide) (by decide +kernel) hsome_1_one fb_1_one_3_whole c_1_one_3_whole rfl (szm 3 (by decide) (by decide))
theorem r_1_one_4_sum : Rest 1 4 "one" .sum := fun ns hn B h hT hB => case_of (w := 1) (many := 4) (sort := "one") (g := .sum) hn hT hB (by decide) (by decide) (by decide) (by decide) (by decide +kernel) hsome_1_one fb_1_one_4_sum c_1_one_4_sum rfl (szm 4 (by decide) (by decide))
theorem r_1_one_4_worst : Rest 1 4 "one" .worst := fun ns hn B h hT hB => case_of (w := 1) (many := 4) (sort := "one") (g := .worst) hn hT hB (by decide) (by decide) (by decide) (by decide) (by decide +kernel) hsome_1_one fb_1_one_4_worst c_1_one_4_worst rfl (szm 4 (by decide) (by decide))
theorem r_1_one_4_whole : Rest 1 4 "one" .whole := fun ns hn B h hT hB => case_of (w := 1) (many := 4) (sort := "one") (g := .whole) hn hT hB (by decide) (by decide) (by decide) (by decide) (by decide +kernel) hsome_1_one fb_1_one_4_whole c_1_one_4_whole rfl (szm 4 (by decide) (by decide))
theorem r_2_both_2_sum : Rest 2 2 "both" .sum := fun ns hn B h hT hB => case_of (w := 2) (many := 2) (sort := "both") (g := .sum) hn hT hB (by decide) (by decide) (by decide) (by decide) (by decide +kernel) hsome_2_both fb_2_both_2_sum c_2_both_2_sum rfl (szm 2 (by decide) (by decide))
theorem r_2_both_2_worst : Rest 2 2 "both" .worst := fun ns hn B h hT hB => case_of (w := 2) (many := 2) (sort := "both") (g := .worst) hn hT hB (by decide) (by decide) (by decide) (by decide) (by decide +kernel) hsome_2_both fb_2_both_2_worst c_2_both_2_worst rfl (szm 2 (by decide) (by decide))
theorem r_2_both_2_whole : Rest 2 2 "both" .whole := fun ns hn B h hT hB => case_of (w := 2) (many := 2) (sort := "both") (g := .whole) hn hT hB (by decide) (by decide) (by decide) (by decide) (by decide +kernel) hsome_2_both fb_2_both_2_whole c_2_both_2_whole rfl (szm 2 (by decide) (by decide))
theorem r_2_both_3_sum : Rest 2 3 "both" .sum := fun ns hn B h hT hB => case_of (w := 2) (many := 3) (sort := "both") (g := .sum) hn hT hB (by decide) (by decide) (by decide) (by decide) (by decide +kernel) hsome_2_both fb_2_both_3_sum c_2_both_3_sum rfl (szm 3 (by decide) (by decide))
theorem r_2_both_3_worst : Rest 2 3 "both" .worst := fun ns hn B h hT hB => case_of (w := 2) (many := 3) (sort := "both") (g := .worst) hn hT hB (by decide) (by decide) (by decide) (by decide) (by decide +kernel) hsome_2_both fb_2_both_3_worst c_2_both_3_worst rfl (szm 3 (by decide) (by decide))
theorem r_2_both_3_whole : Rest 2 3 "both" .whole := fun ns hn B h hT hB => case_of (w := 2) (many := 3) (sort := "both") (g := .whole) hn hT hB (by decide) (by decide) (by decide) (by decide) (by decide +kernel) hsome_2_both fb_2_both_3_whole c_2_both_3_whole rfl (szm 3 (by decide) (by decide))
theorem r_2_both_4_sum : Rest 2 4 "both" .sum := fun ns hn B h hT hB => case_of (w := 2) (many := 4) (sort := "both") (g := .sum) hn hT hB (by decide) (by decide) (by decide) (by decide) (by decide +kernel) hsome_2_both fb_2_both_4_sum c_2_both_4_sum rfl (szm 4 (by decide) (by decide))
theorem r_2_both_4_worst : Rest 2 4 "both" .worst := fun ns hn B h hT hB => case_of (w := 2) (many := 4) (sort := "both") (g := .worst) hn hT hB (by decide) (by decide) (by decide) (by decide) (by decide +kernel) hsome_2_both fb_2_both_4_worst c_2_both_4_worst rfl (szm 4 (by decide) (by decide))
theorem r_2_both_4_whole : Rest 2 4 "both" .whole := fun ns hn B h hT hB => case_of (w := 2) (many := 4) (sort := "both") (g := .whole) hn hT hB (by decide) (by decide) (by decide) (by decide) (by decide +kernel) hsome_2_both fb_2_both_4_whole c_2_both_4_whole rfl (szm 4 (by decide) (by decide))
theorem r_2_one_2_sum : Rest 2 2 "one" .sum := fun ns hn B h hT hB => case_of (w := 2) (many := 2) (sort := "one") (g := .sum) hn hT hB (by decide) (by decide) (by decide) (by decide) (by decide +kernel) hsome_2_one fb_2_one_2_sum c_2_one_2_sum rfl (szm 2 (by decide) (by decide))
theorem r_2_one_2_worst : Rest 2 2 "one" .worst := fun ns hn B h hT hB => case_of (w := 2) (many := 2) (sort := "one") (g := .worst) hn hT hB (by decide) (by decide) (by decide) (by decide) (by decide +kernel) hsome_2_one fb_2_one_2_worst c_2_one_2_worst rfl (szm 2 (by decide) (by decide))
theorem r_2_one_2_whole : Rest 2 2 "one" .whole := fun ns hn B h hT hB => case_of (w := 2) (many := 2) (sort := "one") (g := .whole) hn hT hB (by decide) (by decide) (by decide) (by decide) (by decide +kernel) hsome_2_one fb_2_one_2_whole c_2_one_2_whole rfl (szm 2 (by decide) (by decide))
theorem r_2_one_3_sum : Rest 2 3 "one" .sum := fun ns hn B h hT hB => case_of (w := 2) (many := 3) (sort := "one") (g := .sum) hn hT hB (by decide) (by decide) (by decide) (by decide) (by decide +kernel) hsome_2_one fb_2_one_3_sum c_2_one_3_sum rfl (szm 3 (by decide) (by decide))
theorem r_2_one_3_worst : Rest 2 3 "one" .worst := fun ns hn B h hT hB => case_of (w := 2) (many := 3) (sort := "one") (g := .worst) hn hT hB (by decide) (by decide) (by decide) (by decide) (by decide +kernel) hsome_2_one fb_2_one_3_worst c_2_one_3_worst rfl (szm 3 (by decide) (by decide))
theorem r_2_one_3_whole : Rest 2 3 "one" .whole := fun ns hn B h hT hB => case_of (w := 2) (many := 3) (sort := "one") (g := .whole) hn hT hB (by decide) (by decide) (by decide) (by decide) (by decide +kernel) hsome_2_one fb_2_one_3_whole c_2_one_3_whole rfl (szm 3 (by decide) (by decide))
theorem r_2_one_4_sum : Rest 2 4 "one" .sum := fun ns hn B h hT hB => case_of (w := 2) (many := 4) (sort := "one") (g := .sum) hn hT hB (by decide) (by decide) (by decide) (by decide) (by decide +kernel) hsome_2_one fb_2_one_4_sum c_2_one_4_sum rfl (szm 4 (by decide) (by decide))
theorem r_2_one_4_worst : Rest 2 4 "one" .worst := fun ns hn B h hT hB => case_of (w := 2) (many := 4) (sort := "one") (g := .worst) hn hT hB (by decide) (by decide) (by decide) (by decide) (by decide +kernel) hsome_2_one fb_2_one_4_worst c_2_one_4_worst rfl (szm 4 (by decide) (by decide))
theorem r_2_one_4_whole : Rest 2 4 "one" .whole := fun ns hn B h hT hB => case_of (w := 2) (many := 4) (sort := "one") (g := .whole) hn hT hB (by decide) (by decide) (by decide) (by decide) (by decide +kernel) hsome_2_one fb_2_one_4_whole c_2_one_4_whole rfl (szm 4 (by decide) (by decide))
theorem r_3_both_3_sum : Rest 3 3 "both" .sum := fun ns hn B h hT hB => case_of (w := 3) (many := 3) (sort := "both") (g := .sum) hn hT hB (by decide) (by decide) (by decide) (by decide) (by decide +kernel) hsome_3_both fb_3_both_3_sum c_3_both_3_sum rfl (szm 3 (by decide) (by decide))
theorem r_3_both_3_worst : Rest 3 3 "both" .worst := fun ns hn B h hT hB => case_of (w := 3) (many := 3) (sort := "both") (g := .worst) hn hT hB (by decide) (by decide) (by decide) (by decide) (by decide +kernel) hsome_3_both fb_3_both_3_worst c_3_both_3_worst rfl (szm 3 (by decide) (by decide))
theorem r_3_both_3_whole : Rest 3 3 "both" .whole := fun ns hn B h hT hB => case_of (w := 3) (many := 3) (sort := "both") (g := .whole) hn hT hB (by decide) (by decide) (by decide) (by decide) (by decide +kernel) hsome_3_both fb_3_both_3_whole c_3_both_3_whole rfl (szm 3 (by decide) (by decide))
theorem r_3_one_3_sum : Rest 3 3 "one" .sum := fun ns hn B h hT hB => case_of (w := 3) (many := 3) (sort := "one") (g := .sum) hn hT hB (by decide) (by decide) (by decide) (by decide) (by decide +kernel) hsome_3_one fb_3_one_3_sum c_3_one_3_sum rfl (szm 3 (by decide) (by decide))
theorem r_3_one_3_worst : Rest 3 3 "one" .worst := fun ns hn B h hT hB => case_of (w := 3) (many := 3) (sort := "one") (g := .worst) hn hT hB (by decide) (by decide) (by decide) (by decide) (by decide +kernel) hsome_3_one fb_3_one_3_worst c_3_one_3_worst rfl (szm 3 (by decide) (by decide))
theorem r_3_one_3_whole : Rest 3 3 "one" .whole := fun ns hn B h hT hB => case_of (w := 3) (many := 3) (sort := "one") (g := .whole) hn hT hB (by decide) (by decide) (by decide) (by decide) (by decide +kernel) hsome_3_one fb_3_one_3_whole c_3_one_3_whole rfl (szm 3 (by decide) (by decide))
theorem r_3_one_4_sum : Rest 3 4 "one" .sum := fun ns hn B h hT hB => case_of (w := 3) (many := 4) (sort := "one") (g := .sum) hn hT hB (by decide) (by decide) (by decide) (by decide) (by decide +kernel) hsome_3_one fb_3_one_4_sum c_3_one_4_sum rfl (szm 4 (by decide) (by decide))
theorem r_3_one_4_worst : Rest 3 4 "one" .worst := fun ns hn B h hT hB => case_of (w := 3) (many := 4) (sort := "one") (g := .worst) hn hT hB (by decide) (by decide) (by decide) (by decide) (by decide +kernel) hsome_3_one fb_3_one_4_worst c_3_one_4_worst rfl (szm 4 (by decide) (by decide))
theorem r_3_one_4_whole : Rest 3 4 "one" .whole := fun ns hn B h hT hB => case_of (w := 3) (many := 4) (sort := "one") (g := .whole) hn hT hB (by decide) (by decide) (by decide) (by decide) (by decide +kernel) hsome_3_one fb_3_one_4_whole c_3_one_4_whole rfl (szm 4 (by decide) (by decide))
theorem t_1_both {ns : List Int} (hn : ns.length ≤ 63) {B : Nat} {h : Mi.Heap} (hT : Tn ns B h) (hB : B < 100) : ∃ h', exs (C 19) NN (.cons s2 (.cons s3 rest)) [some (scrV ns), some (.ref 0), none, none, none, none, none, none, none, some (.int ((1 : Nat) : Int)), some (.str "both"), none, none, none, none, none, none, none] h = .ok (.rt (.bl true)) h' := by
  refine tail_run hn hT hB (L := 4) (by decide) (by decide) (by decide) (fun x y h => by kernel_rfl) (fun r hr g => ?_)
  have : r = 0 ∨ r = 1 ∨ r = 2 ∨ r = 3 := by omega
  rcases this with rfl | rfl | rfl | rfl <;> cases g
  · exact r_1_both_1_sum
  · exact r_1_both_1_worst
  · exact r_1_both_1_whole
  · exact r_1_both_2_sum
  · exact r_1_both_2_worst
  · exact r_1_both_2_whole
  · exact r_1_both_3_sum
  · exact r_1_both_3_worst
  · exact r_1_both_3_whole
  · exact r_1_both_4_sum
  · exact r_1_both_4_worst
  · exact r_1_both_4_whole
theorem t_1_one {ns : List Int} (hn : ns.length ≤ 63) {B : Nat} {h : Mi.Heap} (hT : Tn ns B h) (hB : B < 100) : ∃ h', exs (C 19) NN (.cons s2 (.cons s3 rest)) [some (scrV ns), some (.ref 0), none, none, none, none, none, none, none, some (.int ((1 : Nat) : Int)), some (.str "one"), none, none, none, none, none, none, none] h = .ok (.rt (.bl true)) h' := by
  refine tail_run hn hT hB (L := 4) (by decide) (by decide) (by decide) (fun x y h => by kernel_rfl) (fun r hr g => ?_)
  have : r = 0 ∨ r = 1 ∨ r = 2 ∨ r = 3 := by omega
  rcases this with rfl | rfl | rfl | rfl <;> cases g
  · exact r_1_one_1_sum
  · exact r_1_one_1_worst
  · exact r_1_one_1_whole
  · exact r_1_one_2_sum
  · exact r_1_one_2_worst
  · exact r_1_one_2_whole
  · exact r_1_one_3_sum
  · exact r_1_one_3_worst
  · exact r_1_one_3_whole
  · exact r_1_one_4_sum
  · exact r_1_one_4_worst
  · exact r_1_one_4_whole
theorem t_2_both {ns : List Int} (hn : ns.length ≤ 63) {B : Nat} {h : Mi.Heap} (hT : Tn ns B h) (hB : B < 100) : ∃ h', exs (C 19) NN (.cons s2 (.cons s3 rest)) [some (scrV ns), some (.ref 0), none, none, none, none, none, none, none, some (.int ((2 : Nat) : Int)), some (.str "both"), none, none, none, none, none, none, none] h = .ok (.rt (.bl true)) h' := by
  refine tail_run hn hT hB (L := 3) (by decide) (by decide) (by decide) (fun x y h => by kernel_rfl) (fun r hr g => ?_)
  have : r = 0 ∨ r = 1 ∨ r = 2 := by omega
  rcases this with rfl | rfl | rfl <;> cases g
  · exact r_2_both_2_sum
  · exact r_2_both_2_worst
  · exact r_2_both_2_whole
  · exact r_2_both_3_sum
  · exact r_2_both_3_worst
  · exact r_2_both_3_whole
  · exact r_2_both_4_sum
  · exact r_2_both_4_worst
  · exact r_2_both_4_whole
theorem t_2_one {ns : List Int} (hn : ns.length ≤ 63) {B : Nat} {h : Mi.Heap} (hT : Tn ns B h) (hB : B < 100) : ∃ h', exs (C 19) NN (.cons s2 (.cons s3 rest)) [some (scrV ns), some (.ref 0), none, none, none, none, none, none, none, some (.int ((2 : Nat) : Int)), some (.str "one"), none, none, none, none, none, none, none] h = .ok (.rt (.bl true)) h' := by
  refine tail_run hn hT hB (L := 3) (by decide) (by decide) (by decide) (fun x y h => by kernel_rfl) (fun r hr g => ?_)
  have : r = 0 ∨ r = 1 ∨ r = 2 := by omega
  rcases this with rfl | rfl | rfl <;> cases g
  · exact r_2_one_2_sum
  · exact r_2_one_2_worst
  · exact r_2_one_2_whole
  · exact r_2_one_3_sum
  · exact r_2_one_3_worst
  · exact r_2_one_3_whole
  · exact r_2_one_4_sum
  · exact r_2_one_4_worst
  · exact r_2_one_4_whole
theorem t_3_both {ns : List Int} (hn : ns.length ≤ 63) {B : Nat} {h : Mi.Heap} (hT : Tn ns B h) (hB : B < 100) : ∃ h', exs (C 19) NN (.cons s2 (.cons s3 rest)) [some (scrV ns), some (.ref 0), none, none, none, none, none, none, none, some (.int ((3 : Nat) : Int)), some (.str "both"), none, none, none, none, none, none, none] h = .ok (.rt (.bl true)) h' := by
  refine tail_run hn hT hB (L := 1) (by decide) (by decide) (by decide) (fun x y h => by kernel_rfl) (fun r hr g => ?_)
  have : r = 0 := by omega
  rcases this with rfl <;> cases g
  · exact r_3_both_3_sum
  · exact r_3_both_3_worst
  · exact r_3_both_3_whole
theorem t_3_one {ns : List Int} (hn : ns.length ≤ 63) {B : Nat} {h : Mi.Heap} (hT : Tn ns B h) (hB : B < 100) : ∃ h', exs (C 19) NN (.cons s2 (.cons s3 rest)) [some (scrV ns), some (.ref 0), none, none, none, none, none, none, none, some (.int ((3 : Nat) : Int)), some (.str "one"), none, none, none, none, none, none, none] h = .ok (.rt (.bl true)) h' := by
  refine tail_run hn hT hB (L := 2) (by decide) (by decide) (by decide) (fun x y h => by kernel_rfl) (fun r hr g => ?_)
  have : r = 0 ∨ r = 1 := by omega
  rcases this with rfl | rfl <;> cases g
  · exact r_3_one_3_sum
  · exact r_3_one_3_worst
  · exact r_3_one_3_whole
  · exact r_3_one_4_sum
  · exact r_3_one_4_worst
  · exact r_3_one_4_whole
theorem law_run (ns : List Int) (hn : ns.length ≤ 63) (hb : ∀ z ∈ ns, Builtin.Int.intBits z ≤ 1048576) : ∃ h', callF (gOf txt.dl) NN DD d_law.f [scrV ns] [] = .ok (.bl true) h' := by
  have T0 := Tn.start hn
  obtain ⟨r1, h1, d1, p1, q1, T1, _⟩ := draw_spec (G := gOf dl) (N := NN) (n := 18) (has.sub (S := [7]) rfl) hn T0 (by omega) (limit := 3) (by omega) (by omega)
  obtain ⟨st, h2, d2, hst, T2, _⟩ := pick_spec (G := gOf dl) (N := NN) (n := 17) (has.sub (S := [17, 7]) rfl) hn T1 (by omega) (xs := [("both" : Str), "one"]) (f := Val.str) rfl (by simp) (by simp)
  have tw := town_spec (G := gOf dl) (N := NN) (n := 18) (h := []) (has.sub (S := [30]) rfl) hn
  have hst' : st = "both" ∨ st = "one" := by simpa using hst
  obtain ⟨h', e⟩ : ∃ h', exs (C 19) NN (.cons s2 (.cons s3 rest)) [some (scrV ns), some (.ref 0), none, none, none, none, none, none, none, some (.int (1 + r1)), some (.str st), none, none, none, none, none, none, none] h2 = .ok (.rt (.bl true)) h' := by
    have : r1 = 0 ∨ r1 = 1 ∨ r1 = 2 := by omega
    rcases this with rfl | rfl | rfl <;> rcases hst' with rfl | rfl
    · exact t_1_both hn T2 (by omega)
    · exact t_1_one hn T2 (by omega)
    · exact t_2_both hn T2 (by omega)
    · exact t_2_one hn T2 (by omega)
    · exact t_3_both hn T2 (by omega)
    · exact t_3_one hn T2 (by omega)
  refine ⟨h', ?_⟩
  refine (callF_eq (G := gOf dl) (d := fd_law) rfl _ _).trans ?_
  refine runF_rt (ρ0 := [some (scrV ns), none, none, none, none, none, none, none, none, none, none, none, none, none, none, none, none, none]) rfl rfl ?_
  rw [law_body]
  refine exs_nx (h1 := [.lst ((0 :: ns).map Val.int)]) (ρ1 := [some (scrV ns), some (.ref 0), none, none, none, none, none, none, none, none, none, none, none, none, none, none, none, none]) ?_ ?_
  · unfold s0
    apply ex_set
    · walk_at "mi"
      exact tw
    · exact rfl
  unfold s1
  apply exs_par2 (x := .int (1 + r1)) (y := .str st)
  · walk_at "mi"
    · exact d1
    · walk_at "mi"
  · walk_at "mi"
    exact d2
  · walk_at "mi"
  · walk_at "mi"
  exact e
end K50

set_option Elab.async false
set_option linter.all false
set_option maxRecDepth 100000
set_option maxHeartbeats 0
namespace K50
open PySem PySem.Spec PyProof.Rows L2 Mi
abbrev R : PySem.W.OpenRow := PySem.W.OpenLaw.row PySem.Challenge.rw_weighplans_k50_whole_best_plans
abbrev hk : PySem.W.Hook := He.hookX 5 [] (txt.dl.map DefI.d) [] [] txt.ex
def ob (s : PySem.W.SharedT) : He.AlX := He.obsX 5 [] (txt.dl.map DefI.d) [] [] txt.ex (HandSHeadRun.getT s)
theorem ob_eq (s : PySem.W.SharedT) : ob s = hk.obs s.abs := He.obsX_eq (HandSHeadRun.getT_eq s)
def lo0 : List PySem.Str := ["__name__", "WeighError", "InvalidPlan", "InvalidThings", "InvalidSort", "InvalidGoal", "InvalidMany", "NotSettled", "TooMany", "is_between", "divisor_of", "shortened", "fraction", "is_below", "is_weighing", "are_weighings", "is_plan", "check_plan", "check_things", "check_sort", "found_weighings", "all_weighings", "determinant", "without_cross", "first_place", "reduced", "independent", "rank", "square_of", "value_of"]
def lo1 : List PySem.Str := ["single_weighings", "count_of", "found_best", "best_plan", "best_value", "does_settle", "settles", "check_settled", "found_ties", "ties", "_law_town", "_law_draw", "_law_pick", "_law_ratio", "_law_plus", "_law_times", "_law_below", "_law_sum_of", "_law_det", "_law_value"]
def loose : List PySem.Str := lo0 ++ lo1
theorem run (w : World) : HandSHeadRun.RunEq R (PySem.W.view R.prog [56]) hk ob 20000 loose w := by
  intro os
  kernel_rfl
end K50

set_option Elab.async false
set_option linter.all false
set_option maxRecDepth 100000
set_option maxHeartbeats 0
open PySem PySem.W PySem.Calls PyProof.Rows
theorem PySem.Challenge.cw_weighplans_k50_whole_best_plans_holds : PySem.Challenge.rw_weighplans_k50_whole_best_plans.Holds := by
  w_on; o_law
  refine HandSHeadRun.head_any (r := OpenLaw.row PySem.Challenge.rw_weighplans_k50_whole_best_plans) (q := view (OpenLaw.row PySem.Challenge.rw_weighplans_k50_whole_best_plans).prog [56]) (H := K50.hk) (ob := K50.ob) (M := 20000) (loose := K50.loose) (d := HandSHeadRun.topDef (OpenLaw.row PySem.Challenge.rw_weighplans_k50_whole_best_plans).prog 56) (kwd := []) K50.ob_eq
    (by kernel_rfl) (fun s => by kernel_rfl) K50.run (by kernel_rfl) (by kernel_rfl) (by kernel_rfl) (by rfl) (by first | assumption | decide +kernel) (by decide +kernel) ⟨rfl, rfl, rfl, rfl, rfl, by decide +kernel⟩ ?hw ?hc
  case hw => w_witness2
  case hc => exact Mi.law_of (l := PySem.Challenge.rw_weighplans_k50_whole_best_plans) (t := K50.txt) (law := K50.d_law) (NN := K50.NN) (m := K50.DD) rfl (by kernel_rfl) ⟨rfl, by decide, by decide⟩ K50.nd K50.chk K50.bnd (by unfold K50.txt K50.dl; simp) (by kernel_rfl) rfl (by kernel_rfl) K50.law_run
