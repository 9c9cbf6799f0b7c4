import PyProof.Rows.All
import Wide.All
import OpenK.AllK
import Wide.FinOn
import HandS.ForMost
import HandS.Codes
import HandS.Walk
import HandS.TupAny
import HandS.TupMul
import HandS.Zip
import HandS.IsInst
import HandS.Gcd
import HandS.Star
import HandS.Wide
import HandS.Deep
import HandS.Style
import HandS.CallLocal
import HandS.Iter
import KE.GoesEnum
import KE.GoesMore
import HandS.TryOnly
import HandS.New
import KE.KRevSl
import HandS.Strs
import HandS.Ends
import PySem.Challenge.RW_blendcurves_k36_whole_sizes_of_spaces
set_option Elab.async false
set_option linter.all false
set_option maxRecDepth 100000
namespace PB
open PySem

/-- pure values -/
inductive PV where
  | non | bl (b : Bool) | int (i : Int) | str (x : Str) | tup (xs : List PV) | wtup (xs : List PV) | scr (xs : List PV) | ref (n : Nat) | fn (n : Nat)
/-- what stands in the pure heap -/
inductive PO where
  | lst (xs : List PV)
abbrev PH := List PO
abbrev Sl := List (Option PV)

mutual
def PV.same : PV → PV → Bool
  | .non, .non => true
  | .bl a, .bl b => a == b
  | .int a, .int b => a == b
  | .str a, .str b => a == b
  | .tup a, .tup b => PV.sames a b
  | .wtup a, .wtup b => PV.sames a b
  | .scr a, .scr b => PV.sames a b
  | .ref a, .ref b => a == b
  | .fn a, .fn b => a == b
  | _, _ => false
def PV.sames : List PV → List PV → Bool
  | [], [] => true
  | a :: r, b :: q => PV.same a b && PV.sames r q
  | _, _ => false
end
mutual
theorem PV.same_eq : ∀ {a b : PV}, PV.same a b = true → a = b
  | .non, b, h => by cases b <;> simp_all [PV.same]
  | .bl x, b, h => by cases b <;> simp_all [PV.same]
  | .int x, b, h => by cases b <;> simp_all [PV.same]
  | .str x, b, h => by cases b <;> simp_all [PV.same]
  | .tup x, b, h => by
    cases b with
    | tup y => simp only [PV.same] at h; rw [PV.sames_eq h]
    | _ => simp [PV.same] at h
  | .wtup x, b, h => by
    cases b with
    | wtup y => simp only [PV.same] at h; rw [PV.sames_eq h]
    | _ => simp [PV.same] at h
  | .scr x, b, h => by
    cases b with
    | scr y => simp only [PV.same] at h; rw [PV.sames_eq h]
    | _ => simp [PV.same] at h
  | .ref x, b, h => by cases b <;> simp_all [PV.same]
  | .fn x, b, h => by cases b <;> simp_all [PV.same]
theorem PV.sames_eq : ∀ {a b : List PV}, PV.sames a b = true → a = b
  | [], b, h => by cases b <;> simp_all [PV.sames]
  | a :: r, b, h => by
    cases b with
    | nil => simp [PV.sames] at h
    | cons c q =>
      simp only [PV.sames, Bool.and_eq_true] at h
      rw [PV.same_eq h.1, PV.sames_eq h.2]
end
mutual
theorem PV.same_rfl : ∀ a : PV, PV.same a a = true
  | .non => by simp [PV.same]
  | .bl x => by simp [PV.same]
  | .int x => by simp [PV.same]
  | .str x => by simp [PV.same]
  | .tup x => by simp only [PV.same]; exact PV.sames_rfl x
  | .wtup x => by simp only [PV.same]; exact PV.sames_rfl x
  | .scr x => by simp only [PV.same]; exact PV.sames_rfl x
  | .ref x => by simp [PV.same]
  | .fn x => by simp [PV.same]
theorem PV.sames_rfl : ∀ a : List PV, PV.sames a a = true
  | [] => by simp [PV.sames]
  | a :: r => by simp only [PV.sames, Bool.and_eq_true]; exact ⟨PV.same_rfl a, PV.sames_rfl r⟩
end
def PO.same : PO → PO → Bool
  | .lst a, .lst b => PV.sames a b
theorem PO.same_eq {a b : PO} (h : PO.same a b = true) : a = b := by
  cases a <;> cases b <;> simp [PO.same] at h <;> rw [PV.sames_eq h]
theorem PO.same_rfl (a : PO) : PO.same a a = true := by cases a <;> simp only [PO.same] <;> exact PV.sames_rfl _

/-- what a step gives -/
inductive Res (α : Type) where
  | ok (a : α) (h : PH) | exc (c : Nat) (v : PV) (h : PH) | bad
def Res.bind {α β : Type} (x : Res α) (f : α → PH → Res β) : Res β :=
  match x with
  | .ok a h => f a h
  | .exc c v h => .exc c v h
  | .bad => .bad

inductive BinO where
  | add | sub | mul | fdiv | mod | pow
inductive CmpO where
  | eq | ne | lt | le | gt | ge | isN | notN | isIn | notIn
/-- built-in functions -/
inductive Blt where
  | len | abs | min2 | max2 | min1 | max1 | gcd | tuple | list | int | isInt | isBool | isTup | isStr | isList | isTL | all | any | sum | lzip
inductive Mth where
  | append | extend | pop | pop0 | count | index

mutual
/-- expressions -/
inductive CE where
  | var (i : Nat) | con (v : PV)
  | bin (op : BinO) (a b : CE) | neg (a : CE) | not (a : CE)
  | and (a b : CE) | or (a b : CE)
  | cmp (op : CmpO) (a b : CE) | chn (op op' : CmpO) (a b c : CE)
  | ite (c a b : CE)
  | tup (es : CA) | lst (es : CA)
  | idx (a b : CE) | slc (a : CE) (lo hi : CO) | rev (a : CE) | two (a : CE) (k : CO)
  | call (f : Nat) (es : CA) | callv (i : Nat) (es : CA)
  | blt (b : Blt) (es : CA) | mth (m : Mth) (o : CE) (es : CA)
  | comp (e : CE) (own : List Nat) (tg : CT) (it : CI) (c : CO)
/-- arguments, items -/
inductive CA where
  | nil | cons (e : CE) (r : CA) | star (e : CE) (r : CA)
/-- an optional part -/
inductive CO where
  | none | some (e : CE)
/-- what a for walks -/
inductive CI where
  | seq (e : CE) | rng1 (es : CA) | rng2 (es : CA) | rng3 (es : CA) | enu (es : CA) | zip (es : CA)
/-- targets -/
inductive CT where
  | v (i : Nat) | s (o i : CE) | nil | cons (a r : CT)
end

mutual
/-- statements -/
inductive CS where
  | asg (t : CT) (e : CE) | par (is : List Nat) (es : CA) | aug (i : Nat) (op : BinO) (e : CE)
  | expr (e : CE) | ret (e : CE) | retN
  | ifs (c : CE) (a b : CB) | whl (c : CE) (b : CB) | for_ (t : CT) (it : CI) (b : CB)
  | brk | cnt | pass | raise (c : Nat) (es : CA)
/-- blocks -/
inductive CB where
  | nil | cons (s : CS) (r : CB)
end

/-! ### operators -/
def toDs (f : PV → Option PyData) : List PV → Option (List PyData)
  | [] => some []
  | x :: r => match f x, toDs f r with
    | some d, some ds => some (d :: ds)
    | _, _ => none
/-- what a value stands for, its lists read -/
def toD (h : PH) : Nat → PV → Option PyData
  | _, .non => some .none
  | _, .bl b => some (.bool b)
  | _, .int i => some (.int i)
  | _, .str x => if PyData.canLay0 (.str x) = true then some (.str x) else none
  | n + 1, .tup xs => (toDs (toD h n) xs).map .tuple
  | n + 1, .scr xs => (toDs (toD h n) xs).map .list
  | n + 1, .ref a => match h[a]? with
    | some (.lst xs) => (toDs (toD h n) xs).map .list
    | none => none
  | _, _ => none
def eqD (h : PH) (a b : PV) : Option Bool :=
  match toD h 12 a, toD h 12 b with
  | some d, some e => some (PyData.eqv d e)
  | _, _ => none
/-- the items of a list or tuple -/
def items (h : PH) : PV → Option (List PV)
  | .tup xs => some xs
  | .scr xs => some xs
  | .ref a => match h[a]? with
    | some (.lst xs) => some xs
    | none => none
  | _ => none
def mulOk (i j : Int) : Bool := decide (i.natAbs.log2 + j.natAbs.log2 < 1000000)
def many : Nat := 1000000
def alloc (xs : List PV) (h : PH) : Res PV := .ok (.ref h.length) (h ++ [.lst xs])
def binop : BinO → PV → PV → PH → Res PV
  | .add, .int i, .int j, h => .ok (.int (i + j)) h
  | .sub, .int i, .int j, h => .ok (.int (i - j)) h
  | .mul, .int i, .int j, h => if mulOk i j = true then .ok (.int (i * j)) h else .bad
  | .fdiv, .int i, .int j, h => if j ≠ 0 ∧ j.natAbs.log2 < 9000 then .ok (.int (i.fdiv j)) h else .bad
  | .mod, .int i, .int j, h => if j ≠ 0 then .ok (.int (i.fmod j)) h else .bad
  | .pow, .int i, .int j, h => if 0 ≤ j ∧ j ≤ 1000 ∧ i.natAbs < 2 ^ 64 then .ok (.int (i ^ j.toNat)) h else .bad
  | .add, .tup xs, .tup ys, h => if xs.length + ys.length ≤ many then .ok (.tup (xs ++ ys)) h else .bad
  | .add, .ref a, .ref b, h => match h[a]?, h[b]? with
    | some (.lst xs), some (.lst ys) => if xs.length + ys.length ≤ many then alloc (xs ++ ys) h else .bad
    | _, _ => .bad
  | .mul, .ref a, .int k, h => match h[a]? with
    | some (.lst xs) => if -1000 ≤ k ∧ k ≤ many ∧ xs.length * k.toNat ≤ many then alloc (List.replicate k.toNat xs).flatten h else .bad
    | _ => .bad
  | .mul, .tup xs, .int k, h => if -1000 ≤ k ∧ k ≤ 1000 ∧ xs.length ≤ 1000 then .ok (.tup (List.replicate k.toNat xs).flatten) h else .bad
  | _, _, _, _ => .bad
/-- the data of a list's or a tuple's items -/
def seqD (h : PH) (b : PV) : Option (List PyData) :=
  match toD h 12 b with
  | some (.list ds) => some ds
  | some (.tuple ds) => some ds
  | _ => none
def cmpop : CmpO → PV → PV → PH → Res PV
  | .eq, a, b, h => match eqD h a b with | some r => .ok (.bl r) h | none => .bad
  | .ne, a, b, h => match eqD h a b with | some r => .ok (.bl (!r)) h | none => .bad
  | .lt, .int i, .int j, h => .ok (.bl (decide (i < j))) h
  | .le, .int i, .int j, h => .ok (.bl (decide (i ≤ j))) h
  | .gt, .int i, .int j, h => .ok (.bl (decide (j < i))) h
  | .ge, .int i, .int j, h => .ok (.bl (decide (j ≤ i))) h
  | .isN, a, b, h => match b with
    | .non => .ok (.bl (match a with | .non => true | _ => false)) h
    | .bl y => match a with | .bl x => .ok (.bl (decide (x = y))) h | _ => .bad
    | _ => .bad
  | .notN, a, b, h => match b with
    | .non => .ok (.bl (match a with | .non => false | _ => true)) h
    | .bl y => match a with | .bl x => .ok (.bl (!decide (x = y))) h | _ => .bad
    | _ => .bad
  | .isIn, a, b, h => match toD h 12 a, seqD h b with
    | some d, some ds => .ok (.bl (ds.any fun z => PyData.eqv z d)) h
    | _, _ => .bad
  | .notIn, a, b, h => match toD h 12 a, seqD h b with
    | some d, some ds => .ok (.bl (!(ds.any fun z => PyData.eqv z d))) h
    | _, _ => .bad
  | _, _, _, _ => .bad

def idxop (a b : PV) (h : PH) : Res PV :=
  match items h a, b with
  | some xs, .int i => match L2.atI xs i with | some v => .ok v h | none => .bad
  | _, _ => .bad
def cut (xs : List PV) (lo hi : Option Int) : List PV := (xs.drop (HT.sIx xs.length 0 lo)).take (HT.sIx xs.length xs.length hi - HT.sIx xs.length 0 lo)
def slcop (a : PV) (lo hi : Option Int) (h : PH) : Res PV :=
  match a with
  | .tup xs => .ok (.tup (cut xs lo hi)) h
  | .ref n => match h[n]? with
    | some (.lst xs) => alloc (cut xs lo hi) h
    | _ => .bad
  | _ => .bad
def revop (a : PV) (h : PH) : Res PV :=
  match a with
  | .tup xs => .ok (.tup xs.reverse) h
  | .ref n => match h[n]? with
    | some (.lst xs) => alloc xs.reverse h
    | _ => .bad
  | _ => .bad
/-- each second item -/
def seconds {α : Type} : List α → List α
  | [] => []
  | [x] => [x]
  | x :: _ :: r => x :: seconds r
def twoop (a : PV) (k : Option Int) (h : PH) : Res PV :=
  match a with
  | .tup xs => if 0 ≤ k.getD 0 then .ok (.tup (seconds (xs.drop (k.getD 0).toNat))) h else .bad
  | _ => .bad
def truths (p : Bool → Bool → Bool) (e : Bool) : List PV → Option Bool
  | [] => some e
  | .bl b :: r => match truths p e r with | some c => some (p b c) | none => none
  | _ => none
def intsOf : List PV → Option (List Int)
  | [] => some []
  | .int i :: r => match intsOf r with | some is => some (i :: is) | none => none
  | _ => none
/-- the class of a value: NoneType, bool, int, str, tuple, list -/
def kindOf (h : PH) : PV → Option Nat
  | .non => some 0 | .bl _ => some 1 | .int _ => some 2 | .str _ => some 3 | .tup _ => some 4
  | .ref n => match h[n]? with | some (.lst _) => some 5 | none => none
  | _ => none
/-- the pairs of two lists -/
def pairs : List PV → List PV → List PV
  | x :: r, y :: q => .tup [x, y] :: pairs r q
  | _, _ => []
def blt : Blt → List PV → PH → Res PV
  | .len, [a], h => match items h a with | some xs => .ok (.int xs.length) h | none => .bad
  | .abs, [.int i], h => .ok (.int i.natAbs) h
  | .min2, [.int i, .int j], h => .ok (.int (if j < i then j else i)) h
  | .max2, [.int i, .int j], h => .ok (.int (if i < j then j else i)) h
  | .min1, [.ref n], h => match h[n]? with
    | some (.lst xs) => match intsOf xs with | some (i :: is) => .ok (.int (is.foldl min i)) h | _ => .bad
    | none => .bad
  | .max1, [.ref n], h => match h[n]? with
    | some (.lst xs) => match intsOf xs with | some (i :: is) => .ok (.int (is.foldl max i)) h | _ => .bad
    | none => .bad
  | .gcd, [.int i, .int j], h => .ok (.int (Nat.gcd i.natAbs j.natAbs : Nat)) h
  | .tuple, [a], h => match items h a with | some xs => .ok (.tup xs) h | none => .bad
  | .list, [a], h => match items h a with | some xs => alloc xs h | none => .bad
  | .int, [.int i], h => .ok (.int i) h
  | .isInt, [a], h => match kindOf h a with | some k => .ok (.bl (k == 2 || k == 1)) h | none => .bad
  | .isBool, [a], h => match kindOf h a with | some k => .ok (.bl (k == 1)) h | none => .bad
  | .isTup, [a], h => match kindOf h a with | some k => .ok (.bl (k == 4)) h | none => .bad
  | .isStr, [a], h => match kindOf h a with | some k => .ok (.bl (k == 3)) h | none => .bad
  | .isList, [a], h => match kindOf h a with | some k => .ok (.bl (k == 5)) h | none => .bad
  | .isTL, [a], h => match kindOf h a with | some k => .ok (.bl (k == 4 || k == 5)) h | none => .bad
  | .all, [.ref n], h => match h[n]? with
    | some (.lst xs) => match truths (· && ·) true xs with | some b => .ok (.bl b) h | none => .bad
    | none => .bad
  | .any, [.ref n], h => match h[n]? with
    | some (.lst xs) => match truths (· || ·) false xs with | some b => .ok (.bl b) h | none => .bad
    | none => .bad
  | .sum, [.ref n], h => match h[n]? with
    | some (.lst xs) => match intsOf xs with | some is => .ok (.int is.sum) h | none => .bad
    | none => .bad
  | .lzip, [.ref n, .ref m], h => match h[n]?, h[m]? with
    | some (.lst xs), some (.lst ys) => alloc (pairs xs ys) h
    | _, _ => .bad
  | _, _, _ => .bad
def mth : Mth → PV → List PV → PH → Res PV
  | .append, .ref n, [x], h => match h[n]? with
    | some (.lst xs) => if xs.length < many then .ok .non (h.set n (.lst (xs ++ [x]))) else .bad
    | _ => .bad
  | .extend, .ref n, [.ref m], h => match h[n]?, h[m]? with
    | some (.lst xs), some (.lst ys) => if xs.length + ys.length < many then .ok .non (h.set n (.lst (xs ++ ys))) else .bad
    | _, _ => .bad
  | .pop, .ref n, [], h => match h[n]? with
    | some (.lst xs) => match xs.getLast? with | some x => .ok x (h.set n (.lst xs.dropLast)) | none => .bad
    | _ => .bad
  | .pop0, .ref n, [.int i], h => match h[n]? with
    | some (.lst (x :: xs)) => if i = 0 then .ok x (h.set n (.lst xs)) else .bad
    | _ => .bad
  | .count, a, [x], h => match seqD h a, toD h 12 x with
    | some ds, some d => .ok (.int (ds.countP fun z => PyData.eqv z d : Nat)) h
    | _, _ => .bad
  | .index, a, [x], h => match seqD h a, toD h 12 x with
    | some ds, some d => match ds.findIdx? fun z => PyData.eqv z d with | some c => .ok (.int c) h | none => .bad
    | _, _ => .bad
  | _, _, _, _ => .bad
/-- o[i] = v -/
def setop (o i v : PV) (h : PH) : Res Unit :=
  match o, i with
  | .ref n, .int i => match h[n]? with
    | some (.lst xs) => match L2.ixN xs.length i with
      | some j => .ok () (h.set n (.lst (xs.set j v)))
      | none => .bad
    | _ => .bad
  | _, _ => .bad

def range : Int → Nat → Int → List PV
  | _, 0, _ => []
  | a, n + 1, c => .int a :: range (a + c) n c
def enums : Int → List PV → List PV
  | _, [] => []
  | i, x :: r => .wtup [.int i, x] :: enums (i + 1) r
def zips : List PV → List PV → List PV
  | x :: r, y :: q => .wtup [x, y] :: zips r q
  | _, _ => []
/-- the cells that a walk leans on -/
abbrev Lean_ := List (Nat × PO)
def leans (l : Lean_) (h : PH) : Bool := l.all fun p => match h[p.1]? with | some c => PO.same c p.2 | none => false
def leanOf (h : PH) : PV → Lean_
  | .ref n => match h[n]? with | some c => [(n, c)] | none => []
  | _ => []
def bigR : Int := 1000000
/-- the slots of a comprehension's own names are empty -/
def wipe (s : Sl) : List Nat → Sl
  | [] => s
  | i :: r => (wipe s r).set i none
def compL (f : PV → PH → Res (Option PV)) (l : Lean_) : List PV → PH → Res (List PV)
  | [], h => if leans l h = true then .ok [] h else .bad
  | x :: r, h => if leans l h = true then (f x h).bind fun y h1 => (compL f l r h1).bind fun ys h2 =>
      .ok (match y with | some y => y :: ys | none => ys) h2 else .bad
def optI (h : PH) : Option PV → Res (Option Int)
  | none => .ok none h
  | some (.int i) => .ok (some i) h
  | _ => .bad

section
variable (cf : Nat → List PV → PH → Res PV)
mutual
def evE : CE → Sl → PH → Res PV
  | .var i, s, h => match s[i]? with | some (some v) => .ok v h | _ => .bad
  | .con v, _, h => .ok v h
  | .bin op a b, s, h => (evE a s h).bind fun x h1 => (evE b s h1).bind fun y h2 => binop op x y h2
  | .neg a, s, h => (evE a s h).bind fun x h1 => match x with | .int i => .ok (.int (-i)) h1 | _ => .bad
  | .not a, s, h => (evE a s h).bind fun x h1 => match x with | .bl b => .ok (.bl (!b)) h1 | _ => .bad
  | .and a b, s, h => (evE a s h).bind fun x h1 => match x with | .bl true => evE b s h1 | .bl false => .ok (.bl false) h1 | _ => .bad
  | .or a b, s, h => (evE a s h).bind fun x h1 => match x with | .bl false => evE b s h1 | .bl true => .ok (.bl true) h1 | _ => .bad
  | .cmp op a b, s, h => (evE a s h).bind fun x h1 => (evE b s h1).bind fun y h2 => cmpop op x y h2
  | .chn op op' a b c, s, h => (evE a s h).bind fun x h1 => (evE b s h1).bind fun y h2 => (cmpop op x y h2).bind fun r h3 =>
      match r with | .bl true => (evE c s h3).bind fun z h4 => cmpop op' y z h4 | .bl false => .ok (.bl false) h3 | _ => .bad
  | .ite c a b, s, h => (evE c s h).bind fun x h1 => match x with | .bl true => evE a s h1 | .bl false => evE b s h1 | _ => .bad
  | .tup es, s, h => (evA es s h).bind fun xs h1 => if xs.length ≤ many then .ok (.tup xs) h1 else .bad
  | .lst es, s, h => (evA es s h).bind fun xs h1 => if xs.length ≤ many then alloc xs h1 else .bad
  | .idx a b, s, h => (evE a s h).bind fun x h1 => (evE b s h1).bind fun y h2 => idxop x y h2
  | .slc a lo hi, s, h => (evE a s h).bind fun x h1 => (evO lo s h1).bind fun l h2 => (evO hi s h2).bind fun u h3 =>
      (optI h3 l).bind fun l h3 => (optI h3 u).bind fun u h3 => slcop x l u h3
  | .rev a, s, h => (evE a s h).bind fun x h1 => revop x h1
  | .two a k, s, h => (evE a s h).bind fun x h1 => (evO k s h1).bind fun l h2 => (optI h2 l).bind fun l h3 => twoop x l h3
  | .call f es, s, h => (evA es s h).bind fun xs h1 => cf f xs h1
  | .callv i es, s, h => match s[i]? with
    | some (some (.fn f)) => (evA es s h).bind fun xs h1 => cf f xs h1
    | _ => .bad
  | .blt b es, s, h => (evA es s h).bind fun xs h1 => blt b xs h1
  | .mth m o es, s, h => (evE o s h).bind fun x h1 => (evA es s h1).bind fun xs h2 => mth m x xs h2
  | .comp e own tg it c, s, h => (evI it s h).bind fun p h1 => if p.1.length ≤ many then
      (compL (fun x h2 => (asT tg x (wipe s own) h2).bind fun s3 h3 => (evO c s3 h3).bind fun t h4 =>
        match t with
        | some (.bl false) => .ok none h4
        | some (.bl true) => (evE e s3 h4).bind fun y h5 => .ok (some y) h5
        | none => (evE e s3 h4).bind fun y h5 => .ok (some y) h5
        | _ => .bad) p.2 p.1 h1).bind (fun ys h2 => alloc ys h2) else .bad
def evA : CA → Sl → PH → Res (List PV)
  | .nil, _, h => .ok [] h
  | .cons e r, s, h => (evE e s h).bind fun x h1 => (evA r s h1).bind fun xs h2 => .ok (x :: xs) h2
  | .star e r, s, h => (evE e s h).bind fun x h1 => match items h1 x with
    | some ys => (evA r s h1).bind fun xs h2 => .ok (ys ++ xs) h2
    | none => .bad
def evO : CO → Sl → PH → Res (Option PV)
  | .none, _, h => .ok none h
  | .some e, s, h => (evE e s h).bind fun x h1 => .ok (some x) h1
/-- the items that a for walks, and the lists that it leans on -/
def evI : CI → Sl → PH → Res (List PV × Lean_)
  | .seq e, s, h => (evE e s h).bind fun x h1 => match items h1 x with | some xs => .ok (xs, leanOf h1 x) h1 | none => .bad
  | .rng1 es, s, h => (evA es s h).bind fun xs h1 => match xs with
    | [.int b] => if -bigR ≤ b ∧ b ≤ bigR then .ok (range 0 b.toNat 1, []) h1 else .bad
    | _ => .bad
  | .rng2 es, s, h => (evA es s h).bind fun xs h1 => match xs with
    | [.int a, .int b] => if -bigR ≤ a ∧ a ≤ bigR ∧ -bigR ≤ b ∧ b ≤ bigR then .ok (range a (b - a).toNat 1, []) h1 else .bad
    | _ => .bad
  | .rng3 es, s, h => (evA es s h).bind fun xs h1 => match xs with
    | [.int a, .int b, .int c] => if -bigR ≤ a ∧ a ≤ bigR ∧ -bigR ≤ b ∧ b ≤ bigR ∧ c = -1 then .ok (range a (a - b).toNat (-1), []) h1 else .bad
    | _ => .bad
  | .enu es, s, h => (evA es s h).bind fun xs h1 => match xs with
    | [x] => match items h1 x with | some ys => .ok (enums 0 ys, leanOf h1 x) h1 | none => .bad
    | _ => .bad
  | .zip es, s, h => (evA es s h).bind fun xs h1 => match xs with
    | [x, y] => match items h1 x, items h1 y with
      | some us, some ws => .ok (zips us ws, leanOf h1 x ++ leanOf h1 y) h1
      | _, _ => .bad
    | _ => .bad
/-- a value is given to a target -/
def asT : CT → PV → Sl → PH → Res Sl
  | .v i, x, s, h => .ok (s.set i (some x)) h
  | .s o i, x, s, h => (evE o s h).bind fun ov h1 => (evE i s h1).bind fun iv h2 => (setop ov iv x h2).bind fun _ h3 => .ok s h3
  | .nil, x, s, h => match x with | .tup [] => .ok s h | _ => .bad
  | .cons a r, x, s, h => match x with
    | .tup (x :: xs) => (asT a x s h).bind fun s1 h1 => asTs r xs s1 h1
    | .wtup (x :: xs) => (asT a x s h).bind fun s1 h1 => asTs r xs s1 h1
    | .ref n => match h[n]? with
      | some (.lst (x :: xs)) => (asT a x s h).bind fun s1 h1 => asTs r xs s1 h1
      | _ => .bad
    | _ => .bad
def asTs : CT → List PV → Sl → PH → Res Sl
  | .cons a r, x :: xs, s, h => (asT a x s h).bind fun s1 h1 => asTs r xs s1 h1
  | .nil, [], s, h => .ok s h
  | _, _, _, _ => .bad
end
end

/-! ### statements -/
inductive Fl where
  | nx (s : Sl) | rt (v : PV) | bk (s : Sl) | ct (s : Sl)
def whL (c : Sl → PH → Res PV) (b : Sl → PH → Res Fl) : Nat → Sl → PH → Res Fl
  | 0, _, _ => .bad
  | n + 1, s, h => (c s h).bind fun x h1 => match x with
    | .bl true => (b s h1).bind fun f h2 => match f with
      | .nx s2 => whL c b n s2 h2
      | .ct s2 => whL c b n s2 h2
      | .bk s2 => .ok (.nx s2) h2
      | .rt v => .ok (.rt v) h2
    | .bl false => .ok (.nx s) h1
    | _ => .bad
def frL (g : PV → Sl → PH → Res Sl) (b : Sl → PH → Res Fl) (l : Lean_) : List PV → Sl → PH → Res Fl
  | [], s, h => if leans l h = true then .ok (.nx s) h else .bad
  | x :: r, s, h => if leans l h = true then (g x s h).bind fun s1 h1 => (b s1 h1).bind fun f h2 => match f with
      | .nx s2 => frL g b l r s2 h2
      | .ct s2 => frL g b l r s2 h2
      | .bk s2 => .ok (.nx s2) h2
      | .rt v => .ok (.rt v) h2
    else .bad
def fuel : Nat := 100000
def setAll : List Nat → List PV → Sl → Option Sl
  | [], [], s => some s
  | i :: is, x :: xs, s => setAll is xs (s.set i (some x))
  | _, _, _ => none
def isNum : PV → Bool
  | .int _ => true
  | _ => false
section
variable (cf : Nat → List PV → PH → Res PV)
mutual
def evS : CS → Sl → PH → Res Fl
  | .asg t e, s, h => (evE cf e s h).bind fun x h1 => (asT cf t x s h1).bind fun s2 h2 => .ok (.nx s2) h2
  | .par is es, s, h => (evA cf es s h).bind fun xs h1 => match setAll is xs s with | some s2 => .ok (.nx s2) h1 | none => .bad
  | .aug i op e, s, h => match s[i]? with
    | some (some x) => (evE cf e s h).bind fun y h1 => if isNum x = true ∧ isNum y = true then
        (binop op x y h1).bind fun z h2 => .ok (.nx (s.set i (some z))) h2 else .bad
    | _ => .bad
  | .expr e, s, h => (evE cf e s h).bind fun _ h1 => .ok (.nx s) h1
  | .ret e, s, h => (evE cf e s h).bind fun x h1 => .ok (.rt x) h1
  | .retN, _, h => .ok (.rt .non) h
  | .ifs c a b, s, h => (evE cf c s h).bind fun x h1 => match x with | .bl true => evB a s h1 | .bl false => evB b s h1 | _ => .bad
  | .whl c b, s, h => whL (evE cf c) (evB b) fuel s h
  | .for_ t it b, s, h => (evI cf it s h).bind fun p h1 => frL (asT cf t) (evB b) p.2 p.1 s h1
  | .brk, s, h => .ok (.bk s) h
  | .cnt, s, h => .ok (.ct s) h
  | .pass, s, h => .ok (.nx s) h
  | .raise c es, s, h => (evA cf es s h).bind fun xs h1 => .exc c (.tup xs) h1
def evB : CB → Sl → PH → Res Fl
  | .nil, s, h => .ok (.nx s) h
  | .cons st r, s, h => (evS st s h).bind fun f h1 => match f with
    | .nx s2 => evB r s2 h1
    | f => .ok f h1
end
end

/-! ### functions -/
structure Fn where
  np : Nat
  ns : Nat
  body : CB
mutual
/-- all ids below n -/
def PV.low (n : Nat) : PV → Bool
  | .ref k => decide (k < n)
  | .tup xs => PV.lows n xs
  | .wtup xs => PV.lows n xs
  | .scr xs => PV.lows n xs
  | _ => true
def PV.lows (n : Nat) : List PV → Bool
  | [] => true
  | x :: r => PV.low n x && PV.lows n r
end
def PO.low (n : Nat) : PO → Bool
  | .lst xs => PV.lows n xs
def POs.same : PH → PH → Bool
  | [], [] => true
  | a :: r, b :: q => PO.same a b && POs.same r q
  | _, _ => false
/-- what a call leaves: without its own lists, where nothing of the caller's names them -/
def keepP (h h1 : PH) (v : PV) : PH :=
  if PV.low h.length v = true ∧ (POs.same (h1.take h.length) h = true ∨ (h1.take h.length).all (PO.low h.length) = true) then h1.take h.length else h1
def startP (n : Nat) (args : List PV) : Sl := args.map some ++ List.replicate (n - args.length) none
def outF (h : PH) (f : Fl) (h1 : PH) : Res PV :=
  match f with
  | .rt v => .ok v (keepP h h1 v)
  | .nx _ => .ok .non (keepP h h1 .non)
  | _ => .bad
def callF (G : Nat → Option Fn) : Nat → Nat → List PV → PH → Res PV
  | 0, _, _, _ => .bad
  | k + 1, i, args, h => match G i with
    | none => .bad
    | some f => if args.length = f.np then (evB (callF G k) f.body (startP f.ns args) h).bind (outF h) else .bad
end PB

set_option Elab.async false
set_option linter.all false
set_option maxRecDepth 100000
set_option maxHeartbeats 1000000
namespace PB
open PySem PySem.Spec PyProof.Rows L2

/-! ### a list that never changes: locked, or of the written part -/
def SqF (K : PySem.W.Frag) (H : Hp) (a : Addr) (vs : List V) : Prop := (∃ o, H a = some (.frz o (.lst vs))) ∨
    ∃ (o : Obj) (its : Array Value) (n : Nat), K.lookup a = some o ∧ o.cls = .type "list" ∧ o.dict = none ∧ o.data = .seq its n ∧ its.size ≤ sizeLine ∧ Vals vs its.toList
/-- a tuple without a dict: locked, or of the written part -/
def SqN (K : PySem.W.Frag) (H : Hp) (a : Addr) (vs : List V) : Prop := (∃ o : Obj, H a = some (.frz o (.tup vs)) ∧ o.dict = none) ∨
    ∃ (o : Obj) (its : Array Value) (n : Nat), K.lookup a = some o ∧ o.cls = .type "tuple" ∧ o.dict = none ∧ o.data = .seq its n ∧ its.size ≤ sizeLine ∧ Vals vs its.toList
theorem SqN.t {K : PySem.W.Frag} {H : Hp} {a : Addr} {vs : List V} (h : SqN K H a vs) : SqT K H a vs := by
  rcases h with ⟨o, h, _⟩ | ⟨o, its, n, h1, h2, _, h3⟩
  · exact .inl (.inr ⟨o, h⟩)
  · exact .inr ⟨o, its, n, h1, h2, h3⟩
/-- the type, no dict -/
theorem SqN.ty {X : Cx} {pins : List (Addr × Obj)} {σ : L2.St} {H : Hp} {s : Shared} {a : Addr} {vs : List V} (I : Inv X pins σ H s) (h : SqN X.K H a vs) : s.TypeIs (.ref a) "tuple" ∧ ∃ ob, s.heap.get? a = some ob ∧ ob.dict = none := by
  obtain ⟨its, _, p, _⟩ := I.tuple h.t
  refine ⟨p.typeIs, ?_⟩
  rcases h with ⟨o, h, hd⟩ | ⟨o, _, _, h1, _, hd, _⟩
  · have z := I.hok a _ h
    have z' : s.heap.get? a = some o ∧ ObjOk X.prog X.w H s.heap a (.tup vs) := z
    exact ⟨o, z'.1, hd⟩
  · exact ⟨o, I.kIn a o h1, hd⟩
theorem SqF.l {K : PySem.W.Frag} {H : Hp} {a : Addr} {vs : List V} (h : SqF K H a vs) : SqL K H a vs := by
  rcases h with ⟨o, h⟩ | h
  · exact .inl (.inr ⟨o, h⟩)
  · exact .inr h

section
variable (K : PySem.W.Frag) (fa : Nat → Option Addr)
mutual
/-- a value stands for a pure one -/
inductive Rl (io : List Addr) (H : Hp) : V → PV → Prop
  | non : Rl io H .non .non
  | bl (b : Bool) : Rl io H (.bl b) (.bl b)
  | int (i : Int) : Rl io H (.int i) (.int i)
  | str (x : Str) : Rl io H (.str x) (.str x)
  | tup {a : Addr} {vs : List V} {xs : List PV} : SqN K H a vs → Rls io H vs xs → Rl io H (.ref a) (.tup xs)
  | wtup {a : Addr} {vs : List V} {xs : List PV} : SqT K H a vs → Rls io H vs xs → Rl io H (.ref a) (.wtup xs)
  | scr {a : Addr} {vs : List V} {xs : List PV} : SqF K H a vs → Rls io H vs xs → Rl io H (.ref a) (.scr xs)
  | ref {a : Addr} {n : Nat} : io[n]? = some a → Rl io H (.ref a) (.ref n)
  | fn {a : Addr} {n : Nat} : fa n = some a → Rl io H (.ref a) (.fn n)
inductive Rls (io : List Addr) (H : Hp) : List V → List PV → Prop
  | nil : Rls io H [] []
  | cons {v : V} {x : PV} {vs : List V} {xs : List PV} : Rl io H v x → Rls io H vs xs → Rls io H (v :: vs) (x :: xs)
end
/-- the pure heap is borne -/
structure RH (io : List Addr) (H : Hp) (h : PH) : Prop where
  len : io.length = h.length
  nd : io.Nodup
  cell : ∀ (n : Nat) (xs : List PV), h[n]? = some (.lst xs) → ∃ a vs, io[n]? = some a ∧ H a = some (.lst vs) ∧ Rls K fa io H vs xs
/-- what grows: new lists; all else stands -/
structure Ext (io : List Addr) (H : Hp) (io' : List Addr) (H' : Hp) : Prop where
  more : ∃ t, io' = io ++ t ∧ ∀ p ∈ t, H p = none
  stay : ∀ a o, H a = some o → (a ∉ io ∨ ∀ xs, o ≠ .lst xs) → H' a = some o
  there : ∀ a, H' a = none → H a = none
/-- the slots -/
structure RS (io : List Addr) (H : Hp) (sg : L2.St) (s : Sl) : Prop where
  len : sg.length = s.length
  at_ : ∀ (i : Nat) (x : PV), s[i]? = some (some x) → ∃ v, sg[i]? = some (some v) ∧ Rl K fa io H v x
end

section
variable {K : PySem.W.Frag} {fa : Nat → Option Addr} {io io1 io2 : List Addr} {H H1 H2 : Hp}
theorem Ext.refl : Ext io H io H := ⟨⟨[], by simp, fun _ h => nomatch h⟩, fun _ _ h _ => h, fun _ h => h⟩
theorem Ext.trans (a : Ext io H io1 H1) (b : Ext io1 H1 io2 H2) : Ext io H io2 H2 := by
  obtain ⟨t, e1, f1⟩ := a.more
  obtain ⟨u, e2, f2⟩ := b.more
  subst e1; subst e2
  refine ⟨⟨t ++ u, by simp, fun p hp => ?_⟩, fun c o hc hn => ?_, fun c h => a.there c (b.there c h)⟩
  · rcases List.mem_append.mp hp with hp | hp
    · exact f1 p hp
    · exact a.there p (f2 p hp)
  · have h1 := a.stay c o hc hn
    refine b.stay c o h1 ?_
    rcases hn with hn | hn
    · left
      intro hm
      rcases List.mem_append.mp hm with hm | hm
      · exact hn hm
      · rw [f1 c hm] at hc; cases hc
    · exact .inr hn
theorem Ext.at_ (e : Ext io H io1 H1) {n : Nat} {a : Addr} (h : io[n]? = some a) : io1[n]? = some a := by
  obtain ⟨t, rfl, _⟩ := e.more
  have hl := (List.getElem?_eq_some_iff.mp h).1
  rw [List.getElem?_append_left hl]; exact h
theorem Ext.sqT (e : Ext io H io1 H1) {a : Addr} {vs : List V} (h : SqT K H a vs) : SqT K H1 a vs := by
  rcases h with (h | ⟨o, h⟩) | h
  · exact .inl (.inl (e.stay _ _ h (.inr fun _ z => nomatch z)))
  · exact .inl (.inr ⟨o, e.stay _ _ h (.inr fun _ z => nomatch z)⟩)
  · exact .inr h
theorem Ext.sqN (e : Ext io H io1 H1) {a : Addr} {vs : List V} (h : SqN K H a vs) : SqN K H1 a vs := by
  rcases h with ⟨o, h, hd⟩ | h
  · exact .inl ⟨o, e.stay _ _ h (.inr fun _ z => nomatch z), hd⟩
  · exact .inr h
theorem Ext.sqF (e : Ext io H io1 H1) {a : Addr} {vs : List V} (h : SqF K H a vs) : SqF K H1 a vs := by
  rcases h with ⟨o, h⟩ | h
  · exact .inl ⟨o, e.stay _ _ h (.inr fun _ z => nomatch z)⟩
  · exact .inr h
mutual
theorem Rl.mono (e : Ext io H io1 H1) : ∀ {v : V} {x : PV}, Rl K fa io H v x → Rl K fa io1 H1 v x
  | _, _, .non => .non
  | _, _, .bl b => .bl b
  | _, _, .int i => .int i
  | _, _, .str x => .str x
  | _, _, .tup h r => .tup (e.sqN h) (Rls.mono e r)
  | _, _, .wtup h r => .wtup (e.sqT h) (Rls.mono e r)
  | _, _, .scr h r => .scr (e.sqF h) (Rls.mono e r)
  | _, _, .ref h => .ref (e.at_ h)
  | _, _, .fn h => .fn h
theorem Rls.mono (e : Ext io H io1 H1) : ∀ {v : List V} {x : List PV}, Rls K fa io H v x → Rls K fa io1 H1 v x
  | _, _, .nil => .nil
  | _, _, .cons a r => .cons (Rl.mono e a) (Rls.mono e r)
end
theorem RS.mono (e : Ext io H io1 H1) {sg : L2.St} {s : Sl} (r : RS K fa io H sg s) : RS K fa io1 H1 sg s :=
  ⟨r.len, fun i x h => let ⟨v, h1, h2⟩ := r.at_ i x h; ⟨v, h1, h2.mono e⟩⟩
theorem Rls.length : ∀ {vs : List V} {xs : List PV}, Rls K fa io H vs xs → vs.length = xs.length
  | _, _, .nil => rfl
  | _, _, .cons _ r => by rw [List.length_cons, List.length_cons, Rls.length r]
theorem Rls.get : ∀ {vs : List V} {xs : List PV} {i : Nat} {x : PV}, Rls K fa io H vs xs → xs[i]? = some x → ∃ v, vs[i]? = some v ∧ Rl K fa io H v x
  | _, _, _, _, .nil, h => by simp at h
  | _, _, 0, _, .cons a _, h => by simp at h; subst h; exact ⟨_, rfl, a⟩
  | _, _, i + 1, _, .cons _ r, h => by
    obtain ⟨v, h1, h2⟩ := Rls.get (i := i) r (by simpa using h)
    exact ⟨v, by simpa using h1, h2⟩
theorem Rls.append : ∀ {vs ws : List V} {xs ys : List PV}, Rls K fa io H vs xs → Rls K fa io H ws ys → Rls K fa io H (vs ++ ws) (xs ++ ys)
  | _, _, _, _, .nil, q => q
  | _, _, _, _, .cons a r, q => .cons a (Rls.append r q)
theorem Rls.take : ∀ {vs : List V} {xs : List PV} (n : Nat), Rls K fa io H vs xs → Rls K fa io H (vs.take n) (xs.take n)
  | _, _, 0, _ => .nil
  | _, _, _ + 1, .nil => .nil
  | _, _, n + 1, .cons a r => .cons a (Rls.take n r)
theorem Rls.drop : ∀ {vs : List V} {xs : List PV} (n : Nat), Rls K fa io H vs xs → Rls K fa io H (vs.drop n) (xs.drop n)
  | _, _, 0, r => r
  | _, _, _ + 1, .nil => .nil
  | _, _, n + 1, .cons _ r => Rls.drop n r
theorem Rls.set {v : V} {x : PV} (q : Rl K fa io H v x) : ∀ {vs : List V} {xs : List PV} (n : Nat), Rls K fa io H vs xs → Rls K fa io H (vs.set n v) (xs.set n x)
  | _, _, _, .nil => .nil
  | _, _, 0, .cons _ r => .cons q r
  | _, _, n + 1, .cons a r => .cons a (Rls.set q n r)
theorem Rls.reverse : ∀ {vs : List V} {xs : List PV}, Rls K fa io H vs xs → Rls K fa io H vs.reverse xs.reverse
  | _, _, .nil => .nil
  | _, _, .cons a r => by rw [List.reverse_cons, List.reverse_cons]; exact (Rls.reverse r).append (.cons a .nil)
theorem Rls.flat : ∀ (n : Nat) {vs : List V} {xs : List PV}, Rls K fa io H vs xs → Rls K fa io H (List.replicate n vs).flatten (List.replicate n xs).flatten
  | 0, _, _, _ => .nil
  | n + 1, _, _, r => by rw [List.replicate_succ, List.replicate_succ, List.flatten_cons, List.flatten_cons]; exact r.append (Rls.flat n r)
theorem Rls.dropLast {vs : List V} {xs : List PV} (r : Rls K fa io H vs xs) : Rls K fa io H vs.dropLast xs.dropLast := by
  rw [List.dropLast_eq_take, List.dropLast_eq_take, r.length]; exact r.take _
theorem Rls.ints : ∀ {vs : List V} {ns : List Int}, Rls K fa io H vs (ns.map PV.int) → vs = ns.map V.int
  | _, [], h => by cases h; rfl
  | _, n :: ns, h => by
    cases h with
    | cons a r => cases a; rw [Rls.ints r]; rfl
theorem Rls.of_ints : ∀ (ns : List Int), Rls K fa io H (ns.map V.int) (ns.map PV.int)
  | [] => .nil
  | n :: ns => .cons (.int n) (Rls.of_ints ns)
theorem Rls.bls : ∀ {vs : List V} {bs : List Bool}, Rls K fa io H vs (bs.map PV.bl) → vs = bs.map V.bl
  | _, [], h => by cases h; rfl
  | _, b :: bs, h => by
    cases h with
    | cons a r => cases a; rw [Rls.bls r]; rfl

/-! ### the heap's changes -/
theorem RH.lt (r : RH K fa io H h) {n : Nat} {a : Addr} (e : io[n]? = some a) : n < h.length := by
  rw [← r.len]; exact (List.getElem?_eq_some_iff.mp e).1
theorem RH.addr (r : RH K fa io H h) {n : Nat} {a : Addr} (e : io[n]? = some a) : ∃ xs vs, h[n]? = some (.lst xs) ∧ H a = some (.lst vs) ∧ Rls K fa io H vs xs := by
  have hl := r.lt e
  obtain ⟨⟨xs⟩, hx⟩ : ∃ c, h[n]? = some c := ⟨h[n], List.getElem?_eq_getElem hl⟩
  obtain ⟨b, vs, e1, e2, e3⟩ := r.cell n xs hx
  rw [e] at e1; cases e1
  exact ⟨xs, vs, hx, e2, e3⟩
theorem RH.mem (r : RH K fa io H h) {a : Addr} (e : a ∈ io) : ∃ vs, H a = some (.lst vs) := by
  obtain ⟨n, hn, rfl⟩ := List.mem_iff_getElem.mp e
  obtain ⟨_, vs, _, h2, _⟩ := r.addr (List.getElem?_eq_getElem hn)
  exact ⟨vs, h2⟩
/-- a new object that is no list of ours -/
theorem ext_new {p : Addr} {o : HO} (hp : H p = none) : Ext io H io (upd H p o) := by
  refine ⟨⟨[], by simp, fun _ h => nomatch h⟩, fun a u h _ => ?_, fun a h => ?_⟩
  · rw [upd_ne (ne_of_none h hp)]; exact h
  · by_cases e : a = p
    · subst e; exact hp
    · rw [upd_ne e] at h; exact h
theorem RH.stay (r : RH K fa io H h) (e : Ext io H io H1) (k : ∀ a ∈ io, H1 a = H a) : RH K fa io H1 h :=
  ⟨r.len, r.nd, fun n xs hx => by
    obtain ⟨a, vs, e1, e2, e3⟩ := r.cell n xs hx
    exact ⟨a, vs, e1, by rw [k a (List.mem_of_getElem? e1)]; exact e2, e3.mono e⟩⟩
theorem RH.new (r : RH K fa io H h) {p : Addr} {o : HO} (hp : H p = none) : RH K fa io (upd H p o) h := by
  refine r.stay (ext_new hp) fun a ha => ?_
  obtain ⟨vs, e⟩ := r.mem ha
  rw [upd_ne (ne_of_none e hp)]
/-- a new list -/
theorem ext_lst {p : Addr} {o : HO} (hp : H p = none) : Ext io H (io ++ [p]) (upd H p o) := by
  refine ⟨⟨[p], rfl, fun q hq => ?_⟩, fun a u h _ => ?_, fun a h => ?_⟩
  · rw [List.mem_singleton] at hq; subst hq; exact hp
  · rw [upd_ne (ne_of_none h hp)]; exact h
  · by_cases e : a = p
    · subst e; exact hp
    · rw [upd_ne e] at h; exact h
theorem RH.lst (r : RH K fa io H h) {p : Addr} {vs : List V} {xs : List PV} (hp : H p = none) (q : Rls K fa io H vs xs) : RH K fa (io ++ [p]) (upd H p (.lst vs)) (h ++ [.lst xs]) := by
  have e := ext_lst (io := io) (o := .lst vs) hp
  have np : p ∉ io := fun hm => by
    obtain ⟨ws, z⟩ := r.mem hm
    rw [hp] at z; cases z
  refine ⟨by simp [r.len], ?_, fun n ys hy => ?_⟩
  · rw [List.nodup_append]
    refine ⟨r.nd, by simp, fun a ha b hb => ?_⟩
    rw [List.mem_singleton] at hb
    subst hb
    rintro rfl
    exact np ha
  · by_cases hn : n < h.length
    · rw [List.getElem?_append_left hn] at hy
      obtain ⟨a, ws, e1, e2, e3⟩ := r.cell n ys hy
      exact ⟨a, ws, e.at_ e1, by rw [upd_ne (ne_of_none e2 hp)]; exact e2, e3.mono e⟩
    · rw [List.getElem?_append_right (by omega)] at hy
      have hz : n - h.length = 0 := by
        rcases Nat.eq_zero_or_pos (n - h.length) with z | z
        · exact z
        · rw [List.getElem?_eq_none (by simp; omega)] at hy; cases hy
      rw [hz] at hy
      simp at hy
      subst hy
      refine ⟨p, vs, ?_, upd_same, q.mono e⟩
      rw [List.getElem?_append_right (by rw [r.len]; omega), r.len, hz]
      rfl
theorem Ext.sub (e : Ext io H io1 H1) {a : Addr} (h : a ∈ io) : a ∈ io1 := by
  obtain ⟨t, rfl, _⟩ := e.more
  exact List.mem_append_left _ h
/-- a list is written -/
theorem ext_write {a : Addr} {vs : List V} (ha : a ∈ io) (hv : ∃ ws, H a = some (.lst ws)) : Ext io H io (upd H a (.lst vs)) := by
  obtain ⟨ws, hv⟩ := hv
  refine ⟨⟨[], by simp, fun _ h => nomatch h⟩, fun b u h hn => ?_, fun b h => ?_⟩
  · have nb : b ≠ a := by
      rintro rfl
      rcases hn with z | z
      · exact z ha
      · rw [hv] at h; cases h; exact z ws rfl
    rw [upd_ne nb]; exact h
  · by_cases e : b = a
    · subst e; rw [upd_same] at h; cases h
    · rw [upd_ne e] at h; exact h
theorem RH.write (r : RH K fa io H h) {n : Nat} {a : Addr} {vs : List V} {xs : List PV} (ha : io[n]? = some a) (q : Rls K fa io H vs xs) : RH K fa io (upd H a (.lst vs)) (h.set n (.lst xs)) := by
  obtain ⟨_, ws, _, hw, _⟩ := r.addr ha
  have e := ext_write (vs := vs) (List.mem_of_getElem? ha) ⟨ws, hw⟩
  refine ⟨by rw [List.length_set]; exact r.len, r.nd, fun m ys hy => ?_⟩
  by_cases hm : m = n
  · subst hm
    rw [List.getElem?_set_self (r.lt ha)] at hy
    simp at hy
    subst hy
    exact ⟨a, vs, ha, upd_same, q.mono e⟩
  · rw [List.getElem?_set_ne (Ne.symm hm)] at hy
    obtain ⟨b, us, e1, e2, e3⟩ := r.cell m ys hy
    have nb : b ≠ a := fun z => by
      subst z
      obtain ⟨l1, x1⟩ := List.getElem?_eq_some_iff.mp e1
      obtain ⟨l2, x2⟩ := List.getElem?_eq_some_iff.mp ha
      exact hm ((List.getElem_inj r.nd).mp (x1.trans x2.symm))
    exact ⟨b, us, e1, by rw [upd_ne nb]; exact e2, e3.mono e⟩

/-! ### what a value is, from its pure one -/
/-- a list or a tuple that may be read -/
def Sq (K : PySem.W.Frag) (H : Hp) (a : Addr) (vs : List V) : Prop := SqL K H a vs ∨ SqT K H a vs
theorem RH.items (r : RH K fa io H h) {v : V} {x : PV} {xs : List PV} (q : Rl K fa io H v x) (e : items h x = some xs) : ∃ a vs, v = .ref a ∧ Sq K H a vs ∧ Rls K fa io H vs xs := by
  cases q with
  | tup s q => cases e; exact ⟨_, _, rfl, .inr s.t, q⟩
  | scr s q => cases e; exact ⟨_, _, rfl, .inl s.l, q⟩
  | @ref a n hn =>
    simp only [PB.items] at e
    split at e <;> cases e
    rename_i hx
    obtain ⟨b, vs, e1, e2, e3⟩ := r.cell _ _ hx
    rw [hn] at e1; cases e1
    exact ⟨_, _, rfl, .inl (.inl (.inl e2)), e3⟩
  | _ => cases e
theorem RH.list (r : RH K fa io H h) {v : V} {n : Nat} {xs : List PV} (q : Rl K fa io H v (.ref n)) (e : h[n]? = some (.lst xs)) : ∃ a vs, v = .ref a ∧ io[n]? = some a ∧ H a = some (.lst vs) ∧ Rls K fa io H vs xs := by
  cases q with
  | ref hn =>
    obtain ⟨b, vs, e1, e2, e3⟩ := r.cell _ _ e
    rw [hn] at e1; cases e1
    exact ⟨_, _, rfl, hn, e2, e3⟩
theorem toDs_cons {f : PV → Option PyData} {x : PV} {r : List PV} {ds : List PyData} (h : toDs f (x :: r) = some ds) : ∃ d e, f x = some d ∧ toDs f r = some e ∧ ds = d :: e := by
  simp only [toDs] at h
  split at h <;> cases h
  exact ⟨_, _, by assumption, by assumption, rfl⟩
/-- the data of a value -/
theorem RH.data (r : RH K fa io H h) : ∀ (n : Nat) (v : V) (x : PV) (d : PyData), Rl K fa io H v x → toD h n x = some d → Dp K H v d ∧ PyData.canLay0 d = true ∧ PyData.depth d ≤ n := by
  intro n
  induction n with
  | zero =>
    intro v x d q e
    cases q with
    | non => simp only [toD] at e; cases e; exact ⟨.non, rfl, Nat.le_refl _⟩
    | bl b => simp only [toD] at e; cases e; exact ⟨.bl b, rfl, Nat.le_refl _⟩
    | int i => simp only [toD] at e; cases e; exact ⟨.int i, rfl, Nat.le_refl _⟩
    | str x =>
      simp only [toD] at e
      split at e
      · cases e; exact ⟨.str x, by assumption, Nat.le_refl _⟩
      · cases e
    | _ => simp [toD] at e
  | succ n ih =>
    have all : ∀ (vs : List V) (xs : List PV) (ds : List PyData), Rls K fa io H vs xs → toDs (toD h n) xs = some ds → DpAll K H vs ds ∧ PyData.canLayAll0 ds = true ∧ PyData.depthAll ds ≤ n := by
      intro vs xs
      induction xs generalizing vs with
      | nil => intro ds q e; cases q; simp only [toDs] at e; cases e; exact ⟨.nil, rfl, Nat.zero_le _⟩
      | cons x xs ih2 =>
        intro ds q e
        cases q with
        | cons a q =>
          obtain ⟨d, e', h1, h2, rfl⟩ := toDs_cons e
          obtain ⟨g1, g2, g3⟩ := ih _ _ _ a h1
          obtain ⟨k1, k2, k3⟩ := ih2 _ _ q h2
          refine ⟨.cons g1 k1, ?_, ?_⟩
          · simp only [PyData.canLayAll0, Bool.and_eq_true]; exact ⟨g2, k2⟩
          · simp only [PyData.depthAll]; omega
    intro v x d q e
    cases q with
    | non => simp only [toD] at e; cases e; exact ⟨.non, rfl, Nat.zero_le _⟩
    | bl b => simp only [toD] at e; cases e; exact ⟨.bl b, rfl, Nat.zero_le _⟩
    | int i => simp only [toD] at e; cases e; exact ⟨.int i, rfl, Nat.zero_le _⟩
    | str x =>
      simp only [toD] at e
      split at e
      · cases e; exact ⟨.str x, by assumption, Nat.zero_le _⟩
      · cases e
    | @tup a vs xs s q =>
      simp only [toD] at e
      cases z : toDs (toD h n) xs with
      | none => rw [z] at e; cases e
      | some ds =>
        rw [z] at e; cases e
        obtain ⟨k1, k2, k3⟩ := all _ _ _ q z
        exact ⟨.tup s.t k1, k2, by simp only [PyData.depth]; omega⟩
    | @scr a vs xs s q =>
      simp only [toD] at e
      cases z : toDs (toD h n) xs with
      | none => rw [z] at e; cases e
      | some ds =>
        rw [z] at e; cases e
        obtain ⟨k1, k2, k3⟩ := all _ _ _ q z
        exact ⟨.lst s.l k1, k2, by simp only [PyData.depth]; omega⟩
    | @ref a m hm =>
      simp only [toD] at e
      split at e
      · rename_i xs hx
        cases z : toDs (toD h n) xs with
        | none => rw [z] at e; cases e
        | some ds =>
          rw [z] at e; cases e
          obtain ⟨b, vs, e1, e2, e3⟩ := r.cell _ _ hx
          rw [hm] at e1; cases e1
          obtain ⟨k1, k2, k3⟩ := all _ _ _ e3 z
          exact ⟨.lst (.inl (.inl e2)) k1, k2, by simp only [PyData.depth]; omega⟩
      · cases e
    | fn hf => simp [toD] at e
    | wtup _ _ => simp [toD] at e
theorem RH.eqD (r : RH K fa io H h) {v w : V} {x y : PV} {b : Bool} (q : Rl K fa io H v x) (q' : Rl K fa io H w y) (e : eqD h x y = some b) :
    ∃ d d', Dp K H v d ∧ Dp K H w d' ∧ SeqAt.shaped d = true ∧ SeqAt.shaped d' = true ∧ PyData.depth d ≤ 12 ∧ PyData.depth d' ≤ 12 ∧ toD h 12 x = some d ∧ toD h 12 y = some d' ∧ PyData.eqv d d' = b := by
  unfold PB.eqD at e
  split at e
  · rename_i d d' e1 e2
    cases e
    obtain ⟨a1, a2, a3⟩ := r.data 12 v x d q e1
    obtain ⟨b1, b2, b3⟩ := r.data 12 w y d' q' e2
    have sh : ∀ z : PyData, PyData.canLay0 z = true → PyData.depth z ≤ 12 → SeqAt.shaped z = true := fun z h1 h2 => by
      unfold SeqAt.shaped
      rw [h1, Bool.true_and]
      exact decide_eq_true (by omega)
    exact ⟨d, d', a1, b1, sh d a2 a3, sh d' b2 b3, a3, b3, e1, e2, rfl⟩
  · cases e
end
end PB

set_option Elab.async false
set_option linter.all false
set_option maxRecDepth 100000
set_option maxHeartbeats 4000000
namespace PB
open PySem PySem.Spec PyProof.Rows L2
/-! ### new tuples, known to have no dict -/
def NewT (Q : VK) (H : Hp) (vs : List V) : Prop := ∀ (p : Addr) (o : Obj), H p = none → o.dict = none → Q (.ref p) (upd H p (.frz o (.tup vs)))
theorem new_tup {P : Program} {w : World} {H : Hp} {h : Heap} {vs : List V} {its : List Value} (hz : vs.length ≤ sizeLine) (r : Vals vs its) :
    ObjOk P w H (h.push { cls := .type "tuple", data := .seq its.toArray }) h.objs.size (.frz { cls := .type "tuple", data := .seq its.toArray } (.tup vs)) := ⟨Heap.get?_push_size _ rfl, hz, its, r, IsTup.new _ _⟩
section
variable {X : Cx} {es : List Expr} {t : TA} {pos : Pos}
theorem laid_tup {pins : List (Addr × Obj)} {σ : L2.St} {H : Hp} {s : Shared} {Q : VK} {vs : List V} {its : List Value} (I : Inv X pins σ H s) (hz : vs.length ≤ sizeLine) (r : Vals vs its) (q : NewT Q H vs) :
    EP X pins σ Q (.ref s.heap.objs.size) { s with heap := s.heap.push { cls := .type "tuple", data := .seq its.toArray } } :=
  ⟨.ref s.heap.objs.size, _, I.laid (t' := s.toks) (o := .frz { cls := .type "tuple", data := .seq its.toArray } (.tup vs)) (fun b u e => Heap.get?_push_of_some _ e) (Nat.le_refl _) (new_tup hz r), rfl, q _ _ (I.hok.fresh (Nat.le_refl _)) rfl⟩
/-- a display -/
def tTupN (t : TA) : TE := fun σ H Q => t σ H fun xs H1 => xs.length ≤ sizeLine ∧ NewT Q H1 xs
theorem pe_tupN {x1} (h : PA X es t) : PE X (.Tuple es x1 pos) (tTupN t) := by
  refine ⟨fun pins s σ H Q I hq => ?_⟩
  refine wpAny_Tuple_spliced (thn (h.run pos pins s σ H _ I hq) fun us s1 ⟨xs, H1, I1, r, z, q⟩ => ⟨by rw [← r.length]; exact z, ?_⟩)
  exact laid_tup I1 z r q
/-- slices -/
def rSlN (K : PySem.W.Frag) : V → Option Int → Option Int → Hp → VK → Prop := fun x lo hi H Q => ∃ a xs, x = .ref a ∧ SqT K H a xs ∧
  (HT.sIx xs.length 0 lo = 0 ∧ HT.sIx xs.length xs.length hi = xs.length → Q (.ref a) H) ∧ (¬ (HT.sIx xs.length 0 lo = 0 ∧ HT.sIx xs.length xs.length hi = xs.length) → NewT Q H (cutV xs lo hi))
theorem sl_tupN : SlR X (rSlN X.K) := by
  intro pins s σ H x v vl vu lo hi sl Q I rx hs pl pu h
  obtain ⟨a, xs, rfl, hx, q1, q2⟩ := h
  cases rx
  obtain ⟨its, r, ht, hz⟩ := I.tuple hx
  have hlen : its.toArray.size = xs.length := by rw [List.size_toArray]; exact r.length.symm
  refine ⟨"tuple", _, PyProof.Rows.slot_tuple_getitem.lookup, ht.typeIs, ?_⟩
  by_cases hw : HT.sIx xs.length 0 lo = 0 ∧ HT.sIx xs.length xs.length hi = xs.length
  · exact getItem_tuple_whole ht hs pl pu (by rw [hlen]; exact hw) ⟨.ref a, H, I, rfl, q1 hw⟩
  · refine HT.getItem_tuple_cut ht hs pl pu (by rw [hlen]; exact hw) ?_ (by rw [hlen]; exact hz)
    rw [hlen]
    exact laid_tup I (Nat.le_trans (cutV_length xs lo hi) hz) ((r.drop (HT.sIx xs.length 0 lo)).take (HT.sIx xs.length xs.length hi - HT.sIx xs.length 0 lo)) (q2 hw)
/-- sums -/
def rCatN (K : PySem.W.Frag) : R2 := fun x y H Q => ∃ a b xs ys, x = .ref a ∧ y = .ref b ∧ SqT K H a xs ∧ SqT K H b ys ∧ xs.length + ys.length ≤ sizeLine ∧
  (xs = [] → Q (.ref b) H) ∧ (xs ≠ [] → ys = [] → Q (.ref a) H) ∧ (xs ≠ [] → ys ≠ [] → NewT Q H (xs ++ ys))
theorem op_catN : OpR X (binaryOp .Add) (rCatN X.K) := by
  intro pins s σ H x y v u Q I rx ry h
  obtain ⟨a, b, xs, ys, rfl, rfl, ha, hb, hz, q0, q1, q2⟩ := h
  cases rx
  cases ry
  obtain ⟨its, r1, p1, _⟩ := I.tuple ha
  obtain ⟨its2, r2, p2, _⟩ := I.tuple hb
  by_cases hx : xs = []
  · subst hx
    cases r1
    exact cat_tup0 p1 p2 ⟨.ref b, H, I, rfl, q0 rfl⟩
  · refine HT.cat_tup p1 p2 (fun z => hx (r1.nil_iff.mp z)) (fun z => ⟨.ref a, H, I, rfl, q1 hx (r2.nil_iff.mp z)⟩) (fun z => ?_) (by rw [← r1.length, ← r2.length]; exact hz)
    exact laid_tup I (by rw [List.length_append]; exact hz) (r1.append r2) (q2 hx (fun w => z (r2.nil_iff.mpr w)))
/-- tuple(..) -/
theorem call_tupleN : CallR X (.type "tuple") (fun xs H Q => ∃ p ys, xs = [.ref p] ∧ ((SqL X.K H p ys ∧ NewT Q H ys) ∨ (SqT X.K H p ys ∧ Q (.ref p) H))) := by
  intro pins s σ H xs us Q I r h
  obtain ⟨p, ys, rfl, h⟩ := h
  obtain ⟨u, rfl, rx⟩ := vals1 r
  cases rx
  rcases h with ⟨hq, q⟩ | ⟨hq, q⟩
  · obtain ⟨its, r', pl, hz⟩ := I.list hq
    have hlen := r'.length
    refine call_tuple_list pl.isList (fun h' kp => ?_) (by simp only [List.size_toArray] <;> omega)
    have I1 : Inv X pins σ H { s with heap := h' } := I.kept (t' := s.toks) kp
    exact laid_tup I1 hz r' q
  · obtain ⟨its, r', pl, hz⟩ := I.tuple hq
    exact call_tuple_same pl ⟨.ref p, H, I, rfl, q⟩
end
end PB

set_option Elab.async false
set_option linter.all false
set_option maxRecDepth 100000
set_option maxHeartbeats 2000000
namespace PB
open PySem PySem.Spec L2

theorem bind_ok {α β : Type} {x : Res α} {f : α → PH → Res β} {r : β} {h : PH} (e : x.bind f = .ok r h) : ∃ a h1, x = .ok a h1 ∧ f a h1 = .ok r h := by
  cases x with
  | ok a h1 => exact ⟨a, h1, rfl, e⟩
  | exc c v h1 => cases e
  | bad => cases e

section
variable (K : PySem.W.Frag) (fa : Nat → Option Addr) (cf : Nat → List PV → PH → Res PV)
/-- the readings of a code -/
def tE (c : CE) : TE := fun sg H Q => ∃ io s h r h', RS K fa io H sg s ∧ RH K fa io H h ∧ evE cf c s h = .ok r h' ∧ ∀ io' H' v, Ext io H io' H' → RH K fa io' H' h' → Rl K fa io' H' v r → Q v H'
def tA (c : CA) : TA := fun sg H Q => ∃ io s h r h', RS K fa io H sg s ∧ RH K fa io H h ∧ evA cf c s h = .ok r h' ∧ ∀ io' H' v, Ext io H io' H' → RH K fa io' H' h' → Rls K fa io' H' v r → Q v H'
def tT (c : CE) : TT := fun sg H Q => ∃ io s h b h', RS K fa io H sg s ∧ RH K fa io H h ∧ evE cf c s h = .ok (.bl b) h' ∧ ∀ io' H', Ext io H io' H' → RH K fa io' H' h' → Q b H'
/-- an optional part: an int -/
def tO (c : CO) : L2.TO := fun sg H Q => ∃ io s h r o h', RS K fa io H sg s ∧ RH K fa io H h ∧ evO cf c s h = .ok r h' ∧ optI h' r = .ok o h' ∧ ∀ io' H', Ext io H io' H' → RH K fa io' H' h' → Q o H'
/-- the slots of a target -/
def slots : CT → List Nat
  | .v i => [i]
  | .s _ _ => []
  | .nil => []
  | .cons a r => slots a ++ slots r
def tG (c : CT) : TG := fun v sg H Q => ∃ io s h x s' h', RS K fa io H sg s ∧ RH K fa io H h ∧ Rl K fa io H v x ∧ asT cf c x s h = .ok s' h' ∧
  ∀ io' H' sg', Ext io H io' H' → RH K fa io' H' h' → RS K fa io' H' sg' s' → (∀ j, j ∉ slots c → sg'[j]? = sg[j]?) → Q sg' H'
def tGs (c : CT) : TGs := fun vs sg H Q => ∃ io s h xs s' h', RS K fa io H sg s ∧ RH K fa io H h ∧ Rls K fa io H vs xs ∧ asTs cf c xs s h = .ok s' h' ∧
  ∀ io' H' sg', Ext io H io' H' → RH K fa io' H' h' → RS K fa io' H' sg' s' → (∀ j, j ∉ slots c → sg'[j]? = sg[j]?) → Q sg' H'
/-- a walk over pure items -/
def GoodJ (p : List PV × Lean_) (io : List Addr) (H : Hp) (J : It) : Prop :=
  ∀ io2 H2 h2, Ext io H io2 H2 → RH K fa io2 H2 h2 → leans p.2 h2 = true →
    (∀ (i : Nat) (y : PV), p.1[i]? = some y → J.go i H2 ∧ ∀ x H3, J.yld i H2 x H3 → Ext io2 H2 io2 H3 ∧ RH K fa io2 H3 h2 ∧ Rl K fa io2 H3 x y) ∧ J.stop p.1.length H2
def tI (c : CI) : TI := fun sg H R => ∃ io s h p h', RS K fa io H sg s ∧ RH K fa io H h ∧ evI cf c s h = .ok p h' ∧
  ∀ io' H', Ext io H io' H' → RH K fa io' H' h' → ∀ J, GoodJ K fa p io' H' J → R J H'
def fin (io : List Addr) (H : Hp) (D : Ends) (f : Fl) (h' : PH) : Prop :=
  ∀ io' H', Ext io H io' H' → RH K fa io' H' h' → match f with
    | .nx s' => ∀ sg', RS K fa io' H' sg' s' → D.nx sg' H'
    | .bk s' => ∀ sg', RS K fa io' H' sg' s' → D.bk sg' H'
    | .ct s' => ∀ sg', RS K fa io' H' sg' s' → D.ct sg' H'
    | .rt v => ∀ u, Rl K fa io' H' u v → D.rt u H'
def tS (c : CS) : TS := fun D sg H => ∃ io s h f h', RS K fa io H sg s ∧ RH K fa io H h ∧ evS cf c s h = .ok f h' ∧ fin K fa io H D f h'
def tK (c : CB) : TS := fun D sg H => ∃ io s h f h', RS K fa io H sg s ∧ RH K fa io H h ∧ evB cf c s h = .ok f h' ∧ fin K fa io H D f h'
/-- a def's promise -/
def spI (G : Nat → Option Fn) (k i : Nat) : Sp := fun vs H Q _ => ∃ io h args r h', Rls K fa io H vs args ∧ RH K fa io H h ∧ callF G k i args h = .ok r h' ∧
  ∀ io' H' v, Ext io H io' H' → RH K fa io' H' h' → Rl K fa io' H' v r → Q v H'
end

section
variable {X : Cx} {fa : Nat → Option Addr} {cf : Nat → List PV → PH → Res PV}
theorem wkE {e : Expr} {t t' : TE} (h : PE X e t) (w : ∀ sg H Q, t' sg H Q → t sg H Q) : PE X e t' := ⟨fun pins s sg H Q I q => h.run pins s sg H Q I (w _ _ _ q)⟩
theorem wkA {e : List Expr} {t t' : TA} (h : PA X e t) (w : ∀ sg H Q, t' sg H Q → t sg H Q) : PA X e t' := ⟨fun pos pins s sg H Q I q => h.run pos pins s sg H Q I (w _ _ _ q)⟩
theorem wkT {e : Expr} {t t' : TT} (h : PT X e t) (w : ∀ sg H Q, t' sg H Q → t sg H Q) : PT X e t' := ⟨fun pins s sg H Q I q => h.run pins s sg H Q I (w _ _ _ q)⟩
theorem wkW {e : Expr} {t t' : TT} (h : PW X e t) (w : ∀ sg H Q, t' sg H Q → t sg H Q) : PW X e t' := ⟨fun wh pins s sg H Q I q => h.run wh pins s sg H Q I (w _ _ _ q)⟩
theorem wkG {e : Expr} {t t' : TG} (h : PG X e t) (w : ∀ v sg H Q, t' v sg H Q → t v sg H Q) : PG X e t' := ⟨fun pins s sg H v u Q I r q => h.run pins s sg H v u Q I r (w _ _ _ _ q)⟩
theorem wkGs {e : List Expr} {t t' : TGs} (h : PGs X e t) (w : ∀ v sg H Q, t' v sg H Q → t v sg H Q) : PGs X e t' := ⟨fun pins s sg H v u Q I r q => h.run pins s sg H v u Q I r (w _ _ _ _ q)⟩
theorem wkS {e : Stmt} {t t' : TS} (h : PS X e t) (w : ∀ D sg H, t' D sg H → t D sg H) : PS X e t' := ⟨fun pins s sg H D I q => h.run pins s sg H D I (w _ _ _ q)⟩
theorem wkK {e : List Stmt} {t t' : TS} (h : PSs X e t) (w : ∀ D sg H, t' D sg H → t D sg H) : PSs X e t' := ⟨fun pins s sg H D I q => h.run pins s sg H D I (w _ _ _ q)⟩
theorem wkI {tg e : Expr} {t t' : TI} (h : PI X tg e t) (w : ∀ sg H Q, t' sg H Q → t sg H Q) : PI X tg e t' := ⟨fun pins s sg H Q I q => h.run pins s sg H Q I (w _ _ _ q)⟩
theorem wkO {e : Option Expr} {t t' : L2.TO} (h : L2.PO X e t) (w : ∀ sg H Q, t' sg H Q → t sg H Q) : L2.PO X e t' := ⟨fun pins s sg H Q I q => h.run pins s sg H Q I (w _ _ _ q)⟩

/-! ### names, constants -/
theorem e_var {i : Nat} {x : Str} {pos : Pos} (h : PE X (.Name x pos) (tVar i)) : PE X (.Name x pos) (tE X.K fa cf (.var i)) :=
  wkE h fun sg H Q ⟨io, s, hp, r, h', rs, rh, e, q⟩ => by
    simp only [evE] at e
    split at e <;> cases e
    obtain ⟨v, h1, h2⟩ := rs.at_ i _ (by assumption)
    exact ⟨v, h1, q io H v .refl rh h2⟩
/-- a value that never changes -/
def Con (K : PySem.W.Frag) (fa : Nat → Option Addr) (v : V) (x : PV) : Prop := ∀ io H, Rl K fa io H v x
theorem e_con {e : Expr} {v : V} {x : PV} (h : PE X e (tC v)) (c : Con X.K fa v x) : PE X e (tE X.K fa cf (.con x)) :=
  wkE h fun sg H Q ⟨io, s, hp, r, h', rs, rh, e, q⟩ => by
    simp only [evE] at e
    cases e
    exact q io H v .refl rh (c io H)
theorem e_int {i : Int} {j : Nat} {pos : Pos} : PE X (.Constant (.int i) j pos) (tE X.K fa cf (.con (.int i))) := e_con pe_int fun _ _ => .int i
theorem e_bl {b : Bool} {j : Nat} {pos : Pos} : PE X (.Constant (.bool b) j pos) (tE X.K fa cf (.con (.bl b))) := e_con pe_bl fun _ _ => .bl b
theorem e_non {j : Nat} {pos : Pos} : PE X (.Constant .none j pos) (tE X.K fa cf (.con .non)) := e_con pe_non fun _ _ => .non
theorem e_str {x : Str} {j : Nat} {pos : Pos} : PE X (.Constant (.str x) j pos) (tE X.K fa cf (.con (.str x))) := e_con pe_str fun _ _ => .str x

/-! ### operators -/
theorem bin2 {e1 e2 : CE} {sg : L2.St} {H : Hp} {Q : VK} {f : PV → PV → PH → Res PV} {R : V → V → Hp → VK → Prop} {io : List Addr} {s : Sl} {h : PH} {r : PV} {h' : PH}
    (rs : RS X.K fa io H sg s) (rh : RH X.K fa io H h) (e : ((evE cf e1 s h).bind fun x h1 => (evE cf e2 s h1).bind fun y h2 => f x y h2) = .ok r h')
    (q : ∀ io' H' v, Ext io H io' H' → RH X.K fa io' H' h' → Rl X.K fa io' H' v r → Q v H')
    (op : ∀ io2 H2 h2 a b x y, RH X.K fa io2 H2 h2 → Rl X.K fa io2 H2 a x → Rl X.K fa io2 H2 b y → f x y h2 = .ok r h' → (∀ io' H' v, Ext io2 H2 io' H' → RH X.K fa io' H' h' → Rl X.K fa io' H' v r → Q v H') → R a b H2 Q) :
    tE X.K fa cf e1 sg H fun x H1 => tE X.K fa cf e2 sg H1 fun y H2 => R x y H2 Q := by
  obtain ⟨x, h1, ea, e⟩ := bind_ok e
  obtain ⟨y, h2, eb, e⟩ := bind_ok e
  refine ⟨io, s, h, x, h1, rs, rh, ea, fun io1 H1 a ex1 rh1 ra => ⟨io1, s, h1, y, h2, rs.mono ex1, rh1, eb, fun io2 H2 b ex2 rh2 rb => ?_⟩⟩
  exact op io2 H2 h2 a b x y rh2 (ra.mono ex2) rb e fun io' H' v ex3 rh3 rv => q io' H' v ((ex1.trans ex2).trans ex3) rh3 rv
/-- what a rule by values must show -/
def OpOk (X : Cx) (fa : Nat → Option Addr) (f : PV → PV → PH → Res PV) (R : R2) : Prop :=
  ∀ (io : List Addr) (H : Hp) (h : PH) (a b : V) (x y r : PV) (h' : PH) (Q : VK), RH X.K fa io H h → Rl X.K fa io H a x → Rl X.K fa io H b y → f x y h = .ok r h' →
    (∀ io' H' v, Ext io H io' H' → RH X.K fa io' H' h' → Rl X.K fa io' H' v r → Q v H') → R a b H Q
theorem many_le {n : Nat} (h : n ≤ many) : n ≤ sizeLine := Nat.le_trans h (by decide)
theorem many_lt {n : Nat} (h : n < many) : n < sizeLine := Nat.lt_of_lt_of_le h (by decide)
theorem alloc_ok {io : List Addr} {H : Hp} {h : PH} {vs : List V} {xs : List PV} {r : PV} {h' : PH} {K : PySem.W.Frag} {Q : VK} (rh : RH K fa io H h) (rv : Rls K fa io H vs xs) (e : alloc xs h = .ok r h')
    (q : ∀ io' H' v, Ext io H io' H' → RH K fa io' H' h' → Rl K fa io' H' v r → Q v H') : ∀ p, H p = none → Q (.ref p) (upd H p (.lst vs)) := by
  intro p hp
  unfold alloc at e
  cases e
  refine q (io ++ [p]) _ _ (ext_lst hp) (rh.lst hp rv) (.ref ?_)
  rw [List.getElem?_append_right (by rw [rh.len]; exact Nat.le_refl _), rh.len, Nat.sub_self]
  rfl
theorem tup_ok {io : List Addr} {H : Hp} {h : PH} {vs : List V} {xs : List PV} {K : PySem.W.Frag} {Q : VK} (rh : RH K fa io H h) (rv : Rls K fa io H vs xs)
    (q : ∀ io' H' v, Ext io H io' H' → RH K fa io' H' h → Rl K fa io' H' v (.tup xs) → Q v H') : NewT Q H vs := fun p o hp hd =>
  q io _ _ (ext_new hp) (rh.new hp) (.tup (.inl ⟨o, upd_same, hd⟩) (rv.mono (ext_new hp)))

/-- all integer operators -/
def rInt (f : Int → Int → Prop) (g : Int → Int → Int) : R2 := rI f fun i j => .int (g i j)
theorem op_fdivP : OpR X (binaryOp .FloorDiv) (rI (fun _ j => j ≠ 0 ∧ j.natAbs.log2 < 9000) fun i j => .int (i.fdiv j)) := opI fun i j _ _ _ _ _ hc q =>
  PyProof.Rows.floordiv_int hc.1 q (.inl (PyProof.noPylong_of_log2 hc.2))
theorem ok_add : OpOk X fa (binop .add) (fun x y H Q => (rI0 fun i j => .int (i + j)) x y H Q ∨ rCatN X.K x y H Q ∨ rCat x y H Q) := by
  intro io H h a b x y r h' Q rh ra rb e q
  cases x <;> try (simp only [binop] at e; cases e; done)
  case int i =>
    cases y <;> try (simp only [binop] at e; cases e; done)
    case int j =>
      cases ra; cases rb
      simp only [binop] at e; cases e
      exact .inl ⟨i, j, rfl, rfl, q io H _ .refl rh (.int _)⟩
  case tup xs =>
    cases y <;> try (simp only [binop] at e; cases e; done)
    case tup ys =>
      simp only [binop] at e
      split at e <;> cases e
      rename_i hl
      cases ra with
      | @tup a vs _ sa ra =>
      cases rb with
      | @tup b ws _ sb rb =>
      refine .inr (.inl ⟨a, b, vs, ws, rfl, rfl, sa.t, sb.t, by rw [ra.length, rb.length]; exact many_le hl, fun e1 => ?_, fun e1 e2 => ?_, fun e1 e2 => ?_⟩)
      · subst e1; cases ra; exact q io H _ .refl rh (.tup sb rb)
      · subst e2; cases rb; rw [List.append_nil] at q; exact q io H _ .refl rh (.tup sa ra)
      · exact tup_ok rh (ra.append rb) q
  case ref n =>
    cases y <;> try (simp only [binop] at e; cases e; done)
    case ref m =>
      simp only [binop] at e
      split at e
      · rename_i xs ys hx hy
        by_cases hl : xs.length + ys.length ≤ many
        · rw [if_pos hl] at e
          obtain ⟨a, vs, rfl, _, ha, rv⟩ := rh.list ra hx
          obtain ⟨b, ws, rfl, _, hb, rw'⟩ := rh.list rb hy
          refine .inr (.inr ⟨a, b, vs, ws, rfl, rfl, ha, hb, by rw [rv.length, rw'.length]; exact many_le hl, ?_⟩)
          exact alloc_ok rh (rv.append rw') e q
        · rw [if_neg hl] at e; cases e
      · cases e
theorem ok_sub : OpOk X fa (binop .sub) (rI0 fun i j => .int (i - j)) := by
  intro io H h a b x y r h' Q rh ra rb e q
  cases x <;> cases y <;> simp only [binop] at e <;> cases e
  cases ra; cases rb
  exact ⟨_, _, rfl, rfl, q io H _ .refl rh (.int _)⟩
theorem ok_fdiv : OpOk X fa (binop .fdiv) (rI (fun _ j => j ≠ 0 ∧ j.natAbs.log2 < 9000) fun i j => .int (i.fdiv j)) := by
  intro io H h a b x y r h' Q rh ra rb e q
  cases x <;> cases y <;> simp only [binop] at e <;> try cases e
  split at e <;> cases e
  rename_i hc
  cases ra; cases rb
  exact ⟨_, _, rfl, rfl, hc, q io H _ .refl rh (.int _)⟩
theorem ok_mod : OpOk X fa (binop .mod) (rI (fun _ j => j ≠ 0) fun i j => .int (i.fmod j)) := by
  intro io H h a b x y r h' Q rh ra rb e q
  cases x <;> cases y <;> simp only [binop] at e <;> try cases e
  split at e <;> cases e
  rename_i hc
  cases ra; cases rb
  exact ⟨_, _, rfl, rfl, hc, q io H _ .refl rh (.int _)⟩
theorem ok_pow : OpOk X fa (binop .pow) (rI CPow fun i j => .int (i ^ j.toNat)) := by
  intro io H h a b x y r h' Q rh ra rb e q
  cases x <;> cases y <;> simp only [binop] at e <;> try cases e
  split at e <;> cases e
  rename_i hc
  cases ra; cases rb
  exact ⟨_, _, rfl, rfl, ⟨hc.1, by omega, hc.2.2⟩, q io H _ .refl rh (.int _)⟩
theorem bin_of {ba : Operator} {bo : BinO} {R : R2} {a b : Expr} {pos : Pos} {ca cb : CE} (ho : OpR X (binaryOp ba) R) (hk : OpOk X fa (binop bo) R) (ha : PE X a (tE X.K fa cf ca)) (hb : PE X b (tE X.K fa cf cb)) :
    PE X (.BinOp a ba b pos) (tE X.K fa cf (.bin bo ca cb)) :=
  wkE (pe_op ho ha hb) fun sg H Q ⟨io, s, h, r, h', rs, rh, e, q⟩ =>
    bin2 (R := R) rs rh (by simpa only [evE] using e) q fun io2 H2 h2 a b x y rh2 ra rb e2 q2 => hk io2 H2 h2 a b x y r h' Q rh2 ra rb e2 q2
variable {a b c : Expr} {pos : Pos} {ca cb cc : CE}
theorem e_add (ha : PE X a (tE X.K fa cf ca)) (hb : PE X b (tE X.K fa cf cb)) : PE X (.BinOp a .Add b pos) (tE X.K fa cf (.bin .add ca cb)) := bin_of (op_add.or (op_catN.or op_cat)) ok_add ha hb
theorem e_sub (ha : PE X a (tE X.K fa cf ca)) (hb : PE X b (tE X.K fa cf cb)) : PE X (.BinOp a .Sub b pos) (tE X.K fa cf (.bin .sub ca cb)) := bin_of op_sub ok_sub ha hb
theorem e_fdiv (ha : PE X a (tE X.K fa cf ca)) (hb : PE X b (tE X.K fa cf cb)) : PE X (.BinOp a .FloorDiv b pos) (tE X.K fa cf (.bin .fdiv ca cb)) := bin_of op_fdivP ok_fdiv ha hb
theorem e_mod (ha : PE X a (tE X.K fa cf ca)) (hb : PE X b (tE X.K fa cf cb)) : PE X (.BinOp a .Mod b pos) (tE X.K fa cf (.bin .mod ca cb)) := bin_of op_modN ok_mod ha hb
theorem e_pow (ha : PE X a (tE X.K fa cf ca)) (hb : PE X b (tE X.K fa cf cb)) : PE X (.BinOp a .Pow b pos) (tE X.K fa cf (.bin .pow ca cb)) := bin_of op_pow ok_pow ha hb
end
end PB

set_option Elab.async false
set_option linter.all false
set_option maxRecDepth 100000
set_option maxHeartbeats 4000000
namespace PB
open PySem PySem.Spec PyProof.Rows L2
theorem tuple_mul_same (l : Addr) (items : Array Value) (n : Nat) (dd : Option Addr) (sl : Array (Option Value)) (x : Int) (u : Tok) (c0 : (decide (x < -(2 ^ 63)) || decide (x ≥ 2 ^ 63)) = false) (c1 : (items.isEmpty || x == 1) = true) :
    Meets (Builtin.«tuple.__mul__» ⟨[.ref l, .int x u], []⟩) (fun _ R s => s.heap.get? l = some { cls := .type "tuple", dict := dd, data := .seq items n, slots := sl } ∧
      R (.ok (.ret (Value.ref l))) s) :=
  .of_wp fun prog w A R s h => by
    obtain ⟨hp, g, d, tk, os⟩ := s
    obtain ⟨hl, h⟩ := h
    have f1 := AutoSeq1.idx_int
    wp_walk using wpAny_loadPart' hl
    repeat (first
      | (refine wpAny_ite_false (decide_eq_false (by rw [c0]; exact Bool.false_ne_true)) ?_; wp_walk using wpAny_loadPart' hl)
      | (refine wpAny_ite_true (decide_eq_true c1) ?_; wp_walk using wpAny_loadPart' hl))
    exact ⟨_, rfl, h⟩
theorem tuple_mul_none (l : Addr) (items : Array Value) (n : Nat) (dd : Option Addr) (sl : Array (Option Value)) (x : Int) (u : Tok) (c0 : (decide (x < -(2 ^ 63)) || decide (x ≥ 2 ^ 63)) = false) (c1 : (items.isEmpty || x == 1) = false) (c2 : (decide (x ≤ 0) || items.isEmpty) = true) :
    Meets (Builtin.«tuple.__mul__» ⟨[.ref l, .int x u], []⟩) (fun _ R s => s.heap.get? l = some { cls := .type "tuple", dict := dd, data := .seq items n, slots := sl } ∧
      R (.ok (.ret (Value.ref s.heap.objs.size))) { s with heap := s.heap.push { cls := Value.type "tuple", data := Data.seq #[] }, toks := s.toks }) :=
  .of_wp fun prog w A R s h => by
    obtain ⟨hp, g, d, tk, os⟩ := s
    obtain ⟨hl, h⟩ := h
    have f1 := AutoSeq1.idx_int
    wp_walk using wpAny_loadPart' hl
    repeat (first
      | (refine wpAny_ite_false (decide_eq_false (by rw [c0]; exact Bool.false_ne_true)) ?_; wp_walk using wpAny_loadPart' hl)
      | (refine wpAny_ite_false (decide_eq_false (by rw [c1]; exact Bool.false_ne_true)) ?_; wp_walk using wpAny_loadPart' hl)
      | (refine wpAny_ite_true (decide_eq_true c2) ?_; wp_walk using wpAny_loadPart' hl))
    exact ⟨_, rfl, h⟩

def rRepA (K : PySem.W.Frag) : R2 := fun x y H Q => ∃ l k xs, x = .ref l ∧ y = .int k ∧ SqT K H l xs ∧ -1000 ≤ k ∧ k ≤ 1000 ∧ xs.length ≤ 1000 ∧
  (xs = [] ∨ k = 1 → Q (.ref l) H) ∧ (xs ≠ [] → k ≠ 1 → NewT Q H (List.replicate k.toNat xs).flatten)
section
variable {X : Cx}
theorem repN {pins : List (Addr × Obj)} {s : Shared} {σ : L2.St} {H : Hp} {l : Addr} {k : Int} {xs : List V} {v u : Value} {Q : VK} (I : Inv X pins σ H s) (rx : RelV (.ref l) v) (ry : RelV (.int k) u) (hT : SqT X.K H l xs) (hne : xs ≠ []) (h1 : 2 ≤ k) (h2 : k ≤ 1000) (hz : xs.length ≤ 1000)
    (q : NewT Q H (List.replicate k.toNat xs).flatten) : wpAny (model X.prog X.w) X.A (binaryOp .Mult v u) (EP X pins σ Q) X.xe s := by
  cases rx
  obtain ⟨t, rfl⟩ := ry
  obtain ⟨its, r, ⟨⟨cls, dd, data, sl⟩, ho, hc, n, hd⟩, hs⟩ := I.tuple hT
  simp only at hc hd
  subst hc hd
  have hle : its.length = xs.length := r.length.symm
  have hn : its ≠ [] := fun e => hne (by
    rw [e] at hle
    exact List.eq_nil_of_length_eq_zero hle.symm)
  have hi : its.toArray.isEmpty = false := by
    cases its with
    | nil => exact absurd rfl hn
    | cons a b => rfl
  have hsz0 : its.toArray.size = xs.length := by rw [List.size_toArray, hle]
  have hm : ((its.toArray.size : Nat) : Int) * k ≤ 1000000 := by
    rw [hsz0]
    have a1 : ((xs.length : Nat) : Int) * k ≤ 1000 * k := Int.mul_le_mul_of_nonneg_right (by omega) (by omega)
    omega
  have flen : (List.replicate k.toNat its).flatten.length ≤ sizeLine := by
    rw [PyProof.Rows.lm_len_rep_flat, hle, sizeLine_eq]
    have a1 : k.toNat * xs.length ≤ 1000 * 1000 := Nat.mul_le_mul (by omega) hz
    omega
  have c0 : (decide (k < -(2 ^ 63)) || decide (k ≥ 2 ^ 63)) = false := by
    rw [decide_eq_false (by omega), decide_eq_false (by omega)] <;> rfl
  have c1 : (its.toArray.isEmpty || k == 1) = false := by
    rw [hi, Bool.false_or]
    exact beq_eq_false_iff_ne.mpr (by omega)
  have c2 : (decide (k ≤ 0) || its.toArray.isEmpty) = false := by
    rw [hi, Bool.or_false]
    exact decide_eq_false (by omega)
  have c4 : Builtin.Tuple.tupleTooMany (((its.toArray.size : Nat) : Int) * k) = false := by
    unfold Builtin.Tuple.tupleTooMany
    rw [sizeLine_eq]
    exact decide_eq_false (by omega)
  refine wpAny_binaryOp_repeat_ref (T := "tuple") (U := "int") (by decide) ⟨_, ho, rfl⟩ (fun s' => typeIs_int s' k t) noFill_tuple_mul F.fills_int_mul F.slot_int_rmul repeat_tuple F.slot_int_index.lookup
    (call_meets F.slot_int_rmul (typeIs_int s k t) F.entry_int_rmul (F.args_int_rmul_2 _ _) (int_rmul_tuple k t l its.toArray n dd sl)
      ⟨ho, rfl, ⟨_, ho, rfl⟩, call_meets F.slot_tuple_mul ⟨_, ho, rfl⟩ F.entry_tuple_mul (F.args_tuple_mul_2 _ _) (tuple_mulW l its.toArray n dd sl k t c0 c1 c2 (by omega) c4 (by rw [size_rep, List.size_toArray]; exact flen)) ⟨ho, ?_⟩⟩)
  rw [size_rep]
  exact laid_tup I (by rw [PyProof.Rows.lm_len_rep_flat, sizeLine_eq]; have a1 : k.toNat * xs.length ≤ 1000 * 1000 := Nat.mul_le_mul (by omega) hz; omega) (r.rep k.toNat) q
theorem op_repA : OpR X (binaryOp .Mult) (rRepA X.K) := by
  intro pins s σ H x y v u Q I rx ry h
  obtain ⟨l, k, xs, rfl, rfl, hT, h1, h2, hz, q1, q2⟩ := h
  by_cases hk : 2 ≤ k ∧ xs ≠ []
  · exact repN I rx ry hT hk.2 hk.1 h2 hz (q2 hk.2 (by omega))
  · cases rx
    obtain ⟨t, rfl⟩ := ry
    obtain ⟨its, r, ⟨⟨cls, dd, data, sl⟩, ho, hc, n, hd⟩, hs⟩ := I.tuple hT
    simp only at hc hd
    subst hc hd
    have hle : its.length = xs.length := r.length.symm
    have c0 : (decide (k < -(2 ^ 63)) || decide (k ≥ 2 ^ 63)) = false := by
      rw [decide_eq_false (by omega), decide_eq_false (by omega)] <;> rfl
    by_cases hsame : xs = [] ∨ k = 1
    · have c1 : (its.toArray.isEmpty || k == 1) = true := by
        rcases hsame with e | e
        · subst e
          have : its = [] := List.eq_nil_of_length_eq_zero hle
          subst this; rfl
        · subst e; simp
      refine wpAny_binaryOp_repeat_ref (T := "tuple") (U := "int") (by decide) ⟨_, ho, rfl⟩ (fun s' => typeIs_int s' k t) noFill_tuple_mul F.fills_int_mul F.slot_int_rmul repeat_tuple F.slot_int_index.lookup
        (call_meets F.slot_int_rmul (typeIs_int s k t) F.entry_int_rmul (F.args_int_rmul_2 _ _) (int_rmul_tuple k t l its.toArray n dd sl)
          ⟨ho, rfl, ⟨_, ho, rfl⟩, call_meets F.slot_tuple_mul ⟨_, ho, rfl⟩ F.entry_tuple_mul (F.args_tuple_mul_2 _ _) (tuple_mul_same l its.toArray n dd sl k t c0 c1) ⟨ho, ?_⟩⟩)
      exact ⟨.ref l, H, I, rfl, q1 hsame⟩
    · have hne : xs ≠ [] := fun e => hsame (.inl e)
      have hk1 : k ≠ 1 := fun e => hsame (.inr e)
      have hk0 : k ≤ 0 := by
        by_cases z : 2 ≤ k
        · exact absurd ⟨z, hne⟩ hk
        · omega
      have hi : its.toArray.isEmpty = false := by
        cases its with
        | nil => exact absurd (List.eq_nil_of_length_eq_zero hle.symm) hne
        | cons a b => rfl
      have c1 : (its.toArray.isEmpty || k == 1) = false := by rw [hi, Bool.false_or]; exact beq_eq_false_iff_ne.mpr hk1
      have c2 : (decide (k ≤ 0) || its.toArray.isEmpty) = true := by rw [decide_eq_true hk0]; rfl
      refine wpAny_binaryOp_repeat_ref (T := "tuple") (U := "int") (by decide) ⟨_, ho, rfl⟩ (fun s' => typeIs_int s' k t) noFill_tuple_mul F.fills_int_mul F.slot_int_rmul repeat_tuple F.slot_int_index.lookup
        (call_meets F.slot_int_rmul (typeIs_int s k t) F.entry_int_rmul (F.args_int_rmul_2 _ _) (int_rmul_tuple k t l its.toArray n dd sl)
          ⟨ho, rfl, ⟨_, ho, rfl⟩, call_meets F.slot_tuple_mul ⟨_, ho, rfl⟩ F.entry_tuple_mul (F.args_tuple_mul_2 _ _) (tuple_mul_none l its.toArray n dd sl k t c0 c1 c2) ⟨ho, ?_⟩⟩)
      have e0 : (List.replicate k.toNat xs).flatten = [] := by rw [show k.toNat = 0 by omega]; rfl
      have q := q2 hne hk1
      rw [e0] at q
      exact laid_tup (its := []) I (Nat.zero_le _) .nil q
end
end PB

set_option Elab.async false
set_option linter.all false
set_option maxRecDepth 100000
set_option maxHeartbeats 2000000
namespace PB
open PySem PySem.Spec L2
section
variable {X : Cx} {fa : Nat → Option Addr} {cf : Nat → List PV → PH → Res PV} {a b c : Expr} {pos : Pos} {ca cb cc : CE}
theorem mulOk_to {i j : Int} (h : mulOk i j = true) : CMulW i j := by
  unfold mulOk at h
  have h2 : i.natAbs.log2 + j.natAbs.log2 < 1000000 := by simpa using h
  exact h2
theorem ok_mul : OpOk X fa (binop .mul) (fun x y H Q => (rI CMulW fun i j => .int (i * j)) x y H Q ∨ rRep x y H Q ∨ rRepA X.K x y H Q) := by
  intro io H h a b x y r h' Q rh ra rb e q
  cases x <;> try (simp only [binop] at e; cases e; done)
  case int i =>
    cases y <;> try (simp only [binop] at e; cases e; done)
    case int j =>
      cases ra; cases rb
      simp only [binop] at e
      split at e <;> cases e
      rename_i hc
      exact .inl ⟨i, j, rfl, rfl, mulOk_to hc, q io H _ .refl rh (.int _)⟩
  case tup xs =>
    cases y <;> try (simp only [binop] at e; cases e; done)
    case int k =>
      simp only [binop] at e
      split at e <;> cases e
      rename_i hl
      cases rb
      cases ra with
      | @tup a vs _ sa ra =>
      refine .inr (.inr ⟨a, k, vs, rfl, rfl, sa.t, hl.1, hl.2.1, by rw [ra.length]; exact hl.2.2, fun hs => ?_, fun h1 h2 => tup_ok rh (ra.flat _) q⟩)
      refine q io H _ .refl rh (.tup sa ?_)
      rcases hs with hs | hs
      · subst hs; cases ra
        have : ∀ n : Nat, (List.replicate n ([] : List PV)).flatten = [] := fun n => by simp
        rw [this]; exact .nil
      · subst hs
        have : (List.replicate (Int.toNat 1) xs).flatten = xs := by simp [List.replicate_succ]
        rw [this]; exact ra
  case ref n =>
    cases y <;> try (simp only [binop] at e; cases e; done)
    case int k =>
      simp only [binop] at e
      split at e
      · rename_i xs hx
        by_cases hl : -1000 ≤ k ∧ k ≤ many ∧ xs.length * k.toNat ≤ many
        · rw [if_pos hl] at e
          cases rb
          obtain ⟨a, vs, rfl, _, ha, rv⟩ := rh.list ra hx
          have hm : (many : Int) = 1000000 := rfl
          refine .inr (.inl ⟨a, k, vs, rfl, rfl, ha, by omega, by omega, by rw [rv.length]; exact many_le hl.2.2, ?_⟩)
          exact alloc_ok rh (rv.flat _) e q
        · rw [if_neg hl] at e; cases e
      · cases e
theorem e_mul (ha : PE X a (tE X.K fa cf ca)) (hb : PE X b (tE X.K fa cf cb)) : PE X (.BinOp a .Mult b pos) (tE X.K fa cf (.bin .mul ca cb)) := bin_of (op_mulW.or (op_rep.or op_repA)) ok_mul ha hb

theorem un2 {e1 : CE} {sg : L2.St} {H : Hp} {Q : VK} {f : PV → PH → Res PV} {R : V → Hp → Prop} {io : List Addr} {s : Sl} {h : PH} {r : PV} {h' : PH}
    (rs : RS X.K fa io H sg s) (rh : RH X.K fa io H h) (e : ((evE cf e1 s h).bind fun x h1 => f x h1) = .ok r h')
    (q : ∀ io' H' v, Ext io H io' H' → RH X.K fa io' H' h' → Rl X.K fa io' H' v r → Q v H')
    (op : ∀ io2 H2 h2 a x, Ext io H io2 H2 → RH X.K fa io2 H2 h2 → Rl X.K fa io2 H2 a x → f x h2 = .ok r h' → (∀ io' H' v, Ext io2 H2 io' H' → RH X.K fa io' H' h' → Rl X.K fa io' H' v r → Q v H') → R a H2) :
    tE X.K fa cf e1 sg H R := by
  obtain ⟨x, h1, ea, e⟩ := bind_ok e
  exact ⟨io, s, h, x, h1, rs, rh, ea, fun io1 H1 a ex1 rh1 ra => op io1 H1 h1 a x ex1 rh1 ra e fun io' H' v ex3 rh3 rv => q io' H' v (ex1.trans ex3) rh3 rv⟩
theorem e_neg (ha : PE X a (tE X.K fa cf ca)) : PE X (.UnaryOp .USub a pos) (tE X.K fa cf (.neg ca)) :=
  wkE (pe_un un_neg ha) fun sg H Q ⟨io, s, h, r, h', rs, rh, e, q⟩ =>
    un2 (R := fun x H1 => rU (fun i => .int (-i)) x H1 Q) rs rh (by simpa only [evE] using e) q fun io2 H2 h2 a x ex rh2 ra e2 q2 => by
      cases x <;> simp only at e2 <;> cases e2
      cases ra
      exact ⟨_, rfl, q2 io2 H2 _ .refl rh2 (.int _)⟩
theorem e_not (ha : PE X a (tE X.K fa cf ca)) : PE X (.UnaryOp .Not a pos) (tE X.K fa cf (.not ca)) :=
  wkE (pe_not ha) fun sg H Q ⟨io, s, h, r, h', rs, rh, e, q⟩ =>
    un2 (R := fun x H1 => ∃ c, x = .bl c ∧ Q (.bl (!c)) H1) rs rh (by simpa only [evE] using e) q fun io2 H2 h2 a x ex rh2 ra e2 q2 => by
      cases x <;> simp only at e2 <;> cases e2
      cases ra
      exact ⟨_, rfl, q2 io2 H2 _ .refl rh2 (.bl _)⟩
theorem e_one {op} (ha : PE X a (tE X.K fa cf ca)) : PE X (.BoolOp op [a] pos) (tE X.K fa cf ca) := pe_one ha
variable {rest : List Expr}
theorem e_and (ha : PE X a (tE X.K fa cf ca)) (hb : PE X (.BoolOp .And (b :: rest) pos) (tE X.K fa cf cb)) : PE X (.BoolOp .And (a :: b :: rest) pos) (tE X.K fa cf (.and ca cb)) :=
  wkE (pe_and ha hb) fun sg H Q ⟨io, s, h, r, h', rs, rh, e, q⟩ =>
    un2 (R := fun x H1 => ∃ c, x = .bl c ∧ if c = true then tE X.K fa cf cb sg H1 Q else Q (.bl false) H1) rs rh (by simpa only [evE] using e) q fun io2 H2 h2 a x ex rh2 ra e2 q2 => by
      cases x <;> try (simp only at e2; cases e2; done)
      case bl c =>
        cases ra
        refine ⟨c, rfl, ?_⟩
        cases c with
        | true => rw [if_pos rfl]; exact ⟨io2, s, h2, r, h', rs.mono ex, rh2, e2, q2⟩
        | false => rw [if_neg Bool.false_ne_true]; simp only at e2; cases e2; exact q2 io2 H2 _ .refl rh2 (.bl _)
theorem e_or (ha : PE X a (tE X.K fa cf ca)) (hb : PE X (.BoolOp .Or (b :: rest) pos) (tE X.K fa cf cb)) : PE X (.BoolOp .Or (a :: b :: rest) pos) (tE X.K fa cf (.or ca cb)) :=
  wkE (pe_or ha hb) fun sg H Q ⟨io, s, h, r, h', rs, rh, e, q⟩ =>
    un2 (R := fun x H1 => ∃ c, x = .bl c ∧ if c = true then Q (.bl true) H1 else tE X.K fa cf cb sg H1 Q) rs rh (by simpa only [evE] using e) q fun io2 H2 h2 a x ex rh2 ra e2 q2 => by
      cases x <;> try (simp only at e2; cases e2; done)
      case bl c =>
        cases ra
        refine ⟨c, rfl, ?_⟩
        cases c with
        | false => rw [if_neg Bool.false_ne_true]; exact ⟨io2, s, h2, r, h', rs.mono ex, rh2, e2, q2⟩
        | true => rw [if_pos rfl]; simp only at e2; cases e2; exact q2 io2 H2 _ .refl rh2 (.bl _)

/-! ### tests -/
theorem t_val (ha : PE X a (tE X.K fa cf ca)) (he : ∀ whole, isTrue a X.env whole = (do let v ← whole; standAt a.pos; holding [v] (truthy v)) := by intro _; rfl) : PT X a (tT X.K fa cf ca) :=
  wkT (pt_val ha he) fun sg H Q ⟨io, s, h, r, h', rs, rh, e, q⟩ => ⟨io, s, h, .bl r, h', rs, rh, e, fun io' H' v ex rh' rv => by cases rv; exact ⟨r, rfl, q io' H' ex rh'⟩⟩
theorem t2 {e1 : CE} {sg : L2.St} {H : Hp} {Q : Bool → Hp → Prop} {f : PV → PH → Res PV} {R : Bool → Hp → Prop} {io : List Addr} {s : Sl} {h : PH} {r : Bool} {h' : PH}
    (rs : RS X.K fa io H sg s) (rh : RH X.K fa io H h) (e : ((evE cf e1 s h).bind fun x h1 => f x h1) = .ok (.bl r) h')
    (q : ∀ io' H', Ext io H io' H' → RH X.K fa io' H' h' → Q r H') (bad : ∀ x h1 v h2, f x h1 = .ok v h2 → ∃ b, x = .bl b)
    (op : ∀ io2 H2 h2 b, Ext io H io2 H2 → RH X.K fa io2 H2 h2 → f (.bl b) h2 = .ok (.bl r) h' → (∀ io' H', Ext io2 H2 io' H' → RH X.K fa io' H' h' → Q r H') → R b H2) :
    tT X.K fa cf e1 sg H R := by
  obtain ⟨x, h1, ea, e⟩ := bind_ok e
  obtain ⟨b, rfl⟩ := bad _ _ _ _ e
  exact ⟨io, s, h, b, h1, rs, rh, ea, fun io1 H1 ex1 rh1 => op io1 H1 h1 b ex1 rh1 e fun io' H' ex3 rh3 => q io' H' (ex1.trans ex3) rh3⟩
theorem t_not (ha : PT X a (tT X.K fa cf ca)) : PT X (.UnaryOp .Not a pos) (tT X.K fa cf (.not ca)) :=
  wkT (pt_not ha) fun sg H Q ⟨io, s, h, r, h', rs, rh, e, q⟩ =>
    t2 (R := fun c H1 => Q (!c) H1) rs rh (by simpa only [evE] using e) q (fun x h1 v h2 e => by cases x <;> simp only at e <;> cases e; exact ⟨_, rfl⟩) fun io2 H2 h2 b ex rh2 e2 q2 => by
      simp only at e2; cases e2
      exact q2 io2 H2 .refl rh2
theorem t_and1 (ha : PT X a (tT X.K fa cf ca)) : PW X (.BoolOp .And [a] pos) (tT X.K fa cf ca) := pw_and1 ha
theorem t_or1 (ha : PT X a (tT X.K fa cf ca)) : PW X (.BoolOp .Or [a] pos) (tT X.K fa cf ca) := pw_or1 ha
theorem t_and (ha : PT X a (tT X.K fa cf ca)) (hb : PW X (.BoolOp .And (b :: rest) pos) (tT X.K fa cf cb)) : PW X (.BoolOp .And (a :: b :: rest) pos) (tT X.K fa cf (.and ca cb)) :=
  wkW (pw_and ha hb) fun sg H Q ⟨io, s, h, r, h', rs, rh, e, q⟩ =>
    t2 (R := fun c H1 => if c = true then tT X.K fa cf cb sg H1 Q else Q false H1) rs rh (by simpa only [evE] using e) q (fun x h1 v h2 e => by cases x <;> first | exact ⟨_, rfl⟩ | (simp only at e; cases e)) fun io2 H2 h2 b ex rh2 e2 q2 => by
      cases b with
      | true => rw [if_pos rfl]; exact ⟨io2, s, h2, r, h', rs.mono ex, rh2, e2, q2⟩
      | false => rw [if_neg Bool.false_ne_true]; simp only at e2; cases e2; exact q2 io2 H2 .refl rh2
theorem t_or (ha : PT X a (tT X.K fa cf ca)) (hb : PW X (.BoolOp .Or (b :: rest) pos) (tT X.K fa cf cb)) : PW X (.BoolOp .Or (a :: b :: rest) pos) (tT X.K fa cf (.or ca cb)) :=
  wkW (pw_or ha hb) fun sg H Q ⟨io, s, h, r, h', rs, rh, e, q⟩ =>
    t2 (R := fun c H1 => if c = true then Q true H1 else tT X.K fa cf cb sg H1 Q) rs rh (by simpa only [evE] using e) q (fun x h1 v h2 e => by cases x <;> first | exact ⟨_, rfl⟩ | (simp only at e; cases e)) fun io2 H2 h2 b ex rh2 e2 q2 => by
      cases b with
      | false => rw [if_neg Bool.false_ne_true]; exact ⟨io2, s, h2, r, h', rs.mono ex, rh2, e2, q2⟩
      | true => rw [if_pos rfl]; simp only at e2; cases e2; exact q2 io2 H2 .refl rh2

/-! ### comparisons -/
theorem ok_eq : OpOk X fa (cmpop .eq) (rEqD X.K) := by
  intro io H h a b x y r h' Q rh ra rb e q
  simp only [cmpop] at e
  split at e <;> cases e
  obtain ⟨d, d', h1, h2, h3, h4, _, _, _, _, rfl⟩ := rh.eqD ra rb (by assumption)
  exact ⟨d, d', h1, h2, h3, h4, q io H _ .refl rh (.bl _)⟩
theorem ok_ne : OpOk X fa (cmpop .ne) (rNeD X.K) := by
  intro io H h a b x y r h' Q rh ra rb e q
  simp only [cmpop] at e
  split at e <;> cases e
  obtain ⟨d, d', h1, h2, h3, h4, _, _, _, _, rfl⟩ := rh.eqD ra rb (by assumption)
  exact ⟨d, d', h1, h2, h3, h4, q io H _ .refl rh (.bl _)⟩
theorem ok_lt : OpOk X fa (cmpop .lt) (rI0 fun i j => .bl (decide (i < j))) := by
  intro io H h a b x y r h' Q rh ra rb e q
  cases x <;> cases y <;> simp only [cmpop] at e <;> cases e
  cases ra; cases rb
  exact ⟨_, _, rfl, rfl, q io H _ .refl rh (.bl _)⟩
theorem ok_le : OpOk X fa (cmpop .le) (rI0 fun i j => .bl (decide (i ≤ j))) := by
  intro io H h a b x y r h' Q rh ra rb e q
  cases x <;> cases y <;> simp only [cmpop] at e <;> cases e
  cases ra; cases rb
  exact ⟨_, _, rfl, rfl, q io H _ .refl rh (.bl _)⟩
theorem ok_gt : OpOk X fa (cmpop .gt) (rI0 fun i j => .bl (decide (j < i))) := by
  intro io H h a b x y r h' Q rh ra rb e q
  cases x <;> cases y <;> simp only [cmpop] at e <;> cases e
  cases ra; cases rb
  exact ⟨_, _, rfl, rfl, q io H _ .refl rh (.bl _)⟩
theorem ok_ge : OpOk X fa (cmpop .ge) (rI0 fun i j => .bl (decide (j ≤ i))) := by
  intro io H h a b x y r h' Q rh ra rb e q
  cases x <;> cases y <;> simp only [cmpop] at e <;> cases e
  cases ra; cases rb
  exact ⟨_, _, rfl, rfl, q io H _ .refl rh (.bl _)⟩
/-- is, is not: None or a bool at the right -/
def rIsA : R2 := fun x y H Q => (y = .non ∧ Q (.bl (decide (x = .non))) H) ∨ rIsB x y H Q
def rNotA : R2 := fun x y H Q => (y = .non ∧ Q (.bl (!decide (x = .non))) H) ∨ rNotB x y H Q
theorem op_isA : OpR X (compareOp .Is) rIsA := by
  intro pins s sg H x y v u Q I rx ry h
  rcases h with h | h
  · exact op_isN pins s sg H x y v u Q I rx ry h
  · exact op_isBl pins s sg H x y v u Q I rx ry h
theorem op_notA : OpR X (compareOp .IsNot) rNotA := by
  intro pins s sg H x y v u Q I rx ry h
  rcases h with h | h
  · exact op_notN pins s sg H x y v u Q I rx ry h
  · exact op_notBl pins s sg H x y v u Q I rx ry h
theorem ok_isN : OpOk X fa (cmpop .isN) rIsA := by
  intro io H h a b x y r h' Q rh ra rb e q
  simp only [cmpop] at e
  split at e
  · cases e
    cases rb
    refine .inl ⟨rfl, q io H _ .refl rh ?_⟩
    cases ra <;> exact .bl _
  · split at e <;> cases e
    cases ra; cases rb
    exact .inr ⟨_, _, rfl, rfl, q io H _ .refl rh (.bl _)⟩
  · cases e
theorem ok_notN : OpOk X fa (cmpop .notN) rNotA := by
  intro io H h a b x y r h' Q rh ra rb e q
  simp only [cmpop] at e
  split at e
  · cases e
    cases rb
    refine .inl ⟨rfl, q io H _ .refl rh ?_⟩
    cases ra <;> exact .bl _
  · split at e <;> cases e
    cases ra; cases rb
    exact .inr ⟨_, _, rfl, rfl, q io H _ .refl rh (.bl _)⟩
  · cases e
/-- in, not in: a list or a tuple of data -/
def rInA (K : PySem.W.Frag) (neg : Bool) : R2 := fun x y H Q => ∃ d ds, Dp K H x d ∧ (Dp K H y (.list ds) ∨ Dp K H y (.tuple ds)) ∧ SeqAt.shaped d = true ∧ SeqAt.shaped (.list ds) = true ∧
  Q (.bl (if neg then !ds.any fun z => PyData.eqv z d else ds.any fun z => PyData.eqv z d)) H
theorem op_inA (hu : X.A.units + 65 < cLine) : OpR X (compareOp .In) (rInA X.K false) := by
  intro pins s σ H x y v u Q I rx ry h
  obtain ⟨d, ds, hd, he, sd, se, q⟩ := h
  obtain ⟨as, r1⟩ := Dp.reads I d x v hd rx
  rcases he with he | he
  · obtain ⟨bs, r2⟩ := Dp.reads I (.list ds) y u he ry
    exact SeqAt.in_list_reads r2 r1 (SeqAt.canLay_of_shaped se) (SeqAt.canLay_of_shaped sd) (PyProof.Rows.room_in_shaped sd hu) ⟨.bl _, H, I, rfl, q⟩
  · obtain ⟨bs, r2⟩ := Dp.reads I (.tuple ds) y u he ry
    exact SeqAt.in_tuple_reads r2 r1 (SeqAt.canLay_of_shaped se) (SeqAt.canLay_of_shaped sd) (PyProof.Rows.room_in_shaped sd hu) ⟨.bl _, H, I, rfl, q⟩
theorem op_notInA (hu : X.A.units + 65 < cLine) : OpR X (compareOp .NotIn) (rInA X.K true) := by
  intro pins s σ H x y v u Q I rx ry h
  obtain ⟨d, ds, hd, he, sd, se, q⟩ := h
  obtain ⟨as, r1⟩ := Dp.reads I d x v hd rx
  rcases he with he | he
  · obtain ⟨bs, r2⟩ := Dp.reads I (.list ds) y u he ry
    exact SeqAt.notIn_list_reads r2 r1 (SeqAt.canLay_of_shaped se) (SeqAt.canLay_of_shaped sd) (PyProof.Rows.room_in_shaped sd hu) ⟨.bl _, H, I, rfl, q⟩
  · obtain ⟨bs, r2⟩ := Dp.reads I (.tuple ds) y u he ry
    exact SeqAt.notIn_tuple_reads r2 r1 (SeqAt.canLay_of_shaped se) (SeqAt.canLay_of_shaped sd) (PyProof.Rows.room_in_shaped sd hu) ⟨.bl _, H, I, rfl, q⟩
theorem shaped_of {z : PyData} (h1 : PyData.canLay0 z = true) (h2 : PyData.depth z ≤ 12) : SeqAt.shaped z = true := by
  unfold SeqAt.shaped
  rw [h1, Bool.true_and]
  exact decide_eq_true (by omega)
theorem seq_data {io : List Addr} {H : Hp} {h : PH} {K : PySem.W.Frag} {v : V} {x : PV} {ds : List PyData} (rh : RH K fa io H h) (rv : Rl K fa io H v x) (e : seqD h x = some ds) :
    (Dp K H v (.list ds) ∨ Dp K H v (.tuple ds)) ∧ SeqAt.shaped (.list ds) = true := by
  unfold seqD at e
  split at e
  · rename_i ds' e1
    cases e
    obtain ⟨h1, h2, h3⟩ := rh.data 12 v x _ rv e1
    exact ⟨.inl h1, shaped_of h2 h3⟩
  · rename_i ds' e1
    cases e
    obtain ⟨h1, h2, h3⟩ := rh.data 12 v x _ rv e1
    exact ⟨.inr h1, shaped_of (show PyData.canLay0 (.list ds) = true from h2) (show PyData.depth (.list ds) ≤ 12 from h3)⟩
  · cases e
theorem ok_in : OpOk X fa (cmpop .isIn) (rInA X.K false) := by
  intro io H h a b x y r h' Q rh ra rb e q
  simp only [cmpop] at e
  split at e <;> cases e
  rename_i d ds e1 e2
  obtain ⟨h1, h2, h3⟩ := rh.data 12 a x d ra e1
  obtain ⟨g1, g2⟩ := seq_data rh rb e2
  exact ⟨d, ds, h1, g1, shaped_of h2 h3, g2, q io H _ .refl rh (.bl _)⟩
theorem ok_notIn : OpOk X fa (cmpop .notIn) (rInA X.K true) := by
  intro io H h a b x y r h' Q rh ra rb e q
  simp only [cmpop] at e
  split at e <;> cases e
  rename_i d ds e1 e2
  obtain ⟨h1, h2, h3⟩ := rh.data 12 a x d ra e1
  obtain ⟨g1, g2⟩ := seq_data rh rb e2
  exact ⟨d, ds, h1, g1, shaped_of h2 h3, g2, q io H _ .refl rh (.bl _)⟩
/-- a comparison of the text, its code -/
structure CmpR (X : Cx) (fa : Nat → Option Addr) (op : CmpOp) (co : CmpO) : Prop where
  to : ∃ R, OpR X (compareOp op) R ∧ OpOk X fa (cmpop co) R
  bool : ∀ x y h r h', cmpop co x y h = .ok r h' → ∃ b, r = .bl b
theorem cmp_bl (co : CmpO) : ∀ x y h r h', cmpop co x y h = .ok r h' → ∃ b, r = .bl b := by
  intro x y h r h' e
  cases co <;> simp only [cmpop] at e <;> (try (split at e <;> cases e <;> exact ⟨_, rfl⟩)) <;>
    (cases x <;> cases y <;> simp only [cmpop] at e <;> cases e <;> exact ⟨_, rfl⟩)
variable {k : Nat}
theorem c_eq (hr : Room k X.A) : CmpR X fa .Eq .eq := ⟨⟨_, op_eqD hr.units, ok_eq⟩, cmp_bl _⟩
theorem c_ne (hr : Room k X.A) : CmpR X fa .NotEq .ne := ⟨⟨_, op_neD hr.units, ok_ne⟩, cmp_bl _⟩
theorem c_lt : CmpR X fa .Lt .lt := ⟨⟨_, op_lt, ok_lt⟩, cmp_bl _⟩
theorem c_le : CmpR X fa .LtE .le := ⟨⟨_, op_le, ok_le⟩, cmp_bl _⟩
theorem c_gt : CmpR X fa .Gt .gt := ⟨⟨_, op_gt, ok_gt⟩, cmp_bl _⟩
theorem c_ge : CmpR X fa .GtE .ge := ⟨⟨_, op_ge, ok_ge⟩, cmp_bl _⟩
theorem c_isN : CmpR X fa .Is .isN := ⟨⟨_, op_isA, ok_isN⟩, cmp_bl _⟩
theorem c_notN : CmpR X fa .IsNot .notN := ⟨⟨_, op_notA, ok_notN⟩, cmp_bl _⟩
theorem c_in (hr : Room k X.A) : CmpR X fa .In .isIn := ⟨⟨_, op_inA (by have := hr.un; omega), ok_in⟩, cmp_bl _⟩
theorem c_notIn (hr : Room k X.A) : CmpR X fa .NotIn .notIn := ⟨⟨_, op_notInA (by have := hr.un; omega), ok_notIn⟩, cmp_bl _⟩
theorem e_cmp {op : CmpOp} {co : CmpO} (hc : CmpR X fa op co) (ha : PE X a (tE X.K fa cf ca)) (hb : PE X b (tE X.K fa cf cb)) (hm : behindInMarks op b = false := by rfl) : PE X (.Compare a [op] [b] pos) (tE X.K fa cf (.cmp co ca cb)) := by
  obtain ⟨⟨R, ho, hk⟩, _⟩ := hc
  exact wkE (pe_cmpR ho ha hb hm) fun sg H Q ⟨io, s, h, r, h', rs, rh, e, q⟩ =>
    bin2 (R := R) rs rh (by simpa only [evE] using e) q fun io2 H2 h2 a b x y rh2 ra rb e2 q2 => hk io2 H2 h2 a b x y r h' Q rh2 ra rb e2 q2
theorem t_cmp {op : CmpOp} {co : CmpO} (hc : CmpR X fa op co) (ha : PE X a (tE X.K fa cf ca)) (hb : PE X b (tE X.K fa cf cb)) (hm : behindInMarks op b = false := by rfl) : PT X (.Compare a [op] [b] pos) (tT X.K fa cf (.cmp co ca cb)) := by
  obtain ⟨⟨R, ho, hk⟩, _⟩ := hc
  refine wkT (pt_cmpR ho ha hb hm) fun sg H Q ⟨io, s, h, r, h', rs, rh, e, q⟩ => ?_
  refine bin2 (R := R) (Q := fun x H' => ∃ k, x = .bl k ∧ Q k H') rs rh (by simpa only [evE] using e) (fun io' H' v ex rh' rv => ?_) fun io2 H2 h2 a b x y rh2 ra rb e2 q2 => hk io2 H2 h2 a b x y _ h' _ rh2 ra rb e2 q2
  cases rv
  exact ⟨r, rfl, q io' H' ex rh'⟩
theorem chain_to {op op' : CmpO} {R R' : R2} {sg : L2.St} {H : Hp} {Q : VK} {io : List Addr} {s : Sl} {h : PH} {r : PV} {h' : PH} (hk : OpOk X fa (cmpop op) R) (hk' : OpOk X fa (cmpop op') R') (hb : ∀ x y h r h', cmpop op x y h = .ok r h' → ∃ b, r = .bl b)
    (rs : RS X.K fa io H sg s) (rh : RH X.K fa io H h) (e : evE cf (.chn op op' ca cb cc) s h = .ok r h')
    (q : ∀ io' H' v, Ext io H io' H' → RH X.K fa io' H' h' → Rl X.K fa io' H' v r → Q v H') : tChain R R' (tE X.K fa cf ca) (tE X.K fa cf cb) (tE X.K fa cf cc) sg H Q := by
  simp only [evE] at e
  obtain ⟨x, h1, ea, e⟩ := bind_ok e
  obtain ⟨y, h2, eb, e⟩ := bind_ok e
  obtain ⟨z, h3, ec, e⟩ := bind_ok e
  obtain ⟨k, rfl⟩ := hb _ _ _ _ _ ec
  refine ⟨io, s, h, x, h1, rs, rh, ea, fun io1 H1 a ex1 rh1 ra => ⟨io1, s, h1, y, h2, rs.mono ex1, rh1, eb, fun io2 H2 b ex2 rh2 rb => ?_⟩⟩
  refine hk io2 H2 h2 a b x y _ h3 _ rh2 (ra.mono ex2) rb ec fun io3 H3 v ex3 rh3 rv => ?_
  cases rv
  refine ⟨k, rfl, ?_⟩
  have ex : Ext io H io3 H3 := (ex1.trans ex2).trans ex3
  cases k with
  | false =>
    rw [if_neg Bool.false_ne_true]
    simp only at e; cases e
    exact q io3 H3 _ ex rh3 (.bl _)
  | true =>
    rw [if_pos rfl]
    simp only at e
    obtain ⟨w, h4, ed, e⟩ := bind_ok e
    exact ⟨io3, s, h3, w, h4, rs.mono ex, rh3, ed, fun io4 H4 c ex4 rh4 rc => hk' io4 H4 h4 b c y w r h' Q rh4 ((rb.mono ex3).mono ex4) rc e fun io' H' v ex5 rh5 rv => q io' H' v ((ex.trans ex4).trans ex5) rh5 rv⟩
theorem e_chn {op op' : CmpOp} {co co' : CmpO} (hc : CmpR X fa op co) (hc' : CmpR X fa op' co') (h1 : PE X a (tE X.K fa cf ca)) (h2 : PE X b (tE X.K fa cf cb)) (h3 : PE X c (tE X.K fa cf cc))
    (hm : lastMarks [op, op'] [b, c] = false := by with_unfolding_all rfl) : PE X (.Compare a [op, op'] [b, c] pos) (tE X.K fa cf (.chn co co' ca cb cc)) := by
  obtain ⟨⟨R, ho, hk⟩, hb⟩ := hc
  obtain ⟨⟨R', ho', hk'⟩, _⟩ := hc'
  exact wkE (pe_chain ho ho' h1 h2 h3 hm) fun sg H Q ⟨io, s, h, r, h', rs, rh, e, q⟩ => chain_to hk hk' hb rs rh e q
theorem t_chn {op op' : CmpOp} {co co' : CmpO} (hc : CmpR X fa op co) (hc' : CmpR X fa op' co') (h1 : PE X a (tE X.K fa cf ca)) (h2 : PE X b (tE X.K fa cf cb)) (h3 : PE X c (tE X.K fa cf cc))
    (hm : lastMarks [op, op'] [b, c] = false := by with_unfolding_all rfl) : PT X (.Compare a [op, op'] [b, c] pos) (tT X.K fa cf (.chn co co' ca cb cc)) := by
  obtain ⟨⟨R, ho, hk⟩, hb⟩ := hc
  obtain ⟨⟨R', ho', hk'⟩, _⟩ := hc'
  exact wkT (pt_chain ho ho' h1 h2 h3 hm) fun sg H Q ⟨io, s, h, r, h', rs, rh, e, q⟩ => chain_to (Q := fun x H' => ∃ k, x = .bl k ∧ Q k H') hk hk' hb rs rh e fun io' H' v ex rh' rv => by cases rv; exact ⟨r, rfl, q io' H' ex rh'⟩
theorem e_ite (hc : PT X c (tT X.K fa cf cc)) (ha : PE X a (tE X.K fa cf ca)) (hb : PE X b (tE X.K fa cf cb)) : PE X (.IfExp c a b pos) (tE X.K fa cf (.ite cc ca cb)) :=
  wkE (pe_ifExp hc ha hb) fun sg H Q ⟨io, s, h, r, h', rs, rh, e, q⟩ => by
    simp only [evE] at e
    obtain ⟨x, h1, ec, e⟩ := bind_ok e
    cases x <;> try (simp only at e; cases e; done)
    case bl k =>
      refine ⟨io, s, h, k, h1, rs, rh, ec, fun io1 H1 ex1 rh1 => ?_⟩
      cases k with
      | true => rw [if_pos rfl]; exact ⟨io1, s, h1, r, h', rs.mono ex1, rh1, e, fun io' H' v ex rh' rv => q io' H' v (ex1.trans ex) rh' rv⟩
      | false => rw [if_neg Bool.false_ne_true]; exact ⟨io1, s, h1, r, h', rs.mono ex1, rh1, e, fun io' H' v ex rh' rv => q io' H' v (ex1.trans ex) rh' rv⟩
end
end PB

set_option Elab.async false
set_option linter.all false
set_option maxRecDepth 100000
set_option maxHeartbeats 2000000
namespace PB
open PySem PySem.Spec L2
section
variable {X : Cx} {fa : Nat → Option Addr} {cf : Nat → List PV → PH → Res PV} {a b c e : Expr} {es : List Expr} {pos : Pos} {ca cb cc : CE} {cs : CA}

/-! ### arguments -/
theorem a_nil : PA X [] (tA X.K fa cf .nil) :=
  wkA pa_nil fun sg H Q ⟨io, s, h, r, h', rs, rh, e, q⟩ => by
    simp only [evA] at e; cases e
    exact q io H _ .refl rh .nil
theorem a_cons (ha : PE X e (tE X.K fa cf ca)) (hr : PA X es (tA X.K fa cf cs)) (hs : starEach (e :: es) X.env = (false, eval e X.env) :: starEach es X.env := by rfl) : PA X (e :: es) (tA X.K fa cf (.cons ca cs)) :=
  wkA (pa_cons ha hr hs) fun sg H Q ⟨io, s, h, r, h', rs, rh, e, q⟩ => by
    simp only [evA] at e
    obtain ⟨x, h1, e1, e⟩ := bind_ok e
    obtain ⟨xs, h2, e2, e⟩ := bind_ok e
    cases e
    exact ⟨io, s, h, x, h1, rs, rh, e1, fun io1 H1 v ex1 rh1 rv => ⟨io1, s, h1, xs, _, rs.mono ex1, rh1, e2, fun io2 H2 vs ex2 rh2 rvs => q io2 H2 _ (ex1.trans ex2) rh2 (.cons (rv.mono ex2) rvs)⟩⟩
theorem a_star {p : Pos} (ha : PE X e (tE X.K fa cf ca)) (hr : PA X es (tA X.K fa cf cs)) : PA X (.Starred e p :: es) (tA X.K fa cf (.star ca cs)) :=
  wkA (StX.pa_star ha hr) fun sg H Q ⟨io, s, h, r, h', rs, rh, e, q⟩ => by
    simp only [evA] at e
    obtain ⟨x, h1, e1, e⟩ := bind_ok e
    split at e
    · rename_i ys hy
      obtain ⟨xs, h2, e2, e⟩ := bind_ok e
      cases e
      refine ⟨io, s, h, x, h1, rs, rh, e1, fun io1 H1 v ex1 rh1 rv => ?_⟩
      obtain ⟨a, vs, rfl, sq, rvs⟩ := rh1.items rv hy
      exact ⟨a, vs, rfl, sq.symm, io1, s, h1, xs, _, rs.mono ex1, rh1, e2, fun io2 H2 ws ex2 rh2 rws => q io2 H2 _ (ex1.trans ex2) rh2 ((rvs.mono ex2).append rws)⟩
    · cases e
theorem e_tup {k : Nat} (h : PA X es (tA X.K fa cf cs)) : PE X (.Tuple es k pos) (tE X.K fa cf (.tup cs)) :=
  wkE (pe_tupN h) fun sg H Q ⟨io, s, h, r, h', rs, rh, e, q⟩ => by
    simp only [evE] at e
    obtain ⟨xs, h1, e1, e⟩ := bind_ok e
    split at e <;> cases e
    rename_i hl
    exact ⟨io, s, h, xs, _, rs, rh, e1, fun io1 H1 vs ex1 rh1 rv => ⟨by rw [rv.length]; exact many_le hl, tup_ok rh1 rv fun io' H' v ex2 rh2 rv2 => q io' H' v (ex1.trans ex2) rh2 rv2⟩⟩
theorem e_lst (h : PA X es (tA X.K fa cf cs)) : PE X (.List es pos) (tE X.K fa cf (.lst cs)) :=
  wkE (pe_lst h) fun sg H Q ⟨io, s, h, r, h', rs, rh, e, q⟩ => by
    simp only [evE] at e
    obtain ⟨xs, h1, e1, e⟩ := bind_ok e
    by_cases hl : xs.length ≤ many
    · rw [if_pos hl] at e
      exact ⟨io, s, h, xs, _, rs, rh, e1, fun io1 H1 vs ex1 rh1 rv => ⟨by rw [rv.length]; exact many_le hl, alloc_ok rh1 rv e fun io' H' v ex2 rh2 rv2 => q io' H' v (ex1.trans ex2) rh2 rv2⟩⟩
    · rw [if_neg hl] at e; cases e

/-! ### subscripts -/
theorem Rls.atI {K : PySem.W.Frag} {io : List Addr} {H : Hp} {vs : List V} {xs : List PV} {i : Int} {x : PV} (r : Rls K fa io H vs xs) (e : L2.atI xs i = some x) : ∃ v, L2.atI vs i = some v ∧ Rl K fa io H v x := by
  unfold L2.atI at e ⊢
  rw [r.length]
  cases z : ixN xs.length i with
  | none => rw [z] at e; cases e
  | some j =>
    rw [z] at e
    exact r.get (i := j) e
theorem ok_idx : OpOk X fa idxop (rIx X.K) := by
  intro io H h a b x y r h' Q rh ra rb e q
  unfold idxop at e
  split at e
  · rename_i xs i h1
    split at e <;> cases e
    rename_i h2
    obtain ⟨p, vs, rfl, sq, rv⟩ := rh.items ra h1
    cases rb
    obtain ⟨w, hw, rw'⟩ := rv.atI h2
    have fin := q io H w .refl rh rw'
    rcases sq with sq | sq
    · exact .inl ⟨p, vs, i, w, rfl, rfl, sq, hw, fin⟩
    · exact .inr (.inl ⟨p, vs, i, w, rfl, rfl, sq, hw, fin⟩)
  · cases e
theorem e_idx (ha : PE X a (tE X.K fa cf ca)) (hb : PE X b (tE X.K fa cf cb)) (hs : PlainIx b := by exact fun _ _ => rfl) : PE X (.Subscript a b pos) (tE X.K fa cf (.idx ca cb)) :=
  wkE (pe_ix ix_seq ha hb hs) fun sg H Q ⟨io, s, h, r, h', rs, rh, e, q⟩ =>
    bin2 (R := rIx X.K) rs rh (by simpa only [evE] using e) q fun io2 H2 h2 a b x y rh2 ra rb e2 q2 => ok_idx io2 H2 h2 a b x y r h' Q rh2 ra rb e2 q2
theorem o_none : L2.PO X none (tO X.K fa cf .none) :=
  wkO po_none fun sg H Q ⟨io, s, h, r, o, h', rs, rh, e, e2, q⟩ => by
    simp only [evO] at e; cases e
    simp only [optI] at e2; cases e2
    exact q io H .refl rh
theorem o_some (ha : PE X a (tE X.K fa cf ca)) : L2.PO X (some a) (tO X.K fa cf (.some ca)) :=
  wkO (po_some ha) fun sg H Q ⟨io, s, h, r, o, h', rs, rh, e, e2, q⟩ => by
    simp only [evO] at e
    obtain ⟨x, h1, e1, e⟩ := bind_ok e
    cases e
    cases x <;> simp only [optI] at e2 <;> cases e2
    exact ⟨io, s, h, _, _, rs, rh, e1, fun io1 H1 v ex1 rh1 rv => by cases rv; exact ⟨_, rfl, q io1 H1 ex1 rh1⟩⟩
theorem Rls.cut {K : PySem.W.Frag} {io : List Addr} {H : Hp} {vs : List V} {xs : List PV} (r : Rls K fa io H vs xs) (lo hi : Option Int) : Rls K fa io H (cutV vs lo hi) (PB.cut xs lo hi) := by
  unfold cutV PB.cut
  rw [r.length]
  exact (r.drop _).take _
theorem optI_ok {h : PH} {r : Option PV} {o : Option Int} {h' : PH} (e : optI h r = .ok o h') : h' = h := by
  cases r with
  | none => simp only [optI] at e; cases e; rfl
  | some x => cases x <;> simp only [optI] at e <;> cases e; rfl
theorem slc_ok {K : PySem.W.Frag} {io : List Addr} {H : Hp} {h : PH} {x r : PV} {v : V} {l' u' : Option Int} {h' : PH} {Q : VK} (rh3 : RH K fa io H h) (rv3 : Rl K fa io H v x) (ef : slcop x l' u' h = .ok r h')
    (q3 : ∀ io' H' v, Ext io H io' H' → RH K fa io' H' h' → Rl K fa io' H' v r → Q v H') : rSlL K v l' u' H Q ∨ rSlN K v l' u' H Q := by
  cases x <;> try (simp only [slcop] at ef; cases ef; done)
  case tup xs =>
    simp only [slcop] at ef; cases ef
    cases rv3 with
    | @tup p vs _ sq rvs =>
    refine .inr ⟨p, vs, rfl, sq.t, fun hw => ?_, fun _ => tup_ok rh3 (rvs.cut l' u') q3⟩
    refine q3 io H _ .refl rh3 (.tup sq ?_)
    have : PB.cut xs l' u' = xs := by
      unfold PB.cut
      rw [rvs.length] at hw
      rw [hw.1, hw.2]
      simp
    rw [this]; exact rvs
  case ref n =>
    simp only [slcop] at ef
    split at ef
    · rename_i xs hx
      obtain ⟨p, vs, rfl, _, hp, rvs⟩ := rh3.list rv3 hx
      exact .inl ⟨p, vs, rfl, .inl (.inl hp), alloc_ok rh3 (rvs.cut l' u') ef q3⟩
    · cases ef
variable {lo hi : Option Expr} {cl cu : CO} {p2 : Pos}
theorem e_slc (ha : PE X a (tE X.K fa cf ca)) (hl : L2.PO X lo (tO X.K fa cf cl)) (hu : L2.PO X hi (tO X.K fa cf cu)) : PE X (.Subscript a (.Slice lo hi none p2) pos) (tE X.K fa cf (.slc ca cl cu)) :=
  wkE (pe_slice (sl_list.or sl_tupN) ha hl hu) fun sg H Q ⟨io, s, h, r, h', rs, rh, e, q⟩ => by
    simp only [evE] at e
    obtain ⟨x, h1, e1, e⟩ := bind_ok e
    obtain ⟨l, h2, e2, e⟩ := bind_ok e
    obtain ⟨u, h3, e3, e⟩ := bind_ok e
    obtain ⟨l', h4, e4, e⟩ := bind_ok e
    obtain ⟨u', h5, e5, ef⟩ := bind_ok e
    have z4 := optI_ok e4
    have z5 := optI_ok e5
    subst z4; subst z5
    have e4' : optI h2 l = .ok l' h2 := by
      cases l with
      | none => simp only [optI] at e4 ⊢; cases e4; rfl
      | some x => cases x <;> simp only [optI] at e4 ⊢ <;> cases e4; rfl
    refine ⟨io, s, h, x, h1, rs, rh, e1, fun io1 H1 v ex1 rh1 rv => ⟨io1, s, h1, l, l', h2, rs.mono ex1, rh1, e2, e4', fun io2 H2 ex2 rh2 => ⟨io2, s, h2, u, u', _, rs.mono (ex1.trans ex2), rh2, e3, e5, fun io3 H3 ex3 rh3 => ?_⟩⟩⟩
    exact slc_ok rh3 (rv.mono (ex2.trans ex3)) ef fun io' H' v ex rh' rv' => q io' H' v ((ex1.trans (ex2.trans ex3)).trans ex) rh' rv'

/-! ### calls -/
variable {P : Program} {k j : Nat} {x : Str} {p : Pos} {i : Nat} {G : Nat → Option Fn}
theorem e_call (hc : C8.Cal X.prog X.w X.K X.mg X.base k x (spI X.K fa G k i) []) (hr : Room k X.A) (hg : Gl X x) (ha : PA X (e :: es) (tA X.K fa (callF G k) cs))
    (hdb : (x == ("__debug__" : Str)) = false := by decide) (he : starEach (e :: es) X.env = (false, eval e X.env) :: starEach es X.env := by rfl) (hpl : (backTo pos (starEach es X.env)).any (·.1) = false := by rfl) :
    PE X (.Call (.Name x p) (e :: es) [] pos) (tE X.K fa (callF G k) (.call i cs)) :=
  wkE (C8.pe_c hc hr (Nat.le_refl _) hg ha hdb he hpl) fun sg H Q ⟨io, s, h, r, h', rs, rh, e, q⟩ => by
    simp only [evE] at e
    obtain ⟨xs, h1, e1, e⟩ := bind_ok e
    refine ⟨io, s, h, xs, h1, rs, rh, e1, fun io1 H1 vs ex1 rh1 rv => ?_⟩
    show spI X.K fa G k i (vs ++ []) H1 Q _
    rw [List.append_nil]
    exact ⟨io1, h1, xs, r, h', rv, rh1, e, fun io' H' v ex2 rh2 rv2 => q io' H' v (ex1.trans ex2) rh2 rv2⟩
theorem e_call0 (hc : C8.Cal X.prog X.w X.K X.mg X.base k x (spI X.K fa G k i) []) (hr : Room k X.A) (hg : Gl X x) (hdb : (x == ("__debug__" : Str)) = false := by decide) :
    PE X (.Call (.Name x p) [] [] pos) (tE X.K fa (callF G k) (.call i .nil)) := by
  obtain ⟨f, fd, ps, ds, F, hm, kp, b, d⟩ := hc.ex
  refine wkE (pe_call0 F hr hg hm kp b d pass0 hdb) fun sg H Q ⟨io, s, h, r, h', rs, rh, e, q⟩ => ?_
  simp only [evE, evA] at e
  obtain ⟨xs, h1, e1, e⟩ := bind_ok e
  cases e1
  exact ⟨io, h, [], r, h', .nil, rh, e, q⟩
/-- the defs that may be held by a name: by their ids -/
structure Held' (P : Program) (w : World) (K : PySem.W.Frag) (mg : Str → Option Value) (base : Heap) (fa : Nat → Option Addr) (G : Nat → Option Fn) (k : Nat) : Prop where
  at_ : ∀ n f, fa n = some f → ∃ (fd : FuncData) (ps : List Str), FnOk P w K mg base L2.CX0 k f fd ps (spI K fa G k n) ∧ PySem.W.keepIn K (.ref f) = true ∧ Binds K fd ps []

/-! ### built-in functions -/
/-- a built-in's rule by values and its pure one -/
def BltOk (X : Cx) (fa : Nat → Option Addr) (f : Blt) (R : List V → Hp → VK → Prop) : Prop :=
  ∀ (io : List Addr) (H : Hp) (h : PH) (vs : List V) (xs : List PV) (r : PV) (h' : PH) (Q : VK), RH X.K fa io H h → Rls X.K fa io H vs xs → blt f xs h = .ok r h' →
    (∀ io' H' v, Ext io H io' H' → RH X.K fa io' H' h' → Rl X.K fa io' H' v r → Q v H') → R vs H Q
theorem blt_to {f : Blt} {R : List V → Hp → VK → Prop} (hk : BltOk X fa f R) (h : PE X e (tCB R (tA X.K fa cf cs))) : PE X e (tE X.K fa cf (.blt f cs)) :=
  wkE h fun sg H Q ⟨io, s, h, r, h', rs, rh, e, q⟩ => by
    simp only [evE] at e
    obtain ⟨xs, h1, e1, e⟩ := bind_ok e
    exact ⟨io, s, h, xs, h1, rs, rh, e1, fun io1 H1 vs ex1 rh1 rv => hk io1 H1 h1 vs xs r h' Q rh1 rv e fun io' H' v ex2 rh2 rv2 => q io' H' v (ex1.trans ex2) rh2 rv2⟩
theorem Rls.one {K : PySem.W.Frag} {io : List Addr} {H : Hp} {vs : List V} {x : PV} (r : Rls K fa io H vs [x]) : ∃ v, vs = [v] ∧ Rl K fa io H v x := by
  cases r with
  | cons a q => cases q; exact ⟨_, rfl, a⟩
theorem Rls.two {K : PySem.W.Frag} {io : List Addr} {H : Hp} {vs : List V} {x y : PV} (r : Rls K fa io H vs [x, y]) : ∃ v w, vs = [v, w] ∧ Rl K fa io H v x ∧ Rl K fa io H w y := by
  cases r with
  | cons a q =>
    obtain ⟨w, rfl, b⟩ := Rls.one q
    exact ⟨_, _, rfl, a, b⟩
theorem bk_len : BltOk X fa .len (fun xs H Q => ∃ p ys, xs = [.ref p] ∧ (SqL X.K H p ys ∨ SqT X.K H p ys) ∧ Q (.int ys.length) H) := by
  intro io H h vs xs r h' Q rh rv e q
  match xs, e with
  | [a], e =>
    simp only [blt] at e
    split at e <;> cases e
    obtain ⟨v, rfl, ra⟩ := rv.one
    obtain ⟨p, ws, rfl, sq, rw'⟩ := rh.items ra (by assumption)
    exact ⟨p, ws, rfl, sq, by rw [rw'.length]; exact q io H _ .refl rh (.int _)⟩
  | [], e => simp [blt] at e
  | _ :: _ :: _, e => simp [blt] at e
theorem bk_abs : BltOk X fa .abs (fun xs H Q => ∃ i, xs = [.int i] ∧ Q (.int (if i < 0 then -i else i)) H) := by
  intro io H h vs xs r h' Q rh rv e q
  match xs, e with
  | [a], e =>
    cases a <;> simp only [blt] at e <;> cases e
    rename_i i
    obtain ⟨v, rfl, ra⟩ := rv.one
    cases ra
    refine ⟨i, rfl, ?_⟩
    have e : (if i < 0 then -i else i) = (i.natAbs : Int) := by split <;> omega
    rw [e]
    exact q io H _ .refl rh (.int _)
  | [], e => simp [blt] at e
  | _ :: _ :: _, e => simp [blt] at e
theorem bk_min : BltOk X fa .min2 (fun xs H Q => ∃ i j, xs = [.int i, .int j] ∧ Q (.int (if j < i then j else i)) H) := by
  intro io H h vs xs r h' Q rh rv e q
  match xs, e with
  | [a, b], e =>
    cases a <;> cases b <;> simp only [blt] at e <;> cases e
    obtain ⟨v, w, rfl, ra, rb⟩ := rv.two
    cases ra; cases rb
    exact ⟨_, _, rfl, q io H _ .refl rh (.int _)⟩
  | [], e => simp [blt] at e
  | [_], e => simp [blt] at e
  | _ :: _ :: _ :: _, e => simp [blt] at e
theorem bk_max : BltOk X fa .max2 (fun xs H Q => ∃ i j, xs = [.int i, .int j] ∧ Q (.int (if j > i then j else i)) H) := by
  intro io H h vs xs r h' Q rh rv e q
  match xs, e with
  | [a, b], e =>
    cases a <;> cases b <;> simp only [blt] at e <;> cases e
    obtain ⟨v, w, rfl, ra, rb⟩ := rv.two
    cases ra; cases rb
    exact ⟨_, _, rfl, q io H _ .refl rh (.int _)⟩
  | [], e => simp [blt] at e
  | [_], e => simp [blt] at e
  | _ :: _ :: _ :: _, e => simp [blt] at e
theorem bk_gcd : BltOk X fa .gcd rGcd := by
  intro io H h vs xs r h' Q rh rv e q
  match xs, e with
  | [a, b], e =>
    cases a <;> cases b <;> simp only [blt] at e <;> cases e
    obtain ⟨v, w, rfl, ra, rb⟩ := rv.two
    cases ra; cases rb
    exact ⟨_, _, rfl, q io H _ .refl rh (.int _)⟩
  | [], e => simp [blt] at e
  | [_], e => simp [blt] at e
  | _ :: _ :: _ :: _, e => simp [blt] at e
theorem bk_tuple : BltOk X fa .tuple (fun xs H Q => ∃ p ys, xs = [.ref p] ∧ ((SqL X.K H p ys ∧ NewT Q H ys) ∨ (SqT X.K H p ys ∧ Q (.ref p) H))) := by
  intro io H h vs xs r h' Q rh rv e q
  match xs, e with
  | [a], e =>
    simp only [blt] at e
    split at e <;> cases e
    rename_i ys hy
    obtain ⟨v, rfl, ra⟩ := rv.one
    cases ra with
    | tup sq rr => cases hy; exact ⟨_, _, rfl, .inr ⟨sq.t, q io H _ .refl rh (.tup sq rr)⟩⟩
    | scr sq rr => cases hy; exact ⟨_, _, rfl, .inl ⟨sq.l, tup_ok rh rr q⟩⟩
    | @ref p n hn =>
      simp only [PB.items] at hy
      split at hy <;> cases hy
      rename_i hx
      obtain ⟨a, ws, e1, _, ha, rr⟩ := rh.list (.ref hn) hx
      cases e1
      exact ⟨_, _, rfl, .inl ⟨.inl (.inl ha), tup_ok rh rr q⟩⟩
    | _ => cases hy
  | [], e => simp [blt] at e
  | _ :: _ :: _, e => simp [blt] at e
theorem bk_list : BltOk X fa .list (fun xs H Q => ∃ p ys, xs = [.ref p] ∧ (SqL X.K H p ys ∨ SqT X.K H p ys) ∧ ∀ l, H l = none → Q (.ref l) (upd H l (.lst ys))) := by
  intro io H h vs xs r h' Q rh rv e q
  match xs, e with
  | [a], e =>
    simp only [blt] at e
    split at e
    · obtain ⟨v, rfl, ra⟩ := rv.one
      obtain ⟨p, ws, rfl, sq, rw'⟩ := rh.items ra (by assumption)
      exact ⟨p, ws, rfl, sq, alloc_ok rh rw' e q⟩
    · cases e
  | [], e => simp [blt] at e
  | _ :: _ :: _, e => simp [blt] at e
theorem bk_int : BltOk X fa .int (fun xs H Q => (∃ i, xs = [.int i] ∧ Q (.int i) H) ∨ ∃ k, xs = [.bl k] ∧ Q (.int (if k then 1 else 0)) H) := by
  intro io H h vs xs r h' Q rh rv e q
  match xs, e with
  | [a], e =>
    cases a <;> simp only [blt] at e <;> cases e
    obtain ⟨v, rfl, ra⟩ := rv.one
    cases ra
    exact .inl ⟨_, rfl, q io H _ .refl rh (.int _)⟩
  | [], e => simp [blt] at e
  | _ :: _ :: _, e => simp [blt] at e
theorem truths_all : ∀ {xs : List PV} {b : Bool}, truths (· && ·) true xs = some b → ∃ bs : List Bool, xs = bs.map PV.bl ∧ bs.all id = b
  | [], b, e => by simp only [truths] at e; cases e; exact ⟨[], rfl, rfl⟩
  | x :: r, b, e => by
    cases x <;> simp only [truths] at e <;> try cases e
    rename_i c
    split at e <;> cases e
    obtain ⟨bs, rfl, rfl⟩ := truths_all (by assumption)
    exact ⟨c :: bs, rfl, rfl⟩
theorem truths_any : ∀ {xs : List PV} {b : Bool}, truths (· || ·) false xs = some b → ∃ bs : List Bool, xs = bs.map PV.bl ∧ bs.any id = b
  | [], b, e => by simp only [truths] at e; cases e; exact ⟨[], rfl, rfl⟩
  | x :: r, b, e => by
    cases x <;> simp only [truths] at e <;> try cases e
    rename_i c
    split at e <;> cases e
    obtain ⟨bs, rfl, rfl⟩ := truths_any (by assumption)
    exact ⟨c :: bs, rfl, rfl⟩
theorem ints_of : ∀ {xs : List PV} {is : List Int}, intsOf xs = some is → xs = is.map PV.int
  | [], is, e => by simp only [intsOf] at e; cases e; rfl
  | x :: r, is, e => by
    cases x <;> simp only [intsOf] at e <;> try cases e
    split at e <;> cases e
    rename_i is' z
    rw [ints_of z]; rfl
theorem lst1 {f : Blt} {xs : List PV} {h : PH} {r : PV} {h' : PH} (hf : f = .all ∨ f = .any ∨ f = .sum ∨ f = .min1 ∨ f = .max1) (e : blt f xs h = .ok r h') : ∃ n ys, xs = [.ref n] ∧ h[n]? = some (.lst ys) := by
  match xs, e with
  | [], e => rcases hf with rfl | rfl | rfl | rfl | rfl <;> simp [blt] at e
  | _ :: _ :: _, e => rcases hf with rfl | rfl | rfl | rfl | rfl <;> simp [blt] at e
  | [a], e =>
    rcases hf with rfl | rfl | rfl | rfl | rfl <;>
    (cases a <;> simp only [blt] at e <;> try (cases e; done)
     rename_i n
     cases hx : h[n]? with
     | none => rw [hx] at e; cases e
     | some o => obtain ⟨ys⟩ := o; exact ⟨n, ys, rfl, hx⟩)
theorem bk_all : BltOk X fa .all (rAll X.K) := by
  intro io H h vs xs r h' Q rh rv e q
  obtain ⟨n, ys, rfl, hx⟩ := lst1 (.inl rfl) e
  simp only [blt, hx] at e
  split at e <;> cases e
  rename_i b hb
  obtain ⟨bs, rfl, rfl⟩ := truths_all hb
  obtain ⟨v, rfl, ra⟩ := rv.one
  obtain ⟨p, ws, rfl, _, hp, rw'⟩ := rh.list ra hx
  have := rw'.bls
  subst this
  exact ⟨p, bs, rfl, .inl (.inl hp), q io H _ .refl rh (.bl _)⟩
theorem bk_any : BltOk X fa .any (rAny X.K) := by
  intro io H h vs xs r h' Q rh rv e q
  obtain ⟨n, ys, rfl, hx⟩ := lst1 (.inr (.inl rfl)) e
  simp only [blt, hx] at e
  split at e <;> cases e
  rename_i b hb
  obtain ⟨bs, rfl, rfl⟩ := truths_any hb
  obtain ⟨v, rfl, ra⟩ := rv.one
  obtain ⟨p, ws, rfl, _, hp, rw'⟩ := rh.list ra hx
  have := rw'.bls
  subst this
  exact ⟨p, bs, rfl, .inl (.inl hp), q io H _ .refl rh (.bl _)⟩
theorem bk_sum : BltOk X fa .sum (rSum X.K) := by
  intro io H h vs xs r h' Q rh rv e q
  obtain ⟨n, ys, rfl, hx⟩ := lst1 (.inr (.inr (.inl rfl))) e
  simp only [blt, hx] at e
  split at e <;> cases e
  rename_i is hb
  have z := ints_of hb
  subst z
  obtain ⟨v, rfl, ra⟩ := rv.one
  obtain ⟨p, ws, rfl, _, hp, rw'⟩ := rh.list ra hx
  have := rw'.ints
  subst this
  exact ⟨p, is, rfl, .inl (.inl hp), q io H _ .refl rh (.int _)⟩
theorem foldl_min : ∀ (is : List Int) (i : Int), (is.foldl min i ∈ i :: is) ∧ ∀ y, y ∈ i :: is → is.foldl min i ≤ y
  | [], i => by simp
  | j :: is, i => by
    obtain ⟨h1, h2⟩ := foldl_min is (min i j)
    rw [List.foldl_cons]
    constructor
    · rcases List.mem_cons.mp h1 with h1 | h1
      · rw [h1]
        by_cases h : i ≤ j
        · rw [Int.min_eq_left h]; simp
        · rw [Int.min_eq_right (by omega)]; simp
      · simp [h1]
    · intro y hy
      have h3 := h2 (min i j) (by simp)
      rcases List.mem_cons.mp hy with rfl | hy
      · omega
      · rcases List.mem_cons.mp hy with rfl | hy
        · omega
        · exact h2 y (by simp [hy])
theorem foldl_max : ∀ (is : List Int) (i : Int), (is.foldl max i ∈ i :: is) ∧ ∀ y, y ∈ i :: is → y ≤ is.foldl max i
  | [], i => by simp
  | j :: is, i => by
    obtain ⟨h1, h2⟩ := foldl_max is (max i j)
    rw [List.foldl_cons]
    constructor
    · rcases List.mem_cons.mp h1 with h1 | h1
      · rw [h1]
        by_cases h : i ≤ j
        · rw [Int.max_eq_right h]; simp
        · rw [Int.max_eq_left (by omega)]; simp
      · simp [h1]
    · intro y hy
      have h3 := h2 (max i j) (by simp)
      rcases List.mem_cons.mp hy with rfl | hy
      · omega
      · rcases List.mem_cons.mp hy with rfl | hy
        · omega
        · exact h2 y (by simp [hy])
theorem bk_min1 : BltOk X fa .min1 (rMin X.K) := by
  intro io H h vs xs r h' Q rh rv e q
  obtain ⟨n, ys, rfl, hx⟩ := lst1 (.inr (.inr (.inr (.inl rfl)))) e
  simp only [blt, hx] at e
  split at e <;> cases e
  rename_i i is hb
  have z := ints_of hb
  subst z
  obtain ⟨v, rfl, ra⟩ := rv.one
  obtain ⟨p, ws, rfl, _, hp, rw'⟩ := rh.list ra hx
  have := rw'.ints
  subst this
  obtain ⟨f1, f2⟩ := foldl_min is i
  refine ⟨p, i :: is, rfl, .inl (.inl hp), by simp, fun m hm hle => ?_⟩
  have : m = is.foldl min i := Int.le_antisymm (hle _ f1) (f2 m hm)
  subst this
  exact q io H _ .refl rh (.int _)
theorem bk_max1 : BltOk X fa .max1 (rMax X.K) := by
  intro io H h vs xs r h' Q rh rv e q
  obtain ⟨n, ys, rfl, hx⟩ := lst1 (.inr (.inr (.inr (.inr rfl)))) e
  simp only [blt, hx] at e
  split at e <;> cases e
  rename_i i is hb
  have z := ints_of hb
  subst z
  obtain ⟨v, rfl, ra⟩ := rv.one
  obtain ⟨p, ws, rfl, _, hp, rw'⟩ := rh.list ra hx
  have := rw'.ints
  subst this
  obtain ⟨f1, f2⟩ := foldl_max is i
  refine ⟨p, i :: is, rfl, .inl (.inl hp), by simp, fun m hm hle => ?_⟩
  have : m = is.foldl max i := Int.le_antisymm (f2 m hm) (hle _ f1)
  subst this
  exact q io H _ .refl rh (.int _)
theorem e_len (hg : Gl X "len") (hm : X.mg "len" = none) (h : PA X [e] (tA X.K fa cf cs)) (he : starEach [e] X.env = (false, eval e X.env) :: starEach [] X.env := by rfl) {p : Pos} : PE X (.Call (.Name "len" p) [e] [] pos) (tE X.K fa cf (.blt .len cs)) :=
  blt_to bk_len (pe_callB call_len_seq hg hm PySem.boot_len h (he := he))
theorem e_abs (hg : Gl X "abs") (hm : X.mg "abs" = none) (h : PA X [e] (tA X.K fa cf cs)) (he : starEach [e] X.env = (false, eval e X.env) :: starEach [] X.env := by rfl) {p : Pos} : PE X (.Call (.Name "abs" p) [e] [] pos) (tE X.K fa cf (.blt .abs cs)) :=
  blt_to bk_abs (pe_callB call_abs hg hm (by decide +kernel) h (he := he))
theorem e_all (hc : X.calm = true) (hg : Gl X "all") (hm : X.mg "all" = none) (h : PA X [e] (tA X.K fa cf cs)) (he : starEach [e] X.env = (false, eval e X.env) :: starEach [] X.env := by rfl) {p : Pos} : PE X (.Call (.Name "all" p) [e] [] pos) (tE X.K fa cf (.blt .all cs)) :=
  blt_to bk_all (pe_callB (cr_all hc) hg hm (by decide +kernel) h (he := he))
theorem e_any (hc : X.calm = true) (hg : Gl X "any") (hm : X.mg "any" = none) (h : PA X [e] (tA X.K fa cf cs)) (he : starEach [e] X.env = (false, eval e X.env) :: starEach [] X.env := by rfl) {p : Pos} : PE X (.Call (.Name "any" p) [e] [] pos) (tE X.K fa cf (.blt .any cs)) :=
  blt_to bk_any (pe_callB (cr_any hc) hg hm (by decide +kernel) h (he := he))
theorem e_sum (hc : X.calm = true) (hg : Gl X "sum") (hm : X.mg "sum" = none) (h : PA X [e] (tA X.K fa cf cs)) (he : starEach [e] X.env = (false, eval e X.env) :: starEach [] X.env := by rfl) {p : Pos} : PE X (.Call (.Name "sum" p) [e] [] pos) (tE X.K fa cf (.blt .sum cs)) :=
  blt_to bk_sum (pe_callB (cr_sum hc) hg hm (by decide +kernel) h (he := he))
theorem e_min1 (hc : X.calm = true) (hg : Gl X "min") (hm : X.mg "min" = none) (h : PA X [e] (tA X.K fa cf cs)) (he : starEach [e] X.env = (false, eval e X.env) :: starEach [] X.env := by rfl) {p : Pos} : PE X (.Call (.Name "min" p) [e] [] pos) (tE X.K fa cf (.blt .min1 cs)) :=
  blt_to bk_min1 (pe_callB (cr_min hc) hg hm (by decide +kernel) h (he := he))
theorem e_max1 (hc : X.calm = true) (hg : Gl X "max") (hm : X.mg "max" = none) (h : PA X [e] (tA X.K fa cf cs)) (he : starEach [e] X.env = (false, eval e X.env) :: starEach [] X.env := by rfl) {p : Pos} : PE X (.Call (.Name "max" p) [e] [] pos) (tE X.K fa cf (.blt .max1 cs)) :=
  blt_to bk_max1 (pe_callB (cr_max hc) hg hm (by decide +kernel) h (he := he))
theorem e_min2 (hc : X.calm = true) (hg : Gl X "min") (hm : X.mg "min" = none) (h : PA X [a, b] (tA X.K fa cf cs)) (he : starEach [a, b] X.env = (false, eval a X.env) :: starEach [b] X.env := by rfl) (hpl : (backTo pos (starEach [b] X.env)).any (·.1) = false := by rfl) {p : Pos} : PE X (.Call (.Name "min" p) [a, b] [] pos) (tE X.K fa cf (.blt .min2 cs)) :=
  blt_to bk_min (pe_callB (call_min2 hc) hg hm (by decide +kernel) h (he := he) (hpl := hpl))
theorem e_max2 (hc : X.calm = true) (hg : Gl X "max") (hm : X.mg "max" = none) (h : PA X [a, b] (tA X.K fa cf cs)) (he : starEach [a, b] X.env = (false, eval a X.env) :: starEach [b] X.env := by rfl) (hpl : (backTo pos (starEach [b] X.env)).any (·.1) = false := by rfl) {p : Pos} : PE X (.Call (.Name "max" p) [a, b] [] pos) (tE X.K fa cf (.blt .max2 cs)) :=
  blt_to bk_max (pe_callB (call_max2 hc) hg hm (by decide +kernel) h (he := he) (hpl := hpl))
theorem e_gcd (hg : Gl X "gcd") (hm : X.mg "gcd" = some (.builtin "math.gcd")) (h : PA X [a, b] (tA X.K fa cf cs)) (he : starEach [a, b] X.env = (false, eval a X.env) :: starEach [b] X.env := by rfl) (hpl : (backTo pos (starEach [b] X.env)).any (·.1) = false := by rfl) {p : Pos} : PE X (.Call (.Name "gcd" p) [a, b] [] pos) (tE X.K fa cf (.blt .gcd cs)) :=
  blt_to bk_gcd (pe_callBfun cr_gcd hg hm h (he := he) (hpl := hpl))
theorem e_tuple (hg : Gl X "tuple") (hm : X.mg "tuple" = none) (h : PA X [e] (tA X.K fa cf cs)) (he : starEach [e] X.env = (false, eval e X.env) :: starEach [] X.env := by rfl) {p : Pos} : PE X (.Call (.Name "tuple" p) [e] [] pos) (tE X.K fa cf (.blt .tuple cs)) :=
  blt_to bk_tuple (pe_callTy call_tupleN hg hm (by decide +kernel) h (he := he))
theorem e_list (hg : Gl X "list") (hm : X.mg "list" = none) (h : PA X [e] (tA X.K fa cf cs)) (he : starEach [e] X.env = (false, eval e X.env) :: starEach [] X.env := by rfl) {p : Pos} : PE X (.Call (.Name "list" p) [e] [] pos) (tE X.K fa cf (.blt .list cs)) :=
  blt_to bk_list (pe_callTy call_list_of hg hm (by decide +kernel) h (he := he))
theorem e_intf (hg : Gl X "int") (hm : X.mg "int" = none) (h : PA X [e] (tA X.K fa cf cs)) (he : starEach [e] X.env = (false, eval e X.env) :: starEach [] X.env := by rfl) {p : Pos} : PE X (.Call (.Name "int" p) [e] [] pos) (tE X.K fa cf (.blt .int cs)) :=
  blt_to bk_int (pe_callTy call_int1 hg hm (by decide +kernel) h (he := he))
end
end PB

set_option Elab.async false
set_option linter.all false
set_option maxRecDepth 100000
set_option maxHeartbeats 2000000
namespace PB
open PySem PySem.Spec PyProof.Rows L2

/-! ### sources: a list or a tuple -/
def Src (K : PySem.W.Frag) (t : Bool) (H : Hp) (a : Addr) (vs : List V) : Prop := match t with | true => SqT K H a vs | false => SqL K H a vs
def SrcIt (t : Bool) (h : Heap) (it a : Addr) (i : Nat) : Prop := match t with | true => h.IsTupleIter it a i | false => h.IsListIter it a i
def SrcAt (t : Bool) (h : Heap) (a : Addr) (its : Array Value) : Prop := match t with | true => h.IsTuple a its | false => h.IsList a its
section
variable {X : Cx} {pins : List (Addr × Obj)} {sg : L2.St} {H : Hp} {s : Shared} {t : Bool} {a : Addr} {vs ws : List V}
theorem src_at (I : Inv X pins sg H s) (h : Src X.K t H a vs) : ∃ its : List Value, Vals vs its ∧ SrcAt t s.heap a its.toArray ∧ vs.length ≤ sizeLine := by
  cases t with
  | true => obtain ⟨its, r, p, z⟩ := I.tuple h; exact ⟨its, r, p, z⟩
  | false => obtain ⟨its, r, p, z⟩ := I.list h; exact ⟨its, r, p.isList, z⟩
theorem src_inj (I : Inv X pins sg H s) (h : Src X.K t H a vs) (h' : Src X.K t H a ws) : vs = ws := by
  cases t with
  | true => exact I.tuple_inj h h'
  | false => exact I.list_inj h h'
theorem src_draws {prog : Program} {w : World} {A : Around} (t : Bool) (hh : A.handled = none) (it a : Addr) (hne : a ≠ it) (its : Array Value) :
    Draws prog w A it [it, a] its.size (fun i v => its[i]? = some v) (fun i h => SrcIt t h it a i ∧ SrcAt t h a its) := by
  cases t with
  | true => exact Draws.tuple hh it a hne its
  | false => exact Draws.list hh it a hne its
def srcO (t : Bool) (a : Addr) : Obj := { cls := .type (match t with | true => "tuple_iterator" | false => "list_iterator"), data := .fields #[.ref a, .int 0 0] }
theorem src_begins (t : Bool) (a : Addr) (its : Array Value) : Begins (.ref a) (srcO t a) fun h => SrcAt t h a its := by
  cases t with
  | true => exact begins_tuple a its
  | false => exact begins_list a its
theorem src_start {h : Heap} {it : Addr} (e : h.get? it = some (srcO t a)) : SrcIt t h it a 0 := by
  cases t with
  | true => exact ⟨_, e, rfl, rfl⟩
  | false => exact ⟨_, e, rfl, rfl⟩
theorem srcIt_obj {h : Heap} {it : Addr} {i : Nat} (e : SrcIt t h it a i) : ∃ o, h.get? it = some o ∧ ∀ v, o.data ≠ .cell v := by
  cases t with
  | true => obtain ⟨o, e, _, d⟩ := e; exact ⟨o, e, fun v z => by rw [d] at z; cases z⟩
  | false => obtain ⟨o, e, _, d⟩ := e; exact ⟨o, e, fun v z => by rw [d] at z; cases z⟩
theorem srcIt_keep {h h' : Heap} {it : Addr} {i : Nat} (e : SrcIt t h it a i) (k : ∀ o, h.get? it = some o → h'.get? it = some o) : SrcIt t h' it a i := by
  cases t with
  | true => obtain ⟨o, e, c, d⟩ := e; exact ⟨o, k o e, c, d⟩
  | false => obtain ⟨o, e, c, d⟩ := e; exact ⟨o, k o e, c, d⟩
/-- a source is no record of an iterator -/
theorem src_ne {it : Addr} (I : Inv X pins sg H s) (h : Src X.K t H a vs) (f : FpOk X pins H it) : a ≠ it := by
  rintro rfl
  have key : (∃ o, X.K.lookup a = some o) → False := fun ⟨o, hk⟩ => by
    have hb : X.base.get? a = some o := I.ok.mod.kin a o hk
    rcases f.2.2.2.1 with z | z
    · exact I.ok.noex a o hb z
    · exact absurd (Nat.lt_of_lt_of_le (Heap.lt_size hb) (Nat.le_trans I.ok.bsz z)) (Nat.lt_irrefl _)
  cases t with
  | true =>
    rcases h with (h | ⟨o, h⟩) | ⟨o, its, n, hk, _⟩
    · rw [f.1] at h; cases h
    · rw [f.1] at h; cases h
    · exact key ⟨o, hk⟩
  | false =>
    rcases h with (h | ⟨o, h⟩) | ⟨o, its, n, hk, _⟩
    · rw [f.1] at h; cases h
    · rw [f.1] at h; cases h
    · exact key ⟨o, hk⟩
theorem src_lt {t : Bool} {h : Heap} {a : Addr} {its : Array Value} (e : SrcAt t h a its) : a < h.objs.size := by
  cases t with
  | true => obtain ⟨o, e, _⟩ := e; exact Heap.lt_size e
  | false => obtain ⟨o, e, _⟩ := e; exact Heap.lt_size e
end

/-! ### the walks -/
def ItS (K : PySem.W.Frag) (t : Bool) (a : Addr) : It :=
  ⟨fun i H => ∃ (xs : List V) (x : V), Src K t H a xs ∧ xs[i]? = some x, fun i H x H' => H' = H ∧ ∀ xs, Src K t H a xs → xs[i]? = some x, fun i H => ∃ xs : List V, Src K t H a xs ∧ xs.length = i⟩
def ItE (K : PySem.W.Frag) (t : Bool) (a : Addr) : It :=
  ⟨fun i H => ∃ (xs : List V) (x : V), Src K t H a xs ∧ xs[i]? = some x,
    fun i H v H' => ∃ T x, v = .ref T ∧ H T = none ∧ H' = upd H T (.tup [.int (i : Nat), x]) ∧ ∀ xs, Src K t H a xs → xs[i]? = some x, fun i H => ∃ xs : List V, Src K t H a xs ∧ xs.length = i⟩
def ItZ (K : PySem.W.Frag) (t u : Bool) (a b : Addr) : It :=
  ⟨fun i H => ∃ (xs ys : List V) (x y : V), Src K t H a xs ∧ Src K u H b ys ∧ xs[i]? = some x ∧ ys[i]? = some y,
    fun i H v H' => ∃ T x y, v = .ref T ∧ H T = none ∧ H' = upd H T (.tup [x, y]) ∧ (∀ xs, Src K t H a xs → xs[i]? = some x) ∧ ∀ ys, Src K u H b ys → ys[i]? = some y,
    fun i H => ∃ xs ys : List V, Src K t H a xs ∧ Src K u H b ys ∧ min xs.length ys.length = i⟩
theorem turn_enumS {P : Program} {w : World} {K : PySem.W.Frag} {elts : List Expr} {kk : Nat} {tpos : Pos} (t : Bool) (a e it : Addr) :
    Turn P w K (.Tuple elts kk tpos) (ItE K t a) [e, it] e (fun i h => (∃ old, IsEnum h e it (0 + ((i : Nat) : Int)) old) ∧ SrcIt t h it a i ∧ e ≠ it) where
  mem := by simp
  obj := fun i h st b hb => by
    obtain ⟨⟨old, he⟩, hit, _⟩ := st
    have e' : b = e ∨ b = it := by simpa using hb
    rcases e' with z | z
    · rw [z]; exact ⟨_, he, fun v q => nomatch q⟩
    · rw [z]; exact srcIt_obj hit
  keep := fun i h h' st k => let ⟨⟨old, he⟩, hi, hne⟩ := st; ⟨⟨old, k e (by simp) _ he⟩, srcIt_keep hi fun o q => k it (by simp) o q, hne⟩
  item := by
    intro X hP hw hK hc i pins s sg H E I hf st hg
    subst hP hw hK
    obtain ⟨⟨old, he⟩, hit, hne⟩ := st
    obtain ⟨xs, x, hq, hx⟩ := hg
    obtain ⟨its, rv, p, hz⟩ := src_at I hq
    obtain ⟨u, hu, ru⟩ := rv.get hx
    have nat : a ≠ it := src_ne I hq (hf it (by simp))
    have nae : a ≠ e := src_ne I hq (hf e (by simp))
    have hlt : i < its.toArray.size := by
      have := (List.getElem?_eq_some_iff.mp hu).1
      simpa using this
    have D := src_draws (prog := X.prog) (w := X.w) (A := X.A.in1) t (show X.A.in1.handled = none from I.ok.hd hc) it a nat its.toArray
    have W := WalksT.enumFrom (prog := X.prog) (w := X.w) (A := X.A) 0 D e hne (by simp; exact ⟨hne, fun q => nae q.symm⟩) (by simp)
    refine W.item i s _ _ hlt ⟨⟨old, he⟩, hit, p⟩ fun T vals h' tk hP hT hTt hm hk => ⟨_, rfl, W.go elts kk tpos i T { s with heap := h', toks := tk } _ _ hm fun h'' st'' hk'' => ?_⟩
    obtain ⟨tt, y, hy, rfl⟩ := hP
    have ey : y = u := by
      have h1 : its.toArray[i]? = some u := by simpa using hu
      rw [h1] at hy; cases hy; rfl
    subst ey
    obtain ⟨⟨old', he''⟩, hit'', _⟩ := st''
    have nTw : T ∉ [e, it] := W.apart i T h' hm
    have hT2 : h''.IsTuple T #[.int (0 + (i : Int)) tt, y] := hTt.at fun o q => hk'' T o nTw q
    have new : ObjOk X.prog X.w (upd H T (.tup [.int (i : Nat), x])) h'' T (.tup [.int (i : Nat), x]) := by
      obtain ⟨o, ho, hc', n, hd⟩ := hT2
      refine ⟨by show 2 ≤ sizeLine; decide, [.int (0 + (i : Int)) tt, y], .cons ⟨tt, by simp⟩ (.cons ru .nil), ⟨o, ho, hc', n, hd⟩⟩
    have I1 : Inv X pins sg (upd H T (.tup [.int (i : Nat), x])) { s with heap := h'', toks := tk } :=
      I.turnedNew (ch := [e, it]) (fun b ob hb q => hk'' b ob hb (hk b ob hb q)) hf hT new
    refine ⟨.ref T, _, I1, rfl, ⟨_, x, rfl, I.hok.fresh hT, rfl, fun ys hy => by rw [src_inj I hy hq]; exact hx⟩, ⟨⟨old', he''⟩, hit'', hne⟩, fun b hb => ?_⟩
    have hb' : b < s.heap.objs.size := by
      have e' : b = e ∨ b = it := by simpa using hb
      rcases e' with z | z
      · rw [z]; exact Heap.lt_size he
      · rw [z]; obtain ⟨o, q, _⟩ := srcIt_obj hit; exact Heap.lt_size q
    rw [upd_ne (Nat.ne_of_lt (Nat.lt_of_lt_of_le hb' hT))]
    exact (hf b hb).1
  done := by
    intro X hP hw hK hc i pins s sg H E I hf st hg
    subst hP hw hK
    obtain ⟨⟨old, he⟩, hit, hne⟩ := st
    obtain ⟨xs, hq, hx⟩ := hg
    obtain ⟨its, rv, p, hz⟩ := src_at I hq
    have nat : a ≠ it := src_ne I hq (hf it (by simp))
    have nae : a ≠ e := src_ne I hq (hf e (by simp))
    obtain ⟨f0, f1, f2, f3, f4, f5⟩ := hf it (by simp)
    have hl := rv.length
    have D := src_draws (prog := X.prog) (w := X.w) (A := X.A.in1) t (show X.A.in1.handled = none from I.ok.hd hc) it a nat its.toArray
    have ei : i = its.toArray.size := by rw [List.size_toArray]; omega
    subst ei
    exact wpAny_pyNext_enum_endD D he ⟨hit, p⟩ fun h' eb => ⟨rfl, I.turned (t' := s.toks) (fun b o hb q => eb b o hb q) f0 f1 f3 f4 f5⟩
  self := fun A i s Q E st h => let ⟨⟨_, he⟩, _⟩ := st; wpAny_pyIter_enum he h
theorem zip_sep_more {z TI TO i1 i2 a b : Addr} (S : ZipSep2 z TI TO i1 i2 [i1] [i2]) (nA : ∀ c ∈ [z, TI, TO, i1, i2], a ≠ c) (nB : ∀ c ∈ [z, TI, TO, i1, i2], b ≠ c) : ZipSep2 z TI TO i1 i2 [i1, a] [i2, b] where
  TIz := S.TIz
  TOz := S.TOz
  TITO := S.TITO
  TIi1 := S.TIi1
  mem1 := by simp
  zf1 := fun h => by
    have : z = i1 ∨ z = a := by simpa using h
    rcases this with q | q
    · exact S.zf1 (by simp [q])
    · exact nA z (by simp) q.symm
  Tf1 := fun h => by
    have : TO = i1 ∨ TO = a := by simpa using h
    rcases this with q | q
    · exact S.Tf1 (by simp [q])
    · exact nA TO (by simp) q.symm
  TIi2 := S.TIi2
  mem2 := by simp
  zf2 := fun h => by
    have : z = i2 ∨ z = b := by simpa using h
    rcases this with q | q
    · exact S.zf2 (by simp [q])
    · exact nB z (by simp) q.symm
  Tf2 := fun h => by
    have : TO = i2 ∨ TO = b := by simpa using h
    rcases this with q | q
    · exact S.Tf2 (by simp [q])
    · exact nB TO (by simp) q.symm
  sep1_2 := fun h => by
    have : i1 = i2 ∨ i1 = b := by simpa using h
    rcases this with q | q
    · exact S.sep1_2 (by simp [q])
    · exact nB i1 (by simp) q.symm
  sep2_1 := fun h => by
    have : i2 = i1 ∨ i2 = a := by simpa using h
    rcases this with q | q
    · exact S.sep2_1 (by simp [q])
    · exact nA i2 (by simp) q.symm
theorem turn_zipS {P : Program} {w : World} {K : PySem.W.Frag} {elts : List Expr} {kk : Nat} {tpos : Pos} {z TI TO i1 i2 : Addr} (t u : Bool) (a b : Addr) (S : ZipSep2 z TI TO i1 i2 [i1] [i2]) :
    Turn P w K (.Tuple elts kk tpos) (ItZ K t u a b) [z, TI, TO, i1, i2] z (fun i h => IsZip h z TI TO .none ∧ IsTupOf2 h TI (.ref i1) (.ref i2) ∧ (∃ a1 a2, IsTupOf2 h TO a1 a2) ∧ SrcIt t h i1 a i ∧ SrcIt u h i2 b i) where
  mem := by simp
  obj := fun i h st c hc => by
    obtain ⟨hz, hTI, ⟨x, y, hTO⟩, h1, h2⟩ := st
    have e' : c = z ∨ c = TI ∨ c = TO ∨ c = i1 ∨ c = i2 := by simpa using hc
    rcases e' with q | q | q | q | q
    · rw [q]; exact ⟨_, hz, fun v q => nomatch q⟩
    · rw [q]; exact ⟨_, hTI, fun v q => nomatch q⟩
    · rw [q]; exact ⟨_, hTO, fun v q => nomatch q⟩
    · rw [q]; exact srcIt_obj h1
    · rw [q]; exact srcIt_obj h2
  keep := fun i h h' st k => by
    obtain ⟨hz, hTI, ⟨x, y, hTO⟩, h1, h2⟩ := st
    exact ⟨k z (by simp) _ hz, k TI (by simp) _ hTI, ⟨x, y, k TO (by simp) _ hTO⟩, srcIt_keep h1 fun o q => k i1 (by simp) o q, srcIt_keep h2 fun o q => k i2 (by simp) o q⟩
  item := by
    intro X hP hw hK hc i pins s sg H E I hf st hg
    subst hP hw hK
    obtain ⟨hz, hTI, hTO, h1, h2⟩ := st
    obtain ⟨xs, ys, x, y, hqx, hqy, hx, hy⟩ := hg
    obtain ⟨its, rv, p, _⟩ := src_at I hqx
    obtain ⟨its2, rv2, p2, _⟩ := src_at I hqy
    obtain ⟨u1, hu, ru⟩ := rv.get hx
    obtain ⟨u2, hu2, ru2⟩ := rv2.get hy
    have nA : ∀ c ∈ [z, TI, TO, i1, i2], a ≠ c := fun c hc => src_ne I hqx (hf c hc)
    have nB : ∀ c ∈ [z, TI, TO, i1, i2], b ≠ c := fun c hc => src_ne I hqy (hf c hc)
    have D1 := src_draws (prog := X.prog) (w := X.w) (A := X.A.in1) t (show X.A.in1.handled = none from I.ok.hd hc) i1 a (nA i1 (by simp)) its.toArray
    have D2 := src_draws (prog := X.prog) (w := X.w) (A := X.A.in1) u (show X.A.in1.handled = none from I.ok.hd hc) i2 b (nB i2 (by simp)) its2.toArray
    have S2 : ZipSep2 z TI TO i1 i2 [i1, a] [i2, b] := zip_sep_more S nA nB
    have W := WalksT.zipD2 (prog := X.prog) (w := X.w) (A := X.A) S2 D1 D2
    have l1 : i < its.toArray.size := by have := (List.getElem?_eq_some_iff.mp hu).1; simpa using this
    have l2 : i < its2.toArray.size := by have := (List.getElem?_eq_some_iff.mp hu2).1; simpa using this
    refine W.item i s _ _ (by omega) ⟨hz, hTI, hTO, ⟨h1, p⟩, ⟨h2, p2⟩⟩ fun T vals h' tk hP hT hTt hm hk => ⟨_, rfl, W.go elts kk tpos i T { s with heap := h', toks := tk } _ _ hm fun h'' st'' hk'' => ?_⟩
    obtain ⟨y1, y2, e1, e2, rfl⟩ := hP
    have ey1 : y1 = u1 := by
      have q : its.toArray[i]? = some u1 := by simpa using hu
      rw [q] at e1; cases e1; rfl
    have ey2 : y2 = u2 := by
      have q : its2.toArray[i]? = some u2 := by simpa using hu2
      rw [q] at e2; cases e2; rfl
    subst ey1; subst ey2
    obtain ⟨hz'', hTI'', hTO'', ⟨h1'', _⟩, ⟨h2'', _⟩⟩ := st''
    have nTw := W.apart i T h' hm
    have hT2 : h''.IsTuple T #[y1, y2] := hTt.at fun o q => hk'' T o nTw q
    have new : ObjOk X.prog X.w (upd H T (.tup [x, y])) h'' T (.tup [x, y]) := by
      obtain ⟨o, ho, hc', n, hd⟩ := hT2
      exact ⟨by show 2 ≤ sizeLine; decide, [y1, y2], .cons ru (.cons ru2 .nil), ⟨o, ho, hc', n, hd⟩⟩
    have sub : ∀ c, c ∉ [z, TI, TO, i1, i2] → c ∉ [z, TO, i1, i2] := fun c hc hm => hc (by
      have : c = z ∨ c = TO ∨ c = i1 ∨ c = i2 := by simpa using hm
      rcases this with q | q | q | q <;> simp [q])
    have I1 : Inv X pins sg (upd H T (.tup [x, y])) { s with heap := h'', toks := tk } :=
      I.turnedNew (ch := [z, TI, TO, i1, i2]) (fun c o hb q => hk'' c o (sub c hb) (hk c o (sub c hb) q)) hf hT new
    refine ⟨.ref T, _, I1, rfl, ⟨_, x, y, rfl, I.hok.fresh hT, rfl, fun l hl => by rw [src_inj I hl hqx]; exact hx, fun l hl => by rw [src_inj I hl hqy]; exact hy⟩, ⟨hz'', hTI'', hTO'', h1'', h2''⟩, fun c hcm => ?_⟩
    have hlt : c < s.heap.objs.size := by
      obtain ⟨x0, y0, hTO⟩ := hTO
      have e' : c = z ∨ c = TI ∨ c = TO ∨ c = i1 ∨ c = i2 := by simpa using hcm
      rcases e' with q | q | q | q | q
      · rw [q]; exact Heap.lt_size hz
      · rw [q]; exact Heap.lt_size hTI
      · rw [q]; exact Heap.lt_size hTO
      · rw [q]; obtain ⟨_, q, _⟩ := srcIt_obj h1; exact Heap.lt_size q
      · rw [q]; obtain ⟨_, q, _⟩ := srcIt_obj h2; exact Heap.lt_size q
    rw [upd_ne (Nat.ne_of_lt (Nat.lt_of_lt_of_le hlt hT))]
    exact (hf c hcm).1
  done := by
    intro X hP hw hK hc i pins s sg H E I hf st hg
    subst hP hw hK
    obtain ⟨hz, hTI, hTO, h1, h2⟩ := st
    obtain ⟨xs, ys, hqx, hqy, hend⟩ := hg
    obtain ⟨its, rv, p, _⟩ := src_at I hqx
    obtain ⟨its2, rv2, p2, _⟩ := src_at I hqy
    have nA : ∀ c ∈ [z, TI, TO, i1, i2], a ≠ c := fun c hc => src_ne I hqx (hf c hc)
    have nB : ∀ c ∈ [z, TI, TO, i1, i2], b ≠ c := fun c hc => src_ne I hqy (hf c hc)
    have D1 := src_draws (prog := X.prog) (w := X.w) (A := X.A.in1) t (show X.A.in1.handled = none from I.ok.hd hc) i1 a (nA i1 (by simp)) its.toArray
    have D2 := src_draws (prog := X.prog) (w := X.w) (A := X.A.in1) u (show X.A.in1.handled = none from I.ok.hd hc) i2 b (nB i2 (by simp)) its2.toArray
    have S2 : ZipSep2 z TI TO i1 i2 [i1, a] [i2, b] := zip_sep_more S nA nB
    have W := WalksT.zipD2 (prog := X.prog) (w := X.w) (A := X.A) S2 D1 D2
    have l1 := rv.length
    have l2 := rv2.length
    have ei : i = min its.toArray.size its2.toArray.size := by rw [List.size_toArray, List.size_toArray]; omega
    subst ei
    exact W.done s _ _ ⟨hz, hTI, hTO, ⟨h1, p⟩, ⟨h2, p2⟩⟩ fun h' tk hk => ⟨rfl, I.turnedL (t' := tk) (ch := [z, TI, TO, i1, i2]) (fun c o hb q => hk c o (fun hm => hb (by
      have : c = z ∨ c = TO ∨ c = i1 ∨ c = i2 := by simpa using hm
      rcases this with q | q | q | q <;> simp [q])) q) hf⟩
  self := fun A i s Q E st h => wpAny_pyIter_zip st.1 h
end PB

set_option Elab.async false
set_option linter.all false
set_option maxRecDepth 100000
set_option maxHeartbeats 2000000
namespace PB
open PySem PySem.Spec PyProof.Rows L2

theorem meets_enumerate_newB1 {v : Value} {o : Obj} {H : Heap → Prop} (B : Begins v o H) :
    Meets (Builtin.«enumerate.__new__» ⟨[.type "enumerate", v], []⟩) (fun _ R s => H s.heap ∧
      R (.ok (.ret (.ref (s.heap.push o).objs.size))) { s with heap := (s.heap.push o).push { cls := .type "enumerate", data := .fields #[.none, .bool false, .ref s.heap.objs.size, rawInt 0, .none, .none] } }) :=
  .of_wp fun prog w A R s h => by
    obtain ⟨hp, g, d, tk, os⟩ := s; obtain ⟨h1, h⟩ := h
    have hsub := sub_enumerate
    have q1 : ∀ {A' : Around} {E : Value → Shared → Prop} {Q : Value → Shared → Prop}, Q (.ref hp.objs.size) ⟨hp.push o, g, d, tk, os⟩ → wpAny (model prog w) A' (pyIter v) Q E ⟨hp, g, d, tk, os⟩ :=
      fun q => B.iter prog w _ _ ⟨hp, g, d, tk, os⟩ _ h1 q
    wp_walk using q1
    refine wpAny_stack_any fun st => wpAny_pure ?_
    split
    · rename_i c _ _ _ _ _
      cases (c == Value.type "enumerate")
      · wp_walk using q1
        exact ⟨_, rfl, h⟩
      · wp_walk using q1
        exact ⟨_, rfl, h⟩
    · wp_walk using q1
      exact ⟨_, rfl, h⟩
theorem enum_begins1 {prog : Program} {w : World} {A : Around} {E : Value → Shared → Prop} {s : Shared} {v : Value} {o : Obj} {H : Heap → Prop} {Q : Value → Shared → Prop} (B : Begins v o H) (h1 : H s.heap)
    (h : ∀ h', IsEnum h' (s.heap.objs.size + 1) s.heap.objs.size 0 .none → h'.get? s.heap.objs.size = some o → h'.objs.size = s.heap.objs.size + 2 →
      (∀ b o, s.heap.get? b = some o → h'.get? b = some o) → Q (.ref (s.heap.objs.size + 1)) { s with heap := h' }) :
    wpAny (model prog w) A (call (.type "enumerate") [v]) Q E s := by
  refine callType_new F.called_enumerate (by decide) (F.typeCall_enumerate_1 _) (F.newCall_enumerate_1 _) (fun obj => F.args_object_init_2 obj _) F.entry_enumerate_new
    (meets_enumerate_newB1 B) ⟨h1, ?_⟩
  have hz : (s.heap.push o).objs.size = s.heap.objs.size + 1 := Heap.size_push ..
  show _ ∧ _
  rw [hz]
  have he : IsEnum ((s.heap.push o).push { cls := .type "enumerate", data := .fields #[.none, .bool false, .ref s.heap.objs.size, rawInt 0, .none, .none] }) (s.heap.objs.size + 1) s.heap.objs.size 0 .none := by
    have := Heap.get?_push_size (s.heap.push o) (o := { cls := .type "enumerate", data := .fields #[.none, .bool false, .ref s.heap.objs.size, rawInt 0, .none, .none] }) rfl
    rw [hz] at this; exact this
  refine ⟨⟨_, he, rfl⟩, h _ he (Heap.get?_push_of_some _ (Heap.get?_push_size _ B.free)) (by rw [Heap.size_push, hz]) fun b o x => Heap.get?_push_of_some _ (Heap.get?_push_of_some _ x)⟩

section
variable {X : Cx} {tg : Expr}
/-- one source, walked -/
def iSrc (K : PySem.W.Frag) (te : TE) : TI := fun sg H R => te sg H fun x H1 => ∃ a t vs, x = .ref a ∧ Src K t H1 a vs ∧ R (ItS K t a) H1
theorem pi_src {l : Expr} {tl : TE} (hl : PE X l tl) : PI X tg l (iSrc X.K tl) := by
  refine ⟨fun pins s sg H R I h => ?_⟩
  refine thn (hl.run pins s sg H _ I h) fun v s1 ⟨x, H1, I1, r1, q1⟩ => ?_
  obtain ⟨a, t, vs, e, hq, q⟩ := q1
  subst e
  cases r1
  cases t with
  | false =>
    obtain ⟨its, rv, p, hz⟩ := I1.list hq
    refine wpAny_pyIter_list p.isList ?_
    have T := turn_list (P := X.prog) (w := X.w) (K := X.K) (tg := tg) a s1.heap.objs.size
    refine ⟨s1.heap.objs.size, [s1.heap.objs.size], _, ItS X.K false a, H1, rfl, I1.kept (t' := s1.toks) fun b o e => Heap.get?_push_of_some _ e, ⟨T.mem, T.obj, T.keep, ?_, ?_, T.self⟩, ⟨_, Heap.get?_push_size _ rfl, rfl, rfl⟩, fun b hb => ?_, q⟩
    · intro X' e1 e2 e3 hc i pins s sg H E I hf st go
      exact T.item X' e1 e2 e3 hc i pins s sg H E I hf st go
    · intro X' e1 e2 e3 hc i pins s sg H E I hf st stop
      obtain ⟨xs, h1, h2⟩ := stop
      exact T.done X' e1 e2 e3 hc i pins s sg H E I hf st ⟨xs, h1, Nat.le_of_eq h2⟩
    · have e : b = s1.heap.objs.size := by simpa using hb
      subst e
      exact I1.fpOk (Nat.le_refl _) (I1.hok.fresh (Nat.le_refl _))
  | true =>
    obtain ⟨its, rv, p, hz⟩ := I1.tuple hq
    refine wpAny_pyIter_tuple (show s1.heap.IsTuple a its.toArray from p) ?_
    have T := turn_tuple (P := X.prog) (w := X.w) (K := X.K) (tg := tg) a s1.heap.objs.size
    refine ⟨s1.heap.objs.size, [s1.heap.objs.size], _, ItS X.K true a, H1, rfl, I1.kept (t' := s1.toks) fun b o e => Heap.get?_push_of_some _ e, ⟨T.mem, T.obj, T.keep, ?_, ?_, T.self⟩, ⟨_, Heap.get?_push_size _ rfl, rfl, rfl⟩, fun b hb => ?_, q⟩
    · intro X' e1 e2 e3 hc i pins s sg H E I hf st go
      exact T.item X' e1 e2 e3 hc i pins s sg H E I hf st go
    · intro X' e1 e2 e3 hc i pins s sg H E I hf st stop
      obtain ⟨xs, h1, h2⟩ := stop
      exact T.done X' e1 e2 e3 hc i pins s sg H E I hf st ⟨xs, h1, Nat.le_of_eq h2⟩
    · have e : b = s1.heap.objs.size := by simpa using hb
      subst e
      exact I1.fpOk (Nat.le_refl _) (I1.hok.fresh (Nat.le_refl _))
def iEnu (K : PySem.W.Frag) (ta : TA) : TI := fun sg H R => ta sg H fun vs H1 => ∃ a t xs, vs = [.ref a] ∧ Src K t H1 a xs ∧ R (ItE K t a) H1
theorem pi_enumS {e : Expr} {ta : TA} {p pos tpos : Pos} {elts : List Expr} {kk : Nat} (hg : Gl X "enumerate") (hm : X.mg "enumerate" = none) (ha : PA X [e] ta) (hs : starEach [e] X.env = [(false, eval e X.env)] := by rfl) :
    PI X (.Tuple elts kk tpos) (.Call (.Name "enumerate" p) [e] [] pos) (iEnu X.K ta) := by
  refine ⟨fun pins s sg H R I h => ?_⟩
  refine Call_ (ld_blt I hg hm boot_enumerate (PyProof.Rows.callWith_type1 (thn (ha.run pos pins s sg H _ I h) fun us s1 ⟨vs, H1, I1, r1, q1⟩ => ?_) hs rfl))
  obtain ⟨a, t, xs, ex, hq, q⟩ := q1
  subst ex
  cases r1 with
  | cons r rr =>
    cases rr
    cases r
    obtain ⟨its, rv, p', hz⟩ := src_at I1 hq
    refine enum_begins1 (src_begins t a its.toArray) p' fun h' he hit hsz hk => wpAny_pyIter_enum he ?_
    have I2 : Inv X pins sg H1 { s1 with heap := h' } := I1.kept (t' := s1.toks) hk
    refine ⟨s1.heap.objs.size + 1, [s1.heap.objs.size + 1, s1.heap.objs.size], _, _, H1, rfl, I2, turn_enumS t a (s1.heap.objs.size + 1) s1.heap.objs.size, ⟨⟨.none, he⟩, src_start hit, Nat.succ_ne_self _⟩, fun b hb => ?_, q⟩
    have e' : b = s1.heap.objs.size + 1 ∨ b = s1.heap.objs.size := by simpa using hb
    have hle : s1.heap.objs.size ≤ b := by
      rcases e' with z | z
      · rw [z]; exact Nat.le_add_right _ _
      · rw [z]; exact Nat.le_refl _
    exact I1.fpOk hle (I1.hok.fresh hle)
def iZp (K : PySem.W.Frag) (ta : TA) : TI := fun sg H R => ta sg H fun vs H1 => ∃ a b t u xs ys, vs = [.ref a, .ref b] ∧ Src K t H1 a xs ∧ Src K u H1 b ys ∧ R (ItZ K t u a b) H1
theorem pi_zipS {e e2 : Expr} {ta : TA} {p pos tpos : Pos} {elts : List Expr} {kk : Nat} (hg : Gl X "zip") (hm : X.mg "zip" = none) (ha : PA X [e, e2] ta)
    (hs : starEach [e, e2] X.env = (false, eval e X.env) :: starEach [e2] X.env := by rfl) (hpl : (backTo pos (starEach [e2] X.env)).any (·.1) = false := by rfl) :
    PI X (.Tuple elts kk tpos) (.Call (.Name "zip" p) [e, e2] [] pos) (iZp X.K ta) := by
  refine ⟨fun pins s sg H R I h => ?_⟩
  refine Call_ (ld_blt I hg hm PyProof.Rows.boot_zip (PyProof.Rows.callWith_type1 (thn (ha.run pos pins s sg H _ I h) fun us s1 ⟨vs, H1, I1, r1, q1⟩ => ?_) hs hpl))
  obtain ⟨a, b, t, u, xs, ys, ex, hqx, hqy, q⟩ := q1
  subst ex
  cases r1 with
  | cons r rr =>
    cases rr with
    | cons r' rr =>
      cases rr
      cases r
      cases r'
      obtain ⟨its, rv, p1, _⟩ := src_at I1 hqx
      obtain ⟨its2, rv2, p2, _⟩ := src_at I1 hqy
      refine zip_begins2 (src_begins t a its.toArray) (src_begins u b its2.toArray) p1 p2 fun h' hz hTI hTO h1 h2 hsz hk => wpAny_pyIter_zip hz ?_
      have I2 : Inv X pins sg H1 { s1 with heap := h' } := I1.kept (t' := s1.toks) hk
      have S : ZipSep2 (s1.heap.objs.size + 4) (s1.heap.objs.size + 2) (s1.heap.objs.size + 3) s1.heap.objs.size (s1.heap.objs.size + 1) [s1.heap.objs.size] [s1.heap.objs.size + 1] := zip_sep2 (fun b hb => nomatch hb) (fun b hb => nomatch hb)
      refine ⟨s1.heap.objs.size + 4, [s1.heap.objs.size + 4, s1.heap.objs.size + 2, s1.heap.objs.size + 3, s1.heap.objs.size, s1.heap.objs.size + 1], _, _, H1, rfl, I2, turn_zipS t u a b S, ⟨hz, hTI, ⟨_, _, hTO⟩, src_start h1, src_start h2⟩, fun c hcm => ?_, q⟩
      have e' : c = s1.heap.objs.size + 4 ∨ c = s1.heap.objs.size + 2 ∨ c = s1.heap.objs.size + 3 ∨ c = s1.heap.objs.size ∨ c = s1.heap.objs.size + 1 := by simpa using hcm
      have hle : s1.heap.objs.size ≤ c := by
        rcases e' with z | z | z | z | z
        · rw [z]; exact Nat.le_add_right _ _
        · rw [z]; exact Nat.le_add_right _ _
        · rw [z]; exact Nat.le_add_right _ _
        · rw [z]; exact Nat.le_refl _
        · rw [z]; exact Nat.le_add_right _ _
      exact I1.fpOk hle (I1.hok.fresh hle)
end
end PB

set_option Elab.async false
set_option linter.all false
set_option maxRecDepth 100000
set_option maxHeartbeats 2000000
namespace PB
open PySem PySem.Spec L2
section
variable {X : Cx} {fa : Nat → Option Addr} {cf : Nat → List PV → PH → Res PV} {K : PySem.W.Frag} {io : List Addr} {H : Hp} {h : PH}

/-! ### targets -/
theorem RS.set {sg : L2.St} {s : Sl} {v : V} {x : PV} (rs : RS K fa io H sg s) (rv : Rl K fa io H v x) (i : Nat) : RS K fa io H (sg.set i (some v)) (s.set i (some x)) := by
  refine ⟨by rw [List.length_set, List.length_set]; exact rs.len, fun j y hy => ?_⟩
  by_cases hj : j = i
  · subst hj
    have hlt : j < s.length := by
      have := (List.getElem?_eq_some_iff.mp hy).1
      rw [List.length_set] at this; exact this
    rw [List.getElem?_set_self hlt] at hy
    cases hy
    exact ⟨v, by rw [List.getElem?_set_self (by rw [rs.len]; exact hlt)], rv⟩
  · rw [List.getElem?_set_ne (Ne.symm hj)] at hy
    obtain ⟨w, h1, h2⟩ := rs.at_ j y hy
    exact ⟨w, by rw [List.getElem?_set_ne (Ne.symm hj)]; exact h1, h2⟩
theorem g_v {i : Nat} {x : Str} {pos : Pos} (h : PG X (.Name x pos) (gName i)) : PG X (.Name x pos) (tG X.K fa cf (.v i)) :=
  wkG h fun v sg H Q ⟨io, s, h, x, s', h', rs, rh, rv, e, q⟩ => by
    simp only [asT] at e; cases e
    exact q io H _ .refl rh (rs.set rv i) fun j hj => List.getElem?_set_ne fun z => hj (by simp [slots, z])
theorem gs_nil : PGs X [] (tGs X.K fa cf .nil) :=
  wkGs pgs_nil fun vs sg H Q ⟨io, s, h, xs, s', h', rs, rh, rv, e, q⟩ => by
    cases rv with
    | nil => simp only [asTs] at e; cases e; exact ⟨rfl, q io H _ .refl rh rs fun j _ => rfl⟩
    | cons _ _ => simp only [asTs] at e; cases e
variable {e a b c : Expr} {es : List Expr} {pos : Pos} {ct cr : CT} {ca cb cc ce : CE} {cs : CA}
theorem gs_cons (h1 : PG X e (tG X.K fa cf ct)) (h2 : PGs X es (tGs X.K fa cf cr)) (hs : (assignEach (e :: es) X.env).map (·.2) = assign e X.env :: (assignEach es X.env).map (·.2) := by rfl) : PGs X (e :: es) (tGs X.K fa cf (.cons ct cr)) :=
  wkGs (pgs_cons h1 h2 hs) fun vs sg H Q ⟨io, s, h, xs, s', h', rs, rh, rv, e, q⟩ => by
    cases rv with
    | nil => simp only [asTs] at e; cases e
    | @cons v x vs xs rx rr =>
      simp only [asTs] at e
      obtain ⟨s1, h1, e1, e⟩ := bind_ok e
      refine ⟨v, vs, rfl, io, s, h, x, s1, h1, rs, rh, rx, e1, fun io1 H1 sg1 ex1 rh1 rs1 k1 => ⟨io1, s1, h1, xs, s', h', rs1, rh1, rr.mono ex1, e, fun io2 H2 sg2 ex2 rh2 rs2 k2 => q io2 H2 sg2 (ex1.trans ex2) rh2 rs2 fun j hj => ?_⟩⟩
      simp only [slots, List.mem_append, not_or] at hj
      rw [k2 j hj.2, k1 j hj.1]
theorem pg_or {e : Expr} {t u : TG} (h1 : PG X e t) (h2 : PG X e u) : PG X e (fun v sg H Q => t v sg H Q ∨ u v sg H Q) :=
  ⟨fun pins s σ H v u' Q I r hw => hw.elim (h1.run pins s σ H v u' Q I r) (h2.run pins s σ H v u' Q I r)⟩
def tlen : CT → Nat
  | .cons _ r => tlen r + 1
  | _ => 0
theorem asTs_len : ∀ {t : CT} {xs : List PV} {s : Sl} {h : PH} {s' : Sl} {h' : PH}, asTs cf t xs s h = .ok s' h' → xs.length = tlen t
  | .nil, [], _, _, _, _, _ => rfl
  | .cons a r, x :: xs, s, h, s', h', e => by
    simp only [asTs] at e
    obtain ⟨s1, h1, e1, e⟩ := bind_ok e
    rw [List.length_cons, asTs_len e]; rfl
  | .nil, _ :: _, _, _, _, _, e => by simp only [asTs] at e; cases e
  | .cons _ _, [], _, _, _, _, e => by simp only [asTs] at e; cases e
  | .v _, [], _, _, _, _, e => by simp only [asTs] at e; cases e
  | .v _, _ :: _, _, _, _, _, e => by simp only [asTs] at e; cases e
  | .s _ _, [], _, _, _, _, e => by simp only [asTs] at e; cases e
  | .s _ _, _ :: _, _, _, _, _, e => by simp only [asTs] at e; cases e
theorem g_tup {k : Nat} (hc : X.calm = true) (h : PGs X es (tGs X.K fa cf (.cons ct cr))) (hn : (assignEach es X.env).length = tlen cr + 1 := by rfl) (hst : (assignEach es X.env).findIdx? (·.1) = none := by rfl) : PG X (.Tuple es k pos) (tG X.K fa cf (.cons ct cr)) :=
  wkG (pg_or (pg_tup hc h hn hst) (pg_lst hc h hn hst)) fun v sg H Q ⟨io, s, h, x, s', h', rs, rh, rv, e, q⟩ => by
    cases x <;> try (simp only [asT] at e; cases e; done)
    case ref n =>
      simp only [asT] at e
      split at e
      · rename_i y ys hx
        obtain ⟨p, vs, rfl, _, hp, rr⟩ := rh.list rv hx
        have e2 : asTs cf (.cons ct cr) (y :: ys) s h = .ok s' h' := by simp only [asTs]; exact e
        exact .inr ⟨p, vs, rfl, .inl (.inl hp), by rw [rr.length]; exact asTs_len e2, io, s, h, y :: ys, s', h', rs, rh, rr, e2, q⟩
      · cases e
    case tup ys =>
      have e2 : asTs cf (.cons ct cr) ys s h = .ok s' h' := by
        cases ys with
        | nil => simp only [asT] at e; cases e
        | cons y ys => simp only [asT] at e; simp only [asTs]; exact e
      cases rv with
      | @tup p vs _ sq rr => exact .inl ⟨p, vs, rfl, sq.t, by rw [rr.length]; exact asTs_len e2, io, s, h, ys, s', h', rs, rh, rr, e2, q⟩
    case wtup ys =>
      have e2 : asTs cf (.cons ct cr) ys s h = .ok s' h' := by
        cases ys with
        | nil => simp only [asT] at e; cases e
        | cons y ys => simp only [asT] at e; simp only [asTs]; exact e
      cases rv with
      | @wtup p vs _ sq rr => exact .inl ⟨p, vs, rfl, sq, by rw [rr.length]; exact asTs_len e2, io, s, h, ys, s', h', rs, rh, rr, e2, q⟩
theorem g_sub {o i : Expr} {co ci : CE} (ho : PE X o (tE X.K fa cf co)) (hi : PE X i (tE X.K fa cf ci)) (ha : ∀ v, assign (.Subscript o i pos) X.env v = (do
      let ov ← holding [v] (eval o X.env)
      let iv ← holding [v, ov] (eval i X.env)
      standAt pos
      holding [v, ov, iv] (setItem ov iv v)
      release [v, ov, iv] []) := by intro _; rfl) : PG X (.Subscript o i pos) (tG X.K fa cf (.s co ci)) :=
  wkG (pg_sub ho hi set_list ha) fun v sg H Q ⟨io, s, h, x, s', h', rs, rh, rv, e, q⟩ => by
    simp only [asT] at e
    obtain ⟨ov, h1, e1, e⟩ := bind_ok e
    obtain ⟨iv, h2, e2, e⟩ := bind_ok e
    obtain ⟨u, h3, e3, e⟩ := bind_ok e
    cases e
    refine ⟨io, s, h, ov, h1, rs, rh, e1, fun io1 H1 o' ex1 rh1 ro => ⟨io1, s, h1, iv, h2, rs.mono ex1, rh1, e2, fun io2 H2 i' ex2 rh2 ri => ?_⟩⟩
    have ro2 := ro.mono ex2
    unfold setop at e3
    split at e3
    · rename_i n i _
      cases hx : h2[n]? with
      | none => rw [hx] at e3; cases e3
      | some o =>
        obtain ⟨xs⟩ := o
        rw [hx] at e3
        simp only at e3
        cases hj : ixN xs.length i with
        | none => rw [hj] at e3; cases e3
        | some j =>
        rw [hj] at e3
        cases e3
        obtain ⟨p, vs, rfl, hp, ha, rr⟩ := rh2.list ro2 hx
        cases ri
        have rv2 := rv.mono (ex1.trans ex2)
        have exw := ext_write (vs := vs.set j v) (List.mem_of_getElem? hp) ⟨vs, ha⟩
        exact ⟨p, vs, i, j, rfl, rfl, ha, by rw [rr.length]; exact hj, q io2 _ sg ((ex1.trans ex2).trans exw) (rh2.write hp (rr.set rv2 j)) ((rs.mono (ex1.trans ex2)).mono exw) fun _ _ => rfl⟩
    · cases e3

/-! ### walks -/
theorem leans_at {l : Lean_} {n : Nat} {o : PO} (hl : leans l h = true) (hm : (n, o) ∈ l) : h[n]? = some o := by
  unfold leans at hl
  have := List.all_eq_true.mp hl _ hm
  simp only at this
  split at this
  · rename_i c hc
    rw [hc, PO.same_eq this]
  · cases this
theorem leans_app {l l' : Lean_} (hl : leans (l ++ l') h = true) : leans l h = true ∧ leans l' h = true := by
  unfold leans at hl ⊢
  rw [List.all_append, Bool.and_eq_true] at hl
  exact hl
theorem src_of {v : V} {x : PV} {xs : List PV} (rh : RH K fa io H h) (rv : Rl K fa io H v x) (e : items h x = some xs) :
    ∃ a t vs, v = .ref a ∧ Src K t H a vs ∧ ∀ io2 H2 h2, Ext io H io2 H2 → RH K fa io2 H2 h2 → leans (leanOf h x) h2 = true → ∃ vs2, Src K t H2 a vs2 ∧ Rls K fa io2 H2 vs2 xs := by
  cases rv with
  | @tup a vs _ sq rr => cases e; exact ⟨a, true, vs, rfl, sq.t, fun io2 H2 h2 ex rh2 _ => ⟨vs, ex.sqT sq.t, rr.mono ex⟩⟩
  | @scr a vs _ sq rr => cases e; exact ⟨a, false, vs, rfl, sq.l, fun io2 H2 h2 ex rh2 _ => ⟨vs, (ex.sqF sq).l, rr.mono ex⟩⟩
  | @ref a n hn =>
    simp only [PB.items] at e
    split at e <;> cases e
    rename_i hx
    obtain ⟨b, vs, e1, e2, e3⟩ := rh.cell _ _ hx
    rw [hn] at e1; cases e1
    refine ⟨a, false, vs, rfl, .inl (.inl e2), fun io2 H2 h2 ex rh2 hl => ?_⟩
    have hx2 := leans_at (n := n) (o := .lst xs) hl (by simp [leanOf, hx])
    obtain ⟨b, vs2, g1, g2, g3⟩ := rh2.cell _ _ hx2
    rw [ex.at_ hn] at g1; cases g1
    exact ⟨vs2, .inl (.inl g2), g3⟩
  | _ => cases e
theorem Rls.at' {vs : List V} {xs : List PV} {i : Nat} {y : PV} {v : V} (r : Rls K fa io H vs xs) (e : xs[i]? = some y) (e' : vs[i]? = some v) : Rl K fa io H v y := by
  obtain ⟨w, h1, h2⟩ := r.get e
  rw [e'] at h1; cases h1
  exact h2
variable {tg : Expr} {ci : CI}
theorem i_seq (ha : PE X a (tE X.K fa cf ca)) : PI X tg a (tI X.K fa cf (.seq ca)) :=
  wkI (pi_src ha) fun sg H R ⟨io, s, h, p, h', rs, rh, e, q⟩ => by
    simp only [evI] at e
    obtain ⟨x, h1, e1, e⟩ := bind_ok e
    split at e <;> cases e
    rename_i xs hx
    refine ⟨io, s, h, x, _, rs, rh, e1, fun io1 H1 v ex1 rh1 rv => ?_⟩
    obtain ⟨a, t, vs, rfl, sq, more⟩ := src_of rh1 rv hx
    refine ⟨a, t, vs, rfl, sq, q io1 H1 ex1 rh1 _ fun io2 H2 h2 ex2 rh2 hl => ?_⟩
    obtain ⟨vs2, sq2, rr⟩ := more io2 H2 h2 ex2 rh2 hl
    refine ⟨fun i y hy => ?_, vs2, sq2, rr.length⟩
    obtain ⟨w, hw, rw'⟩ := rr.get hy
    refine ⟨⟨vs2, w, sq2, hw⟩, fun x H3 hyl => ?_⟩
    obtain ⟨rfl, hh⟩ := hyl
    have := hh vs2 sq2
    rw [hw] at this; cases this
    exact ⟨.refl, rh2, rw'⟩
theorem enums_get : ∀ {xs : List PV} {k : Int} {i : Nat} {y : PV}, (enums k xs)[i]? = some y → ∃ x, xs[i]? = some x ∧ y = .wtup [.int (k + i), x]
  | [], k, i, y, e => by simp [enums] at e
  | x :: r, k, 0, y, e => by simp [enums] at e; exact ⟨x, rfl, by simp [e]⟩
  | x :: r, k, i + 1, y, e => by
    obtain ⟨z, h1, h2⟩ := enums_get (xs := r) (k := k + 1) (i := i) (by simpa [enums] using e)
    refine ⟨z, by simpa using h1, ?_⟩
    rw [h2]
    have : k + 1 + (i : Int) = k + ((i + 1 : Nat) : Int) := by omega
    rw [this]
theorem enums_len : ∀ (xs : List PV) (k : Int), (enums k xs).length = xs.length
  | [], _ => rfl
  | x :: r, k => by simp [enums, enums_len r]
theorem i_enu {p tpos : Pos} {elts : List Expr} {kk : Nat} (hg : Gl X "enumerate") (hm : X.mg "enumerate" = none) (ha : PA X [a] (tA X.K fa cf cs)) (hs : starEach [a] X.env = [(false, eval a X.env)] := by rfl) :
    PI X (.Tuple elts kk tpos) (.Call (.Name "enumerate" p) [a] [] pos) (tI X.K fa cf (.enu cs)) :=
  wkI (pi_enumS hg hm ha hs) fun sg H R ⟨io, s, h, p, h', rs, rh, e, q⟩ => by
    simp only [evI] at e
    obtain ⟨xs, h1, e1, e⟩ := bind_ok e
    split at e
    · rename_i x
      split at e <;> cases e
      rename_i ys hy
      refine ⟨io, s, h, _, _, rs, rh, e1, fun io1 H1 vs ex1 rh1 rvs => ?_⟩
      obtain ⟨v, rfl, rv⟩ := rvs.one
      obtain ⟨a, t, vs, rfl, sq, more⟩ := src_of rh1 rv hy
      refine ⟨a, t, vs, rfl, sq, q io1 H1 ex1 rh1 _ fun io2 H2 h2 ex2 rh2 hl => ?_⟩
      obtain ⟨vs2, sq2, rr⟩ := more io2 H2 h2 ex2 rh2 hl
      refine ⟨fun i y hy => ?_, vs2, sq2, by rw [enums_len]; exact rr.length⟩
      obtain ⟨z, hz, rfl⟩ := enums_get hy
      obtain ⟨w, hw, rw'⟩ := rr.get hz
      refine ⟨⟨vs2, w, sq2, hw⟩, fun x H3 hyl => ?_⟩
      obtain ⟨T, x', rfl, hT, rfl, hh⟩ := hyl
      have := hh vs2 sq2
      rw [hw] at this; cases this
      have ex := ext_new (io := io2) (o := .tup [.int (i : Nat), w]) hT
      refine ⟨ex, rh2.new hT, .wtup (.inl (.inl upd_same)) (.cons ?_ (.cons (rw'.mono ex) .nil))⟩
      have e0 : (0 : Int) + (i : Int) = (i : Int) := by omega
      rw [e0]; exact .int _
    · cases e
theorem zips_get : ∀ {xs ys : List PV} {i : Nat} {z : PV}, (zips xs ys)[i]? = some z → ∃ x y, xs[i]? = some x ∧ ys[i]? = some y ∧ z = .wtup [x, y]
  | [], ys, i, z, e => by simp [zips] at e
  | x :: r, [], i, z, e => by simp [zips] at e
  | x :: r, y :: q, 0, z, e => by simp [zips] at e; exact ⟨x, y, rfl, rfl, e.symm⟩
  | x :: r, y :: q, i + 1, z, e => by
    obtain ⟨x', y', h1, h2, h3⟩ := zips_get (xs := r) (ys := q) (i := i) (by simpa [zips] using e)
    exact ⟨x', y', by simpa using h1, by simpa using h2, h3⟩
theorem zips_len : ∀ (xs ys : List PV), (zips xs ys).length = min xs.length ys.length
  | [], ys => by simp [zips]
  | x :: r, [] => by simp [zips]
  | x :: r, y :: q => by simp only [zips, List.length_cons, zips_len r q]; omega
theorem i_zip {p tpos : Pos} {elts : List Expr} {kk : Nat} (hg : Gl X "zip") (hm : X.mg "zip" = none) (ha : PA X [a, b] (tA X.K fa cf cs))
    (hs : starEach [a, b] X.env = (false, eval a X.env) :: starEach [b] X.env := by rfl) (hpl : (backTo pos (starEach [b] X.env)).any (·.1) = false := by rfl) :
    PI X (.Tuple elts kk tpos) (.Call (.Name "zip" p) [a, b] [] pos) (tI X.K fa cf (.zip cs)) :=
  wkI (pi_zipS hg hm ha hs hpl) fun sg H R ⟨io, s, h, p, h', rs, rh, e, q⟩ => by
    simp only [evI] at e
    obtain ⟨xs, h1, e1, e⟩ := bind_ok e
    split at e
    · rename_i x y
      split at e <;> cases e
      rename_i us ws hu hw
      refine ⟨io, s, h, _, _, rs, rh, e1, fun io1 H1 vs ex1 rh1 rvs => ?_⟩
      obtain ⟨v, w, rfl, rv, rw'⟩ := rvs.two
      obtain ⟨a, t, vs, rfl, sq, more⟩ := src_of rh1 rv hu
      obtain ⟨b, u, vs', rfl, sq', more'⟩ := src_of rh1 rw' hw
      refine ⟨a, b, t, u, vs, vs', rfl, sq, sq', q io1 H1 ex1 rh1 _ fun io2 H2 h2 ex2 rh2 hl => ?_⟩
      obtain ⟨hl1, hl2⟩ := leans_app hl
      obtain ⟨vs2, sq2, rr⟩ := more io2 H2 h2 ex2 rh2 hl1
      obtain ⟨ws2, sq2', rr'⟩ := more' io2 H2 h2 ex2 rh2 hl2
      refine ⟨fun i y hy => ?_, vs2, ws2, sq2, sq2', by rw [zips_len, rr.length, rr'.length]⟩
      obtain ⟨z, z', hz, hz', rfl⟩ := zips_get hy
      obtain ⟨w, hw, rw1⟩ := rr.get hz
      obtain ⟨w', hw', rw2⟩ := rr'.get hz'
      refine ⟨⟨vs2, ws2, w, w', sq2, sq2', hw, hw'⟩, fun x H3 hyl => ?_⟩
      obtain ⟨T, x1, x2, rfl, hT, rfl, hh, hh'⟩ := hyl
      have := hh vs2 sq2
      rw [hw] at this; cases this
      have := hh' ws2 sq2'
      rw [hw'] at this; cases this
      have ex := ext_new (io := io2) (o := .tup [w, w']) hT
      exact ⟨ex, rh2.new hT, .wtup (.inl (.inl upd_same)) (.cons (rw1.mono ex) (.cons (rw2.mono ex) .nil))⟩
    · cases e
theorem range_get : ∀ {n : Nat} {a c : Int} {i : Nat} {y : PV}, (range a n c)[i]? = some y → i < n ∧ y = .int (a + (i : Nat) * c)
  | 0, a, c, i, y, e => by simp [range] at e
  | n + 1, a, c, 0, y, e => by simp [range] at e; exact ⟨by omega, by rw [← e]; simp⟩
  | n + 1, a, c, i + 1, y, e => by
    obtain ⟨h1, h2⟩ := range_get (n := n) (a := a + c) (i := i) (by simpa [range] using e)
    refine ⟨by omega, ?_⟩
    rw [h2]
    have : a + c + (i : Int) * c = a + ((i + 1 : Nat) : Int) * c := by
      have : ((i + 1 : Nat) : Int) = (i : Int) + 1 := by omega
      rw [this, Int.add_mul, Int.one_mul]
      omega
    rw [this]
theorem range_len : ∀ (n : Nat) (a c : Int), (range a n c).length = n
  | 0, _, _ => rfl
  | n + 1, a, c => by simp [range, range_len n]
theorem good_range {lo : Int} {n : Nat} : GoodJ K fa (range lo n 1, []) io H (Itr lo n) := fun io2 H2 h2 ex rh _ =>
  ⟨fun i y hy => by
    obtain ⟨h1, rfl⟩ := range_get hy
    refine ⟨h1, fun x H3 hyl => ?_⟩
    obtain ⟨rfl, rfl⟩ := hyl
    rw [Int.mul_one]
    exact ⟨.refl, rh, .int _⟩, by show n ≤ (range lo n 1).length; rw [range_len]; exact Nat.le_refl _⟩
theorem good_rangeC {lo c : Int} {n : Nat} : GoodJ K fa (range lo n c, []) io H (Itc lo c n) := fun io2 H2 h2 ex rh _ =>
  ⟨fun i y hy => by
    obtain ⟨h1, rfl⟩ := range_get hy
    refine ⟨h1, fun x H3 hyl => ?_⟩
    obtain ⟨rfl, rfl⟩ := hyl
    exact ⟨.refl, rh, .int _⟩, by show n ≤ (range lo n c).length; rw [range_len]; exact Nat.le_refl _⟩
theorem i_rng1 {p : Pos} (hg : Gl X "range") (hm : X.mg "range" = none) (ha : PA X [a] (tA X.K fa cf cs)) (hs : starEach [a] X.env = [(false, eval a X.env)] := by rfl) : PI X tg (.Call (.Name "range" p) [a] [] pos) (tI X.K fa cf (.rng1 cs)) :=
  wkI (pi_range1 hg hm ha hs) fun sg H R ⟨io, s, h, p, h', rs, rh, e, q⟩ => by
    simp only [evI] at e
    obtain ⟨xs, h1, e1, e⟩ := bind_ok e
    split at e
    · split at e <;> cases e
      rename_i b hb
      have hB : bigR = 1000000 := rfl
      refine ⟨io, s, h, _, _, rs, rh, e1, fun io1 H1 vs ex1 rh1 rvs => ?_⟩
      obtain ⟨v, rfl, rv⟩ := rvs.one
      cases rv
      exact ⟨b, rfl, by omega, by omega, q io1 H1 ex1 rh1 _ good_range⟩
    · cases e
theorem i_rng2 {p : Pos} (hg : Gl X "range") (hm : X.mg "range" = none) (ha : PA X [a, b] (tA X.K fa cf cs)) (hs : starEach [a, b] X.env = [(false, eval a X.env), (false, eval b X.env)] := by rfl) (hs2 : starEach [b] X.env = [(false, eval b X.env)] := by rfl) :
    PI X tg (.Call (.Name "range" p) [a, b] [] pos) (tI X.K fa cf (.rng2 cs)) :=
  wkI (pi_range2 hg hm ha hs hs2) fun sg H R ⟨io, s, h, p, h', rs, rh, e, q⟩ => by
    simp only [evI] at e
    obtain ⟨xs, h1, e1, e⟩ := bind_ok e
    split at e
    · split at e <;> cases e
      rename_i a b hb
      have hB : bigR = 1000000 := rfl
      refine ⟨io, s, h, _, _, rs, rh, e1, fun io1 H1 vs ex1 rh1 rvs => ?_⟩
      obtain ⟨v, w, rfl, rv, rw'⟩ := rvs.two
      cases rv; cases rw'
      exact ⟨a, b, rfl, by omega, q io1 H1 ex1 rh1 _ good_range⟩
    · cases e
theorem i_rng3 {p : Pos} (hg : Gl X "range") (hm : X.mg "range" = none) (ha : PA X [a, b, c] (tA X.K fa cf cs)) (hs : starEach [a, b, c] X.env = (false, eval a X.env) :: starEach [b, c] X.env := by rfl) (hpl : (backTo pos (starEach [b, c] X.env)).any (·.1) = false := by rfl) :
    PI X tg (.Call (.Name "range" p) [a, b, c] [] pos) (tI X.K fa cf (.rng3 cs)) :=
  wkI (pi_range3 hg hm ha hs hpl) fun sg H R ⟨io, s, h, p, h', rs, rh, e, q⟩ => by
    simp only [evI] at e
    obtain ⟨xs, h1, e1, e⟩ := bind_ok e
    split at e
    · split at e <;> cases e
      rename_i a b c hb
      have hB : bigR = 1000000 := rfl
      refine ⟨io, s, h, _, _, rs, rh, e1, fun io1 H1 vs ex1 rh1 rvs => ?_⟩
      cases rvs with
      | cons r1 rr =>
      obtain ⟨v, w, rfl, rv, rw'⟩ := rr.two
      cases r1; cases rv; cases rw'
      obtain ⟨_, _, _, _, rfl⟩ := hb
      exact ⟨a, b, -1, _, rfl, .neg (by omega) (by omega) (by omega) (by omega), q io1 H1 ex1 rh1 _ good_rangeC⟩
    · cases e
end
end PB

set_option Elab.async false
set_option linter.all false
set_option maxRecDepth 100000
set_option maxHeartbeats 2000000
namespace PB
open PySem PySem.Spec L2
section
variable {X : Cx} {fa : Nat → Option Addr} {cf : Nat → List PV → PH → Res PV} {K : PySem.W.Frag} {io io1 io2 : List Addr} {H H1 H2 : Hp} {h : PH}
/-! ### one list outside the pure heap is written -/
theorem Ext.notin (e : Ext io H io1 H1) {D : Addr} {o : HO} (n : D ∉ io) (hD : H D = some o) : D ∉ io1 := by
  obtain ⟨t, rfl, f⟩ := e.more
  intro hm
  rcases List.mem_append.mp hm with hm | hm
  · exact n hm
  · rw [f D hm] at hD; cases hD
mutual
theorem Rl.keep {D : Addr} {acc acc' : List V} (hD : H D = some (.lst acc)) : ∀ {v : V} {x : PV}, Rl K fa io H v x → Rl K fa io (upd H D (.lst acc')) v x
  | _, _, .non => .non
  | _, _, .bl b => .bl b
  | _, _, .int i => .int i
  | _, _, .str x => .str x
  | _, _, .tup h r => by
    refine .tup ?_ (Rls.keep hD r)
    rcases h with ⟨o, h, hd⟩ | h
    · exact .inl ⟨o, by rw [upd_ne (ne_of h hD (by intro z; cases z))]; exact h, hd⟩
    · exact .inr h
  | _, _, .wtup h r => by
    refine .wtup ?_ (Rls.keep hD r)
    rcases h with (h | ⟨o, h⟩) | h
    · exact .inl (.inl (by rw [upd_ne (ne_of h hD (by intro z; cases z))]; exact h))
    · exact .inl (.inr ⟨o, by rw [upd_ne (ne_of h hD (by intro z; cases z))]; exact h⟩)
    · exact .inr h
  | _, _, .scr h r => by
    refine .scr ?_ (Rls.keep hD r)
    rcases h with ⟨o, h⟩ | h
    · exact .inl ⟨o, by rw [upd_ne (ne_of h hD (by intro z; cases z))]; exact h⟩
    · exact .inr h
  | _, _, .ref h => .ref h
  | _, _, .fn h => .fn h
theorem Rls.keep {D : Addr} {acc acc' : List V} (hD : H D = some (.lst acc)) : ∀ {v : List V} {x : List PV}, Rls K fa io H v x → Rls K fa io (upd H D (.lst acc')) v x
  | _, _, .nil => .nil
  | _, _, .cons a r => .cons (Rl.keep hD a) (Rls.keep hD r)
end
mutual
theorem Rl.grow {t : List Addr} : ∀ {v : V} {x : PV}, Rl K fa io H v x → Rl K fa (io ++ t) H v x
  | _, _, .non => .non
  | _, _, .bl b => .bl b
  | _, _, .int i => .int i
  | _, _, .str x => .str x
  | _, _, .tup h r => .tup h (Rls.grow r)
  | _, _, .wtup h r => .wtup h (Rls.grow r)
  | _, _, .scr h r => .scr h (Rls.grow r)
  | _, _, .ref h => .ref (by rw [List.getElem?_append_left (List.getElem?_eq_some_iff.mp h).1]; exact h)
  | _, _, .fn h => .fn h
theorem Rls.grow {t : List Addr} : ∀ {v : List V} {x : List PV}, Rls K fa io H v x → Rls K fa (io ++ t) H v x
  | _, _, .nil => .nil
  | _, _, .cons a r => .cons (Rl.grow a) (Rls.grow r)
end
theorem RH.keep (r : RH K fa io H h) {D : Addr} {acc acc' : List V} (hD : H D = some (.lst acc)) (n : D ∉ io) : RH K fa io (upd H D (.lst acc')) h :=
  ⟨r.len, r.nd, fun m xs hx => by
    obtain ⟨a, vs, e1, e2, e3⟩ := r.cell m xs hx
    have na : a ≠ D := fun z => n (z ▸ List.mem_of_getElem? e1)
    exact ⟨a, vs, e1, by rw [upd_ne na]; exact e2, e3.keep hD⟩⟩
theorem Ext.keep (e : Ext io H io1 H1) {D : Addr} {acc : List V} (hD : H D = none) : Ext io H io1 (upd H1 D (.lst acc)) :=
  ⟨e.more, fun a o h hn => by rw [upd_ne (ne_of_none h hD)]; exact e.stay a o h hn, fun a h => by
    by_cases z : a = D
    · subst z; exact hD
    · rw [upd_ne z] at h; exact e.there a h⟩
/-- the list comes into the pure heap -/
theorem RH.adopt (r : RH K fa io H h) {D : Addr} {acc : List V} {ys : List PV} (hD : H D = some (.lst acc)) (n : D ∉ io) (rv : Rls K fa io H acc ys) : RH K fa (io ++ [D]) H (h ++ [.lst ys]) := by
  refine ⟨by simp [r.len], ?_, fun m xs hx => ?_⟩
  · rw [List.nodup_append]
    refine ⟨r.nd, by simp, fun a ha b hb => ?_⟩
    rw [List.mem_singleton] at hb
    subst hb
    rintro rfl
    exact n ha
  · by_cases hm : m < h.length
    · rw [List.getElem?_append_left hm] at hx
      obtain ⟨a, ws, e1, e2, e3⟩ := r.cell m xs hx
      exact ⟨a, ws, by rw [List.getElem?_append_left (by rw [r.len]; exact hm)]; exact e1, e2, e3.grow⟩
    · rw [List.getElem?_append_right (by omega)] at hx
      have hz : m - h.length = 0 := by
        rcases Nat.eq_zero_or_pos (m - h.length) with z | z
        · exact z
        · rw [List.getElem?_eq_none (by simp; omega)] at hx; cases hx
      rw [hz] at hx
      simp at hx
      subst hx
      refine ⟨D, acc, ?_, hD, rv.grow⟩
      rw [List.getElem?_append_right (by rw [r.len]; omega), r.len, hz]
      rfl
theorem Ext.adopt (e : Ext io H io1 H1) {D : Addr} (hD : H D = none) : Ext io H (io1 ++ [D]) H1 := by
  obtain ⟨t, rfl, f⟩ := e.more
  refine ⟨⟨t ++ [D], by simp, fun p hp => ?_⟩, e.stay, e.there⟩
  rcases List.mem_append.mp hp with hp | hp
  · exact f p hp
  · rw [List.mem_singleton] at hp; subst hp; exact hD

/-! ### the own slots -/
theorem wipe_len (s : Sl) : ∀ vs : List Nat, (PB.wipe s vs).length = s.length
  | [] => rfl
  | v :: vs => by unfold PB.wipe; rw [List.length_set, wipe_len s vs]
theorem wipe_get {s : Sl} {i : Nat} {x : PV} : ∀ {vs : List Nat}, (PB.wipe s vs)[i]? = some (some x) → s[i]? = some (some x) ∧ i ∉ vs
  | [], h => ⟨h, by simp⟩
  | v :: vs, h => by
    unfold PB.wipe at h
    by_cases hi : v = i
    · subst hi
      by_cases hv : v < (PB.wipe s vs).length
      · rw [List.getElem?_set_self hv] at h; cases h
      · rw [List.getElem?_eq_none (by simpa using hv)] at h; cases h
    · rw [List.getElem?_set_ne hi] at h
      obtain ⟨h1, h2⟩ := wipe_get h
      exact ⟨h1, by simp only [List.mem_cons, not_or]; exact ⟨fun e => hi e.symm, h2⟩⟩
theorem wipe_at {sg : L2.St} {i : Nat} : ∀ {vs : List Nat}, i ∉ vs → (L2.wipe sg vs)[i]? = sg[i]?
  | [], _ => rfl
  | v :: vs, h => by
    simp only [List.mem_cons, not_or] at h
    unfold L2.wipe
    rw [List.getElem?_set_ne (Ne.symm h.1)]
    exact wipe_at h.2
theorem wipe_in {sg : L2.St} {i : Nat} : ∀ {vs : List Nat}, i ∈ vs → i < sg.length → (L2.wipe sg vs)[i]? = some none
  | [], h, _ => by simp at h
  | v :: vs, h, hl => by
    unfold L2.wipe
    by_cases hi : v = i
    · subst hi
      rw [List.getElem?_set_self (by rw [wipe_length]; exact hl)]
    · rw [List.getElem?_set_ne hi]
      have : i ∈ vs := by
        rcases List.mem_cons.mp h with z | z
        · exact absurd z.symm hi
        · exact z
      exact wipe_in this hl
theorem wipe_same {sg sg2 : L2.St} {vs : List Nat} (hl : sg2.length = sg.length) (h : ∀ j, j ∉ vs → sg2[j]? = (L2.wipe sg vs)[j]?) : L2.wipe sg2 vs = L2.wipe sg vs := by
  apply List.ext_getElem?
  intro j
  by_cases hj : j ∈ vs
  · by_cases hlt : j < sg.length
    · rw [wipe_in hj hlt, wipe_in hj (by rw [hl]; exact hlt)]
    · rw [List.getElem?_eq_none (by rw [wipe_length]; omega), List.getElem?_eq_none (by rw [wipe_length]; omega)]
  · rw [wipe_at hj, h j hj]
theorem RS.wipe {sg : L2.St} {s : Sl} (rs : RS K fa io H sg s) (vs : List Nat) : RS K fa io H (L2.wipe sg vs) (PB.wipe s vs) :=
  ⟨by rw [wipe_length, wipe_len]; exact rs.len, fun i x h => by
    obtain ⟨h1, h2⟩ := wipe_get h
    obtain ⟨v, g1, g2⟩ := rs.at_ i x h1
    exact ⟨v, by rw [wipe_at h2]; exact g1, g2⟩⟩
mutual
theorem asT_len : ∀ {t : CT} {x : PV} {s : Sl} {h : PH} {s' : Sl} {h' : PH}, asT cf t x s h = .ok s' h' → s'.length = s.length
  | .v i, x, s, h, s', h', e => by simp only [asT] at e; cases e; exact List.length_set
  | .s o i, x, s, h, s', h', e => by
      simp only [asT] at e
      obtain ⟨_, _, _, e⟩ := bind_ok e
      obtain ⟨_, _, _, e⟩ := bind_ok e
      obtain ⟨_, _, _, e⟩ := bind_ok e
      cases e; rfl
  | .nil, x, s, h, s', h', e => by
      simp only [asT] at e
      split at e <;> cases e
      rfl
  | .cons a r, x, s, h, s', h', e => by
      simp only [asT] at e
      split at e
      · obtain ⟨s1, h1, e1, e⟩ := bind_ok e
        rw [asTs_slen e, asT_len e1]
      · obtain ⟨s1, h1, e1, e⟩ := bind_ok e
        rw [asTs_slen e, asT_len e1]
      · split at e
        · obtain ⟨s1, h1, e1, e⟩ := bind_ok e
          rw [asTs_slen e, asT_len e1]
        · cases e
      · cases e
theorem asTs_slen : ∀ {t : CT} {xs : List PV} {s : Sl} {h : PH} {s' : Sl} {h' : PH}, asTs cf t xs s h = .ok s' h' → s'.length = s.length
  | .v i, xs, s, h, s', h', e => by cases xs <;> simp only [asTs] at e <;> cases e
  | .s o i, xs, s, h, s', h', e => by cases xs <;> simp only [asTs] at e <;> cases e
  | .nil, xs, s, h, s', h', e => by cases xs <;> simp only [asTs] at e <;> cases e; rfl
  | .cons a r, xs, s, h, s', h', e => by
      cases xs with
      | nil => simp only [asTs] at e; cases e
      | cons x xs =>
        simp only [asTs] at e
        obtain ⟨s1, h1, e1, e⟩ := bind_ok e
        rw [asTs_slen e, asT_len e1]
end
end
end PB

set_option Elab.async false
set_option linter.all false
set_option maxRecDepth 100000
set_option maxHeartbeats 2000000
namespace PB
open PySem PySem.Spec L2
section
variable {X : Cx} {fa : Nat → Option Addr} {cf : Nat → List PV → PH → Res PV} {K : PySem.W.Frag} {io io1 io2 : List Addr} {H H1 H2 : Hp} {h : PH}
/-- a comprehension's condition -/
def tW (K : PySem.W.Frag) (fa : Nat → Option Addr) (cf : Nat → List PV → PH → Res PV) (c : CO) : TT := fun sg H Q => ∃ io s h t h' b, RS K fa io H sg s ∧ RH K fa io H h ∧ evO cf c s h = .ok t h' ∧ (t = none ∧ b = true ∨ t = some (.bl b)) ∧
  ∀ io' H', Ext io H io' H' → RH K fa io' H' h' → Q b H'
theorem wkPTs {e : List Expr} {t t' : TT} (h : PTs X e t) (w : ∀ sg H Q, t' sg H Q → t sg H Q) : PTs X e t' := ⟨fun pins s sg H Q I q => h.run pins s sg H Q I (w _ _ _ q)⟩
theorem w_nil : PTs X [] (tW X.K fa cf .none) := wkPTs pts_nil fun sg H Q ⟨io, s, h, t, h', b, rs, rh, e, hb, q⟩ => by
  simp only [evO] at e; cases e
  rcases hb with ⟨_, rfl⟩ | hb
  · exact q io H .refl rh
  · cases hb
theorem w_one {c : Expr} {cc : CE} (hc : PT X c (tT X.K fa cf cc)) : PTs X [c] (tW X.K fa cf (.some cc)) := wkPTs (pts_one hc) fun sg H Q ⟨io, s, h, t, h', b, rs, rh, e, hb, q⟩ => by
  simp only [evO] at e
  obtain ⟨x, h1, e1, e⟩ := bind_ok e
  cases e
  rcases hb with ⟨z, _⟩ | hb
  · cases z
  · cases hb; exact ⟨io, s, h, b, _, rs, rh, e1, q⟩
theorem compL_items {f : PV → PH → Res (Option PV)} {l : Lean_} : ∀ {xs : List PV} {h : PH} {ys : List PV} {h' : PH}, compL f l xs h = .ok ys h' → ys.length ≤ xs.length
  | [], h, ys, h', e => by simp only [compL] at e; split at e <;> cases e; simp
  | x :: r, h, ys, h', e => by
    simp only [compL] at e
    split at e
    · obtain ⟨y, h1, e1, e⟩ := bind_ok e
      obtain ⟨zs, h2, e2, e⟩ := bind_ok e
      have := compL_items e2
      cases e
      cases y <;> simp <;> omega
    · cases e
theorem comp_to {ce : CE} {own : List Nat} {ct : CT} {ci : CI} {co : CO} (hsub : ∀ j, j ∈ slots ct → j ∈ own) (sg : L2.St) (H : Hp) (Q : VK)
    (w : tE K fa cf (.comp ce own ct ci co) sg H Q) : tLc (tI K fa cf ci) (tG K fa cf ct) (tW K fa cf co) (tE K fa cf ce) own sg H Q := by
  obtain ⟨io, s, h, r, h', rs, rh, e, q⟩ := w
  simp only [evE] at e
  obtain ⟨p, h1, e1, e⟩ := bind_ok e
  by_cases hlen : p.1.length ≤ many
  case neg => rw [if_neg hlen] at e; cases e
  rw [if_pos hlen] at e
  obtain ⟨ys, h2, e2, e⟩ := bind_ok e
  refine ⟨io, s, h, p, h1, rs, rh, e1, fun io1 H1 ex1 rh1 J gd D hD => ?_⟩
  generalize hF : (fun (x : PV) (h2 : PH) => (asT cf ct x (PB.wipe s own) h2).bind fun s3 h3 => (evO cf co s3 h3).bind fun t h4 =>
        match t with
        | some (.bl false) => .ok none h4
        | some (.bl true) => (evE cf ce s3 h4).bind fun y h5 => .ok (some y) h5
        | none => (evE cf ce s3 h4).bind fun y h5 => .ok (some y) h5
        | _ => .bad) = F at e2
  have nD : D ∉ io1 := fun hm => by obtain ⟨vs, hv⟩ := rh1.mem hm; rw [hD] at hv; cases hv
  refine ⟨fun i m Hc => m = p.1.length - i ∧ i ≤ p.1.length ∧ ∃ ioc hc acc ys0 zs, Ext io1 H1 ioc Hc ∧ D ∉ ioc ∧ RH K fa ioc Hc hc ∧ Hc D = some (.lst acc) ∧ Rls K fa ioc Hc acc ys0 ∧
      compL F p.2 (p.1.drop i) hc = .ok zs h2 ∧ ys = ys0 ++ zs ∧ acc.length ≤ i,
    ⟨p.1.length, by simp, Nat.zero_le _, io1, h1, [], [], ys, Ext.refl.keep hD, nD, rh1.new hD, upd_same, .nil, by simpa using e2, rfl, Nat.zero_le _⟩, ?_⟩
  rintro i m Hc ⟨rfl, hi, ioc, hc, acc, ys0, zs, exc, nc, rhc, hDc, rac, ec, hys, hal⟩
  cases hd : p.1.drop i with
  | nil =>
    rw [hd] at ec
    simp only [compL] at ec
    by_cases hl : leans p.2 hc = true
    case neg => rw [if_neg hl] at ec; cases ec
    rw [if_pos hl] at ec
    have hgd := (gd ioc Hc hc exc rhc hl).2
    obtain ⟨rfl, rfl⟩ : zs = [] ∧ hc = h2 := by cases ec; exact ⟨rfl, rfl⟩
    have hli : i = p.1.length := by
      have := congrArg List.length hd
      simp at this; omega
    subst hli
    refine .inl ⟨hgd, ?_⟩
    unfold alloc at e
    cases e
    rw [List.append_nil] at hys
    subst hys
    exact q (ioc ++ [D]) Hc (.ref D) (ex1.trans (exc.adopt hD)) (rhc.adopt hDc nc rac) (.ref (by rw [List.getElem?_append_right (by rw [rhc.len]; exact Nat.le_refl _), rhc.len, Nat.sub_self]; rfl))
  | cons x rest =>
    have hx : p.1[i]? = some x := by
      have := congrArg (·[0]?) hd
      simpa using this
    have hrest : p.1.drop (i + 1) = rest := by
      have := congrArg (·.drop 1) hd
      simpa [List.drop_drop, Nat.add_comm] using this
    have hlt : i < p.1.length := (List.getElem?_eq_some_iff.mp hx).1
    rw [hd] at ec
    simp only [compL] at ec
    by_cases hl : leans p.2 hc = true
    case neg => rw [if_neg hl] at ec; cases ec
    rw [if_pos hl] at ec
    obtain ⟨y, h3, e3, ec⟩ := bind_ok ec
    obtain ⟨zs', h4, e4, ec⟩ := bind_ok ec
    obtain ⟨hgo, hyl⟩ := (gd ioc Hc hc exc rhc hl).1 i x hx
    have hz : zs = (match (generalizing := false) y with | some y => y :: zs' | none => zs') ∧ h4 = h2 := by cases ec; exact ⟨rfl, rfl⟩
    obtain ⟨hz, rfl⟩ := hz
    refine .inr ⟨hgo, _, fun H' w => ⟨p.1.length - (i + 1), by omega, w⟩, fun v H3 hy => ?_⟩
    obtain ⟨ex3, rh3, rv3⟩ := hyl v H3 hy
    have hD3 : H3 D = some (.lst acc) := ex3.stay _ _ hDc (.inl nc)
    rw [← hF] at e3
    simp only at e3
    obtain ⟨s3, h5, e5, e3⟩ := bind_ok e3
    obtain ⟨t, h6, e6, e3⟩ := bind_ok e3
    have rs3 := ((rs.mono ex1).mono (exc.trans ex3)).wipe own
    refine ⟨ioc, PB.wipe s own, hc, x, s3, h5, rs3, rh3, rv3, e5, fun io4 H4 sg4 ex4 rh4 rs4 kp => ?_⟩
    refine ⟨wipe_same (by rw [rs4.len, asT_len e5, wipe_len, rs.len]) fun j hj => kp j fun hm => hj (hsub j hm), ?_⟩
    have nD4 : D ∉ io4 := ex4.notin nc hD3
    have hD4 : H4 D = some (.lst acc) := ex4.stay _ _ hD3 (.inl nc)
    have key : ∀ b, (b = true → ∃ yy hh, evE cf ce s3 h6 = .ok yy hh ∧ y = some yy ∧ hh = h3) → (b = false → y = none ∧ h6 = h3) → ∀ io' H', Ext io4 H4 io' H' → RH K fa io' H' h6 →
        (if b = true then tE K fa cf ce sg4 H' fun y H4 => ∃ acc, H4 D = some (.lst acc) ∧ acc.length < sizeLine ∧ (p.1.length - (i + 1) = p.1.length - (i + 1) ∧ i + 1 ≤ p.1.length ∧ ∃ ioc hc acc' ys0 zs, Ext io1 H1 ioc (upd H4 D (.lst (acc ++ [y]))) ∧ D ∉ ioc ∧ RH K fa ioc (upd H4 D (.lst (acc ++ [y]))) hc ∧ (upd H4 D (.lst (acc ++ [y]))) D = some (.lst acc') ∧ Rls K fa ioc (upd H4 D (.lst (acc ++ [y]))) acc' ys0 ∧
      compL F p.2 (p.1.drop (i + 1)) hc = .ok zs h4 ∧ ys = ys0 ++ zs ∧ acc'.length ≤ i + 1) else (p.1.length - (i + 1) = p.1.length - (i + 1) ∧ i + 1 ≤ p.1.length ∧ ∃ ioc hc acc ys0 zs, Ext io1 H1 ioc H' ∧ D ∉ ioc ∧ RH K fa ioc H' hc ∧ H' D = some (.lst acc) ∧ Rls K fa ioc H' acc ys0 ∧
      compL F p.2 (p.1.drop (i + 1)) hc = .ok zs h4 ∧ ys = ys0 ++ zs ∧ acc.length ≤ i + 1)) := by
      intro b ht hf io' H' ex' rh'
      have n' : D ∉ io' := ex'.notin nD4 hD4
      have hD' : H' D = some (.lst acc) := ex'.stay _ _ hD4 (.inl nD4)
      have exT := ((exc.trans ex3).trans ex4).trans ex'
      cases b with
      | false =>
        obtain ⟨rfl, rfl⟩ := hf rfl
        simp only [Bool.false_eq_true, if_false]
        exact ⟨trivial, hlt, io', h6, acc, ys0, zs, exT, n', rh', hD', rac.mono ((ex3.trans ex4).trans ex'), by rw [hrest, e4, hz], hys, by omega⟩
      | true =>
        obtain ⟨yy, hh, ey, rfl, rfl⟩ := ht rfl
        simp only [if_true]
        refine ⟨io', s3, h6, yy, hh, rs4.mono ex', rh', ey, fun io5 H5 v5 ex5 rh5 rv5 => ?_⟩
        have n5 := ex5.notin n' hD'
        have hD5 : H5 D = some (.lst acc) := ex5.stay _ _ hD' (.inl n')
        refine ⟨acc, hD5, many_lt (Nat.lt_of_le_of_lt hal (Nat.lt_of_lt_of_le hlt hlen)), trivial, hlt, io5, hh, acc ++ [v5], ys0 ++ [yy], zs', (exT.trans ex5).keep hD, n5, rh5.keep hD5 n5, upd_same, ?_, by rw [hrest, e4], ?_, by simp; omega⟩
        · exact (((rac.mono ((ex3.trans ex4).trans ex')).mono ex5).keep hD5).append (.cons (rv5.keep hD5) .nil)
        · rw [hys, hz]; simp
    cases ht : t with
    | none =>
      subst ht
      simp only at e3
      obtain ⟨yy, h7, e7, e3⟩ := bind_ok e3
      cases e3
      exact ⟨io4, s3, h5, none, h6, true, rs4, rh4, e6, .inl ⟨rfl, rfl⟩, key true (fun _ => ⟨yy, _, e7, rfl, rfl⟩) fun z => nomatch z⟩
    | some tv =>
      subst ht
      cases tv <;> try (simp only at e3; cases e3; done)
      case bl b =>
        cases b with
        | false =>
          simp only at e3; cases e3
          exact ⟨io4, s3, h5, _, _, false, rs4, rh4, e6, .inr rfl, key false (fun z => nomatch z) fun _ => ⟨rfl, rfl⟩⟩
        | true =>
          simp only at e3
          obtain ⟨yy, h7, e7, e3⟩ := bind_ok e3
          cases e3
          exact ⟨io4, s3, h5, _, h6, true, rs4, rh4, e6, .inr rfl, key true (fun _ => ⟨yy, _, e7, rfl, rfl⟩) fun z => nomatch z⟩
variable {elt tg iter : Expr} {ifs : List Expr} {scope : Scope} {pos spos : Pos} {ce : CE} {ct : CT} {ci : CI} {co : CO}
theorem e_comp (own : List (Str × Nat)) (hc : X.calm = true) (hN : X.N.Nodup) (hi : PI X tg iter (tI X.K fa cf ci)) (ok : BlkOk X.N X.env.scope scope own)
    (hg : ∀ (s : Shared) (H : Hp) (C : Addr) (cl : List (Str × Addr)) (fp : List Addr), PG (X.blk s H scope (compEnvC scope cl C X.env) fp) tg (tG X.K fa cf ct))
    (ht : ∀ (s : Shared) (H : Hp) (C : Addr) (cl : List (Str × Addr)) (fp : List Addr), PTs (X.blk s H scope (compEnvC scope cl C X.env) fp) ifs (tW X.K fa cf co))
    (he : ∀ (s : Shared) (H : Hp) (C : Addr) (cl : List (Str × Addr)) (fp : List Addr), PE (X.blk s H scope (compEnvC scope cl C X.env) fp) elt (tE X.K fa cf ce))
    (hsub : ∀ j, j ∈ slots ct → j ∈ own.map (·.2) := by decide) (hs : ∀ x, foldedSetIterable iter X.env x = pure x := by intro _; rfl) :
    PE X (.ListComp elt [⟨tg, iter, ifs, 0⟩] scope pos) (tE X.K fa cf (.comp ce (own.map (·.2)) ct ci co)) :=
  wkE (pe_lc hc hN hi ok hg ht he hs) (comp_to hsub)
theorem s_setComp {i : Nat} {y : Str} {py : Pos} (own : List (Str × Nat)) (hc : X.calm = true) (hN : X.N.Nodup) (hy : X.N[i]? = some y) (hyl : X.env.scope.names.lookup y = some .local) (hi : PI X tg iter (tI X.K fa cf ci)) (ok : BlkOk X.N X.env.scope scope own)
    (hg : ∀ (s : Shared) (H : Hp) (C : Addr) (cl : List (Str × Addr)) (fp : List Addr), PG (X.blk s H scope (compEnvC scope cl C X.env) fp) tg (tG X.K fa cf ct))
    (ht : ∀ (s : Shared) (H : Hp) (C : Addr) (cl : List (Str × Addr)) (fp : List Addr), PTs (X.blk s H scope (compEnvC scope cl C X.env) fp) ifs (tW X.K fa cf co))
    (he : ∀ (s : Shared) (H : Hp) (C : Addr) (cl : List (Str × Addr)) (fp : List Addr), PE (X.blk s H scope (compEnvC scope cl C X.env) fp) elt (tE X.K fa cf ce))
    (hsw : swapsWith (.ListComp elt [⟨tg, iter, ifs, 0⟩] scope pos) (some (.Name y py)) spos.line X.env = pure true := by rfl)
    (hsub : ∀ j, j ∈ slots ct → j ∈ own.map (·.2) := by decide) (hs : ∀ x, foldedSetIterable iter X.env x = pure x := by intro _; rfl) :
    PS X (.Assign [.Name y py] (.ListComp elt [⟨tg, iter, ifs, 0⟩] scope pos) spos) (tS X.K fa cf (.asg (.v i) (.comp ce (own.map (·.2)) ct ci co))) :=
  wkS (ps_setLc hc hN hy hyl hsw hi ok hg ht he hs) fun D sg H ⟨io, s, h, f, h', rs, rh, e, q⟩ => by
    simp only [evS] at e
    obtain ⟨x, h1, e1, e⟩ := bind_ok e
    obtain ⟨s2, h2, e2, e⟩ := bind_ok e
    cases e
    simp only [asT] at e2
    cases e2
    exact comp_to (K := X.K) hsub sg H _ ⟨io, s, h, x, _, rs, rh, e1, fun io1 H1 v ex1 rh1 rv => q io1 H1 ex1 rh1 _ ((rs.mono ex1).set rv i)⟩
end
end PB

set_option Elab.async false
set_option linter.all false
set_option maxRecDepth 100000
set_option maxHeartbeats 2000000
namespace PB
open PySem PySem.Spec L2
section
variable {X : Cx} {fa : Nat → Option Addr} {cf : Nat → List PV → PH → Res PV} {K : PySem.W.Frag} {io io1 io2 : List Addr} {H H1 H2 : Hp} {h : PH}
  {a b c e tg : Expr} {es : List Expr} {st : Stmt} {sts sts' : List Stmt} {pos : Pos} {ca cb cc ce : CE} {cs : CA} {ct : CT} {st1 : CS} {b1 b2 : CB}
theorem fin.ext {D : Ends} {f : Fl} {h' : PH} (q : fin K fa io H D f h') (ex : Ext io H io1 H1) : fin K fa io1 H1 D f h' := fun io' H' ex' rh' => q io' H' (ex.trans ex') rh'
/-! ### blocks -/
theorem k_nil : PSs X [] (tK X.K fa cf .nil) := wkK pss_nil fun D sg H ⟨io, s, h, f, h', rs, rh, e, q⟩ => by
  simp only [evB] at e; cases e
  exact q io H .refl rh sg rs
theorem k_cons (h1 : PS X st (tS X.K fa cf st1)) (h2 : PSs X sts (tK X.K fa cf b1)) : PSs X (st :: sts) (tK X.K fa cf (.cons st1 b1)) := wkK (pss_cons h1 h2) fun D sg H ⟨io, s, h, f, h', rs, rh, e, q⟩ => by
  simp only [evB] at e
  obtain ⟨f1, h1, e1, e⟩ := bind_ok e
  refine ⟨io, s, h, f1, h1, rs, rh, e1, fun io1 H1 ex1 rh1 => ?_⟩
  cases f1 with
  | nx s2 => exact fun sg' rs' => ⟨io1, s2, h1, f, h', rs', rh1, e, q.ext ex1⟩
  | rt v => cases e; exact q io1 H1 ex1 rh1
  | bk s2 => cases e; exact q io1 H1 ex1 rh1
  | ct s2 => cases e; exact q io1 H1 ex1 rh1
/-! ### statements -/
theorem s_pass : PS X (.Pass pos) (tS X.K fa cf .pass) := wkS ps_pass fun D sg H ⟨io, s, h, f, h', rs, rh, e, q⟩ => by
  simp only [evS] at e; cases e
  exact q io H .refl rh sg rs
theorem s_doc {x j pos'} : PS X (.Expr (.Constant (.str x) j pos) pos') (tS X.K fa cf .pass) := wkS ps_doc fun D sg H ⟨io, s, h, f, h', rs, rh, e, q⟩ => by
  simp only [evS] at e; cases e
  exact q io H .refl rh sg rs
theorem s_brk : PS X (.Break pos) (tS X.K fa cf .brk) := wkS ps_break fun D sg H ⟨io, s, h, f, h', rs, rh, e, q⟩ => by
  simp only [evS] at e; cases e
  exact q io H .refl rh sg rs
theorem s_cnt : PS X (.Continue pos) (tS X.K fa cf .cnt) := wkS ps_continue fun D sg H ⟨io, s, h, f, h', rs, rh, e, q⟩ => by
  simp only [evS] at e; cases e
  exact q io H .refl rh sg rs
theorem s_expr (he : PE X e (tE X.K fa cf ce)) (hs : swapsWith e none pos.line X.env = pure false := by rfl) : PS X (.Expr e pos) (tS X.K fa cf (.expr ce)) := wkS (ps_expr he hs) fun D sg H ⟨io, s, h, f, h', rs, rh, e, q⟩ => by
  simp only [evS] at e
  obtain ⟨x, h1, e1, e⟩ := bind_ok e
  cases e
  exact ⟨io, s, h, x, _, rs, rh, e1, fun io1 H1 v ex1 rh1 rv => q io1 H1 ex1 rh1 sg (rs.mono ex1)⟩
theorem s_ret (he : PE X e (tE X.K fa cf ce)) : PS X (.Return (some e) pos) (tS X.K fa cf (.ret ce)) := wkS (ps_ret he) fun D sg H ⟨io, s, h, f, h', rs, rh, e, q⟩ => by
  simp only [evS] at e
  obtain ⟨x, h1, e1, e⟩ := bind_ok e
  cases e
  exact ⟨io, s, h, x, _, rs, rh, e1, fun io1 H1 v ex1 rh1 rv => q io1 H1 ex1 rh1 v rv⟩
theorem s_retN : PS X (.Return none pos) (tS X.K fa cf .retN) := wkS ps_retN fun D sg H ⟨io, s, h, f, h', rs, rh, e, q⟩ => by
  simp only [evS] at e; cases e
  exact q io H .refl rh .non .non
/-- a raise that the run never comes to -/
theorem s_raise {c : Nat} {es : CA} : PS X st (tS X.K fa cf (.raise c es)) := wkS ps_never fun D sg H ⟨io, s, h, f, h', rs, rh, e, q⟩ => by
  simp only [evS] at e
  obtain ⟨x, h1, e1, e⟩ := bind_ok e
  cases e
theorem s_set {i : Nat} {x : Str} {pos' : Pos} (hN : X.N.Nodup) (hi : X.N[i]? = some x) (hx : Loc X.env.scope x) (he : PE X e (tE X.K fa cf ce)) (hs : swapsWith e (some (.Name x pos')) pos.line X.env = pure false := by rfl)
    (hf : X.fn x = true ∨ X.env.scope.names.lookup x = some .local := by first | exact .inl rfl | exact .inr rfl | assumption) :
    PS X (.Assign [.Name x pos'] e pos) (tS X.K fa cf (.asg (.v i) ce)) := wkS (ps_set hN hi hx he hs hf) fun D sg H ⟨io, s, h, f, h', rs, rh, e, q⟩ => by
  simp only [evS] at e
  obtain ⟨x, h1, e1, e⟩ := bind_ok e
  obtain ⟨s2, h2, e2, e⟩ := bind_ok e
  cases e
  simp only [asT] at e2
  cases e2
  exact ⟨io, s, h, x, _, rs, rh, e1, fun io1 H1 v ex1 rh1 rv => q io1 H1 ex1 rh1 _ ((rs.mono ex1).set rv i)⟩
theorem s_asg (he : PE X e (tE X.K fa cf ce)) (hg : PG X tg (tG X.K fa cf ct)) (hs : swapsWithSole [tg] e pos.line X.env = pure false := by rfl) (hw : swappedStores [tg] e X.env = pure none := by rfl)
    (h1 : (assignEach [tg] X.env).map (·.2) = [assign tg X.env] := by rfl) : PS X (.Assign [tg] e pos) (tS X.K fa cf (.asg ct ce)) := wkS (ps_asg he hg hs hw h1) fun D sg H ⟨io, s, h, f, h', rs, rh, e, q⟩ => by
  simp only [evS] at e
  obtain ⟨x, h1, e1, e⟩ := bind_ok e
  obtain ⟨s2, h2, e2, e⟩ := bind_ok e
  cases e
  refine ⟨io, s, h, x, _, rs, rh, e1, fun io1 H1 v ex1 rh1 rv => ⟨io1, s, h1, x, s2, _, rs.mono ex1, rh1, rv, e2, fun io2 H2 sg2 ex2 rh2 rs2 _ => q io2 H2 (ex1.trans ex2) rh2 sg2 rs2⟩⟩
theorem s_par2 {i j : Nat} {x y : Str} {px py pt : Pos} {kt k2 pt2} (hc : X.calm = true) (hN : X.N.Nodup) (hi : X.N[i]? = some x) (hj : X.N[j]? = some y) (hij : i ≠ j)
    (hx : X.env.scope.names.lookup x = some .local) (hy : X.env.scope.names.lookup y = some .local) (ha : PA X [a, b] (tA X.K fa cf cs))
    (hw : swappedStores [.Tuple [.Name x px, .Name y py] kt pt] (.Tuple [a, b] k2 pt2) X.env = pure (some [x, y]) := by rfl)
    (hs : swapsWithSole [.Tuple [.Name x px, .Name y py] kt pt] (.Tuple [a, b] k2 pt2) pos.line X.env = pure false := by rfl) :
    PS X (.Assign [.Tuple [.Name x px, .Name y py] kt pt] (.Tuple [a, b] k2 pt2) pos) (tS X.K fa cf (.par [i, j] cs)) := wkS (ps_par hc hN hi hj hij hx hy ha hw hs) fun D sg H ⟨io, s, h, f, h', rs, rh, e, q⟩ => by
  simp only [evS] at e
  obtain ⟨xs, h1, e1, e⟩ := bind_ok e
  cases hs2 : setAll [i, j] xs s with
  | none => rw [hs2] at e; cases e
  | some s2 =>
    rw [hs2] at e
    cases e
    refine ⟨io, s, h, xs, _, rs, rh, e1, fun io1 H1 vs ex1 rh1 rvs => ?_⟩
    cases rvs with
    | nil => simp [setAll] at hs2
    | cons r1 rvs =>
    cases rvs with
    | nil => simp [setAll] at hs2
    | cons r2 rvs =>
    cases rvs with
    | cons _ _ => simp [setAll] at hs2
    | nil =>
    simp only [setAll, Option.some.injEq] at hs2
    subst hs2
    exact ⟨_, _, rfl, q io1 H1 ex1 rh1 _ (((rs.mono ex1).set r1 i).set r2 j)⟩
theorem s_par3 {i j l : Nat} {x y z : Str} {px py pz pt : Pos} {kt k2 pt2} (hc : X.calm = true) (hN : X.N.Nodup) (hi : X.N[i]? = some x) (hj : X.N[j]? = some y) (hl : X.N[l]? = some z) (hij : i ≠ j) (hil : i ≠ l) (hjl : j ≠ l)
    (hx : X.env.scope.names.lookup x = some .local) (hy : X.env.scope.names.lookup y = some .local) (hz : X.env.scope.names.lookup z = some .local) (ha : PA X [a, b, c] (tA X.K fa cf cs))
    (hw : swappedStores [.Tuple [.Name x px, .Name y py, .Name z pz] kt pt] (.Tuple [a, b, c] k2 pt2) X.env = pure (some [x, y, z]) := by rfl)
    (hs : swapsWithSole [.Tuple [.Name x px, .Name y py, .Name z pz] kt pt] (.Tuple [a, b, c] k2 pt2) pos.line X.env = pure false := by rfl) :
    PS X (.Assign [.Tuple [.Name x px, .Name y py, .Name z pz] kt pt] (.Tuple [a, b, c] k2 pt2) pos) (tS X.K fa cf (.par [i, j, l] cs)) := wkS (ps_par3 hc hN hi hj hl hij hil hjl hx hy hz ha hw hs) fun D sg H ⟨io, s, h, f, h', rs, rh, e, q⟩ => by
  simp only [evS] at e
  obtain ⟨xs, h1, e1, e⟩ := bind_ok e
  cases hs2 : setAll [i, j, l] xs s with
  | none => rw [hs2] at e; cases e
  | some s2 =>
    rw [hs2] at e
    cases e
    refine ⟨io, s, h, xs, _, rs, rh, e1, fun io1 H1 vs ex1 rh1 rvs => ?_⟩
    cases rvs with
    | nil => simp [setAll] at hs2
    | cons r1 rvs =>
    cases rvs with
    | nil => simp [setAll] at hs2
    | cons r2 rvs =>
    cases rvs with
    | nil => simp [setAll] at hs2
    | cons r3 rvs =>
    cases rvs with
    | cons _ _ => simp [setAll] at hs2
    | nil =>
    simp only [setAll, Option.some.injEq] at hs2
    subst hs2
    exact ⟨_, _, _, rfl, q io1 H1 ex1 rh1 _ ((((rs.mono ex1).set r1 i).set r2 j).set r3 l)⟩
theorem aug_of {i : Nat} {x : Str} {pos' : Pos} {op : Operator} {bo : BinO} {g : Int → Int → Int} (hp : PIp X op (ipI g)) (hb : ∀ i j h, binop bo (.int i) (.int j) h = .ok (.int (g i j)) h)
    (hN : X.N.Nodup) (hi : X.N[i]? = some x) (hx : Loc X.env.scope x) (he : PE X e (tE X.K fa cf ce)) (hf : X.fn x = true ∨ X.env.scope.names.lookup x = some .local) :
    PS X (.AugAssign (.Name x pos') op e pos) (tS X.K fa cf (.aug i bo ce)) := wkS (ps_aug hN hi hx he hp hf) fun D sg H ⟨io, s, h, f, h', rs, rh, e, q⟩ => by
  simp only [evS] at e
  cases hx : s[i]? with
  | none => rw [hx] at e; cases e
  | some ox =>
  cases ox with
  | none => rw [hx] at e; cases e
  | some x =>
    rw [hx] at e
    obtain ⟨y, h1, e1, e⟩ := bind_ok e
    split at e
    · rename_i hn
      obtain ⟨hn1, hn2⟩ := hn
      cases x <;> try (simp [isNum] at hn1; done)
      cases y <;> try (simp [isNum] at hn2; done)
      rename_i m n
      rw [hb] at e
      simp only [Res.bind] at e
      cases e
      obtain ⟨v, g1, g2⟩ := rs.at_ i _ hx
      cases g2
      refine ⟨_, g1, io, s, h, _, _, rs, rh, e1, fun io1 H1 v ex1 rh1 rv => ?_⟩
      cases rv
      exact ⟨_, _, rfl, rfl, q io1 H1 ex1 rh1 _ ((rs.mono ex1).set (.int _) i)⟩
    · cases e
theorem s_iadd {i : Nat} {x : Str} {pos' : Pos} (hN : X.N.Nodup) (hi : X.N[i]? = some x) (hx : Loc X.env.scope x) (he : PE X e (tE X.K fa cf ce)) (hf : X.fn x = true ∨ X.env.scope.names.lookup x = some .local := by first | exact .inl rfl | exact .inr rfl | assumption) :
    PS X (.AugAssign (.Name x pos') .Add e pos) (tS X.K fa cf (.aug i .add ce)) := aug_of ip_add (fun i j h => rfl) hN hi hx he hf
theorem s_isub {i : Nat} {x : Str} {pos' : Pos} (hN : X.N.Nodup) (hi : X.N[i]? = some x) (hx : Loc X.env.scope x) (he : PE X e (tE X.K fa cf ce)) (hf : X.fn x = true ∨ X.env.scope.names.lookup x = some .local := by first | exact .inl rfl | exact .inr rfl | assumption) :
    PS X (.AugAssign (.Name x pos') .Sub e pos) (tS X.K fa cf (.aug i .sub ce)) := aug_of ip_sub (fun i j h => rfl) hN hi hx he hf
theorem s_if (hc : PT X c (tT X.K fa cf cc)) (ha : PSs X sts (tK X.K fa cf b1)) (hb : PSs X sts' (tK X.K fa cf b2)) : PS X (.If c sts sts' pos) (tS X.K fa cf (.ifs cc b1 b2)) := wkS (ps_if hc ha hb) fun D sg H ⟨io, s, h, f, h', rs, rh, e, q⟩ => by
  simp only [evS] at e
  obtain ⟨x, h1, e1, e⟩ := bind_ok e
  cases x <;> try (cases e; done)
  rename_i bb
  refine ⟨io, s, h, bb, h1, rs, rh, e1, fun io1 H1 ex1 rh1 => ?_⟩
  cases bb with
  | true => exact ⟨io1, s, h1, f, h', rs.mono ex1, rh1, e, q.ext ex1⟩
  | false => exact ⟨io1, s, h1, f, h', rs.mono ex1, rh1, e, q.ext ex1⟩
theorem s_while (hp : PassesOwn (model X.prog X.w) X.A X.env X.xe) (hc : PT X c (tT X.K fa cf cc)) (hb : PSs X sts (tK X.K fa cf b1)) : PS X (.While c sts [] pos) (tS X.K fa cf (.whl cc b1)) := wkS (ps_while hp hc hb) fun D sg H ⟨io, s, h, f, h', rs, rh, e, q⟩ => by
  simp only [evS] at e
  generalize fuel = n at e
  refine ⟨fun m sg1 H1 => ∃ io1 s1 h1, Ext io H io1 H1 ∧ RS X.K fa io1 H1 sg1 s1 ∧ RH X.K fa io1 H1 h1 ∧ whL (evE cf cc) (evB cf b1) m s1 h1 = .ok f h', ⟨n, io, s, h, .refl, rs, rh, e⟩, ?_⟩
  rintro m sg1 H1 ⟨io1, s1, h1, ex1, rs1, rh1, e⟩
  cases m with
  | zero => simp only [whL] at e; cases e
  | succ m =>
    simp only [whL] at e
    obtain ⟨x, h2, e2, e⟩ := bind_ok e
    cases x <;> try (cases e; done)
    rename_i bb
    refine ⟨io1, s1, h1, bb, h2, rs1, rh1, e2, fun io2 H2 ex2 rh2 => ?_⟩
    cases bb with
    | false =>
      cases e
      exact q io2 H2 (ex1.trans ex2) rh2 sg1 (rs1.mono ex2)
    | true =>
      simp only [if_true]
      obtain ⟨f2, h3, e3, e⟩ := bind_ok e
      refine ⟨_, fun sg' H' w => ⟨m, Nat.lt_succ_self m, w⟩, io2, s1, h2, f2, h3, rs1.mono ex2, rh2, e3, fun io3 H3 ex3 rh3 => ?_⟩
      have exT := (ex1.trans ex2).trans ex3
      cases f2 with
      | nx s2 => exact fun sg' rs' => ⟨io3, s2, h3, exT, rs', rh3, e⟩
      | ct s2 => exact fun sg' rs' => ⟨io3, s2, h3, exT, rs', rh3, e⟩
      | bk s2 => cases e; exact q io3 H3 exT rh3
      | rt v => cases e; exact q io3 H3 exT rh3
theorem s_for {ci : CI} (hp : PassesOwn (model X.prog X.w) X.A X.env X.xe) (hc : X.calm = true) (hi : PI X tg e (tI X.K fa cf ci)) (hg : PG X tg (tG X.K fa cf ct)) (hb : PSs X sts (tK X.K fa cf b1))
    (hs : ∀ x, foldedSetIterable e X.env x = pure x := by intro _; rfl) : PS X (.For tg e sts [] pos) (tS X.K fa cf (.for_ ct ci b1)) := wkS (ps_for hp hc hi hg hb hs) fun D sg H ⟨io, s, h, f, h', rs, rh, e, q⟩ => by
  simp only [evS] at e
  obtain ⟨p, h1, e1, e⟩ := bind_ok e
  refine ⟨io, s, h, p, h1, rs, rh, e1, fun io1 H1 ex1 rh1 J gd => ?_⟩
  refine ⟨fun i m sg2 H2 => m = p.1.length - i ∧ i ≤ p.1.length ∧ ∃ io2 s2 h2, Ext io1 H1 io2 H2 ∧ RS X.K fa io2 H2 sg2 s2 ∧ RH X.K fa io2 H2 h2 ∧ frL (asT cf ct) (evB cf b1) p.2 (p.1.drop i) s2 h2 = .ok f h',
    ⟨p.1.length, by simp, Nat.zero_le _, io1, s, h1, .refl, rs.mono ex1, rh1, by simpa using e⟩, ?_⟩
  rintro i m sg2 H2 ⟨rfl, hi, io2, s2, h2, ex2, rs2, rh2, e⟩
  cases hd : p.1.drop i with
  | nil =>
    rw [hd] at e
    simp only [frL] at e
    by_cases hl : leans p.2 h2 = true
    case neg => rw [if_neg hl] at e; cases e
    rw [if_pos hl] at e
    have hgd := (gd io2 H2 h2 ex2 rh2 hl).2
    have hli : i = p.1.length := by
      have := congrArg List.length hd
      simp at this; omega
    subst hli
    cases e
    exact .inl ⟨hgd, q io2 H2 (ex1.trans ex2) rh2 sg2 rs2⟩
  | cons x rest =>
    have hx : p.1[i]? = some x := by
      have := congrArg (·[0]?) hd
      simpa using this
    have hrest : p.1.drop (i + 1) = rest := by
      have := congrArg (·.drop 1) hd
      simpa [List.drop_drop, Nat.add_comm] using this
    have hlt : i < p.1.length := (List.getElem?_eq_some_iff.mp hx).1
    rw [hd] at e
    simp only [frL] at e
    by_cases hl : leans p.2 h2 = true
    case neg => rw [if_neg hl] at e; cases e
    rw [if_pos hl] at e
    obtain ⟨s3, h3, e3, e⟩ := bind_ok e
    obtain ⟨f4, h4, e4, e⟩ := bind_ok e
    obtain ⟨hgo, hyl⟩ := (gd io2 H2 h2 ex2 rh2 hl).1 i x hx
    refine .inr ⟨hgo, _, fun sg' H' w => ⟨p.1.length - (i + 1), by omega, w⟩, fun v H3 hy => ?_⟩
    obtain ⟨ex3, rh3, rv3⟩ := hyl v H3 hy
    refine ⟨io2, s2, h2, x, s3, h3, rs2.mono ex3, rh3, rv3, e3, fun io4 H4 sg4 ex4 rh4 rs4 _ => ⟨io4, s3, h3, f4, h4, rs4, rh4, e4, fun io5 H5 ex5 rh5 => ?_⟩⟩
    have exT := ((ex2.trans ex3).trans ex4).trans ex5
    cases f4 with
    | nx s5 => exact fun sg' rs' => ⟨rfl, hlt, io5, s5, h4, exT, rs', rh5, by rw [hrest]; exact e⟩
    | ct s5 => exact fun sg' rs' => ⟨rfl, hlt, io5, s5, h4, exT, rs', rh5, by rw [hrest]; exact e⟩
    | bk s5 => cases e; exact q io5 H5 (ex1.trans exT) rh5
    | rt v => cases e; exact q io5 H5 (ex1.trans exT) rh5
end
end PB

set_option Elab.async false
set_option linter.all false
set_option maxRecDepth 100000
set_option maxHeartbeats 2000000
namespace PB
open PySem PySem.Spec PyProof.Rows L2 HT
section
variable {prog : Program} {w : World} {A : Around} {E : Value → Shared → Prop} {s : Shared}
theorem sliceApplied_rev {sl : Addr} {vs : Value} {n : Nat} {Q : Int × Int × Nat → Shared → Prop} (hs : s.heap.IsSliceOf sl .none .none vs) (ps : IsPart vs (some (-1)))
    (h : Q ((n : Int) - 1, -1, n) s) : wpAny (model prog w) A (Builtin.Slice.sliceApplied (.ref sl) (pure (n : Int))) Q E s := by
  obtain ⟨os, hos, hcs, hds⟩ := id hs
  unfold Builtin.Slice.sliceApplied Builtin.Slice.sliceFields
  refine wpAny_bind (wpAny_bind (wpAny_field hos hds (x := .none) rfl (wpAny_bind (wpAny_field hos hds (x := .none) rfl (wpAny_bind (wpAny_field hos hds (x := vs) rfl (wpAny_pure ?_)))))))
  refine wpAny_bind (slicePart_ ps ?_)
  show wpAny _ _ (if ((-1 : Int) == 0) = true then _ else _) _ _ s
  rw [if_neg (by decide)]
  refine wpAny_bind (slicePart_none (wpAny_bind (slicePart_none (wpAny_bind (wpAny_pure ?_)))))
  have e1 : Builtin.Slice.sliceAdjust none none (-1) (n : Int) = ((n : Int) - 1, -1) := rfl
  have e2 : Builtin.Slice.slicePlaces ((n : Int) - 1) (-1) (-1) = n := by
    unfold Builtin.Slice.slicePlaces
    have h1 : ¬ ((-1 : Int) > 0) := by omega
    have h2 : (- -1 : Int) = 1 := rfl
    simp only [h1, if_false, h2, Int.ediv_one]
    split <;> omega
  show wpAny _ _ (match Builtin.Slice.sliceAdjust none none (-1) (n : Int) with | (lo, hi) => pure (lo, (-1 : Int), Builtin.Slice.slicePlaces lo hi (-1))) _ _ s
  rw [e1]
  show wpAny _ _ (pure ((n : Int) - 1, (-1 : Int), Builtin.Slice.slicePlaces ((n : Int) - 1) (-1) (-1))) _ _ s
  rw [e2]
  exact wpAny_pure h
theorem pick_rev (xs : Array Value) : ((List.range xs.size).filterMap fun (k : Nat) => xs[(((xs.size : Int) - 1) + (k : Int) * (-1)).toNat]?).toArray = xs.toList.reverse.toArray := by
  have h := PySem.W.krv_all xs
  have e : (List.range xs.size).filterMap (fun (k : Nat) => xs[(((xs.size : Int) - 1) + (k : Int) * (-1)).toNat]?) = ((List.range xs.size).map (fun k => xs.size - 1 - k)).filterMap (xs[·]?) := by
    rw [List.filterMap_map]
    have key : ∀ l : List Nat, (∀ k ∈ l, k < xs.size) → l.filterMap (fun (k : Nat) => xs[(((xs.size : Int) - 1) + (k : Int) * (-1)).toNat]?) = l.filterMap ((fun x => xs[x]?) ∘ fun k => xs.size - 1 - k) := by
      intro l
      induction l with
      | nil => intro _; rfl
      | cons k l ih =>
        intro hl
        have hk := hl k (by simp)
        have e : (((xs.size : Int) - 1) + (k : Int) * (-1)).toNat = xs.size - 1 - k := by omega
        rw [List.filterMap_cons, List.filterMap_cons, ih fun j hj => hl j (by simp [hj]), e]; rfl
    exact key _ fun k hk => List.mem_range.mp hk
  rw [e, PySem.W.krv_range, List.filterMap_reverse, h]
theorem getItem_tuple_rev {t sl : Addr} {items : Array Value} {vs : Value} {Q : Value → Shared → Prop} (ht : IsTup s.heap t items) (hs : s.heap.IsSliceOf sl .none .none vs) (ps : IsPart vs (some (-1)))
    (h : Q (.ref s.heap.objs.size) { s with heap := s.heap.push { cls := .type "tuple", data := .seq items.toList.reverse.toArray } })
    (hsz : items.size ≤ sizeLine) : wpAny (model prog w) A (getItem (.ref t) (.ref sl)) Q E s := by
  have htake : sizeOk (.seq items.toList.reverse.toArray) := by
    show items.toList.reverse.toArray.size ≤ sizeLine
    simpa using hsz
  obtain ⟨os, hos, hcs, hds⟩ := id hs
  have hTs : s.TypeIs (.ref sl) "slice" := ⟨os, hos, hcs⟩
  unfold getItem
  try with_reducible refine wpAny_holding ?_
  first | refine wpAny_bind (wpAny_pure ?_) | skip
  refine wpAny_bind (wpAny_sequenceKey ht.typeIs (by decide) ?_)
  refine wpAny_bind (wpAny_callSpecial?_slot (name := Str.ofString "__getitem__") ht.typeIs PyProof.Rows.slot_tuple_getitem
    (wpAny_call_entry PyProof.Rows.slot_tuple_getitem ht.typeIs PyProof.Rows.entry_tuple_getitem ?_ (PyProof.Rows.args_tuple_getitem _ _)))
  show wpAny _ _ (Builtin.Tuple.tupleItemsOf (.ref t) >>= _) _ _ s
  refine wpAny_bind (tupleItemsOf_ ht ?_)
  refine wpAny_bind (wpAny_typeOf hTs ?_)
  rw [if_pos (by decide)]
  refine wpAny_bind (sliceApplied_rev hs ps ?_)
  have hno : ¬ ((((items.size : Int) - 1) == 0 && (-1 : Int) == 1 && items.size == items.size) = true) := by
    intro q
    rw [Bool.and_eq_true, Bool.and_eq_true] at q
    exact absurd q.1.2 (by decide)
  show wpAny _ _ (if (((items.size : Int) - 1) == 0 && (-1 : Int) == 1 && items.size == items.size) = true then _ else _) _ _ s
  rw [if_neg hno, pick_rev]
  first
    | exact wpAny_bind (m := Builtin.Tuple.tupleExact _) (wpAny_newObj_type (wpAny_pure ⟨_, rfl, wpAny_pure h⟩) htake)
    | exact wpAny_bind (m := Builtin.Tuple.tupleExact _) (wpAny_newObj_type (wpAny_bind (wpAny_pure (wpAny_pure ⟨_, rfl, wpAny_pure h⟩))) htake)
    | exact wpAny_bind (wpAny_bind (m := Builtin.Tuple.tupleExact _) (wpAny_newObj_type (wpAny_pure (wpAny_pure ⟨_, rfl, wpAny_pure h⟩)) htake))
    | exact wpAny_bind (wpAny_bind (m := Builtin.Tuple.tupleExact _) (wpAny_newObj_type (wpAny_pure ⟨_, rfl, wpAny_pure h⟩) htake))
end
section
variable {X : Cx} {fa : Nat → Option Addr} {cf : Nat → List PV → PH → Res PV}
def tRevA (K : PySem.W.Frag) (te : TE) : TE := fun σ H Q => te σ H fun x H1 => ∃ a xs, x = .ref a ∧ ((SqL K H1 a xs ∧ ∀ p, H1 p = none → Q (.ref p) (upd H1 p (.lst xs.reverse))) ∨ (SqT K H1 a xs ∧ NewT Q H1 xs.reverse))
theorem pe_revA {e : Expr} {te : TE} {k : Nat} {p1 p2 p3 pos : Pos} (he : PE X e te) : PE X (.Subscript e (.Slice none none (some (.UnaryOp .USub (.Constant (.int 1) k p1) p2)) p3) pos) (tRevA X.K te) := by
  refine ⟨fun pins s σ H Q I h => ?_⟩
  refine Subscript_ (thn (he.run pins s σ H _ I h) fun v s1 ⟨x, H1, I1, r1, q1⟩ => ?_)
  obtain ⟨a, xs, ex, q1⟩ := q1
  subst ex
  cases r1
  have hst : L2.PO X (some (.UnaryOp .USub (.Constant (.int 1) k p1) p2)) (tPart (tUn (rU fun i => .int (-i)) (tC (.int 1)))) := po_some (pe_un un_neg pe_int)
  refine wpAny_Slice (thn (po_none.run pins s1 σ H1 (fun o H2 => o = none ∧ H2 = H1) I1 ⟨rfl, rfl⟩) fun vl s2 ⟨l, H2, I2, pl, el, e2⟩ => ?_)
  subst el e2
  refine thn (po_none.run pins s2 σ H2 (fun o H3 => o = none ∧ H3 = H2) I2 ⟨rfl, rfl⟩) fun vu s3 ⟨u, H3, I3, pu, eu, e3⟩ => ?_
  subst eu e3
  refine thn (hst.run pins s3 σ H3 (fun o H4 => o = some (-1) ∧ H4 = H3) I3 ⟨1, rfl, -1, rfl, rfl, rfl⟩) fun vs s4 ⟨o, H4, I4, ps, eo, e4⟩ => ?_
  subst eo e4
  have I5 : Inv X pins σ H4 { s4 with heap := s4.heap.push { cls := .type "slice", data := .fields #[vl, vu, vs] } } := I4.kept (t' := s4.toks) fun b ob q => Heap.get?_push_of_some _ q
  show wpAny (model X.prog X.w) X.A (subscriptTail e (.Slice none none (some (.UnaryOp .USub (.Constant (.int 1) k p1) p2)) p3) (.ref a) (.ref s4.heap.objs.size)) (EP X pins σ Q) X.xe { s4 with heap := s4.heap.push { cls := .type "slice", data := .fields #[vl, vu, vs] } }
  rcases q1 with ⟨hx, q⟩ | ⟨hx, q⟩
  · obtain ⟨its, r, ht, hz⟩ := I5.list hx
    have hlen := r.length
    refine tail_any (ops := [.ref a, .ref s4.heap.objs.size]) ht.isList.typeIs (PySem.slot_list_getitem.lookup) ?_ (by with_unfolding_all rfl)
    refine wpAny_getItem_list_slice ht.isList (Heap.IsSliceOf.new _ vl vu vs) pl pu ps (by decide) ?_ (by rw [List.size_toArray]; omega)
    rw [PySem.W.krv_pick]
    refine ⟨.ref _, _, I5.laid (t' := s4.toks) (o := .lst xs.reverse) (fun b ob q => Heap.get?_push_of_some _ q) (Nat.le_refl _) ?_, rfl, q _ (I5.hok.fresh (Nat.le_refl _))⟩
    exact ⟨by rw [List.length_reverse]; exact hz, _, 0, r.reverse, Heap.get?_push_size _ rfl⟩
  · obtain ⟨its, r, ht, hz⟩ := I5.tuple hx
    have hlen := r.length
    cases pl
    cases pu
    refine tail_any (ops := [.ref a, .ref s4.heap.objs.size]) ht.typeIs (PyProof.Rows.slot_tuple_getitem.lookup) ?_ (by with_unfolding_all rfl)
    refine getItem_tuple_rev ht (Heap.IsSliceOf.new _ .none .none vs) ps ?_ (by rw [List.size_toArray]; omega)
    exact laid_tup I5 (by rw [List.length_reverse]; exact hz) r.reverse q
theorem e_rev {e : Expr} {ce : CE} {k : Nat} {p1 p2 p3 pos : Pos} (he : PE X e (tE X.K fa cf ce)) : PE X (.Subscript e (.Slice none none (some (.UnaryOp .USub (.Constant (.int 1) k p1) p2)) p3) pos) (tE X.K fa cf (.rev ce)) :=
  wkE (pe_revA he) fun sg H Q ⟨io, s, h, r, h', rs, rh, e, q⟩ => by
    simp only [evE] at e
    obtain ⟨x, h1, e1, e⟩ := bind_ok e
    refine ⟨io, s, h, x, h1, rs, rh, e1, fun io1 H1 v ex1 rh1 rv => ?_⟩
    unfold revop at e
    split at e
    · rename_i xs
      cases e
      cases rv with
      | @tup a vs _ sq rr => exact ⟨a, vs, rfl, .inr ⟨sq.t, tup_ok rh1 rr.reverse fun io' H' v ex2 rh2 rv2 => q io' H' v (ex1.trans ex2) rh2 rv2⟩⟩
    · rename_i n
      split at e
      · rename_i xs hx
        obtain ⟨a, vs, rfl, _, ha, rr⟩ := rh1.list rv hx
        exact ⟨a, vs, rfl, .inl ⟨.inl (.inl ha), alloc_ok rh1 rr.reverse e fun io' H' v ex2 rh2 rv2 => q io' H' v (ex1.trans ex2) rh2 rv2⟩⟩
      · cases e
    · cases e
end
end PB

set_option Elab.async false
set_option linter.all false
set_option maxRecDepth 100000
set_option maxHeartbeats 2000000
namespace PB
open PySem PySem.Spec PyProof.Rows L2 HT
theorem seconds_range {α : Type} : ∀ (xs : List α), (List.range ((xs.length + 1) / 2)).filterMap (fun k => xs[2 * k]?) = seconds xs
  | [] => by simp [seconds]
  | [x] => by simp [seconds, List.range_succ]
  | x :: y :: r => by
    have e : ((x :: y :: r).length + 1) / 2 = (r.length + 1) / 2 + 1 := by simp only [List.length_cons]; omega
    rw [e, List.range_succ_eq_map, List.filterMap_cons, List.filterMap_map]
    have ih := seconds_range r
    show x :: _ = x :: seconds r
    rw [← ih]
    refine congrArg (x :: ·) ?_
    have key : ∀ l : List Nat, l.filterMap ((fun k => (x :: y :: r)[2 * k]?) ∘ Nat.succ) = l.filterMap (fun k => r[2 * k]?) := by
      intro l
      induction l with
      | nil => rfl
      | cons k l ih =>
        have e2 : 2 * Nat.succ k = 2 * k + 1 + 1 := by omega
        rw [List.filterMap_cons, List.filterMap_cons, ih]
        simp only [Function.comp, e2, List.getElem?_cons_succ]
    exact key _
theorem seconds_length {α : Type} : ∀ (xs : List α), (seconds xs).length = (xs.length + 1) / 2
  | [] => by simp [seconds]
  | [x] => by simp [seconds]
  | x :: y :: r => by simp only [seconds, List.length_cons, seconds_length r]; omega
theorem seconds_mem {α : Type} : ∀ (xs : List α), ∀ x ∈ seconds xs, x ∈ xs
  | [], x, h => by simp [seconds] at h
  | [y], x, h => by simpa [seconds] using h
  | a :: b :: r, x, h => by
    simp only [seconds, List.mem_cons] at h
    rcases h with h | h
    · simp [h]
    · simp [seconds_mem r x h]
theorem pick_two (xs : Array Value) (k : Nat) : ((List.range ((xs.size - k + 1) / 2)).filterMap fun (j : Nat) => xs[((k : Int) + (j : Int) * 2).toNat]?).toArray = (seconds (xs.toList.drop k)).toArray := by
  have h := seconds_range (xs.toList.drop k)
  rw [List.length_drop, Array.length_toList] at h
  rw [← h]
  congr 1
  have key : ∀ l : List Nat, l.filterMap (fun (j : Nat) => xs[((k : Int) + (j : Int) * 2).toNat]?) = l.filterMap (fun j => (xs.toList.drop k)[2 * j]?) := by
    intro l
    induction l with
    | nil => rfl
    | cons j l ih =>
      have e : ((k : Int) + (j : Int) * 2).toNat = k + 2 * j := by omega
      rw [List.filterMap_cons, List.filterMap_cons, ih, e, List.getElem?_drop, Array.getElem?_toList]
  exact key _
theorem Vals.drop' {xs : List V} {vs : List Value} (h : Vals xs vs) : ∀ k, Vals (xs.drop k) (vs.drop k) := by
  induction h with
  | nil => intro k; cases k <;> exact .nil
  | cons a r ih =>
    intro k
    cases k with
    | zero => exact .cons a r
    | succ k => exact ih k
theorem Vals.seconds' : ∀ {xs : List V} {vs : List Value}, Vals xs vs → Vals (seconds xs) (seconds vs)
  | _, _, .nil => .nil
  | _, _, .cons a .nil => .cons a .nil
  | _, _, .cons a (.cons b r) => .cons a (Vals.seconds' r)
section
variable {prog : Program} {w : World} {A : Around} {E : Value → Shared → Prop} {s : Shared}
theorem sliceApplied_two {sl : Addr} {vl vs : Value} {lo : Option Int} {n : Nat} {Q : Int × Int × Nat → Shared → Prop} (hs : s.heap.IsSliceOf sl vl .none vs) (pl : IsPart vl lo) (ps : IsPart vs (some 2)) (h0 : 0 ≤ lo.getD 0)
    (h : Q (((min (lo.getD 0).toNat n : Nat) : Int), 2, (n - min (lo.getD 0).toNat n + 1) / 2) s) : wpAny (model prog w) A (Builtin.Slice.sliceApplied (.ref sl) (pure (n : Int))) Q E s := by
  obtain ⟨os, hos, hcs, hds⟩ := id hs
  unfold Builtin.Slice.sliceApplied Builtin.Slice.sliceFields
  refine wpAny_bind (wpAny_bind (wpAny_field hos hds (x := vl) rfl (wpAny_bind (wpAny_field hos hds (x := .none) rfl (wpAny_bind (wpAny_field hos hds (x := vs) rfl (wpAny_pure ?_)))))))
  refine wpAny_bind (slicePart_ ps ?_)
  show wpAny _ _ (if ((2 : Int) == 0) = true then _ else _) _ _ s
  rw [if_neg (by decide)]
  refine wpAny_bind (slicePart_ pl (wpAny_bind (slicePart_none (wpAny_bind (wpAny_pure ?_)))))
  have e1 : Builtin.Slice.sliceAdjust lo none 2 (n : Int) = (((min (lo.getD 0).toNat n : Nat) : Int), (n : Int)) := by
    unfold Builtin.Slice.sliceAdjust
    cases lo with
    | none =>
      show ((0 : Int), (n : Int)) = _
      have : (Option.getD (none : Option Int) 0).toNat = 0 := rfl
      rw [this, Nat.zero_min]; rfl
    | some v =>
      have h0' : 0 ≤ v := h0
      have hn : ¬ v < 0 := by omega
      have h2 : ¬ ((2 : Int) < 0) := by omega
      simp only [h2, hn, if_false, Option.getD_some, Prod.mk.injEq, and_true]
      omega
  have e2 : Builtin.Slice.slicePlaces ((min (lo.getD 0).toNat n : Nat) : Int) (n : Int) 2 = (n - min (lo.getD 0).toNat n + 1) / 2 := by
    unfold Builtin.Slice.slicePlaces
    have h1 : (2 : Int) > 0 := by omega
    simp only [h1, if_true]
    split <;> omega
  show wpAny _ _ (match Builtin.Slice.sliceAdjust lo none 2 (n : Int) with | (lo, hi) => pure (lo, (2 : Int), Builtin.Slice.slicePlaces lo hi 2)) _ _ s
  rw [e1]
  show wpAny _ _ (pure (((min (lo.getD 0).toNat n : Nat) : Int), (2 : Int), Builtin.Slice.slicePlaces ((min (lo.getD 0).toNat n : Nat) : Int) (n : Int) 2)) _ _ s
  rw [e2]
  exact wpAny_pure h
theorem getItem_tuple_two {t sl : Addr} {items : Array Value} {vl vs : Value} {lo : Option Int} {Q : Value → Shared → Prop} (ht : IsTup s.heap t items) (hs : s.heap.IsSliceOf sl vl .none vs) (pl : IsPart vl lo) (ps : IsPart vs (some 2)) (h0 : 0 ≤ lo.getD 0)
    (h : Q (.ref s.heap.objs.size) { s with heap := s.heap.push { cls := .type "tuple", data := .seq (seconds (items.toList.drop (lo.getD 0).toNat)).toArray } })
    (hsz : items.size ≤ sizeLine) : wpAny (model prog w) A (getItem (.ref t) (.ref sl)) Q E s := by
  have htake : sizeOk (.seq (seconds (items.toList.drop (lo.getD 0).toNat)).toArray) := by
    show (seconds (items.toList.drop (lo.getD 0).toNat)).toArray.size ≤ sizeLine
    rw [List.size_toArray, seconds_length, List.length_drop, Array.length_toList]
    omega
  obtain ⟨os, hos, hcs, hds⟩ := id hs
  have hTs : s.TypeIs (.ref sl) "slice" := ⟨os, hos, hcs⟩
  unfold getItem
  try with_reducible refine wpAny_holding ?_
  first | refine wpAny_bind (wpAny_pure ?_) | skip
  refine wpAny_bind (wpAny_sequenceKey ht.typeIs (by decide) ?_)
  refine wpAny_bind (wpAny_callSpecial?_slot (name := Str.ofString "__getitem__") ht.typeIs PyProof.Rows.slot_tuple_getitem
    (wpAny_call_entry PyProof.Rows.slot_tuple_getitem ht.typeIs PyProof.Rows.entry_tuple_getitem ?_ (PyProof.Rows.args_tuple_getitem _ _)))
  show wpAny _ _ (Builtin.Tuple.tupleItemsOf (.ref t) >>= _) _ _ s
  refine wpAny_bind (tupleItemsOf_ ht ?_)
  refine wpAny_bind (wpAny_typeOf hTs ?_)
  rw [if_pos (by decide)]
  refine wpAny_bind (sliceApplied_two hs pl ps h0 ?_)
  have hno : ¬ ((((min (lo.getD 0).toNat items.size : Nat) : Int) == 0 && (2 : Int) == 1 && (items.size - min (lo.getD 0).toNat items.size + 1) / 2 == items.size) = true) := by
    intro q
    rw [Bool.and_eq_true, Bool.and_eq_true] at q
    exact absurd q.1.2 (by decide)
  show wpAny _ _ (if (((min (lo.getD 0).toNat items.size : Nat) : Int) == 0 && (2 : Int) == 1 && (items.size - min (lo.getD 0).toNat items.size + 1) / 2 == items.size) = true then _ else _) _ _ s
  rw [if_neg hno, pick_two]
  have hd : items.toList.drop (min (lo.getD 0).toNat items.size) = items.toList.drop (lo.getD 0).toNat := by
    rcases Nat.le_total (lo.getD 0).toNat items.size with z | z
    · rw [Nat.min_eq_left z]
    · rw [Nat.min_eq_right z, List.drop_eq_nil_of_le (by rw [Array.length_toList]; omega), List.drop_eq_nil_of_le (by rw [Array.length_toList]; omega)]
  rw [hd]
  first
    | exact wpAny_bind (m := Builtin.Tuple.tupleExact _) (wpAny_newObj_type (wpAny_pure ⟨_, rfl, wpAny_pure h⟩) htake)
    | exact wpAny_bind (m := Builtin.Tuple.tupleExact _) (wpAny_newObj_type (wpAny_bind (wpAny_pure (wpAny_pure ⟨_, rfl, wpAny_pure h⟩))) htake)
    | exact wpAny_bind (wpAny_bind (m := Builtin.Tuple.tupleExact _) (wpAny_newObj_type (wpAny_pure (wpAny_pure ⟨_, rfl, wpAny_pure h⟩)) htake))
    | exact wpAny_bind (wpAny_bind (m := Builtin.Tuple.tupleExact _) (wpAny_newObj_type (wpAny_pure ⟨_, rfl, wpAny_pure h⟩) htake))
end
section
variable {X : Cx} {fa : Nat → Option Addr} {cf : Nat → List PV → PH → Res PV}
def tTwoA (K : PySem.W.Frag) (te : TE) (tl : L2.TO) : TE := fun σ H Q => te σ H fun x H1 => tl σ H1 fun l H2 => 0 ≤ l.getD 0 ∧ ∃ a xs, x = .ref a ∧ SqT K H2 a xs ∧ NewT Q H2 (seconds (xs.drop (l.getD 0).toNat))
theorem pe_twoA {e : Expr} {lo : Option Expr} {te : TE} {tl : L2.TO} {k : Nat} {p1 p3 pos : Pos} (he : PE X e te) (hl : L2.PO X lo tl) : PE X (.Subscript e (.Slice lo none (some (.Constant (.int 2) k p1)) p3) pos) (tTwoA X.K te tl) := by
  refine ⟨fun pins s σ H Q I h => ?_⟩
  refine Subscript_ (thn (he.run pins s σ H _ I h) fun v s1 ⟨x, H1, I1, r1, q1⟩ => ?_)
  have hst : L2.PO X (some (.Constant (.int 2) k p1)) (tPart (tC (.int 2))) := po_some pe_int
  refine wpAny_Slice (thn (hl.run pins s1 σ H1 _ I1 q1) fun vl s2 ⟨l, H2, I2, pl, q2⟩ => ?_)
  obtain ⟨h0, a, xs, ex, hx, q⟩ := q2
  subst ex
  cases r1
  refine thn (po_none.run pins s2 σ H2 (fun o H3 => o = none ∧ H3 = H2) I2 ⟨rfl, rfl⟩) fun vu s3 ⟨u, H3, I3, pu, eu, e3⟩ => ?_
  subst eu e3
  refine thn (hst.run pins s3 σ H3 (fun o H4 => o = some 2 ∧ H4 = H3) I3 ⟨2, rfl, rfl, rfl⟩) fun vs s4 ⟨o, H4, I4, ps, eo, e4⟩ => ?_
  subst eo e4
  have I5 : Inv X pins σ H4 { s4 with heap := s4.heap.push { cls := .type "slice", data := .fields #[vl, vu, vs] } } := I4.kept (t' := s4.toks) fun b ob q => Heap.get?_push_of_some _ q
  show wpAny (model X.prog X.w) X.A (subscriptTail e (.Slice lo none (some (.Constant (.int 2) k p1)) p3) (.ref a) (.ref s4.heap.objs.size)) (EP X pins σ Q) X.xe { s4 with heap := s4.heap.push { cls := .type "slice", data := .fields #[vl, vu, vs] } }
  obtain ⟨its, r, ht, hz⟩ := I5.tuple hx
  have hlen := r.length
  cases pu
  refine tail_any (ops := [.ref a, .ref s4.heap.objs.size]) ht.typeIs (PyProof.Rows.slot_tuple_getitem.lookup) ?_ (by with_unfolding_all rfl)
  refine getItem_tuple_two ht (Heap.IsSliceOf.new _ vl .none vs) pl ps h0 ?_ (by rw [List.size_toArray]; omega)
  refine laid_tup I5 ?_ (Vals.seconds' (Vals.drop' r _)) q
  rw [seconds_length, List.length_drop]; omega
theorem Rls.seconds {K : PySem.W.Frag} {io : List Addr} {H : Hp} : ∀ {vs : List V} {xs : List PV}, Rls K fa io H vs xs → Rls K fa io H (PB.seconds vs) (PB.seconds xs)
  | _, _, .nil => .nil
  | _, _, .cons a .nil => .cons a .nil
  | _, _, .cons a (.cons b r) => .cons a (Rls.seconds r)
theorem e_two {e : Expr} {lo : Option Expr} {ce : CE} {cl : CO} {k : Nat} {p1 p3 pos : Pos} (he : PE X e (tE X.K fa cf ce)) (hl : L2.PO X lo (tO X.K fa cf cl)) : PE X (.Subscript e (.Slice lo none (some (.Constant (.int 2) k p1)) p3) pos) (tE X.K fa cf (.two ce cl)) :=
  wkE (pe_twoA he hl) fun sg H Q ⟨io, s, h, r, h', rs, rh, e, q⟩ => by
    simp only [evE] at e
    obtain ⟨x, h1, e1, e⟩ := bind_ok e
    obtain ⟨l, h2, e2, e⟩ := bind_ok e
    obtain ⟨l', h4, e4, ef⟩ := bind_ok e
    have z4 := optI_ok e4
    subst z4
    clear e
    refine ⟨io, s, h, x, h1, rs, rh, e1, fun io1 H1 v ex1 rh1 rv => ⟨io1, s, h1, l, l', _, rs.mono ex1, rh1, e2, e4, fun io2 H2 ex2 rh2 => ?_⟩⟩
    unfold twoop at ef
    split at ef
    · rename_i xs
      by_cases h0 : 0 ≤ l'.getD 0
      · rw [if_pos h0] at ef
        cases ef
        cases rv with
        | @tup a vs _ sq rr =>
        exact ⟨h0, a, vs, rfl, ex2.sqT sq.t, tup_ok rh2 (((rr.mono ex2).drop _).seconds) fun io' H' v ex3 rh3 rv3 => q io' H' v ((ex1.trans ex2).trans ex3) rh3 rv3⟩
      · rw [if_neg h0] at ef; cases ef
    · cases ef
end
end PB

set_option Elab.async false
set_option linter.all false
set_option maxRecDepth 100000
set_option maxHeartbeats 2000000
namespace PB
open PySem PySem.Spec L2
section
variable {X : Cx} {fa : Nat → Option Addr} {cf : Nat → List PV → PH → Res PV} {e o a b : Expr} {es : List Expr} {ce co : CE} {cs : CA} {pos p apos cpos : Pos} {T id : String} {name : Str}
/-! ### isinstance -/
theorem kindOf_ty {io : List Addr} {H : Hp} {h : PH} {v : V} {x : PV} {k : Nat} (rh : RH X.K fa io H h) (rv : Rl X.K fa io H v x) (e : kindOf h x = some k) :
    ∃ T, (T, k) ∈ [("NoneType", 0), ("bool", 1), ("int", 2), ("str", 3), ("tuple", 4), ("list", 5)] ∧ TyX X.K H v (.type T) := by
  cases rv with
  | non => simp only [kindOf] at e; cases e; exact ⟨"NoneType", by simp, .base .non⟩
  | bl b => simp only [kindOf] at e; cases e; exact ⟨"bool", by simp, .base (.bl b)⟩
  | int i => simp only [kindOf] at e; cases e; exact ⟨"int", by simp, .base (.int i)⟩
  | str x => simp only [kindOf] at e; cases e; exact ⟨"str", by simp, .base (.str x)⟩
  | tup sq r =>
    simp only [kindOf] at e; cases e
    refine ⟨"tuple", by simp, ?_⟩
    rcases sq with ⟨o, h, _⟩ | ⟨o, its, n, h1, h2, _⟩
    · exact .fTuple h
    · exact .kTuple h1 h2
  | wtup _ _ => simp only [kindOf] at e; cases e
  | scr _ _ => simp only [kindOf] at e; cases e
  | fn _ => simp only [kindOf] at e; cases e
  | @ref a n hn =>
    simp only [kindOf] at e
    split at e <;> cases e
    rename_i hx
    obtain ⟨b, vs, e1, e2, _⟩ := rh.cell _ _ hx
    rw [hn] at e1; cases e1
    exact ⟨"list", by simp, .base (.lst e2)⟩
/-- the class that is asked for, and the answer by kind -/
def isiB (f : Blt) : List String := match f with
  | .isInt => ["int"] | .isBool => ["bool"] | .isTup => ["tuple"] | .isStr => ["str"] | .isList => ["list"] | _ => []
def isiAns (f : Blt) (k : Nat) : Bool := match f with
  | .isInt => k == 2 || k == 1 | .isBool => k == 1 | .isTup => k == 4 | .isStr => k == 3 | .isList => k == 5 | _ => false
theorem kitB_int : ∀ q ∈ [("NoneType", 0), ("bool", 1), ("int", 2), ("str", 3), ("tuple", 4), ("list", 5)], kitB q.1 "int" = some (isiAns .isInt q.2) := by decide +kernel
theorem kitB_bool : ∀ q ∈ [("NoneType", 0), ("bool", 1), ("int", 2), ("str", 3), ("tuple", 4), ("list", 5)], kitB q.1 "bool" = some (isiAns .isBool q.2) := by decide +kernel
theorem kitB_tup : ∀ q ∈ [("NoneType", 0), ("bool", 1), ("int", 2), ("str", 3), ("tuple", 4), ("list", 5)], kitB q.1 "tuple" = some (isiAns .isTup q.2) := by decide +kernel
theorem kitB_str : ∀ q ∈ [("NoneType", 0), ("bool", 1), ("int", 2), ("str", 3), ("tuple", 4), ("list", 5)], kitB q.1 "str" = some (isiAns .isStr q.2) := by decide +kernel
theorem kitB_list : ∀ q ∈ [("NoneType", 0), ("bool", 1), ("int", 2), ("str", 3), ("tuple", 4), ("list", 5)], kitB q.1 "list" = some (isiAns .isList q.2) := by decide +kernel
theorem isi_of {f : Blt} {c : Str} {C : String} {p2 : Pos} (hB : ∀ q ∈ [("NoneType", 0), ("bool", 1), ("int", 2), ("str", 3), ("tuple", 4), ("list", 5)], kitB q.1 C = some (isiAns f q.2))
    (hf : ∀ x h, blt f [x] h = match kindOf h x with | some k => .ok (.bl (isiAns f k)) h | none => .bad)
    (hg : Gl X "isinstance") (hm : X.mg "isinstance" = none) (hg2 : Gl X c) (hm2 : X.mg c = none) (hv : bootBuiltins c = some (.type C)) (hn : c ≠ "__name__") (hd : (c == ("__debug__" : Str)) = false)
    (h : PE X e (tE X.K fa cf ce)) (hs1 : starEach [e, .Name c p2] X.env = (false, eval e X.env) :: starEach [.Name c p2] X.env) (hs2 : starEach [.Name c p2] X.env = (false, eval (.Name c p2) X.env) :: starEach [] X.env) (hpl : (backTo pos (starEach [.Name c p2] X.env)).any (·.1) = false) :
    PE X (.Call (.Name "isinstance" p) [e, .Name c p2] [] pos) (tE X.K fa cf (.blt f (.cons ce .nil))) :=
  wkE (pe_callB call_isi hg hm PyProof.Rows.boot_isinstance (pa_cons h (pa_cons (pe_bltn (v := .ty C) hg2 hm2 hv rfl hn hd) pa_nil hs2) hs1) (he := hs1) (hpl := hpl)) fun sg H Q ⟨io, s, h, r, h', rs, rh, e, q⟩ => by
    simp only [evE] at e
    obtain ⟨xs, h1, e1, e⟩ := bind_ok e
    simp only [evA] at e1
    obtain ⟨x, h2, e2, e1⟩ := bind_ok e1
    cases e1
    refine ⟨io, s, h, x, h1, rs, rh, e2, fun io1 H1 v ex1 rh1 rv => ?_⟩
    rw [hf] at e
    cases hk : kindOf h1 x with
    | none => rw [hk] at e; cases e
    | some k =>
      rw [hk] at e
      cases e
      obtain ⟨T, hT, ty⟩ := kindOf_ty rh1 rv hk
      exact ⟨v, .ty C, .type T, .type C, isiAns f k, rfl, .ty C, ty, kit_ty (hB _ hT), q io1 H1 _ ex1 rh1 (.bl _)⟩
theorem e_isInt {p2 : Pos} (hg : Gl X "isinstance") (hm : X.mg "isinstance" = none) (hg2 : Gl X "int") (hm2 : X.mg "int" = none) (h : PE X e (tE X.K fa cf ce)) (hs1 : starEach [e, .Name "int" p2] X.env = (false, eval e X.env) :: starEach [.Name "int" p2] X.env := by rfl) (hs2 : starEach [.Name "int" p2] X.env = (false, eval (.Name "int" p2) X.env) :: starEach [] X.env := by rfl) (hpl : (backTo pos (starEach [.Name "int" p2] X.env)).any (·.1) = false := by rfl) :
    PE X (.Call (.Name "isinstance" p) [e, .Name "int" p2] [] pos) (tE X.K fa cf (.blt .isInt (.cons ce .nil))) := isi_of kitB_int (fun _ _ => rfl) hg hm hg2 hm2 (by decide +kernel) (by decide) (by decide) h hs1 hs2 hpl
theorem e_isBool {p2 : Pos} (hg : Gl X "isinstance") (hm : X.mg "isinstance" = none) (hg2 : Gl X "bool") (hm2 : X.mg "bool" = none) (h : PE X e (tE X.K fa cf ce)) (hs1 : starEach [e, .Name "bool" p2] X.env = (false, eval e X.env) :: starEach [.Name "bool" p2] X.env := by rfl) (hs2 : starEach [.Name "bool" p2] X.env = (false, eval (.Name "bool" p2) X.env) :: starEach [] X.env := by rfl) (hpl : (backTo pos (starEach [.Name "bool" p2] X.env)).any (·.1) = false := by rfl) :
    PE X (.Call (.Name "isinstance" p) [e, .Name "bool" p2] [] pos) (tE X.K fa cf (.blt .isBool (.cons ce .nil))) := isi_of kitB_bool (fun _ _ => rfl) hg hm hg2 hm2 (by decide +kernel) (by decide) (by decide) h hs1 hs2 hpl
theorem e_isTup {p2 : Pos} (hg : Gl X "isinstance") (hm : X.mg "isinstance" = none) (hg2 : Gl X "tuple") (hm2 : X.mg "tuple" = none) (h : PE X e (tE X.K fa cf ce)) (hs1 : starEach [e, .Name "tuple" p2] X.env = (false, eval e X.env) :: starEach [.Name "tuple" p2] X.env := by rfl) (hs2 : starEach [.Name "tuple" p2] X.env = (false, eval (.Name "tuple" p2) X.env) :: starEach [] X.env := by rfl) (hpl : (backTo pos (starEach [.Name "tuple" p2] X.env)).any (·.1) = false := by rfl) :
    PE X (.Call (.Name "isinstance" p) [e, .Name "tuple" p2] [] pos) (tE X.K fa cf (.blt .isTup (.cons ce .nil))) := isi_of kitB_tup (fun _ _ => rfl) hg hm hg2 hm2 (by decide +kernel) (by decide) (by decide) h hs1 hs2 hpl
theorem e_isStr {p2 : Pos} (hg : Gl X "isinstance") (hm : X.mg "isinstance" = none) (hg2 : Gl X "str") (hm2 : X.mg "str" = none) (h : PE X e (tE X.K fa cf ce)) (hs1 : starEach [e, .Name "str" p2] X.env = (false, eval e X.env) :: starEach [.Name "str" p2] X.env := by rfl) (hs2 : starEach [.Name "str" p2] X.env = (false, eval (.Name "str" p2) X.env) :: starEach [] X.env := by rfl) (hpl : (backTo pos (starEach [.Name "str" p2] X.env)).any (·.1) = false := by rfl) :
    PE X (.Call (.Name "isinstance" p) [e, .Name "str" p2] [] pos) (tE X.K fa cf (.blt .isStr (.cons ce .nil))) := isi_of kitB_str (fun _ _ => rfl) hg hm hg2 hm2 (by decide +kernel) (by decide) (by decide) h hs1 hs2 hpl
theorem e_isList {p2 : Pos} (hg : Gl X "isinstance") (hm : X.mg "isinstance" = none) (hg2 : Gl X "list") (hm2 : X.mg "list" = none) (h : PE X e (tE X.K fa cf ce)) (hs1 : starEach [e, .Name "list" p2] X.env = (false, eval e X.env) :: starEach [.Name "list" p2] X.env := by rfl) (hs2 : starEach [.Name "list" p2] X.env = (false, eval (.Name "list" p2) X.env) :: starEach [] X.env := by rfl) (hpl : (backTo pos (starEach [.Name "list" p2] X.env)).any (·.1) = false := by rfl) :
    PE X (.Call (.Name "isinstance" p) [e, .Name "list" p2] [] pos) (tE X.K fa cf (.blt .isList (.cons ce .nil))) := isi_of kitB_list (fun _ _ => rfl) hg hm hg2 hm2 (by decide +kernel) (by decide) (by decide) h hs1 hs2 hpl
theorem kitTL {K : PySem.W.Frag} : ∀ q ∈ [("NoneType", 0), ("bool", 1), ("int", 2), ("str", 3), ("tuple", 4), ("list", 5)], PySem.W.kitAny K (.type q.1) [.type "tuple", .type "list"] = some (q.2 == 4 || q.2 == 5) := by
  intro q hq
  have h1 := kitB_tup q hq
  have h2 := kitB_list q hq
  refine kitAny_cons (kit_ty h1) (fun z => kitAny_cons (b := isiAns .isList q.2) (kit_ty h2) (fun z2 => ?_) (fun z2 => ?_)) fun z => ?_
  · simp only [isiAns] at z z2
    rw [z, z2]; exact kitAny_nil
  · simp only [isiAns] at z2; rw [z2, Bool.or_true]
  · simp only [isiAns] at z; rw [z, Bool.true_or]
theorem e_isTL {k : Nat} {p2 p3 tpos : Pos} (hg : Gl X "isinstance") (hm : X.mg "isinstance" = none) (hg2 : Gl X "tuple") (hm2 : X.mg "tuple" = none) (hg3 : Gl X "list") (hm3 : X.mg "list" = none) (h : PE X e (tE X.K fa cf ce))
    (hs1 : starEach [e, .Tuple [.Name "tuple" p2, .Name "list" p3] k tpos] X.env = (false, eval e X.env) :: starEach [.Tuple [.Name "tuple" p2, .Name "list" p3] k tpos] X.env := by rfl)
    (hs2 : starEach [.Tuple [.Name "tuple" p2, .Name "list" p3] k tpos] X.env = (false, eval (.Tuple [.Name "tuple" p2, .Name "list" p3] k tpos) X.env) :: starEach [] X.env := by rfl)
    (hs3 : starEach [.Name "tuple" p2, .Name "list" p3] X.env = (false, eval (.Name "tuple" p2) X.env) :: starEach [.Name "list" p3] X.env := by rfl) (hs4 : starEach [.Name "list" p3] X.env = (false, eval (.Name "list" p3) X.env) :: starEach [] X.env := by rfl)
    (hpl : (backTo pos (starEach [.Tuple [.Name "tuple" p2, .Name "list" p3] k tpos] X.env)).any (·.1) = false := by rfl) :
    PE X (.Call (.Name "isinstance" p) [e, .Tuple [.Name "tuple" p2, .Name "list" p3] k tpos] [] pos) (tE X.K fa cf (.blt .isTL (.cons ce .nil))) :=
  wkE (pe_callB call_isiT hg hm PyProof.Rows.boot_isinstance (pa_cons h (pa_cons (pe_tup (pa_cons (pe_bltn (v := .ty "tuple") hg2 hm2 (by decide +kernel) rfl) (pa_cons (pe_bltn (v := .ty "list") hg3 hm3 (by decide +kernel) rfl) pa_nil hs4) hs3)) pa_nil hs2) hs1) (he := hs1) (hpl := hpl)) fun sg H Q ⟨io, s, h, r, h', rs, rh, e, q⟩ => by
    simp only [evE] at e
    obtain ⟨xs, h1, e1, e⟩ := bind_ok e
    simp only [evA] at e1
    obtain ⟨x, h2, e2, e1⟩ := bind_ok e1
    cases e1
    refine ⟨io, s, h, x, h1, rs, rh, e2, fun io1 H1 v ex1 rh1 rv => ?_⟩
    simp only [blt] at e
    cases hk : kindOf h1 x with
    | none => rw [hk] at e; cases e
    | some k =>
      rw [hk] at e
      cases e
      refine ⟨by decide, fun tp hp => ?_⟩
      have ex2 := ext_new (io := io1) (o := .tup [.ty "tuple", .ty "list"]) hp
      obtain ⟨T, hT, ty⟩ := kindOf_ty (rh1.new hp) (rv.mono ex2) hk
      exact ⟨v, tp, [.ty "tuple", .ty "list"], .type T, [.type "tuple", .type "list"], _, rfl, upd_same, .cons (.ty _) (.cons (.ty _) .nil), ty, kitTL _ hT, q io1 _ _ (ex1.trans ex2) (rh1.new hp) (.bl _)⟩

/-! ### methods of lists -/
def rCountD (K : PySem.W.Frag) : V → List V → Hp → VK → Prop := fun x xs H Q => ∃ (a : Addr) (y : V) (d : PyData) (ds : List PyData), x = V.ref a ∧ xs = [y] ∧ Dp K H (V.ref a) (.list ds) ∧ Dp K H y d ∧
  SeqAt.shaped (.list ds) = true ∧ SeqAt.shaped d = true ∧ Q (.int ((ds.countP fun z => PyData.eqv z d : Nat) : Int)) H
theorem mt_countD (hu : X.A.units + 65 < cLine) : MtR X "list.count" (rCountD X.K) := by
  intro pins s σ H x xs v us Q I rx rxs h
  obtain ⟨a, y, d, ds, rfl, rfl, hl, hy, sl, sd, q⟩ := h
  cases rx
  cases rxs with
  | cons ry rt =>
    rename_i uy ut
    cases rt
    obtain ⟨bs, r1⟩ := Dp.reads I d y uy hy ry
    have hxs : PyData.canLayAll0 ds = true := SeqAt.canLay_of_shaped sl
    have hroom : X.A.units + 1 + min (PyData.depthAll ds) d.depth < cLine := PyProof.Rows.room_in_shaped sd hu
    cases hl with
    | lst hs ha =>
      obtain ⟨its, rv, ⟨⟨cls, dd, data, sls⟩, n, ho, hc, hdn, hdt⟩, hlen⟩ := I.list hs
      simp only at hc hdt
      subst hc hdt
      obtain ⟨as, h4⟩ := Dp.readsAll I ds _ its ha rv
      have hmap : its.map (SeqAt.readOf s.heap) = ds := SeqAt.readsAll_map ds its as hxs h4
      refine call_meets PySem.F.slot_list_count ⟨_, ho, rfl⟩ PySem.F.entry_list_count (PySem.F.args_list_count_2 _ _)
        (SeqAt.list_countAt a its.toArray n dd sls uy (fun u => PyData.eqv (SeqAt.readOf s.heap u) d)) ⟨ho, SeqAt.items_eqAt (vs := its.toArray) (show ReadsAll s.heap its.toArray.toList ds as from h4) r1 hxs (SeqAt.canLay_of_shaped sd) hroom, ?_⟩
      have e1 : its.toArray.toList.countP (fun u => PyData.eqv (SeqAt.readOf s.heap u) d) = ds.countP fun z => PyData.eqv z d := by
        rw [← hmap, List.countP_map]
        rfl
      rw [e1]
      exact ⟨.int _, H, I.tok _, ⟨_, rfl⟩, q⟩
/-- a method's rule by values and its pure one -/
def MthOk (X : Cx) (fa : Nat → Option Addr) (m : Mth) (R : V → List V → Hp → VK → Prop) : Prop :=
  ∀ (io : List Addr) (H : Hp) (h : PH) (v : V) (vs : List V) (x : PV) (xs : List PV) (r : PV) (h' : PH) (Q : VK), RH X.K fa io H h → Rl X.K fa io H v x → Rls X.K fa io H vs xs → mth m x xs h = .ok r h' →
    (∀ io' H' v, Ext io H io' H' → RH X.K fa io' H' h' → Rl X.K fa io' H' v r → Q v H') → R v vs H Q
theorem mth_lst {m : Mth} {x : PV} {xs : List PV} {h : PH} {r : PV} {h' : PH} (hm : m ≠ .count) (hm2 : m ≠ .index) (e : mth m x xs h = .ok r h') : (∃ n, x = .ref n) ∨ ∃ ys, x = .scr ys := by
  unfold mth at e
  split at e <;> (first | (cases e; done) | exact .inl ⟨_, rfl⟩ | (exact absurd rfl hm) | (exact absurd rfl hm2))
theorem mk_append : MthOk X fa .append rAppend := by
  intro io H h v vs x xs r h' Q rh rv rvs e q
  unfold mth at e
  split at e <;> try (cases e; done)
  all_goals rename_i hm; (try (cases hm; done))
  split at e
  · rename_i xs hx
    split at e <;> cases e
    rename_i hl
    obtain ⟨y, rfl, ry⟩ := rvs.one
    obtain ⟨a, ws, rfl, ha, hH, rr⟩ := rh.list rv hx
    exact ⟨a, ws, y, rfl, rfl, hH, many_lt (by rw [rr.length]; exact hl), q io _ .non (ext_write (List.mem_of_getElem? ha) ⟨_, hH⟩) (rh.write ha (rr.append (.cons ry .nil))) .non⟩
  · cases e
theorem mk_extend : MthOk X fa .extend rExtend := by
  intro io H h v vs x xs r h' Q rh rv rvs e q
  unfold mth at e
  split at e <;> try (cases e; done)
  all_goals rename_i hm; (try (cases hm; done))
  split at e
  · rename_i xs ys hx hy
    split at e <;> cases e
    rename_i hl
    obtain ⟨y, rfl, ry⟩ := rvs.one
    obtain ⟨a, ws, rfl, ha, hH, rr⟩ := rh.list rv hx
    obtain ⟨b, zs, rfl, hb, hB, rz⟩ := rh.list ry hy
    exact ⟨a, b, ws, zs, rfl, rfl, hH, hB, by rw [rr.length, rz.length]; exact many_le (Nat.le_of_lt hl), q io _ .non (ext_write (List.mem_of_getElem? ha) ⟨_, hH⟩) (rh.write ha (rr.append rz)) .non⟩
  · cases e
theorem mk_pop : MthOk X fa .pop rPop := by
  intro io H h v vs x xs r h' Q rh rv rvs e q
  unfold mth at e
  split at e <;> try (cases e; done)
  all_goals rename_i hm; (try (cases hm; done))
  split at e
  · rename_i xs hx
    split at e <;> cases e
    rename_i y hl
    cases rvs
    obtain ⟨a, ws, rfl, ha, hH, rr⟩ := rh.list rv hx
    have hl2 : xs[xs.length - 1]? = some r := by rw [← List.getLast?_eq_getElem?]; exact hl
    obtain ⟨w, hw, rw'⟩ := rr.get hl2
    refine ⟨a, ws, w, rfl, rfl, hH, by rw [rr.length]; exact hw, q io _ w (ext_write (List.mem_of_getElem? ha) ⟨_, hH⟩) (rh.write ha rr.dropLast) (rw'.mono (ext_write (List.mem_of_getElem? ha) ⟨_, hH⟩))⟩
  · cases e
theorem mk_popAt : MthOk X fa .pop0 rPopAt := by
  intro io H h v vs x xs r h' Q rh rv rvs e q
  unfold mth at e
  split at e <;> try (cases e; done)
  all_goals rename_i hm; (try (cases hm; done))
  split at e
  · rename_i y ys hx
    split at e <;> cases e
    rename_i hl
    subst hl
    obtain ⟨z, rfl, rz⟩ := rvs.one
    cases rz
    obtain ⟨a, ws, rfl, ha, hH, rr⟩ := rh.list rv hx
    cases rr with
    | @cons w _ ws _ rw' rr =>
    refine ⟨a, w :: ws, 0, 0, w, rfl, rfl, hH, by decide, by decide, ?_, rfl, q io _ w (ext_write (List.mem_of_getElem? ha) ⟨_, hH⟩) (rh.write ha rr) (rw'.mono (ext_write (List.mem_of_getElem? ha) ⟨_, hH⟩))⟩
    unfold seqIndex?
    simp
  · cases e
/-! count and index, of lists and tuples -/
def rCountT (K : PySem.W.Frag) : V → List V → Hp → VK → Prop := fun x xs H Q => ∃ (a : Addr) (y : V) (d : PyData) (ds : List PyData), x = V.ref a ∧ xs = [y] ∧ Dp K H (V.ref a) (.tuple ds) ∧ Dp K H y d ∧
  SeqAt.shaped (.tuple ds) = true ∧ SeqAt.shaped d = true ∧ Q (.int ((ds.countP fun z => PyData.eqv z d : Nat) : Int)) H
def rIndexT (K : PySem.W.Frag) : V → List V → Hp → VK → Prop := fun x xs H Q => ∃ (a : Addr) (y : V) (d : PyData) (ds : List PyData) (j : Nat) (z : PyData), x = V.ref a ∧ xs = [y] ∧ Dp K H (V.ref a) (.tuple ds) ∧ Dp K H y d ∧
  SeqAt.shaped (.tuple ds) = true ∧ SeqAt.shaped d = true ∧ ds[j]? = some z ∧ PyData.eqv z d = true ∧ (∀ (m : Nat) (z' : PyData), m < j → ds[m]? = some z' → PyData.eqv z' d = false) ∧ Q (.int (j : Nat)) H
theorem canLay_tup {ds : List PyData} (h : SeqAt.shaped (.tuple ds) = true) : PyData.canLayAll0 ds = true := by
  have := SeqAt.canLay_of_shaped h
  simpa only [PyData.canLay0] using this
theorem mt_countT (hu : X.A.units + 65 < cLine) : MtR X "tuple.count" (rCountT X.K) := by
  intro pins s σ H x xs v us Q I rx rxs h
  obtain ⟨a, y, d, ds, rfl, rfl, hl, hy, sl, sd, q⟩ := h
  cases rx
  cases rxs with
  | cons ry rt =>
    rename_i uy ut
    cases rt
    obtain ⟨bs, r1⟩ := Dp.reads I d y uy hy ry
    have hxs : PyData.canLayAll0 ds = true := canLay_tup sl
    have hroom : X.A.units + 1 + min (PyData.depthAll ds) d.depth < cLine := PyProof.Rows.room_in_shaped sd hu
    cases hl with
    | tup hs ha =>
      obtain ⟨its, rv, ⟨⟨cls, dd, data, sls⟩, ho, hc, n, hdt⟩, hlen⟩ := I.tuple hs
      simp only at hc hdt
      subst hc hdt
      obtain ⟨as, h4⟩ := Dp.readsAll I ds _ its ha rv
      have hmap : its.map (SeqAt.readOf s.heap) = ds := SeqAt.readsAll_map ds its as hxs h4
      refine call_meets PySem.F.slot_tuple_count ⟨_, ho, rfl⟩ PySem.F.entry_tuple_count (PySem.F.args_tuple_count_2 _ _)
        (SeqAt.tuple_countAt a its.toArray n dd sls uy (fun u => PyData.eqv (SeqAt.readOf s.heap u) d)) ⟨ho, SeqAt.items_eqAt (vs := its.toArray) (show ReadsAll s.heap its.toArray.toList ds as from h4) r1 hxs (SeqAt.canLay_of_shaped sd) hroom, ?_⟩
      have e1 : its.toArray.toList.countP (fun u => PyData.eqv (SeqAt.readOf s.heap u) d) = ds.countP fun z => PyData.eqv z d := by
        rw [← hmap, List.countP_map]
        rfl
      rw [e1]
      exact ⟨.int _, H, I.tok _, ⟨_, rfl⟩, q⟩
theorem mt_indexT (hu : X.A.units + 65 < cLine) : MtR X "tuple.index" (rIndexT X.K) := by
  intro pins s σ H x xs v us Q I rx rxs h
  obtain ⟨a, y, d, ds, j, z, rfl, rfl, hl, hy, sl, sd, hz, hzj, hno, q⟩ := h
  cases rx
  cases rxs with
  | cons ry rt =>
    rename_i uy ut
    cases rt
    obtain ⟨bs, r1⟩ := Dp.reads I d y uy hy ry
    have hxs : PyData.canLayAll0 ds = true := canLay_tup sl
    have hroom : X.A.units + 1 + min (PyData.depthAll ds) d.depth < cLine := PyProof.Rows.room_in_shaped sd hu
    cases hl with
    | tup hs ha =>
      obtain ⟨its, rv, ⟨⟨cls, dd, data, sls⟩, ho, hc, n, hdt⟩, hlen⟩ := I.tuple hs
      simp only at hc hdt
      subst hc hdt
      obtain ⟨as, h4⟩ := Dp.readsAll I ds _ its ha rv
      have hn : its.length = ds.length := SeqAt.ReadsAll.length ds its as h4
      have hmap : its.map (SeqAt.readOf s.heap) = ds := SeqAt.readsAll_map ds its as hxs h4
      obtain ⟨hjd, _⟩ := List.getElem?_eq_some_iff.mp hz
      have hjl : j < its.length := by omega
      have hj : j < its.toArray.size := by simpa using hjl
      have at_ : ∀ (m : Nat) (hm : m < its.toArray.size) (z' : PyData), ds[m]? = some z' → SeqAt.readOf s.heap its.toArray[m] = z' := by
        intro m hm z' hz'
        have hml : m < its.length := by simpa using hm
        rw [← hmap, List.getElem?_map, List.getElem?_eq_getElem hml] at hz'
        have e1 : SeqAt.readOf s.heap its[m] = z' := Option.some.inj (show some (SeqAt.readOf s.heap its[m]) = some z' from hz')
        simpa using e1
      refine call_meets PySem.F.slot_tuple_index ⟨_, ho, rfl⟩ PySem.F.entry_tuple_index (PySem.F.args_tuple_index_2 _ _)
        (_root_.TI.tuple_indexAt a its.toArray n dd sls uy (fun u => PyData.eqv (SeqAt.readOf s.heap u) d) j hj ?_ ?_) ⟨ho, SeqAt.items_eqAt (vs := its.toArray) (show ReadsAll s.heap its.toArray.toList ds as from h4) r1 hxs (SeqAt.canLay_of_shaped sd) hroom, ?_⟩
      · show PyData.eqv (SeqAt.readOf s.heap its.toArray[j]) d = true
        rw [at_ j hj z hz]
        exact hzj
      · intro m hm hmj
        have hmd : m < ds.length := by omega
        have hz' : ds[m]? = some ds[m] := List.getElem?_eq_getElem hmd
        show PyData.eqv (SeqAt.readOf s.heap its.toArray[m]) d = false
        rw [at_ m hm _ hz']
        exact hno m _ hmj hz'
      · exact ⟨.int (j : Nat), H, I.tok _, ⟨_, rfl⟩, q⟩
theorem seqD_tup {h : PH} {xs : List PV} {ds : List PyData} (e : seqD h (.tup xs) = some ds) : toD h 12 (.tup xs) = some (.tuple ds) := by
  unfold seqD at e
  split at e <;> cases e
  · rename_i z; simp [toD] at z
  · assumption
theorem seqD_lst {h : PH} {x : PV} {ds : List PyData} (hx : (∃ n, x = .ref n) ∨ ∃ ys, x = .scr ys) (e : seqD h x = some ds) : toD h 12 x = some (.list ds) := by
  unfold seqD at e
  split at e <;> cases e
  · assumption
  · rename_i z
    rcases hx with ⟨n, rfl⟩ | ⟨ys, rfl⟩
    · simp only [toD] at z
      split at z
      · cases q : toDs (toD h 11) _ with
        | none => rw [q] at z; cases z
        | some _ => rw [q] at z; cases z
      · cases z
    · simp [toD] at z
theorem seqD_kind {h : PH} {x : PV} {ds : List PyData} (e : seqD h x = some ds) : ((∃ n, x = .ref n) ∨ ∃ ys, x = .scr ys) ∨ ∃ ys, x = .tup ys := by
  cases x with
  | ref n => exact .inl (.inl ⟨n, rfl⟩)
  | scr ys => exact .inl (.inr ⟨ys, rfl⟩)
  | tup ys => exact .inr ⟨ys, rfl⟩
  | str z => by_cases c : PyData.canLay0 (.str z) = true <;> simp [seqD, toD, c] at e
  | _ => simp [seqD, toD] at e
/-- a method of lists and of tuples: its rules by values and its pure one -/
structure MthOk2 (X : Cx) (fa : Nat → Option Addr) (m : Mth) (RL RT : V → List V → Hp → VK → Prop) : Prop where
  kind : ∀ x xs h r h', mth m x xs h = .ok r h' → ((∃ n, x = .ref n) ∨ ∃ ys, x = .scr ys) ∨ ∃ ys, x = .tup ys
  lst : ∀ (io : List Addr) (H : Hp) (h : PH) (v : V) (vs : List V) (x : PV) (xs : List PV) (r : PV) (h' : PH) (Q : VK), ((∃ n, x = .ref n) ∨ ∃ ys, x = .scr ys) → RH X.K fa io H h → Rl X.K fa io H v x → Rls X.K fa io H vs xs → mth m x xs h = .ok r h' →
    (∀ io' H' v, Ext io H io' H' → RH X.K fa io' H' h' → Rl X.K fa io' H' v r → Q v H') → RL v vs H Q
  tup : ∀ (io : List Addr) (H : Hp) (h : PH) (v : V) (vs : List V) (ys xs : List PV) (r : PV) (h' : PH) (Q : VK), RH X.K fa io H h → Rl X.K fa io H v (.tup ys) → Rls X.K fa io H vs xs → mth m (.tup ys) xs h = .ok r h' →
    (∀ io' H' v, Ext io H io' H' → RH X.K fa io' H' h' → Rl X.K fa io' H' v r → Q v H') → RT v vs H Q
theorem mk_count : MthOk2 X fa .count (rCountD X.K) (rCountT X.K) := by
  refine ⟨fun x xs h r h' e => ?_, fun io H h v vs x xs r h' Q hx rh rv rvs e q => ?_, fun io H h v vs x xs r h' Q rh rv rvs e q => ?_⟩
  all_goals
    unfold mth at e
    split at e <;> try (cases e; done)
    all_goals rename_i hm; (try (cases hm; done))
    split at e <;> cases e
    rename_i ds d e1 e2
  · exact seqD_kind e1
  · obtain ⟨y, rfl, ry⟩ := rvs.one
    obtain ⟨h1, h2, h3⟩ := rh.data 12 _ _ _ ry e2
    obtain ⟨g1, g2, g3⟩ := rh.data 12 _ _ _ rv (seqD_lst hx e1)
    cases g1 with
    | lst sq ha => exact ⟨_, y, d, ds, rfl, rfl, .lst sq ha, h1, shaped_of g2 g3, shaped_of h2 h3, q io H _ .refl rh (.int _)⟩
  · obtain ⟨y, rfl, ry⟩ := rvs.one
    obtain ⟨h1, h2, h3⟩ := rh.data 12 _ _ _ ry e2
    obtain ⟨g1, g2, g3⟩ := rh.data 12 _ _ _ rv (seqD_tup e1)
    cases g1 with
    | tup sq ha => exact ⟨_, y, d, ds, rfl, rfl, .tup sq ha, h1, shaped_of g2 g3, shaped_of h2 h3, q io H _ .refl rh (.int _)⟩
theorem mk_index : MthOk2 X fa .index (rIndexD X.K) (rIndexT X.K) := by
  refine ⟨fun x xs h r h' e => ?_, fun io H h v vs x xs r h' Q hx rh rv rvs e q => ?_, fun io H h v vs x xs r h' Q rh rv rvs e q => ?_⟩
  all_goals
    unfold mth at e
    split at e <;> try (cases e; done)
    all_goals rename_i hm; (try (cases hm; done))
    split at e
    case h_2 => cases e
    rename_i ds d e1 e2
    split at e <;> cases e
    rename_i j hj
  · exact seqD_kind e1
  · obtain ⟨y, rfl, ry⟩ := rvs.one
    obtain ⟨h1, h2, h3⟩ := rh.data 12 _ _ _ ry e2
    obtain ⟨g1, g2, g3⟩ := rh.data 12 _ _ _ rv (seqD_lst hx e1)
    obtain ⟨hlt, hz, hno⟩ := List.findIdx?_eq_some_iff_getElem.mp hj
    cases g1 with
    | lst sq ha => exact ⟨_, y, d, ds, j, ds[j], rfl, rfl, .lst sq ha, h1, shaped_of g2 g3, shaped_of h2 h3, List.getElem?_eq_getElem hlt, hz, fun m z hm hz => by
        have hml : m < ds.length := by omega
        rw [List.getElem?_eq_getElem hml] at hz
        cases hz
        simpa using hno m hm, q io H _ .refl rh (.int _)⟩
  · obtain ⟨y, rfl, ry⟩ := rvs.one
    obtain ⟨h1, h2, h3⟩ := rh.data 12 _ _ _ ry e2
    obtain ⟨g1, g2, g3⟩ := rh.data 12 _ _ _ rv (seqD_tup e1)
    obtain ⟨hlt, hz, hno⟩ := List.findIdx?_eq_some_iff_getElem.mp hj
    cases g1 with
    | tup sq ha => exact ⟨_, y, d, ds, j, ds[j], rfl, rfl, .tup sq ha, h1, shaped_of g2 g3, shaped_of h2 h3, List.getElem?_eq_getElem hlt, hz, fun m z hm hz => by
        have hml : m < ds.length := by omega
        rw [List.getElem?_eq_getElem hml] at hz
        cases hz
        simpa using hno m hm, q io H _ .refl rh (.int _)⟩
def tBM2 (K : PySem.W.Frag) (RL RT : V → List V → Hp → VK → Prop) (to : TE) (t : TA) : TE := fun σ H Q => to σ H fun x H1 => (tyV K "list" x H1 ∧ t σ H1 fun xs H2 => RL x xs H2 Q) ∨ ((∃ a vs, x = .ref a ∧ SqN K H1 a vs) ∧ t σ H1 fun xs H2 => RT x xs H2 Q)
theorem pe_bm2 {idL idT : String} {to : TE} {t : TA} {RL RT : V → List V → Hp → VK → Prop} (slotL : Slot "list" name idL) (slotT : Slot "tuple" name idT) (htyL : typeOf (.builtin idL) = pure (.type "method_descriptor")) (htyT : typeOf (.builtin idT) = pure (.type "method_descriptor"))
    (hmL : MtR X idL RL) (hmT : MtR X idT RT) (ho : PE X o to) (ha : PA X (e :: es) t)
    (hbase : attributeBase o name X.env (eval o X.env) = eval o X.env := by rfl)
    (hfew : ((backTo cpos (starEach (e :: es) X.env)).all (fun x => !x.1) && (backToKw cpos (keywordEach [] X.env)).all (fun x => x.1.isSome)
      && decide ((e :: es).length + ([] : List Keyword).length + (if ([] : List Keyword).isEmpty then 0 else 1) < 30)) = true := by rfl)
    (hline : (apos.endLine == cpos.line) = true := by rfl) (hs : starEach (e :: es) X.env = (false, eval e X.env) :: starEach es X.env := by rfl) (hplain : (backTo cpos (starEach es X.env)).any (·.1) = false := by rfl) :
    PE X (.Call (.Attribute o name apos) (e :: es) [] cpos) (tBM2 X.K RL RT to t) := by
  refine ⟨fun pins s σ H Q I h => ?_⟩
  refine wpAny_Call_method_late hbase hfew hline rfl (thn (ho.run pins s σ H _ I h) fun v s1 ⟨x, H1, I1, r1, q1⟩ => ?_)
  rcases q1 with ⟨ty, q1⟩ | ⟨⟨a, vs, rfl, ty⟩, q1⟩
  · obtain ⟨h1, h2⟩ := tyV_is I1 r1 ty
    refine ⟨"list", idL, PySem.F.plainAttrs_list, slotL, htyL, h1, h2, ?_⟩
    have hA := ha.run cpos pins s1 σ H1 _ I1 q1
    rw [hs] at hA ⊢
    refine Calls.callWith_builtin (by show (false || (backTo cpos (starEach es X.env)).any (·.1)) = false; rw [hplain] <;> rfl) (Calls.evalArgs_plain ?_)
    exact thn hA fun us s2 ⟨vs, H2, I2, r2, q2⟩ => hmL pins s2 σ H2 x vs v us Q I2 r1 r2 q2
  · cases r1
    obtain ⟨h1, ob, h2, h3⟩ := SqN.ty I1 ty
    refine ⟨"tuple", idT, PySem.F.plainAttrs_tuple, slotT, htyT, h1, fun b hb => by cases hb; exact ⟨ob, h2, h3⟩, ?_⟩
    have hA := ha.run cpos pins s1 σ H1 _ I1 q1
    rw [hs] at hA ⊢
    refine Calls.callWith_builtin (by show (false || (backTo cpos (starEach es X.env)).any (·.1)) = false; rw [hplain] <;> rfl) (Calls.evalArgs_plain ?_)
    exact thn hA fun us s2 ⟨vs, H2, I2, r2, q2⟩ => hmT pins s2 σ H2 (.ref a) vs (.ref a) us Q I2 (by first | rfl | exact .ref _) r2 q2
theorem mth_to2 {m : Mth} {RL RT : V → List V → Hp → VK → Prop} (hk : MthOk2 X fa m RL RT)
    (h : PE X e (tBM2 X.K RL RT (tE X.K fa cf co) (tA X.K fa cf cs))) : PE X e (tE X.K fa cf (.mth m co cs)) :=
  wkE h fun sg H Q ⟨io, s, h, r, h', rs, rh, e, q⟩ => by
    simp only [evE] at e
    obtain ⟨x, h1, e1, e⟩ := bind_ok e
    obtain ⟨xs, h2, e2, e⟩ := bind_ok e
    refine ⟨io, s, h, x, h1, rs, rh, e1, fun io1 H1 v ex1 rh1 rv => ?_⟩
    rcases hk.kind _ _ _ _ _ e with hx | ⟨ys, rfl⟩
    · have ty : tyV X.K "list" v H1 := by
        rcases hx with ⟨n, rfl⟩ | ⟨ys, rfl⟩
        · cases rv with
          | ref hn =>
            obtain ⟨xs', vs', _, hH, _⟩ := rh1.addr hn
            exact .inl ⟨rfl, vs', .inl (.inl hH)⟩
        · cases rv with
          | scr sq rr => exact .inl ⟨rfl, _, sq.l⟩
      exact .inl ⟨ty, io1, s, h1, xs, h2, rs.mono ex1, rh1, e2, fun io2 H2 vs ex2 rh2 rvs => hk.lst io2 H2 h2 v vs x xs r h' Q hx rh2 (rv.mono ex2) rvs e fun io' H' v ex3 rh3 rv3 => q io' H' v ((ex1.trans ex2).trans ex3) rh3 rv3⟩
    · have ty : ∃ a vs, v = .ref a ∧ SqN X.K H1 a vs := by
        cases rv with
        | tup sq rr => exact ⟨_, _, rfl, sq⟩
      exact .inr ⟨ty, io1, s, h1, xs, h2, rs.mono ex1, rh1, e2, fun io2 H2 vs ex2 rh2 rvs => hk.tup io2 H2 h2 v vs ys xs r h' Q rh2 (rv.mono ex2) rvs e fun io' H' v ex3 rh3 rv3 => q io' H' v ((ex1.trans ex2).trans ex3) rh3 rv3⟩
/-- the receiver of a list's method -/
theorem mth_to0 {m : Mth} {R : V → List V → Hp → VK → Prop} (hk : MthOk X fa m R) (hl : ∀ x h r h', mth m x [] h = .ok r h' → ∃ n xs, x = .ref n ∧ h[n]? = some (.lst xs))
    (h : PE X e (tBM0 X.K "list" R (tE X.K fa cf co))) : PE X e (tE X.K fa cf (.mth m co .nil)) :=
  wkE h fun sg H Q ⟨io, s, h, r, h', rs, rh, e, q⟩ => by
    simp only [evE] at e
    obtain ⟨x, h1, e1, e⟩ := bind_ok e
    obtain ⟨xs, h2, e2, e⟩ := bind_ok e
    simp only [evA] at e2
    cases e2
    refine ⟨io, s, h, x, h1, rs, rh, e1, fun io1 H1 v ex1 rh1 rv => ?_⟩
    obtain ⟨n, ys, rfl, hx⟩ := hl _ _ _ _ e
    obtain ⟨a, ws, rfl, ha, hH, rr⟩ := rh1.list rv hx
    exact ⟨.inl ⟨rfl, ws, .inl (.inl hH)⟩, hk io1 H1 h1 _ [] _ [] r h' Q rh1 rv .nil e fun io' H' v ex2 rh2 rv2 => q io' H' v (ex1.trans ex2) rh2 rv2⟩
/-- .. whatever the arguments do to the heap, it stays a list -/
theorem mth_to {m : Mth} {R : V → List V → Hp → VK → Prop} (hk : MthOk X fa m R) (hl : ∀ x xs h r h', mth m x xs h = .ok r h' → (∃ n, x = .ref n) ∨ ∃ ys, x = .scr ys)
    (h : PE X e (tBM X.K "list" R (tE X.K fa cf co) (tA X.K fa cf cs))) : PE X e (tE X.K fa cf (.mth m co cs)) :=
  wkE h fun sg H Q ⟨io, s, h, r, h', rs, rh, e, q⟩ => by
    simp only [evE] at e
    obtain ⟨x, h1, e1, e⟩ := bind_ok e
    obtain ⟨xs, h2, e2, e⟩ := bind_ok e
    refine ⟨io, s, h, x, h1, rs, rh, e1, fun io1 H1 v ex1 rh1 rv => ?_⟩
    have ty : tyV X.K "list" v H1 := by
      rcases hl _ _ _ _ _ e with ⟨n, rfl⟩ | ⟨ys, rfl⟩
      · cases rv with
        | ref hn =>
          obtain ⟨xs', vs', _, hH, _⟩ := rh1.addr hn
          exact .inl ⟨rfl, vs', .inl (.inl hH)⟩
      · cases rv with
        | scr sq rr => exact .inl ⟨rfl, _, sq.l⟩
    exact ⟨ty, io1, s, h1, xs, h2, rs.mono ex1, rh1, e2, fun io2 H2 vs ex2 rh2 rvs => hk io2 H2 h2 v vs x xs r h' Q rh2 (rv.mono ex2) rvs e fun io' H' v ex3 rh3 rv3 => q io' H' v ((ex1.trans ex2).trans ex3) rh3 rv3⟩
theorem e_append (ho : PE X o (tE X.K fa cf co)) (ha : PA X [a] (tA X.K fa cf cs))
    (hbase : attributeBase o "append" X.env (eval o X.env) = eval o X.env := by rfl)
    (hfew : ((backTo cpos (starEach [a] X.env)).all (fun x => !x.1) && (backToKw cpos (keywordEach [] X.env)).all (fun x => x.1.isSome)
      && decide (([a] : List Expr).length + ([] : List Keyword).length + (if ([] : List Keyword).isEmpty then 0 else 1) < 30)) = true := by rfl)
    (hline : (apos.endLine == cpos.line) = true := by rfl) (hs : starEach [a] X.env = (false, eval a X.env) :: starEach [] X.env := by rfl) :
    PE X (.Call (.Attribute o "append" apos) [a] [] cpos) (tE X.K fa cf (.mth .append co cs)) := mth_to mk_append (fun _ _ _ _ _ => mth_lst (fun z => nomatch z) (fun z => nomatch z)) (pe_bm PySem.F.plainAttrs_list PySem.F.slot_list_append PySem.F.type_list_append mt_append ho ha hbase hfew hline hs)
theorem e_extend (ho : PE X o (tE X.K fa cf co)) (ha : PA X [a] (tA X.K fa cf cs))
    (hbase : attributeBase o "extend" X.env (eval o X.env) = eval o X.env := by rfl)
    (hfew : ((backTo cpos (starEach [a] X.env)).all (fun x => !x.1) && (backToKw cpos (keywordEach [] X.env)).all (fun x => x.1.isSome)
      && decide (([a] : List Expr).length + ([] : List Keyword).length + (if ([] : List Keyword).isEmpty then 0 else 1) < 30)) = true := by rfl)
    (hline : (apos.endLine == cpos.line) = true := by rfl) (hs : starEach [a] X.env = (false, eval a X.env) :: starEach [] X.env := by rfl) :
    PE X (.Call (.Attribute o "extend" apos) [a] [] cpos) (tE X.K fa cf (.mth .extend co cs)) := mth_to mk_extend (fun _ _ _ _ _ => mth_lst (fun z => nomatch z) (fun z => nomatch z)) (pe_bm PySem.F.plainAttrs_list PySem.F.slot_list_extend PySem.F.type_list_extend mt_extend ho ha hbase hfew hline hs)
theorem e_popAt (ho : PE X o (tE X.K fa cf co)) (ha : PA X [a] (tA X.K fa cf cs))
    (hbase : attributeBase o "pop" X.env (eval o X.env) = eval o X.env := by rfl)
    (hfew : ((backTo cpos (starEach [a] X.env)).all (fun x => !x.1) && (backToKw cpos (keywordEach [] X.env)).all (fun x => x.1.isSome)
      && decide (([a] : List Expr).length + ([] : List Keyword).length + (if ([] : List Keyword).isEmpty then 0 else 1) < 30)) = true := by rfl)
    (hline : (apos.endLine == cpos.line) = true := by rfl) (hs : starEach [a] X.env = (false, eval a X.env) :: starEach [] X.env := by rfl) :
    PE X (.Call (.Attribute o "pop" apos) [a] [] cpos) (tE X.K fa cf (.mth .pop0 co cs)) := mth_to mk_popAt (fun _ _ _ _ _ => mth_lst (fun z => nomatch z) (fun z => nomatch z)) (pe_bm PySem.F.plainAttrs_list PySem.F.slot_list_pop PySem.F.type_list_pop mt_popAt ho ha hbase hfew hline hs)
theorem e_pop (ho : PE X o (tE X.K fa cf co)) (hbase : attributeBase o "pop" X.env (eval o X.env) = eval o X.env := by rfl) (hline : (apos.endLine == cpos.line) = true := by rfl) :
    PE X (.Call (.Attribute o "pop" apos) [] [] cpos) (tE X.K fa cf (.mth .pop co .nil)) := mth_to0 mk_pop (fun x h r h' e => by
      unfold mth at e
      split at e <;> try (cases e; done)
      all_goals rename_i hm; (try (cases hm; done))
      split at e
      · exact ⟨_, _, rfl, by assumption⟩
      · cases e) (pe_bm0 PySem.F.plainAttrs_list PySem.F.slot_list_pop PySem.F.type_list_pop mt_pop ho hbase hline)
theorem e_count (hr : Room k X.A) (ho : PE X o (tE X.K fa cf co)) (ha : PA X [a] (tA X.K fa cf cs))
    (hbase : attributeBase o "count" X.env (eval o X.env) = eval o X.env := by rfl)
    (hfew : ((backTo cpos (starEach [a] X.env)).all (fun x => !x.1) && (backToKw cpos (keywordEach [] X.env)).all (fun x => x.1.isSome)
      && decide (([a] : List Expr).length + ([] : List Keyword).length + (if ([] : List Keyword).isEmpty then 0 else 1) < 30)) = true := by rfl)
    (hline : (apos.endLine == cpos.line) = true := by rfl) (hs : starEach [a] X.env = (false, eval a X.env) :: starEach [] X.env := by rfl) :
    PE X (.Call (.Attribute o "count" apos) [a] [] cpos) (tE X.K fa cf (.mth .count co cs)) := mth_to2 mk_count (pe_bm2 PySem.F.slot_list_count PySem.F.slot_tuple_count PySem.F.type_list_count PySem.F.type_tuple_count (mt_countD (by have := hr.un; omega)) (mt_countT (by have := hr.un; omega)) ho ha hbase hfew hline hs)
theorem e_index (hr : Room k X.A) (ho : PE X o (tE X.K fa cf co)) (ha : PA X [a] (tA X.K fa cf cs))
    (hbase : attributeBase o "index" X.env (eval o X.env) = eval o X.env := by rfl)
    (hfew : ((backTo cpos (starEach [a] X.env)).all (fun x => !x.1) && (backToKw cpos (keywordEach [] X.env)).all (fun x => x.1.isSome)
      && decide (([a] : List Expr).length + ([] : List Keyword).length + (if ([] : List Keyword).isEmpty then 0 else 1) < 30)) = true := by rfl)
    (hline : (apos.endLine == cpos.line) = true := by rfl) (hs : starEach [a] X.env = (false, eval a X.env) :: starEach [] X.env := by rfl) :
    PE X (.Call (.Attribute o "index" apos) [a] [] cpos) (tE X.K fa cf (.mth .index co cs)) := mth_to2 mk_index (pe_bm2 PySem.F.slot_list_index PySem.F.slot_tuple_index PySem.F.type_list_index PySem.F.type_tuple_index (mt_indexD (by have := hr.un; omega)) (mt_indexT (by have := hr.un; omega)) ho ha hbase hfew hline hs)
/-- a local name that holds a def -/
theorem e_callv {i k : Nat} {G : Nat → Option Fn} {x : Str} (hh : Held' X.prog X.w X.K X.mg X.base fa G k) (hr : Room k X.A) (hN : X.N[i]? = some x) (hv : Vis X.env.scope x) (ha : PA X (e :: es) (tA X.K fa (callF G k) cs))
    (hdb : (x == ("__debug__" : Str)) = false := by decide) (hcd : (x == ("__classdict__" : Str)) = false := by decide)
    (he : starEach (e :: es) X.env = (false, eval e X.env) :: starEach es X.env := by rfl) (hpl : (backTo pos (starEach es X.env)).any (·.1) = false := by rfl) :
    PE X (.Call (.Name x p) (e :: es) [] pos) (tE X.K fa (callF G k) (.callv i cs)) := ⟨fun pins s sg H Q I ⟨io, sl, h, r, h', rs, rh, e, q⟩ => by
  simp only [evE] at e
  split at e
  · rename_i n hn
    obtain ⟨xs, h1, e1, e⟩ := bind_ok e
    obtain ⟨v, hv1, hv2⟩ := rs.at_ i _ hn
    cases hv2 with
    | @fn f n hf =>
    obtain ⟨fd, ps, F, hk, hb⟩ := hh.at_ n f hf
    refine (pe_callL (i := i) (f := f) (dvs := []) (E := fun _ _ _ => False) F hr hN hv hk hb .nil (fun _ _ _ _ _ _ _ z => z.elim) ha hdb hcd he hpl).run pins s sg H Q I ⟨hv1, io, sl, h, xs, h1, rs, rh, e1, fun io1 H1 vs ex1 rh1 rv => ?_⟩
    show spI X.K fa G k n (vs ++ []) H1 Q _
    rw [List.append_nil]
    exact ⟨io1, h1, xs, r, h', rv, rh1, e, fun io' H' v ex2 rh2 rv2 => q io' H' v (ex1.trans ex2) rh2 rv2⟩
  · cases e⟩
end
end PB

set_option Elab.async false
set_option linter.all false
set_option maxRecDepth 100000
set_option maxHeartbeats 2000000
namespace PB
open PySem PySem.Spec L2
section
variable {K : PySem.W.Frag} {fa : Nat → Option Addr} {io io1 io2 : List Addr} {H H1 H2 : Hp} {h h1 : PH}
/-! ### what a call leaves -/
mutual
theorem Rl.low : ∀ {v : V} {x : PV}, Rl K fa io H v x → PV.low io.length x = true
  | _, _, .non => by simp [PV.low]
  | _, _, .bl _ => by simp [PV.low]
  | _, _, .int _ => by simp [PV.low]
  | _, _, .str _ => by simp [PV.low]
  | _, _, .tup _ r => by simp only [PV.low]; exact Rls.low r
  | _, _, .wtup _ r => by simp only [PV.low]; exact Rls.low r
  | _, _, .scr _ r => by simp only [PV.low]; exact Rls.low r
  | _, _, .ref e => by simp only [PV.low, decide_eq_true_eq]; exact (List.getElem?_eq_some_iff.mp e).1
  | _, _, .fn _ => by simp [PV.low]
theorem Rls.low : ∀ {v : List V} {x : List PV}, Rls K fa io H v x → PV.lows io.length x = true
  | _, _, .nil => by simp [PV.lows]
  | _, _, .cons a r => by simp only [PV.lows, Bool.and_eq_true]; exact ⟨Rl.low a, Rls.low r⟩
end
mutual
theorem Rl.trim {t : List Addr} : ∀ {v : V} {x : PV}, Rl K fa (io ++ t) H v x → PV.low io.length x = true → Rl K fa io H v x
  | _, _, .non, _ => .non
  | _, _, .bl b, _ => .bl b
  | _, _, .int i, _ => .int i
  | _, _, .str s, _ => .str s
  | _, _, .tup h r, l => .tup h (Rls.trim r (by simpa only [PV.low] using l))
  | _, _, .wtup h r, l => .wtup h (Rls.trim r (by simpa only [PV.low] using l))
  | _, _, .scr h r, l => .scr h (Rls.trim r (by simpa only [PV.low] using l))
  | _, _, .ref e, l => by
    simp only [PV.low, decide_eq_true_eq] at l
    rw [List.getElem?_append_left l] at e
    exact .ref e
  | _, _, .fn e, _ => .fn e
theorem Rls.trim {t : List Addr} : ∀ {v : List V} {x : List PV}, Rls K fa (io ++ t) H v x → PV.lows io.length x = true → Rls K fa io H v x
  | _, _, .nil, _ => .nil
  | _, _, .cons a r, l => by
    simp only [PV.lows, Bool.and_eq_true] at l
    exact .cons (Rl.trim a l.1) (Rls.trim r l.2)
end
theorem POs.same_eq : ∀ {a b : PH}, POs.same a b = true → a = b
  | [], [], _ => rfl
  | [], _ :: _, h => by simp [POs.same] at h
  | _ :: _, [], h => by simp [POs.same] at h
  | a :: r, b :: q, h => by
    simp only [POs.same, Bool.and_eq_true] at h
    rw [PO.same_eq h.1, POs.same_eq h.2]
theorem RH.keeps {v : V} {x : PV} (rh : RH K fa io H h) (ex : Ext io H io1 H1) (rh1 : RH K fa io1 H1 h1) (rv : Rl K fa io1 H1 v x) :
    ∃ io2, Ext io H io2 H1 ∧ RH K fa io2 H1 (keepP h h1 x) ∧ Rl K fa io2 H1 v x := by
  unfold keepP
  split
  · rename_i hc
    obtain ⟨hx, hc⟩ := hc
    obtain ⟨t, rfl, _⟩ := ex.more
    have hlen := rh.len
    have hlen1 := rh1.len
    rw [List.length_append] at hlen1
    refine ⟨io, ⟨⟨[], by simp, fun _ z => nomatch z⟩, ex.stay, ex.there⟩, ⟨?_, ?_, ?_⟩, rv.trim (by rw [hlen]; exact hx)⟩
    · rw [List.length_take]; omega
    · exact rh1.nd.sublist (List.sublist_append_left _ _)
    · intro m xs hm
      have hlt : m < h.length := by
        have := (List.getElem?_eq_some_iff.mp hm).1
        rw [List.length_take] at this; omega
      have hm1 : h1[m]? = some (.lst xs) := by rw [List.getElem?_take_of_lt hlt] at hm; exact hm
      obtain ⟨a, vs, e1, e2, e3⟩ := rh1.cell m xs hm1
      have e1' : io[m]? = some a := by rw [List.getElem?_append_left (by rw [hlen]; exact hlt)] at e1; exact e1
      refine ⟨a, vs, e1', e2, e3.trim ?_⟩
      rcases hc with hc | hc
      · have he := POs.same_eq hc
        rw [he] at hm
        obtain ⟨b, ws, _, _, g3⟩ := rh.cell m xs hm
        exact g3.low
      · have := List.all_eq_true.mp hc _ (List.mem_of_getElem? hm)
        rw [hlen]
        simpa only [PO.low] using this
  · exact ⟨io1, ex, rh1, rv⟩
theorem rs_start {N : List Str} {vs : List V} {args : List PV} (r : Rls K fa io H vs args) : RS K fa io H (L2.start N vs) (startP N.length args) := by
  have hl := r.length
  refine ⟨by unfold L2.start startP; simp [hl], fun i x hx => ?_⟩
  unfold startP at hx
  by_cases hi : i < args.length
  · rw [List.getElem?_append_left (by simpa using hi), List.getElem?_map] at hx
    cases ha : args[i]? with
    | none => rw [ha] at hx; cases hx
    | some y =>
      rw [ha] at hx
      cases hx
      obtain ⟨v, hv, rv⟩ := r.get ha
      refine ⟨v, ?_, rv⟩
      unfold L2.start
      rw [List.getElem?_append_left (by simp; omega), List.getElem?_map, hv]
      rfl
  · rw [List.getElem?_append_right (by simpa using hi), List.getElem?_replicate] at hx
    split at hx <;> cases hx
end
section
variable {P : Program} {w : World} {K : PySem.W.Frag} {mg : Str → Option Value} {base : Heap} {fa : Nat → Option Addr} {G : Nat → Option Fn} {x : Str} {st : Stmt} {f : Addr} {fd : FuncData} {N ps : List Str} {i k : Nat} {body : CB}
theorem cal_zero (F : C8.Def K mg x st f fd) (b : Binds K fd ps []) : C8.Cal P w K mg base 0 x (spI K fa G 0 i) [] :=
  ⟨f, fd, ps, [], ⟨fun vs H Q E z => (by obtain ⟨_, _, _, _, _, _, _, e, _⟩ := z; unfold callF at e; cases e), fun A outer s H args us vs Q E _ _ _ _ z => (by obtain ⟨_, _, _, _, _, _, _, e, _⟩ := z; unfold callF at e; cases e)⟩, F.mgf, F.kp, b, .nil⟩
theorem fn_succ (F : C8.Fun K x x st f fd) (S : FnScope N ps (C8.fnScope st)) (hG : G i = some ⟨ps.length, N.length, body⟩)
    (hbody : ∀ (cdv : Value) (A : Around) (outer : List Env) (s : Shared) (H : Hp) (E : XK), Room k (A.deeper (PyProof.Rows.envOfC x (C8.fnScope st) s.heap.objs.size f cdv)) →
      PSs (cxOf CX0 P w K mg base N x (C8.fnScope st) f cdv A outer s H E).nox (C8.fnBody st) (tK K fa (callF G k) body)) : FnOk P w K mg base CX0 (k + 1) f fd ps (spI K fa G (k + 1) i) :=
  C8.fn0 F S (fun vs H Q E ⟨io, h, args, r, h', rv, rh, e, _⟩ => by
      unfold callF at e
      rw [hG] at e
      simp only at e
      split at e
      · rename_i hl; rw [rv.length]; exact hl
      · cases e) fun cdv A outer s H vs Q E hr ⟨io, h, args, r, h', rv, rh, e, q⟩ => by
    refine ⟨_, hbody cdv A outer s H E hr, ?_⟩
    unfold callF at e
    rw [hG] at e
    simp only at e
    split at e
    · rename_i hl
      obtain ⟨fl, h1, e1, e⟩ := bind_ok e
      refine ⟨io, _, h, fl, h1, rs_start rv, rh, e1, fun io1 H1 ex1 rh1 => ?_⟩
      cases fl with
      | nx s' =>
        intro sg' _
        simp only [outF] at e
        cases e
        obtain ⟨io2, ex2, rh2, rv2⟩ := rh.keeps ex1 rh1 .non
        exact q io2 H1 .non ex2 rh2 rv2
      | rt v =>
        intro u ru
        simp only [outF] at e
        cases e
        obtain ⟨io2, ex2, rh2, rv2⟩ := rh.keeps ex1 rh1 ru
        exact q io2 H1 u ex2 rh2 rv2
      | bk s' => simp only [outF] at e; cases e
      | ct s' => simp only [outF] at e; cases e
    · cases e
theorem cal_succ (F : C8.Def K mg x st f fd) (b : Binds K fd ps []) (S : FnScope N ps (C8.fnScope st)) (hG : G i = some ⟨ps.length, N.length, body⟩)
    (hbody : ∀ (cdv : Value) (A : Around) (outer : List Env) (s : Shared) (H : Hp) (E : XK), Room k (A.deeper (PyProof.Rows.envOfC x (C8.fnScope st) s.heap.objs.size f cdv)) →
      PSs (cxOf CX0 P w K mg base N x (C8.fnScope st) f cdv A outer s H E).nox (C8.fnBody st) (tK K fa (callF G k) body)) : C8.Cal P w K mg base (k + 1) x (spI K fa G (k + 1) i) [] :=
  ⟨f, fd, ps, [], fn_succ F.fn S hG hbody, F.mgf, F.kp, b, .nil⟩
/-- a def of the module that takes its parameters by place -/
structure Has (K : PySem.W.Frag) (mg : Str → Option Value) (x : Str) (st : Stmt) (ps : List Str) : Prop where
  ex : ∃ f fd, C8.Def K mg x st f fd ∧ ∀ us : List Value, us.length = ps.length → bindArgs fd ⟨us, []⟩ = pure (ps.zip us)
theorem has_mk {h : Heap} {oc : Value} {od an : Option Addr} {osl : Array (Option Value)} {kV doc pm cdv ct : Value} (KX : K.In h) (G : h.Ns mainGlobals mg) (a : PySem.W.nsIn K mainGlobals x = some (some (.ref f)))
    (l : K.lookup f = some ⟨oc, od, .func (PySem.W.fnOf x x (C8.fnArgs st) (C8.fnBody st) (C8.fnScope st) .none kV doc pm an cdv ct), osl⟩) (c : PySem.W.codeIn K cdv x = true) (k : PySem.W.keepIn K (.ref f) = true)
    (b : ∀ (kV doc pm : Value) (an : Option Addr) (cdv ct : Value) (us : List Value), us.length = ps.length → bindArgs (PySem.W.fnOf x x (C8.fnArgs st) (C8.fnBody st) (C8.fnScope st) .none kV doc pm an cdv ct) ⟨us, []⟩ = pure (ps.zip us)) : Has K mg x st ps :=
  ⟨f, _, ⟨⟨oc, od, .none, kV, doc, pm, an, cdv, ct, osl, rfl, l, c⟩, PySem.W.mg_of KX G a, k⟩, b kV doc pm an cdv ct⟩
theorem Has.zero (h : Has K mg x st ps) : C8.Cal P w K mg base 0 x (spI K fa G 0 i) [] := by
  obtain ⟨f, fd, F, b⟩ := h.ex
  exact cal_zero F (.all b)
theorem Has.succ (h : Has K mg x st ps) (S : FnScope N ps (C8.fnScope st)) (hG : G i = some ⟨ps.length, N.length, body⟩)
    (hbody : ∀ (f : Addr) (cdv : Value) (A : Around) (outer : List Env) (s : Shared) (H : Hp) (E : XK), Room k (A.deeper (PyProof.Rows.envOfC x (C8.fnScope st) s.heap.objs.size f cdv)) →
      PSs (cxOf CX0 P w K mg base N x (C8.fnScope st) f cdv A outer s H E).nox (C8.fnBody st) (tK K fa (callF G k) body)) : C8.Cal P w K mg base (k + 1) x (spI K fa G (k + 1) i) [] := by
  obtain ⟨f, fd, F, b⟩ := h.ex
  exact cal_succ F (.all b) S hG (hbody f)
/-! ### the module's constants -/
def GC (mg : Str → Option Value) (K : PySem.W.Frag) (fa : Nat → Option Addr) (x : Str) (c : PV) : Prop := ∃ u v, mg x = some u ∧ RelV v u ∧ Con K fa v c
theorem GC.int {i : Int} {t : Tok} (h : mg x = some (.int i t)) : GC mg K fa x (.int i) := ⟨_, .int i, h, ⟨t, rfl⟩, fun _ _ => .int i⟩
theorem GC.str {y : Str} {t : Tok} (h : mg x = some (.str y t)) : GC mg K fa x (.str y) := ⟨_, .str y, h, ⟨t, rfl⟩, fun _ _ => .str y⟩
/-- a value of the written part -/
def KC (K : PySem.W.Frag) (fa : Nat → Option Addr) (u : Value) (c : PV) : Prop := ∃ v, RelV v u ∧ Con K fa v c
inductive KCs (K : PySem.W.Frag) (fa : Nat → Option Addr) : List Value → List PV → Prop
  | nil : KCs K fa [] []
  | cons {u us c cs} : KC K fa u c → KCs K fa us cs → KCs K fa (u :: us) (c :: cs)
theorem KC.int {i : Int} {t : Tok} : KC K fa (.int i t) (.int i) := ⟨.int i, ⟨t, rfl⟩, fun _ _ => .int i⟩
theorem KC.str {i : Str} {t : Tok} : KC K fa (.str i t) (.str i) := ⟨.str i, ⟨t, rfl⟩, fun _ _ => .str i⟩
theorem KC.bl {b : Bool} : KC K fa (.bool b) (.bl b) := ⟨.bl b, rfl, fun _ _ => .bl b⟩
theorem KC.non : KC K fa .none .non := ⟨.non, rfl, fun _ _ => .non⟩
theorem KCs.vals : ∀ {us : List Value} {cs : List PV}, KCs K fa us cs → ∃ vs, Vals vs us ∧ ∀ io H, Rls K fa io H vs cs
  | _, _, .nil => ⟨[], .nil, fun _ _ => .nil⟩
  | _, _, .cons ⟨v, r, c⟩ t => by
    obtain ⟨vs, h1, h2⟩ := KCs.vals t
    exact ⟨v :: vs, .cons r h1, fun io H => .cons (c io H) (h2 io H)⟩
theorem KCs.length : ∀ {us : List Value} {cs : List PV}, KCs K fa us cs → us.length = cs.length
  | _, _, .nil => rfl
  | _, _, .cons _ t => by rw [List.length_cons, List.length_cons, KCs.length t]
theorem KC.tup {a : Addr} {us : List Value} {n : Nat} {sl : Array (Option Value)} {cs : List PV} (h : K.lookup a = some ⟨.type "tuple", none, .seq us.toArray n, sl⟩) (hc : KCs K fa us cs) (hz : cs.length ≤ 1000 := by decide) : KC K fa (.ref a) (.tup cs) := by
  obtain ⟨vs, h1, h2⟩ := hc.vals
  refine ⟨.ref a, rfl, fun io H => .tup (.inr ⟨_, us.toArray, n, h, rfl, rfl, rfl, ?_, h1⟩) (h2 io H)⟩
  rw [List.size_toArray, hc.length]
  exact Nat.le_trans hz (by decide)
theorem KC.gc {u : Value} {c : PV} (h : mg x = some u) (k : KC K fa u c) : GC mg K fa x c := by
  obtain ⟨v, r, q⟩ := k
  exact ⟨u, v, h, r, q⟩
theorem KC.fn {f : Addr} {n : Nat} (h : fa n = some f) : KC K fa (.ref f) (.fn n) := ⟨.ref f, rfl, fun _ _ => .fn h⟩
end
section
variable {X : Cx} {fa : Nat → Option Addr} {cf : Nat → List PV → PH → Res PV} {x : Str} {pos : Pos} {c : PV}
theorem e_gc (h : GC X.mg X.K fa x c) (hg : Gl X x) (hd : (x == ("__debug__" : Str)) = false := by decide) : PE X (.Name x pos) (tE X.K fa cf (.con c)) := by
  obtain ⟨u, v, hm, r, q⟩ := h
  exact e_con (pe_glob hg hm r hd) q
end
/-! ### defs as values -/
section
variable {K : PySem.W.Frag} {mg : Str → Option Value} {h : Heap} {l : List (Nat × Str)} {n : Nat} {x : Str} {f : Addr}
/-- where the defs that stand as values lie -/
def fvs (K : PySem.W.Frag) (l : List (Nat × Str)) (n : Nat) : Option Addr := match l.lookup n with
  | some x => match PySem.W.nsIn K mainGlobals x with
    | some (some (.ref f)) => some f
    | _ => none
  | none => none
/-- the promise of a def, where defs stand as values -/
abbrev spV (K : PySem.W.Frag) (l : List (Nat × Str)) (G : Nat → Option Fn) (k i : Nat) : Sp := spI K (fvs K l) G k i
theorem fvs_of (hl : l.lookup n = some x) (a : PySem.W.nsIn K mainGlobals x = some (some (.ref f))) : fvs K l n = some f := by
  unfold fvs
  rw [hl]
  simp only
  rw [a]
theorem GC.fnv (KX : K.In h) (G : h.Ns mainGlobals mg) (a : PySem.W.nsIn K mainGlobals x = some (some (.ref f))) (hl : l.lookup n = some x) : GC mg K (fvs K l) x (.fn n) :=
  ⟨.ref f, .ref f, PySem.W.mg_of KX G a, rfl, fun _ _ => .fn (fvs_of hl a)⟩
theorem fvs_r (KX : K.In h) (G : h.Ns mainGlobals mg) (n : Nat) (f : Addr) (e : fvs K l n = some f) : ∃ x, l.lookup n = some x ∧ mg x = some (.ref f) := by
  unfold fvs at e
  split at e
  · rename_i x hx
    split at e
    · rename_i g hg
      cases e
      exact ⟨x, hx, PySem.W.mg_of KX G hg⟩
    · cases e
  · cases e
theorem lookup_cons {a : Nat} {y : Str} (e : ((a, y) :: l).lookup n = some x) : (n = a ∧ x = y) ∨ l.lookup n = some x := by
  rw [List.lookup_cons] at e
  split at e
  · rename_i hb
    cases e
    exact .inl ⟨by simpa using hb, rfl⟩
  · exact .inr e
theorem heldOf {P : Program} {w : World} {base : Heap} {k : Nat} {sp : Sp} (c : C8.Cal P w K mg base k x sp []) (hm : mg x = some (.ref f)) :
    ∃ (fd : FuncData) (ps : List Str), FnOk P w K mg base L2.CX0 k f fd ps sp ∧ PySem.W.keepIn K (.ref f) = true ∧ Binds K fd ps [] := by
  obtain ⟨g, fd, ps, ds, F, hg, hk, hb, hv⟩ := c.ex
  rw [hm] at hg
  cases hg
  cases hv
  exact ⟨fd, ps, F, hk, hb⟩
end
/-! ### the law -/
section
variable {K : PySem.W.Frag} {fa : Nat → Option Addr} {H : Hp}
theorem rls_ints {io : List Addr} : ∀ ns : List Int, Rls K fa io H (ns.map V.int) (ns.map PV.int)
  | [] => .nil
  | n :: r => .cons (.int n) (rls_ints r)
/-- the promise of the law, from what its code answers -/
theorem law_sp {G : Nat → Option Fn} {k i : Nat} {a : Addr} {ns : List Int} (hO : Only H) (hS : SqL K H a (ns.map V.int)) (h : ∃ h', callF G k i [.scr (ns.map PV.int)] [] = .ok (.bl true) h') (E : XK) :
    spI K fa G k i [.ref a] H (fun v _ => v = .bl true) E := by
  obtain ⟨h', e⟩ := h
  refine ⟨[], [], [.scr (ns.map PV.int)], .bl true, h', .cons (.scr ?_ (rls_ints ns)) .nil, ⟨rfl, List.nodup_nil, fun n xs hx => by simp at hx⟩, e, fun io' H' v _ _ rv => by cases rv; rfl⟩
  rcases hS with (z | z) | z
  · rcases hO a with q | ⟨o, xs, q⟩
    · rw [q] at z; cases z
    · rw [q] at z; cases z
  · exact .inl z
  · exact .inr z
end
end PB

set_option Elab.async false
set_option linter.all false
set_option maxRecDepth 100000
namespace PB
open PySem
section
variable {cf : Nat → List PV → PH → Res PV} {s : Sl} {h : PH}
@[simp] theorem bind_ok' {α β : Type} {a : α} {f : α → PH → Res β} : (Res.ok a h).bind f = f a h := by rw [Res.bind]
@[simp] theorem bind_exc {α β : Type} {c : Nat} {v : PV} {f : α → PH → Res β} : (Res.exc c v h).bind f = .exc c v h := by rw [Res.bind]
@[simp] theorem bind_bad {α β : Type} {f : α → PH → Res β} : (Res.bad : Res α).bind f = .bad := by rw [Res.bind]
@[simp] theorem bind_ite {α β : Type} {p : Prop} [Decidable p] {x y : Res α} {f : α → PH → Res β} : (if p then x else y).bind f = if p then x.bind f else y.bind f := by split <;> rfl
def PV.ifB {α : Type} (x : PV) (a b : Res α) : Res α := match x with | .bl true => a | .bl false => b | _ => .bad
@[simp] theorem ifB_bl {α : Type} {p : Bool} {a b : Res α} : (PV.bl p).ifB a b = if p = true then a else b := by cases p <;> rfl
theorem evE_var {i : Nat} : evE cf (.var i) s h = match s[i]? with | some (some v) => .ok v h | _ => .bad := by first | (rw [evE]; done) | (rw [evE]; rfl)
@[simp] theorem evE_v0 {v : PV} {s : Sl} : evE cf (.var 0) (some v :: s) h = .ok v h := by first | (rw [evE]; done) | (rw [evE]; rfl)
@[simp] theorem evE_vs {i : Nat} {o : Option PV} {s : Sl} : evE cf (.var (i + 1)) (o :: s) h = evE cf (.var i) s h := by rw [evE, evE]; rfl
@[simp] theorem evE_con {v : PV} : evE cf (.con v) s h = .ok v h := by first | (rw [evE]; done) | (rw [evE]; rfl)
@[simp] theorem evE_bin {op : BinO} {a b : CE} : evE cf (.bin op a b) s h = (evE cf a s h).bind fun x h1 => (evE cf b s h1).bind fun y h2 => binop op x y h2 := by first | (rw [evE]; done) | (rw [evE]; rfl)
@[simp] theorem evE_neg {a : CE} : evE cf (.neg a) s h = (evE cf a s h).bind fun x h1 => match x with | .int i => .ok (.int (-i)) h1 | _ => .bad := by first | (rw [evE]; done) | (rw [evE]; rfl)
@[simp] theorem evE_not {a : CE} : evE cf (.not a) s h = (evE cf a s h).bind fun x h1 => match x with | .bl b => .ok (.bl (!b)) h1 | _ => .bad := by first | (rw [evE]; done) | (rw [evE]; rfl)
@[simp] theorem evE_and {a b : CE} : evE cf (.and a b) s h = (evE cf a s h).bind fun x h1 => x.ifB (evE cf b s h1) (.ok (.bl false) h1) := by first | (rw [evE]; done) | (rw [evE]; rfl) | (rw [evE]; congr 1; funext x h1; cases x <;> first | rfl | (rename_i p; cases p <;> rfl))
@[simp] theorem evE_or {a b : CE} : evE cf (.or a b) s h = (evE cf a s h).bind fun x h1 => x.ifB (.ok (.bl true) h1) (evE cf b s h1) := by first | (rw [evE]; done) | (rw [evE]; rfl) | (rw [evE]; congr 1; funext x h1; cases x <;> first | rfl | (rename_i p; cases p <;> rfl))
@[simp] theorem evE_cmp {op : CmpO} {a b : CE} : evE cf (.cmp op a b) s h = (evE cf a s h).bind fun x h1 => (evE cf b s h1).bind fun y h2 => cmpop op x y h2 := by first | (rw [evE]; done) | (rw [evE]; rfl)
@[simp] theorem evE_chn {op op' : CmpO} {a b c : CE} : evE cf (.chn op op' a b c) s h = (evE cf a s h).bind fun x h1 => (evE cf b s h1).bind fun y h2 => (cmpop op x y h2).bind fun r h3 =>
      r.ifB ((evE cf c s h3).bind fun z h4 => cmpop op' y z h4) (.ok (.bl false) h3) := by first | (rw [evE]; done) | (rw [evE]; rfl) | (rw [evE]; congr 1; funext x h1; cases x <;> first | rfl | (rename_i p; cases p <;> rfl))
@[simp] theorem evE_ite {c a b : CE} : evE cf (.ite c a b) s h = (evE cf c s h).bind fun x h1 => x.ifB (evE cf a s h1) (evE cf b s h1) := by first | (rw [evE]; done) | (rw [evE]; rfl) | (rw [evE]; congr 1; funext x h1; cases x <;> first | rfl | (rename_i p; cases p <;> rfl))
@[simp] theorem evE_tup {es : CA} : evE cf (.tup es) s h = (evA cf es s h).bind fun xs h1 => if xs.length ≤ many then .ok (.tup xs) h1 else .bad := by first | (rw [evE]; done) | (rw [evE]; rfl)
@[simp] theorem evE_lst {es : CA} : evE cf (.lst es) s h = (evA cf es s h).bind fun xs h1 => if xs.length ≤ many then alloc xs h1 else .bad := by first | (rw [evE]; done) | (rw [evE]; rfl)
@[simp] theorem evE_idx {a b : CE} : evE cf (.idx a b) s h = (evE cf a s h).bind fun x h1 => (evE cf b s h1).bind fun y h2 => idxop x y h2 := by first | (rw [evE]; done) | (rw [evE]; rfl)
@[simp] theorem evE_two {a : CE} {k : CO} : evE cf (.two a k) s h = (evE cf a s h).bind fun x h1 => (evO cf k s h1).bind fun l h2 => (optI h2 l).bind fun l h3 => twoop x l h3 := by first | (rw [evE]; done) | (rw [evE]; rfl)
@[simp] theorem evE_slc {a : CE} {lo hi : CO} : evE cf (.slc a lo hi) s h = (evE cf a s h).bind fun x h1 => (evO cf lo s h1).bind fun l h2 => (evO cf hi s h2).bind fun u h3 =>
      (optI h3 l).bind fun l h3 => (optI h3 u).bind fun u h3 => slcop x l u h3 := by first | (rw [evE]; done) | (rw [evE]; rfl)
@[simp] theorem evE_rev {a : CE} : evE cf (.rev a) s h = (evE cf a s h).bind fun x h1 => revop x h1 := by first | (rw [evE]; done) | (rw [evE]; rfl)
@[simp] theorem evE_call {f : Nat} {es : CA} : evE cf (.call f es) s h = (evA cf es s h).bind fun xs h1 => cf f xs h1 := by first | (rw [evE]; done) | (rw [evE]; rfl)
@[simp] theorem evE_callv {i : Nat} {es : CA} : evE cf (.callv i es) s h = match s[i]? with | some (some (.fn f)) => (evA cf es s h).bind fun xs h1 => cf f xs h1 | _ => .bad := by first | (rw [evE]; done) | (rw [evE]; rfl)
@[simp] theorem evE_blt {b : Blt} {es : CA} : evE cf (.blt b es) s h = (evA cf es s h).bind fun xs h1 => blt b xs h1 := by first | (rw [evE]; done) | (rw [evE]; rfl)
@[simp] theorem evE_mth {m : Mth} {o : CE} {es : CA} : evE cf (.mth m o es) s h = (evE cf o s h).bind fun x h1 => (evA cf es s h1).bind fun xs h2 => mth m x xs h2 := by first | (rw [evE]; done) | (rw [evE]; rfl)
/-- one turn of a comprehension -/
def compF (cf : Nat → List PV → PH → Res PV) (e : CE) (own : List Nat) (tg : CT) (c : CO) (s : Sl) (x : PV) (h2 : PH) : Res (Option PV) :=
  (asT cf tg x (wipe s own) h2).bind fun s3 h3 => (evO cf c s3 h3).bind fun t h4 =>
        match t with
        | some (.bl false) => .ok none h4
        | some (.bl true) => (evE cf e s3 h4).bind fun y h5 => .ok (some y) h5
        | none => (evE cf e s3 h4).bind fun y h5 => .ok (some y) h5
        | _ => .bad
@[simp] theorem evE_comp {e : CE} {own : List Nat} {tg : CT} {it : CI} {c : CO} : evE cf (.comp e own tg it c) s h = (evI cf it s h).bind fun p h1 => if p.1.length ≤ many then
      (compL (compF cf e own tg c s) p.2 p.1 h1).bind (fun ys h2 => alloc ys h2) else .bad := by first | (rw [evE]; done) | (rw [evE]; rfl)
@[simp] theorem evA_nil : evA cf .nil s h = .ok [] h := by first | (rw [evA]; done) | (rw [evA]; rfl)
@[simp] theorem evA_cons {e : CE} {r : CA} : evA cf (.cons e r) s h = (evE cf e s h).bind fun x h1 => (evA cf r s h1).bind fun xs h2 => .ok (x :: xs) h2 := by first | (rw [evA]; done) | (rw [evA]; rfl)
@[simp] theorem evA_star {e : CE} {r : CA} : evA cf (.star e r) s h = (evE cf e s h).bind fun x h1 => match items h1 x with
    | some ys => (evA cf r s h1).bind fun xs h2 => .ok (ys ++ xs) h2
    | none => .bad := by first | (rw [evA]; done) | (rw [evA]; rfl)
@[simp] theorem evO_none : evO cf .none s h = .ok none h := by first | (rw [evO]; done) | (rw [evO]; rfl)
@[simp] theorem evO_some {e : CE} : evO cf (.some e) s h = (evE cf e s h).bind fun x h1 => .ok (some x) h1 := by first | (rw [evO]; done) | (rw [evO]; rfl)
@[simp] theorem evI_seq {e : CE} : evI cf (.seq e) s h = (evE cf e s h).bind fun x h1 => match items h1 x with | some xs => .ok (xs, leanOf h1 x) h1 | none => .bad := by first | (rw [evI]; done) | (rw [evI]; rfl)
@[simp] theorem evI_rng1 {es : CA} : evI cf (.rng1 es) s h = (evA cf es s h).bind fun xs h1 => match xs with
    | [.int b] => if -bigR ≤ b ∧ b ≤ bigR then .ok (range 0 b.toNat 1, []) h1 else .bad
    | _ => .bad := by first | (rw [evI]; done) | (rw [evI]; rfl)
@[simp] theorem evI_rng2 {es : CA} : evI cf (.rng2 es) s h = (evA cf es s h).bind fun xs h1 => match xs with
    | [.int a, .int b] => if -bigR ≤ a ∧ a ≤ bigR ∧ -bigR ≤ b ∧ b ≤ bigR then .ok (range a (b - a).toNat 1, []) h1 else .bad
    | _ => .bad := by first | (rw [evI]; done) | (rw [evI]; rfl)
@[simp] theorem evI_rng3 {es : CA} : evI cf (.rng3 es) s h = (evA cf es s h).bind fun xs h1 => match xs with
    | [.int a, .int b, .int c] => if -bigR ≤ a ∧ a ≤ bigR ∧ -bigR ≤ b ∧ b ≤ bigR ∧ c = -1 then .ok (range a (a - b).toNat (-1), []) h1 else .bad
    | _ => .bad := by first | (rw [evI]; done) | (rw [evI]; rfl)
@[simp] theorem evI_enu {es : CA} : evI cf (.enu es) s h = (evA cf es s h).bind fun xs h1 => match xs with
    | [x] => match items h1 x with | some ys => .ok (enums 0 ys, leanOf h1 x) h1 | none => .bad
    | _ => .bad := by first | (rw [evI]; done) | (rw [evI]; rfl)
@[simp] theorem evI_zip {es : CA} : evI cf (.zip es) s h = (evA cf es s h).bind fun xs h1 => match xs with
    | [x, y] => match items h1 x, items h1 y with
      | some us, some ws => .ok (zips us ws, leanOf h1 x ++ leanOf h1 y) h1
      | _, _ => .bad
    | _ => .bad := by first | (rw [evI]; done) | (rw [evI]; rfl)
@[simp] theorem asT_v {i : Nat} {x : PV} : asT cf (.v i) x s h = .ok (s.set i (some x)) h := by first | (rw [asT]; done) | (rw [asT]; rfl)
@[simp] theorem asT_s {o i : CE} {x : PV} : asT cf (.s o i) x s h = (evE cf o s h).bind fun ov h1 => (evE cf i s h1).bind fun iv h2 => (setop ov iv x h2).bind fun _ h3 => .ok s h3 := by first | (rw [asT]; done) | (rw [asT]; rfl)
@[simp] theorem asT_wcons {a r : CT} {x : PV} {xs : List PV} : asT cf (.cons a r) (.wtup (x :: xs)) s h = (asT cf a x s h).bind fun s1 h1 => asTs cf r xs s1 h1 := by first | (rw [asT]; done) | (rw [asT]; rfl)
@[simp] theorem asT_rcons {a r : CT} {n : Nat} {x : PV} {xs : List PV} (hx : h[n]? = some (.lst (x :: xs))) : asT cf (.cons a r) (.ref n) s h = (asT cf a x s h).bind fun s1 h1 => asTs cf r xs s1 h1 := by first | (rw [asT, hx]; done) | (rw [asT, hx]; rfl) | (rw [asT]; simp only [hx])
@[simp] theorem asT_cons {a r : CT} {x : PV} {xs : List PV} : asT cf (.cons a r) (.tup (x :: xs)) s h = (asT cf a x s h).bind fun s1 h1 => asTs cf r xs s1 h1 := by first | (rw [asT]; done) | (rw [asT]; rfl)
@[simp] theorem asTs_cons {a r : CT} {x : PV} {xs : List PV} : asTs cf (.cons a r) (x :: xs) s h = (asT cf a x s h).bind fun s1 h1 => asTs cf r xs s1 h1 := by first | (rw [asTs]; done) | (rw [asTs]; rfl)
@[simp] theorem asTs_nil : asTs cf .nil [] s h = .ok s h := by first | (rw [asTs]; done) | (rw [asTs]; rfl)
@[simp] theorem evS_asg {t : CT} {e : CE} : evS cf (.asg t e) s h = (evE cf e s h).bind fun x h1 => (asT cf t x s h1).bind fun s2 h2 => .ok (.nx s2) h2 := by first | (rw [evS]; done) | (rw [evS]; rfl)
@[simp] theorem evS_par {is : List Nat} {es : CA} : evS cf (.par is es) s h = (evA cf es s h).bind fun xs h1 => match setAll is xs s with | some s2 => .ok (.nx s2) h1 | none => .bad := by first | (rw [evS]; done) | (rw [evS]; rfl)
@[simp] theorem evS_aug {i : Nat} {op : BinO} {e : CE} : evS cf (.aug i op e) s h = match s[i]? with
    | some (some x) => (evE cf e s h).bind fun y h1 => if isNum x = true ∧ isNum y = true then
        (binop op x y h1).bind fun z h2 => .ok (.nx (s.set i (some z))) h2 else .bad
    | _ => .bad := by first | (rw [evS]; done) | (rw [evS]; rfl)
@[simp] theorem evS_expr {e : CE} : evS cf (.expr e) s h = (evE cf e s h).bind fun _ h1 => .ok (.nx s) h1 := by first | (rw [evS]; done) | (rw [evS]; rfl)
@[simp] theorem evS_ret {e : CE} : evS cf (.ret e) s h = (evE cf e s h).bind fun x h1 => .ok (.rt x) h1 := by first | (rw [evS]; done) | (rw [evS]; rfl)
@[simp] theorem evS_retN : evS cf .retN s h = .ok (.rt .non) h := by first | (rw [evS]; done) | (rw [evS]; rfl)
@[simp] theorem evS_ifs {c : CE} {a b : CB} : evS cf (.ifs c a b) s h = (evE cf c s h).bind fun x h1 => x.ifB (evB cf a s h1) (evB cf b s h1) := by first | (rw [evS]; done) | (rw [evS]; rfl) | (rw [evS]; congr 1; funext x h1; cases x <;> first | rfl | (rename_i p; cases p <;> rfl))
@[simp] theorem evS_whl {c : CE} {b : CB} : evS cf (.whl c b) s h = whL (evE cf c) (evB cf b) fuel s h := by first | (rw [evS]; done) | (rw [evS]; rfl)
@[simp] theorem evS_for {t : CT} {it : CI} {b : CB} : evS cf (.for_ t it b) s h = (evI cf it s h).bind fun p h1 => frL (asT cf t) (evB cf b) p.2 p.1 s h1 := by first | (rw [evS]; done) | (rw [evS]; rfl)
@[simp] theorem evS_brk : evS cf .brk s h = .ok (.bk s) h := by first | (rw [evS]; done) | (rw [evS]; rfl)
@[simp] theorem evS_cnt : evS cf .cnt s h = .ok (.ct s) h := by first | (rw [evS]; done) | (rw [evS]; rfl)
@[simp] theorem evS_pass : evS cf .pass s h = .ok (.nx s) h := by first | (rw [evS]; done) | (rw [evS]; rfl)
@[simp] theorem evS_raise {c : Nat} {es : CA} : evS cf (.raise c es) s h = (evA cf es s h).bind fun xs h1 => .exc c (.tup xs) h1 := by first | (rw [evS]; done) | (rw [evS]; rfl)
@[simp] theorem evB_nil : evB cf .nil s h = .ok (.nx s) h := by first | (rw [evB]; done) | (rw [evB]; rfl)
@[simp] theorem evB_cons {st : CS} {r : CB} : evB cf (.cons st r) s h = (evS cf st s h).bind fun f h1 => match f with
    | .nx s2 => evB cf r s2 h1
    | f => .ok f h1 := by first | (rw [evB]; done) | (rw [evB]; rfl)
theorem callF_eq {G : Nat → Option Fn} {k i : Nat} {args : List PV} {f : Fn} (hG : G i = some f) (hl : args.length = f.np) :
    callF G (k + 1) i args h = (evB (callF G k) f.body (startP f.ns args) h).bind (outF h) := by
  rw [callF, hG]
  simp only
  rw [if_pos hl]
end
end PB

set_option Elab.async false
set_option linter.all false
set_option maxRecDepth 100000
set_option maxHeartbeats 4000000
namespace PB
open PySem PySem.Spec L2
def c_is_int : CB := (.cons (.ret (.and (.blt .isInt (.cons (.var 0) .nil)) (.not (.blt .isBool (.cons (.var 0) .nil))))) .nil)
def f_is_int : Fn := ⟨1, 1, c_is_int⟩
def c_is_from : CB := (.cons (.ret (.and (.call 0 (.cons (.var 0) .nil)) (.chn .le .le (.var 1) (.var 0) (.var 2)))) .nil)
def f_is_from : Fn := ⟨3, 3, c_is_from⟩
def c_is_ratio : CB := (.cons (.ifs (.or (.not (.blt .isTup (.cons (.var 0) .nil))) (.or (.cmp .ne (.blt .len (.cons (.var 0) .nil)) (.con (.int 2))) (.or (.not (.call 0 (.cons (.idx (.var 0) (.con (.int 0))) .nil))) (.not (.call 0 (.cons (.idx (.var 0) (.con (.int 1))) .nil)))))) (.cons (.ret (.con (.bl false))) .nil) .nil) (.cons (.ret (.and (.cmp .gt (.idx (.var 0) (.con (.int 1))) (.con (.int 0))) (.cmp .eq (.blt .gcd (.cons (.idx (.var 0) (.con (.int 0))) (.cons (.idx (.var 0) (.con (.int 1))) .nil))) (.con (.int 1))))) .nil))
def f_is_ratio : Fn := ⟨1, 1, c_is_ratio⟩
def c_is_below : CB := (.cons (.ret (.cmp .lt (.bin .mul (.idx (.var 0) (.con (.int 0))) (.idx (.var 1) (.con (.int 1)))) (.bin .mul (.idx (.var 1) (.con (.int 0))) (.idx (.var 0) (.con (.int 1)))))) .nil)
def f_is_below : Fn := ⟨2, 2, c_is_below⟩
def c_need_low : CB := (.cons (.ifs (.not (.call 75 (.cons (.var 0) (.cons (.var 1) (.cons (.con (.int 4)) .nil))))) (.cons (.raise 0 .nil) .nil) .nil) .nil)
def f_need_low : Fn := ⟨2, 2, c_need_low⟩
def c_space_size : CB := (.cons (.ifs (.or (.not (.blt .isTup (.cons (.var 0) .nil))) (.not (.chn .le .le (.con (.int 2)) (.blt .len (.cons (.var 0) .nil)) (.con (.int 6))))) (.cons (.raise 0 .nil) .nil) .nil) (.cons (.for_ (.cons (.v 3) (.cons (.v 4) .nil)) (.enu (.cons (.var 0) .nil)) (.cons (.ifs (.or (.not (.call 1 (.cons (.var 4) .nil))) (.and (.cmp .gt (.var 3) (.con (.int 0))) (.not (.call 49 (.cons (.idx (.var 0) (.bin .sub (.var 3) (.con (.int 1)))) (.cons (.var 4) .nil)))))) (.cons (.raise 0 .nil) .nil) .nil) .nil)) (.cons (.expr (.call 149 (.cons (.var 1) (.cons (.con (.int 0)) .nil)))) (.cons (.ifs (.not (.call 75 (.cons (.var 2) (.cons (.neg (.con (.int 1))) (.cons (.var 1) .nil))))) (.cons (.raise 0 .nil) .nil) .nil) (.cons (.ret (.bin .sub (.bin .mul (.bin .sub (.blt .len (.cons (.var 0) .nil)) (.con (.int 1))) (.bin .add (.var 1) (.con (.int 1)))) (.bin .mul (.bin .sub (.blt .len (.cons (.var 0) .nil)) (.con (.int 2))) (.bin .add (.var 2) (.con (.int 1)))))) .nil)))))
def f_space_size : Fn := ⟨3, 5, c_space_size⟩
def c__law_taken : CB := (.cons (.ifs (.cmp .gt (.idx (.var 0) (.con (.int 3))) (.con (.int 0))) (.cons (.asg (.v 3) (.bin .mod (.blt .int (.cons (.idx (.var 0) (.con (.int 3))) .nil)) (.var 1))) (.cons (.asg (.s (.var 0) (.con (.int 3))) (.bin .fdiv (.idx (.var 0) (.con (.int 3))) (.var 1))) (.cons (.ret (.var 3)) .nil))) .nil) (.cons (.asg (.s (.var 0) (.con (.int 1))) (.bin .add (.idx (.var 0) (.con (.int 1))) (.con (.int 1)))) (.cons (.ifs (.cmp .gt (.idx (.var 0) (.con (.int 1))) (.blt .len (.cons (.idx (.var 0) (.con (.int 0))) .nil))) (.cons (.asg (.s (.var 0) (.con (.int 2))) (.bin .mod (.blt .int (.cons (.bin .add (.bin .mul (.idx (.var 0) (.con (.int 2))) (.con (.int 48271))) (.con (.int 11))) .nil)) (.con (.int 2147483647)))) (.cons (.ret (.bin .mod (.blt .int (.cons (.bin .fdiv (.idx (.var 0) (.con (.int 2))) (.con (.int 7))) .nil)) (.var 1))) .nil)) .nil) (.cons (.asg (.v 2) (.idx (.idx (.var 0) (.con (.int 0))) (.bin .sub (.idx (.var 0) (.con (.int 1))) (.con (.int 1))))) (.cons (.asg (.s (.var 0) (.con (.int 2))) (.bin .mod (.blt .int (.cons (.bin .add (.bin .add (.bin .mul (.idx (.var 0) (.con (.int 2))) (.con (.int 48271))) (.var 2)) (.con (.int 11))) .nil)) (.con (.int 2147483647)))) (.cons (.ifs (.cmp .ge (.var 2) (.bin .pow (.con (.int 10)) (.con (.int 18)))) (.cons (.asg (.s (.var 0) (.con (.int 3))) (.bin .fdiv (.var 2) (.var 1))) .nil) .nil) (.cons (.ret (.bin .mod (.blt .int (.cons (.var 2) .nil)) (.var 1))) .nil)))))))
def f__law_taken : Fn := ⟨2, 4, c__law_taken⟩
def c__law_pick : CB := (.cons (.ret (.idx (.var 1) (.call 14 (.cons (.var 0) (.cons (.blt .len (.cons (.var 1) .nil)) .nil))))) .nil)
def f__law_pick : Fn := ⟨2, 2, c__law_pick⟩
def c__law_alike : CB := (.cons (.ifs (.blt .isTL (.cons (.var 1) .nil)) (.cons (.ifs (.or (.not (.blt .isTL (.cons (.var 0) .nil))) (.cmp .ne (.blt .isList (.cons (.var 0) .nil)) (.blt .isList (.cons (.var 1) .nil)))) (.cons (.ret (.con (.bl false))) .nil) .nil) (.cons (.ifs (.cmp .ne (.blt .len (.cons (.var 0) .nil)) (.blt .len (.cons (.var 1) .nil))) (.cons (.ret (.con (.bl false))) .nil) .nil) (.cons (.ret (.cmp .eq (.comp (.var 2) [2] (.v 2) (.rng1 (.cons (.blt .len (.cons (.var 1) .nil)) .nil)) (.some (.not (.call 15 (.cons (.idx (.var 0) (.var 2)) (.cons (.idx (.var 1) (.var 2)) .nil)))))) (.lst .nil))) .nil))) .nil) (.cons (.ifs (.or (.cmp .isN (.var 1) (.con .non)) (.blt .isStr (.cons (.var 1) .nil))) (.cons (.ret (.and (.cmp .eq (.var 0) (.var 1)) (.cmp .eq (.blt .isStr (.cons (.var 0) .nil)) (.blt .isStr (.cons (.var 1) .nil))))) .nil) .nil) (.cons (.ret (.and (.blt .isInt (.cons (.var 0) .nil)) (.and (.cmp .eq (.blt .isBool (.cons (.var 0) .nil)) (.blt .isBool (.cons (.var 1) .nil))) (.cmp .eq (.var 0) (.var 1))))) .nil)))
def f__law_alike : Fn := ⟨2, 3, c__law_alike⟩
def c__law_made : CB := (.cons (.par [3, 4] (.cons (.blt .abs (.cons (.var 0) .nil)) (.cons (.blt .abs (.cons (.var 1) .nil)) .nil))) (.cons (.for_ (.v 2) (.rng1 (.cons (.con (.int 10000)) .nil)) (.cons (.ifs (.cmp .eq (.var 4) (.con (.int 0))) (.cons .brk .nil) .nil) (.cons (.par [3, 4] (.cons (.var 4) (.cons (.bin .mod (.var 3) (.var 4)) .nil))) .nil))) (.cons (.asg (.v 3) (.ite (.cmp .lt (.var 1) (.con (.int 0))) (.bin .sub (.con (.int 0)) (.var 3)) (.var 3))) (.cons (.ret (.tup (.cons (.bin .fdiv (.var 0) (.var 3)) (.cons (.bin .fdiv (.var 1) (.var 3)) .nil)))) .nil))))
def f__law_made : Fn := ⟨2, 5, c__law_made⟩
def c__law_plus : CB := (.cons (.ret (.call 16 (.cons (.bin .add (.bin .mul (.idx (.var 0) (.con (.int 0))) (.idx (.var 1) (.con (.int 1)))) (.bin .mul (.idx (.var 1) (.con (.int 0))) (.idx (.var 0) (.con (.int 1))))) (.cons (.bin .mul (.idx (.var 0) (.con (.int 1))) (.idx (.var 1) (.con (.int 1)))) .nil)))) .nil)
def f__law_plus : Fn := ⟨2, 2, c__law_plus⟩
def c__law_minus : CB := (.cons (.ret (.call 16 (.cons (.bin .sub (.bin .mul (.idx (.var 0) (.con (.int 0))) (.idx (.var 1) (.con (.int 1)))) (.bin .mul (.idx (.var 1) (.con (.int 0))) (.idx (.var 0) (.con (.int 1))))) (.cons (.bin .mul (.idx (.var 0) (.con (.int 1))) (.idx (.var 1) (.con (.int 1)))) .nil)))) .nil)
def f__law_minus : Fn := ⟨2, 2, c__law_minus⟩
def c__law_times : CB := (.cons (.ret (.call 16 (.cons (.bin .mul (.idx (.var 0) (.con (.int 0))) (.idx (.var 1) (.con (.int 0)))) (.cons (.bin .mul (.idx (.var 0) (.con (.int 1))) (.idx (.var 1) (.con (.int 1)))) .nil)))) .nil)
def f__law_times : Fn := ⟨2, 2, c__law_times⟩
def c__law_over : CB := (.cons (.ret (.call 16 (.cons (.bin .mul (.idx (.var 0) (.con (.int 0))) (.idx (.var 1) (.con (.int 1)))) (.cons (.bin .mul (.idx (.var 0) (.con (.int 1))) (.idx (.var 1) (.con (.int 0)))) .nil)))) .nil)
def f__law_over : Fn := ⟨2, 2, c__law_over⟩
def c__law_draw : CB := (.cons (.asg (.v 1) (.call 17 (.cons (.var 0) (.cons (.lst (.cons (.con (.int 1)) (.cons (.con (.int 1)) (.cons (.con (.int 2)) (.cons (.con (.int 3)) (.cons (.con (.int 4)) .nil)))))) .nil)))) (.cons (.ret (.call 16 (.cons (.bin .sub (.call 14 (.cons (.var 0) (.cons (.con (.int 13)) .nil))) (.con (.int 6))) (.cons (.var 1) .nil)))) .nil))
def f__law_draw : Fn := ⟨1, 2, c__law_draw⟩
def c__law_at : CB := (.cons (.asg (.v 2) (.tup (.cons (.con (.int 0)) (.cons (.con (.int 1)) .nil)))) (.cons (.for_ (.v 3) (.seq (.rev (.var 0))) (.cons (.asg (.v 2) (.call 20 (.cons (.call 21 (.cons (.var 2) (.cons (.var 1) .nil))) (.cons (.var 3) .nil)))) .nil)) (.cons (.ret (.var 2)) .nil)))
def f__law_at : Fn := ⟨2, 4, c__law_at⟩
def c__law_p_slope : CB := (.cons (.ret (.blt .tuple (.cons (.comp (.call 21 (.cons (.idx (.var 0) (.var 1)) (.cons (.tup (.cons (.var 1) (.cons (.con (.int 1)) .nil))) .nil))) [1] (.v 1) (.rng2 (.cons (.con (.int 1)) (.cons (.blt .len (.cons (.var 0) .nil)) .nil))) .none) .nil))) .nil)
def f__law_p_slope : Fn := ⟨1, 2, c__law_p_slope⟩
def c__law_slopes : CB := (.cons (.asg (.v 2) (.var 0)) (.cons (.for_ (.v 3) (.rng1 (.cons (.var 1) .nil)) (.cons (.asg (.v 2) (.call 44 (.cons (.var 2) .nil))) .nil)) (.cons (.ret (.var 2)) .nil)))
def f__law_slopes : Fn := ⟨2, 4, c__law_slopes⟩
def c__law_rank : CB := (.cons (.asg (.cons (.v 3) (.cons (.v 4) .nil)) (.tup (.cons (.comp (.blt .list (.cons (.var 7) .nil)) [7] (.v 7) (.seq (.var 0)) .none) (.cons (.con (.int 0)) .nil)))) (.cons (.asg (.v 1) (.ite (.cmp .ne (.var 3) (.lst .nil)) (.blt .len (.cons (.idx (.var 3) (.con (.int 0))) .nil)) (.con (.int 0)))) (.cons (.for_ (.v 2) (.rng1 (.cons (.var 1) .nil)) (.cons (.asg (.v 5) (.comp (.var 6) [6] (.v 6) (.rng2 (.cons (.var 4) (.cons (.blt .len (.cons (.var 3) .nil)) .nil))) (.some (.cmp .ne (.idx (.idx (.var 3) (.var 6)) (.var 2)) (.tup (.cons (.con (.int 0)) (.cons (.con (.int 1)) .nil))))))) (.cons (.ifs (.cmp .ne (.var 5) (.lst .nil)) (.cons (.asg (.cons (.s (.var 3) (.var 4)) (.cons (.s (.var 3) (.idx (.var 5) (.con (.int 0)))) .nil)) (.tup (.cons (.idx (.var 3) (.idx (.var 5) (.con (.int 0)))) (.cons (.idx (.var 3) (.var 4)) .nil)))) (.cons (.for_ (.v 6) (.rng2 (.cons (.bin .add (.var 4) (.con (.int 1))) (.cons (.blt .len (.cons (.var 3) .nil)) .nil))) (.cons (.asg (.v 8) (.call 69 (.cons (.idx (.idx (.var 3) (.var 6)) (.var 2)) (.cons (.idx (.idx (.var 3) (.var 4)) (.var 2)) .nil)))) (.cons (.asg (.v 9) (.idx (.var 3) (.var 4))) (.cons (.asg (.s (.var 3) (.var 6)) (.comp (.call 43 (.cons (.var 10) (.cons (.call 21 (.cons (.var 8) (.cons (.var 11) .nil))) .nil))) [10, 11] (.cons (.v 10) (.cons (.v 11) .nil)) (.zip (.cons (.idx (.var 3) (.var 6)) (.cons (.var 9) .nil))) .none)) .nil)))) (.cons (.asg (.v 4) (.bin .add (.var 4) (.con (.int 1)))) .nil))) .nil) .nil))) (.cons (.ret (.var 4)) .nil))))
def f__law_rank : Fn := ⟨1, 12, c__law_rank⟩
def c_law_29 : CB := (.cons (.asg (.v 1) (.lst (.cons (.var 0) (.cons (.con (.int 0)) (.cons (.con (.int 4136)) (.cons (.con (.int 0)) .nil)))))) (.cons (.asg (.v 2) (.call 14 (.cons (.var 1) (.cons (.con (.int 5)) .nil)))) (.cons (.asg (.v 3) (.bin .sub (.call 14 (.cons (.var 1) (.cons (.bin .add (.var 2) (.con (.int 2))) .nil))) (.con (.int 1)))) (.cons (.par [6, 7] (.cons (.call 19 (.cons (.var 1) .nil)) (.cons (.lst .nil) .nil))) (.cons (.for_ (.v 4) (.rng1 (.cons (.bin .add (.con (.int 2)) (.call 14 (.cons (.var 1) (.cons (.con (.int 3)) .nil)))) .nil)) (.cons (.expr (.mth .append (.var 7) (.cons (.var 6) .nil))) (.cons (.asg (.v 6) (.call 20 (.cons (.var 6) (.cons (.call 16 (.cons (.bin .add (.con (.int 1)) (.call 14 (.cons (.var 1) (.cons (.con (.int 5)) .nil)))) (.cons (.call 17 (.cons (.var 1) (.cons (.lst (.cons (.con (.int 1)) (.cons (.con (.int 2)) (.cons (.con (.int 3)) .nil)))) .nil))) .nil))) .nil)))) .nil))) (.cons (.par [8, 9] (.cons (.bin .sub (.blt .len (.cons (.var 7) .nil)) (.con (.int 1))) (.cons (.lst .nil) .nil))) (.cons (.for_ (.v 5) (.rng2 (.cons (.con (.int 1)) (.cons (.var 8) .nil))) (.cons (.for_ (.v 4) (.rng1 (.cons (.bin .add (.var 3) (.con (.int 1))) .nil)) (.cons (.asg (.v 10) (.bin .mul (.lst (.cons (.tup (.cons (.con (.int 0)) (.cons (.con (.int 1)) .nil))) .nil)) (.bin .mul (.var 8) (.bin .add (.var 2) (.con (.int 1)))))) (.cons (.for_ (.v 11) (.rng1 (.cons (.bin .add (.var 2) (.con (.int 1))) .nil)) (.cons (.asg (.v 12) (.call 61 (.cons (.bin .add (.bin .mul (.tup (.cons (.tup (.cons (.con (.int 0)) (.cons (.con (.int 1)) .nil))) .nil)) (.var 11)) (.tup (.cons (.tup (.cons (.con (.int 1)) (.cons (.con (.int 1)) .nil))) .nil))) (.cons (.var 4) .nil)))) (.cons (.asg (.v 13) (.call 24 (.cons (.var 12) (.cons (.idx (.var 7) (.var 5)) .nil)))) (.cons (.asg (.s (.var 10) (.bin .add (.bin .mul (.bin .sub (.var 5) (.con (.int 1))) (.bin .add (.var 2) (.con (.int 1)))) (.var 11))) (.var 13)) (.cons (.asg (.s (.var 10) (.bin .add (.bin .mul (.var 5) (.bin .add (.var 2) (.con (.int 1)))) (.var 11))) (.call 21 (.cons (.var 13) (.cons (.tup (.cons (.neg (.con (.int 1))) (.cons (.con (.int 1)) .nil))) .nil)))) .nil))))) (.cons (.expr (.mth .append (.var 9) (.cons (.var 10) .nil))) .nil)))) .nil)) (.cons (.ret (.call 15 (.cons (.call 205 (.cons (.blt .tuple (.cons (.var 7) .nil)) (.cons (.var 2) (.cons (.var 3) .nil)))) (.cons (.bin .sub (.bin .mul (.var 8) (.bin .add (.var 2) (.con (.int 1)))) (.call 204 (.cons (.var 9) .nil))) .nil)))) .nil))))))))
def f_law_29 : Fn := ⟨1, 14, c_law_29⟩
def tab : List (Nat × Fn) := [(0, f_is_int), (1, f_is_ratio), (14, f__law_taken), (15, f__law_alike), (16, f__law_made), (17, f__law_pick), (19, f__law_draw), (20, f__law_plus), (21, f__law_times), (24, f__law_at), (43, f__law_minus), (44, f__law_p_slope), (49, f_is_below), (61, f__law_slopes), (69, f__law_over), (75, f_is_from), (149, f_need_low), (204, f__law_rank), (205, f_space_size), (206, f_law_29)]
def G (n : Nat) : Option Fn := tab.lookup n
theorem G_is_int : G 0 = some f_is_int := rfl
theorem G_is_ratio : G 1 = some f_is_ratio := rfl
theorem G__law_taken : G 14 = some f__law_taken := rfl
theorem G__law_alike : G 15 = some f__law_alike := rfl
theorem G__law_made : G 16 = some f__law_made := rfl
theorem G__law_pick : G 17 = some f__law_pick := rfl
theorem G__law_draw : G 19 = some f__law_draw := rfl
theorem G__law_plus : G 20 = some f__law_plus := rfl
theorem G__law_times : G 21 = some f__law_times := rfl
theorem G__law_at : G 24 = some f__law_at := rfl
theorem G__law_minus : G 43 = some f__law_minus := rfl
theorem G__law_p_slope : G 44 = some f__law_p_slope := rfl
theorem G_is_below : G 49 = some f_is_below := rfl
theorem G__law_slopes : G 61 = some f__law_slopes := rfl
theorem G__law_over : G 69 = some f__law_over := rfl
theorem G_is_from : G 75 = some f_is_from := rfl
theorem G_need_low : G 149 = some f_need_low := rfl
theorem G__law_rank : G 204 = some f__law_rank := rfl
theorem G_space_size : G 205 = some f_space_size := rfl
theorem G_law_29 : G 206 = some f_law_29 := rfl
end PB

set_option Elab.async false
set_option linter.all false
set_option maxRecDepth 100000
set_option maxHeartbeats 1000000
namespace PB
open PySem
/-! ### fractions -/
/-- a number of the text -/
def fr (q : Rat) : PV := .tup [.int q.num, .int q.den]
/-- its size -/
def Bd (n : Nat) (q : Rat) : Prop := q.num.natAbs < 2 ^ n ∧ q.den < 2 ^ n
theorem log2_lt {n k : Nat} (h : n < 2 ^ k) (hk : 0 < k) : n.log2 < k := by
  by_cases h0 : n = 0
  · subst h0; simpa using hk
  · exact (Nat.log2_lt h0).mpr h
theorem mulOk_of {a b : Int} {m n : Nat} (ha : a.natAbs < 2 ^ m) (hb : b.natAbs < 2 ^ n) (h : m + n < 900000) : mulOk a b = true := by
  unfold mulOk
  rw [decide_eq_true_eq]
  have h1 := log2_lt (k := m + 1) (Nat.lt_of_lt_of_le ha (Nat.pow_le_pow_right (by decide) (by omega))) (by omega)
  have h2 := log2_lt (k := n + 1) (Nat.lt_of_lt_of_le hb (Nat.pow_le_pow_right (by decide) (by omega))) (by omega)
  omega
theorem pow_pow {m n : Nat} : 2 ^ m * 2 ^ n = 2 ^ (m + n) := (Nat.pow_add 2 m n).symm
theorem lt_mul {a b x y : Nat} (h1 : a < x) (h2 : b < y) : a * b < x * y := Nat.mul_lt_mul'' h1 h2
theorem natAbs_mul_lt {a b : Int} {m n : Nat} (ha : a.natAbs < 2 ^ m) (hb : b.natAbs < 2 ^ n) : (a * b).natAbs < 2 ^ (m + n) := by
  rw [Int.natAbs_mul, ← pow_pow]
  exact lt_mul ha hb
theorem natAbs_add_lt {a b : Int} {n : Nat} (ha : a.natAbs < 2 ^ n) (hb : b.natAbs < 2 ^ n) : (a + b).natAbs < 2 ^ (n + 1) := by
  have : (a + b).natAbs ≤ a.natAbs + b.natAbs := Int.natAbs_add_le a b
  rw [Nat.pow_succ]; omega
theorem den_lt {q : Rat} {n : Nat} (h : Bd n q) : ((q.den : Nat) : Int).natAbs < 2 ^ n := by simpa using h.2
theorem Bd.mono {m n : Nat} {q : Rat} (h : Bd m q) (hk : m ≤ n) : Bd n q :=
  ⟨Nat.lt_of_lt_of_le h.1 (Nat.pow_le_pow_right (by decide) hk), Nat.lt_of_lt_of_le h.2 (Nat.pow_le_pow_right (by decide) hk)⟩
theorem divInt_num_le (a b : Int) : (Rat.divInt a b).num.natAbs ≤ a.natAbs := by
  rw [Rat.num_divInt, Int.natAbs_ediv_of_dvd, Int.natAbs_mul]
  · refine Nat.le_trans (Nat.div_le_self _ _) ?_
    have : b.sign.natAbs ≤ 1 := by rcases Int.lt_trichotomy b 0 with h | h | h <;> simp [Int.sign_eq_neg_one_of_neg, Int.sign_eq_one_of_pos, *]
    calc b.sign.natAbs * a.natAbs ≤ 1 * a.natAbs := Nat.mul_le_mul_right _ this
      _ = a.natAbs := Nat.one_mul _
  · exact Int.dvd_mul_of_dvd_right (Int.gcd_dvd_right b a)
theorem divInt_den_le {a b : Int} (hb : b ≠ 0) : (Rat.divInt a b).den ≤ b.natAbs := by
  rw [Rat.den_divInt, if_neg hb]
  exact Nat.div_le_self _ _
theorem bd_divInt {a b : Int} {n : Nat} (hb : b ≠ 0) (h1 : a.natAbs < 2 ^ n) (h2 : b.natAbs < 2 ^ n) : Bd n (Rat.divInt a b) :=
  ⟨Nat.lt_of_le_of_lt (divInt_num_le a b) h1, Nat.lt_of_le_of_lt (divInt_den_le hb) h2⟩
/-- what made(top, low) computes -/
theorem made_eq {a b : Int} (hb : b ≠ 0) : Int.fdiv a (if b < 0 then -(Int.gcd a b : Int) else (Int.gcd a b : Int)) = (Rat.divInt a b).num ∧
    Int.fdiv b (if b < 0 then -(Int.gcd a b : Int) else (Int.gcd a b : Int)) = ((Rat.divInt a b).den : Int) := by
  have hg : (Int.gcd a b : Int) ≠ 0 := by
    intro h
    have := Int.gcd_eq_zero_iff.mp (by exact_mod_cast h)
    exact hb this.2
  have hc : Int.gcd b a = Int.gcd a b := Int.gcd_comm b a
  rw [Rat.num_divInt, Rat.den_divInt, if_neg hb, hc]
  have d1 : (Int.gcd a b : Int) ∣ a := Int.gcd_dvd_left a b
  have d2 : (Int.gcd a b : Int) ∣ b := Int.gcd_dvd_right a b
  obtain ⟨x, hx⟩ := d1
  obtain ⟨y, hy⟩ := d2
  generalize hgg : (Int.gcd a b : Int) = g at *
  have hgp : 0 < g := by
    have : 0 ≤ g := by rw [← hgg]; exact Int.natCast_nonneg _
    omega
  have hgn : Int.gcd a b = g.toNat := by omega
  by_cases hn : b < 0
  · rw [if_pos hn, Int.sign_eq_neg_one_of_neg hn]
    have hy0 : y < 0 := by
      rcases Int.lt_or_le y 0 with h | h
      · exact h
      · have := Int.mul_nonneg (Int.le_of_lt hgp) h
        omega
    refine ⟨?_, ?_⟩
    · rw [hx]
      rw [Int.fdiv_eq_ediv_of_dvd ⟨-x, by rw [Int.neg_mul_neg]⟩]
      have e1 : g * x = -g * -x := by rw [Int.neg_mul_neg]
      have e2 : -1 * (g * x) = g * -x := by rw [Int.mul_neg]; omega
      rw [e2, Int.mul_ediv_cancel_left _ hg, e1, Int.mul_ediv_cancel_left _ (by omega)]
    · rw [hgn]
      have e3 : b.natAbs / g.toNat = y.natAbs := by
        rw [hy, Int.natAbs_mul]
        have : g.natAbs = g.toNat := by omega
        rw [this]
        exact Nat.mul_div_cancel_left _ (by omega)
      rw [e3, hy, Int.fdiv_eq_ediv_of_dvd ⟨-y, by rw [Int.neg_mul_neg]⟩]
      have e1 : g * y = -g * -y := by rw [Int.neg_mul_neg]
      rw [e1, Int.mul_ediv_cancel_left _ (by omega)]
      omega
  · have hp : 0 < b := by omega
    rw [if_neg hn, Int.sign_eq_one_of_pos hp, Int.one_mul]
    have hy0 : 0 < y := by
      rcases Int.lt_or_le 0 y with h | h
      · exact h
      · have := Int.mul_nonpos_of_nonneg_of_nonpos (Int.le_of_lt hgp) h
        omega
    refine ⟨?_, ?_⟩
    · rw [Int.fdiv_eq_ediv_of_dvd ⟨x, hx⟩]
    · rw [hgn]
      have e3 : b.natAbs / g.toNat = y.natAbs := by
        rw [hy, Int.natAbs_mul]
        have : g.natAbs = g.toNat := by omega
        rw [this]
        exact Nat.mul_div_cancel_left _ (by omega)
      rw [e3, hy, Int.fdiv_eq_ediv_of_dvd ⟨y, rfl⟩, Int.mul_ediv_cancel_left _ hg]
      omega
theorem keepP_self {h : PH} {v : PV} (hv : PV.low h.length v = true) : keepP h h v = h := by
  unfold keepP
  split
  · rw [List.take_length]
  · rfl
theorem POs.same_rfl : ∀ h : PH, POs.same h h = true
  | [] => rfl
  | a :: r => by simp [POs.same, PO.same_rfl, POs.same_rfl r]
theorem keepP_app {h t : PH} {v : PV} (hv : PV.low h.length v = true) : keepP h (h ++ t) v = h := by
  unfold keepP
  rw [List.take_left, if_pos ⟨hv, .inl (POs.same_rfl h)⟩]
@[simp] theorem low_fr {n : Nat} {q : Rat} : PV.low n (fr q) = true := by simp [fr, PV.low, PV.lows]
end PB
set_option Elab.async false
set_option linter.all false
set_option maxRecDepth 100000
set_option maxHeartbeats 1000000
set_option exponentiation.threshold 100000
namespace PB
open PySem
section
variable {k : Nat} {h : PH}
theorem atI_nn {α : Type} {xs : List α} {i : Int} (hi : 0 ≤ i) : L2.atI xs i = xs[i.toNat]? := by
  unfold L2.atI L2.ixN
  rw [if_pos hi]
  by_cases h : i < xs.length
  · rw [if_pos h]; rfl
  · rw [if_neg h, List.getElem?_eq_none (by omega)]; rfl
@[simp] theorem atI_0 {α : Type} (x : α) (r : List α) : L2.atI (x :: r) 0 = some x := by rw [atI_nn (by decide)]; rfl
@[simp] theorem atI_1 {α : Type} (x y : α) (r : List α) : L2.atI (x :: y :: r) 1 = some y := by rw [atI_nn (by decide)]; rfl
@[simp] theorem atI_2 {α : Type} (x y z : α) (r : List α) : L2.atI (x :: y :: z :: r) 2 = some z := by rw [atI_nn (by decide)]; rfl
@[simp] theorem atI_3 {α : Type} (x y z u : α) (r : List α) : L2.atI (x :: y :: z :: u :: r) 3 = some u := by rw [atI_nn (by decide)]; rfl
@[simp] theorem idx_fr0 {q : Rat} : idxop (fr q) (.int 0) h = .ok (.int q.num) h := by simp [idxop, fr, items]
@[simp] theorem idx_fr1 {q : Rat} : idxop (fr q) (.int 1) h = .ok (.int q.den) h := by simp [idxop, fr, items]
@[simp] theorem startP_1 {n : Nat} {a : PV} : startP (n + 1) [a] = some a :: List.replicate n none := by simp [startP]
@[simp] theorem startP_2 {n : Nat} {a b : PV} : startP (n + 2) [a, b] = some a :: some b :: List.replicate n none := by simp [startP]
@[simp] theorem startP_3 {n : Nat} {a b c : PV} : startP (n + 3) [a, b, c] = some a :: some b :: some c :: List.replicate n none := by simp [startP]
@[simp] theorem startP_4 {n : Nat} {a b c d : PV} : startP (n + 4) [a, b, c, d] = some a :: some b :: some c :: some d :: List.replicate n none := by simp [startP]
@[simp] theorem outF_rt {h1 : PH} {v : PV} : outF h (.rt v) h1 = .ok v (keepP h h1 v) := rfl
@[simp] theorem outF_nx {h1 : PH} {s : Sl} : outF h (.nx s) h1 = .ok .non (keepP h h1 .non) := rfl
@[simp] theorem keep_fr {q : Rat} : keepP h h (fr q) = h := keepP_self low_fr
@[simp] theorem keep_int {i : Int} : keepP h h (.int i) = h := keepP_self (by simp [PV.low])
@[simp] theorem keep_bl {b : Bool} : keepP h h (.bl b) = h := keepP_self (by simp [PV.low])
@[simp] theorem keep_non : keepP h h .non = h := keepP_self (by simp [PV.low])
/-- sizes -/
theorem bd_add {m n : Nat} {x y : Rat} (hx : Bd m x) (hy : Bd n y) : Bd (m + n + 1) (x + y) ∧ (x.num * y.den + y.num * x.den).natAbs < 2 ^ (m + n + 1) ∧ ((x.den : Int) * y.den).natAbs < 2 ^ (m + n) := by
  have h1 := natAbs_mul_lt hx.1 (den_lt hy)
  have h2 := natAbs_mul_lt hy.1 (den_lt hx)
  rw [Nat.add_comm n m] at h2
  have h3 := natAbs_add_lt h1 h2
  have h4 := natAbs_mul_lt (den_lt hx) (den_lt hy)
  refine ⟨?_, h3, h4⟩
  have e : x + y = Rat.divInt (x.num * y.den + y.num * x.den) (x.den * y.den) := by
    rw [← Rat.divInt_add_divInt _ _ (by exact_mod_cast x.den_nz) (by exact_mod_cast y.den_nz), Rat.num_divInt_den, Rat.num_divInt_den]
  rw [e]
  refine bd_divInt ?_ h3 (Nat.lt_trans h4 (Nat.pow_lt_pow_right (by decide) (by omega)))
  exact_mod_cast Nat.mul_ne_zero x.den_nz y.den_nz
theorem add_eq (x y : Rat) : Rat.divInt (x.num * y.den + y.num * x.den) (x.den * y.den) = x + y := by
  rw [← Rat.divInt_add_divInt _ _ (by exact_mod_cast x.den_nz) (by exact_mod_cast y.den_nz), Rat.num_divInt_den, Rat.num_divInt_den]
theorem mul_eq (x y : Rat) : Rat.divInt (x.num * y.num) (x.den * y.den) = x * y := by
  rw [← Rat.divInt_mul_divInt, Rat.num_divInt_den, Rat.num_divInt_den]
theorem den_mul_ne (x y : Rat) : ((x.den : Int) * y.den) ≠ 0 := by exact_mod_cast Nat.mul_ne_zero x.den_nz y.den_nz
theorem bd_mul {m n : Nat} {x y : Rat} (hx : Bd m x) (hy : Bd n y) : Bd (m + n) (x * y) := by
  rw [← mul_eq]
  exact bd_divInt (den_mul_ne x y) (natAbs_mul_lt hx.1 hy.1) (natAbs_mul_lt (den_lt hx) (den_lt hy))
theorem bd_neg {n : Nat} {x : Rat} (hx : Bd n x) : Bd n (-x) := ⟨by simpa using hx.1, by simpa using hx.2⟩
end
end PB
set_option Elab.async false
set_option linter.all false
set_option maxRecDepth 100000
set_option maxHeartbeats 1000000
set_option exponentiation.threshold 100000
namespace PB
open PySem
section
variable {k : Nat} {h : PH}
@[simp] theorem leans_nil : leans [] h = true := rfl
theorem frL_cons {g : PV → Sl → PH → Res Sl} {b : Sl → PH → Res Fl} {l : Lean_} {x : PV} {r : List PV} {s : Sl} (hl : leans l h = true) : frL g b l (x :: r) s h = (g x s h).bind fun s1 h1 => (b s1 h1).bind fun f h2 => match f with
      | .nx s2 => frL g b l r s2 h2
      | .ct s2 => frL g b l r s2 h2
      | .bk s2 => .ok (.nx s2) h2
      | .rt v => .ok (.rt v) h2 := by first | (rw [frL, if_pos hl]; done) | (rw [frL, if_pos hl]; rfl)
theorem frL_nil {g : PV → Sl → PH → Res Sl} {b : Sl → PH → Res Fl} {l : Lean_} {s : Sl} (hl : leans l h = true) : frL g b l [] s h = .ok (.nx s) h := by rw [frL, if_pos hl]
theorem range_succ {a c : Int} {n : Nat} : range a (n + 1) c = .int a :: range (a + c) n c := rfl
/-- Euclid's loop -/
def eBody : CB := (.cons (.ifs (.cmp .eq (.var 4) (.con (.int 0))) (.cons .brk .nil) .nil) (.cons (.par [3, 4] (.cons (.var 4) (.cons (.bin .mod (.var 3) (.var 4)) .nil))) .nil))
theorem eqD_int {i j : Int} : eqD h (.int i) (.int j) = some (i == j) := rfl
theorem eStep0 {cf : Nat → List PV → PH → Res PV} {p q t : Option PV} {a : Int} : evB cf eBody [p, q, t, some (.int a), some (.int 0)] h = .ok (.bk [p, q, t, some (.int a), some (.int 0)]) h := by
  simp [eBody, cmpop, eqD_int]
theorem eStep1 {cf : Nat → List PV → PH → Res PV} {p q t : Option PV} {a b : Int} (hb : b ≠ 0) : evB cf eBody [p, q, t, some (.int a), some (.int b)] h = .ok (.nx [p, q, t, some (.int b), some (.int (a.fmod b))]) h := by
  simp [eBody, cmpop, eqD_int, hb, binop, setAll]
theorem eLoop {cf : Nat → List PV → PH → Res PV} {p q : Option PV} : ∀ (m n : Nat) (i : Int) (t : Option PV) (a b : Nat), b < 2 ^ m → 2 * m + 1 ≤ n →
    ∃ t', frL (asT cf (.v 2)) (evB cf eBody) [] (range i n 1) [p, q, t, some (.int a), some (.int b)] h = .ok (.nx [p, q, t', some (.int (Nat.gcd a b : Nat)), some (.int 0)]) h := by
  intro m
  induction m with
  | zero =>
    intro n i t a b hb hn
    obtain rfl : b = 0 := by omega
    obtain ⟨n, rfl⟩ : ∃ n', n = n' + 1 := ⟨n - 1, by omega⟩
    refine ⟨some (.int i), ?_⟩
    rw [range_succ, frL_cons rfl]
    simp [eStep0]
  | succ m ih =>
    intro n i t a b hb hn
    obtain ⟨n, rfl⟩ : ∃ n', n = n' + 2 := ⟨n - 2, by omega⟩
    by_cases h0 : b = 0
    · subst h0
      refine ⟨some (.int i), ?_⟩
      rw [range_succ, frL_cons rfl]
      simp [eStep0]
    · have hb0 : (b : Int) ≠ 0 := by omega
      have e1 : Int.fmod (a : Int) (b : Int) = ((a % b : Nat) : Int) := by rw [Int.fmod_eq_emod_of_nonneg _ (by omega)]; rfl
      have hlt : a % b < b := Nat.mod_lt _ (by omega)
      by_cases h1 : a % b = 0
      · refine ⟨some (.int (i + 1)), ?_⟩
        rw [range_succ, frL_cons rfl]
        simp only [asT_v, bind_ok', List.set_cons_succ, List.set_cons_zero, eStep1 hb0]
        rw [range_succ, frL_cons rfl]
        rw [e1, h1]
        have hg : Nat.gcd a b = b := by rw [Nat.gcd_comm, Nat.gcd_rec, h1, Nat.gcd_zero_left]
        simp [eStep0, hg]
      · have hc0 : ((a % b : Nat) : Int) ≠ 0 := by omega
        have e2 : Int.fmod (b : Int) ((a % b : Nat) : Int) = ((b % (a % b) : Nat) : Int) := by rw [Int.fmod_eq_emod_of_nonneg _ (by omega)]; rfl
        have hlt2 : b % (a % b) < a % b := Nat.mod_lt _ (by omega)
        have hsub : b % (a % b) + a % b ≤ b := by
          have := Nat.mod_add_div b (a % b)
          have h3 : 1 ≤ b / (a % b) := (Nat.one_le_div_iff (by omega)).mpr (by omega)
          have h4 : a % b ≤ (a % b) * (b / (a % b)) := Nat.le_mul_of_pos_right _ h3
          omega
        have hpow : 2 ^ (m + 1) = 2 ^ m * 2 := Nat.pow_succ 2 m
        obtain ⟨t', ht⟩ := ih n (i + 1 + 1) (some (.int (i + 1))) (a % b) (b % (a % b)) (by omega) (by omega)
        refine ⟨t', ?_⟩
        rw [range_succ, frL_cons rfl]
        simp only [asT_v, bind_ok', List.set_cons_succ, List.set_cons_zero, eStep1 hb0]
        rw [range_succ, frL_cons rfl, e1]
        simp only [asT_v, bind_ok', List.set_cons_succ, List.set_cons_zero, eStep1 hc0]
        rw [e2, ht]
        have hg : Nat.gcd (a % b) (b % (a % b)) = Nat.gcd a b := by rw [Nat.gcd_comm (a % b), ← Nat.gcd_rec, Nat.gcd_comm a b, Nat.gcd_rec b a]
        rw [hg]
theorem lmade_ok {a b : Int} (hb : b ≠ 0) (hz : b.natAbs < 2 ^ 4900) : callF G (k + 1) 16 [.int a, .int b] h = .ok (fr (Rat.divInt a b)) h := by
  rw [callF_eq (f := f__law_made) rfl rfl]
  have hl : (Int.gcd a b).log2 < 9000 := by
    have h1 : Int.gcd a b ≤ b.natAbs := Nat.gcd_le_right _ (by omega)
    have h2 : Int.gcd a b < 2 ^ 8999 := Nat.lt_of_le_of_lt h1 (Nat.lt_trans hz (Nat.pow_lt_pow_right (by decide) (by decide)))
    have := log2_lt h2 (by decide)
    omega
  obtain ⟨e1, e2⟩ := made_eq (a := a) hb
  have hgg : (a.natAbs.gcd b.natAbs : Int) = (Int.gcd a b : Int) := rfl
  have hk : keepP h h (PV.tup [PV.int (Rat.divInt a b).num, PV.int (Rat.divInt a b).den]) = h := keep_fr
  obtain ⟨t, ht⟩ := eLoop (h := h) (cf := callF G k) (p := some (.int a)) (q := some (.int b)) 4900 10000 0 none a.natAbs b.natAbs hz (by decide)
  rw [hgg] at ht
  simp only [f__law_made, c__law_made]
  by_cases hn : b < 0
  · rw [if_pos hn] at e1 e2
    have e3 : 0 - (Int.gcd a b : Int) = -(Int.gcd a b : Int) := by omega
    simp [blt, setAll, bigR, List.replicate]
    rw [show (.cons (.ifs (.cmp .eq (.var 4) (.con (.int 0))) (.cons .brk .nil) .nil) (.cons (.par [3, 4] (.cons (.var 4) (.cons (.bin .mod (.var 3) (.var 4)) .nil))) .nil) : CB) = eBody from rfl, ht]
    simp [cmpop, hn, binop, hb, hl, e1, e2, e3, many, fr, hk]
  · rw [if_neg hn] at e1 e2
    simp [blt, setAll, bigR, List.replicate]
    rw [show (.cons (.ifs (.cmp .eq (.var 4) (.con (.int 0))) (.cons .brk .nil) .nil) (.cons (.par [3, 4] (.cons (.var 4) (.cons (.bin .mod (.var 3) (.var 4)) .nil))) .nil) : CB) = eBody from rfl, ht]
    simp [cmpop, hn, binop, hb, hl, e1, e2, many, fr, hk]
end
end PB
set_option Elab.async false
set_option linter.all false
set_option maxRecDepth 100000
set_option maxHeartbeats 1000000
set_option exponentiation.threshold 100000
namespace PB
open PySem
section
variable {k : Nat} {h t : PH} {o : PO}
theorem keepP_len {h h1 : PH} {v : PV} (e : h1.length = h.length) : keepP h h1 v = h1 := by
  unfold keepP
  split
  · rw [← e, List.take_length]
  · rfl
/-- the law's row -/
def Row (o : PO) : Prop := ∃ (ns : List Int) (p s b : Int), o = .lst [.scr (ns.map PV.int), .int p, .int s, .int b] ∧ ns.length ≤ 1000 ∧ 0 ≤ p ∧ 0 ≤ s ∧ s < 2147483647
theorem fmod_bd {a m : Int} (hm : 0 < m) : 0 ≤ a.fmod m ∧ a.fmod m < m := ⟨Int.fmod_nonneg_of_pos a hm, Int.fmod_lt_of_pos a hm⟩
theorem taken_ok {m : Int} (hm : 0 < m) (hz : m ≤ 1000000) (hr : Row o) : ∃ r o', 0 ≤ r ∧ r < m ∧ Row o' ∧ callF G (k + 1) 14 [.ref 0, .int m] (o :: t) = .ok (.int r) (o' :: t) := by
  obtain ⟨ns, p, s, b, rfl, hns, hp, hs0, hs1⟩ := hr
  have hm0 : m ≠ 0 := by omega
  have hl : m.natAbs.log2 < 9000 := by
    have : m.natAbs < 2 ^ 20 := by omega
    have := log2_lt this (by decide)
    omega
  have hmul : mulOk s 48271 = true := mulOk_of (m := 31) (n := 16) (by omega) (by decide) (by decide)
  by_cases hb : 0 < b
  · refine ⟨b.fmod m, .lst [.scr (ns.map PV.int), .int p, .int s, .int (b.fdiv m)], (fmod_bd hm).1, (fmod_bd hm).2, ⟨ns, p, s, _, rfl, hns, hp, hs0, hs1⟩, ?_⟩
    rw [callF_eq (f := f__law_taken) rfl rfl]
    simp only [f__law_taken, c__law_taken]
    simp [idxop, items, cmpop, hb, blt, binop, hm0, hl, setop, L2.ixN, keepP_len]
  · by_cases hlen : (ns.length : Int) < p + 1
    · refine ⟨((s * 48271 + 11).fmod 2147483647 |>.fdiv 7).fmod m, .lst [.scr (ns.map PV.int), .int (p + 1), .int ((s * 48271 + 11).fmod 2147483647), .int b], (fmod_bd hm).1, (fmod_bd hm).2, ⟨ns, p + 1, _, b, rfl, hns, by omega, (fmod_bd (by decide)).1, (fmod_bd (by decide)).2⟩, ?_⟩
      rw [callF_eq (f := f__law_taken) rfl rfl]
      have h7 : (7 : Nat).log2 < 9000 := by decide
      simp only [f__law_taken, c__law_taken]
      simp [idxop, items, cmpop, hb, blt, binop, hm0, hl, setop, L2.ixN, keepP_len, hlen, hmul, h7]
    · obtain ⟨c, hc⟩ : ∃ c, ns[p.toNat]? = some c := ⟨ns[p.toNat]'(by omega), List.getElem?_eq_getElem (by omega)⟩
      have hat : L2.atI (ns.map PV.int) p = some (.int c) := by rw [atI_nn hp, List.getElem?_map, hc]; rfl
      have h10 : (0 : Int) ≤ 18 ∧ (18 : Int) ≤ 1000 ∧ (10 : Int).natAbs < 2 ^ 64 := by decide
      refine ⟨c.fmod m, .lst [.scr (ns.map PV.int), .int (p + 1), .int ((s * 48271 + c + 11).fmod 2147483647), .int (if (10 : Int) ^ 18 ≤ c then c.fdiv m else b)], (fmod_bd hm).1, (fmod_bd hm).2, ⟨ns, p + 1, _, _, rfl, hns, by omega, (fmod_bd (by decide)).1, (fmod_bd (by decide)).2⟩, ?_⟩
      rw [callF_eq (f := f__law_taken) rfl rfl]
      simp only [f__law_taken, c__law_taken]
      by_cases hbig : (10 : Int) ^ 18 ≤ c
      · simp [idxop, items, cmpop, hb, blt, binop, hm0, hl, setop, L2.ixN, keepP_len, hlen, hmul, hat]
        simp at hbig
        simp [hbig, idxop, items, hm0, hl, keepP_len]
      · simp [idxop, items, cmpop, hb, blt, binop, hm0, hl, setop, L2.ixN, keepP_len, hlen, hmul, hat]
        simp at hbig
        have : ¬ (1000000000000000000 : Int) ≤ c := by omega
        simp [this, keepP_len]
end
end PB
set_option Elab.async false
set_option linter.all false
set_option maxRecDepth 100000
set_option maxHeartbeats 1000000
set_option exponentiation.threshold 100000
namespace PB
open PySem
section
variable {k : Nat} {h t : PH} {o : PO}
/-! ### comparisons of plain values -/
mutual
/-- None, ints, tuples of such, not deeper than n -/
def plain : Nat → PV → Bool
  | _, .non => true
  | _, .int _ => true
  | n + 1, .tup xs => plains n xs
  | _, _ => false
def plains : Nat → List PV → Bool
  | _, [] => true
  | n, x :: r => plain n x && plains n r
end
mutual
def dat : PV → PyData
  | .int i => .int i
  | .tup xs => .tuple (dats xs)
  | _ => .none
def dats : List PV → List PyData
  | [] => []
  | x :: r => dat x :: dats r
end
mutual
theorem toD_plain : ∀ (n : Nat) (x : PV), plain n x = true → toD h n x = some (dat x)
  | n, .non, _ => by cases n <;> simp [toD, dat]
  | n, .int i, _ => by cases n <;> simp [toD, dat]
  | n + 1, .tup xs, p => by
    simp only [plain] at p
    simp only [toD, toDs_plain n xs p, dat, Option.map_some]
  | 0, .tup xs, p => by simp [plain] at p
  | n, .bl _, p => by cases n <;> simp [plain] at p
  | n, .str _, p => by cases n <;> simp [plain] at p
  | n, .scr _, p => by cases n <;> simp [plain] at p
  | n, .ref _, p => by cases n <;> simp [plain] at p
  | n, .fn _, p => by cases n <;> simp [plain] at p
theorem toDs_plain : ∀ (n : Nat) (xs : List PV), plains n xs = true → toDs (toD h n) xs = some (dats xs)
  | _, [], _ => by simp [toDs, dats]
  | n, x :: r, p => by
    simp only [plains, Bool.and_eq_true] at p
    simp only [toDs, toD_plain n x p.1, toDs_plain n r p.2, dats]
end
mutual
theorem eqv_dat : ∀ (m n : Nat) (x y : PV), plain m x = true → plain n y = true → PyData.eqv (dat x) (dat y) = PV.same x y
  | m, n, .non, .non, _, _ => by simp [dat, PyData.eqv, PV.same]
  | m, n, .non, .int j, _, _ => by simp [dat, PyData.eqv, PV.same]
  | m, n, .non, .tup ys, _, _ => by simp [dat, PyData.eqv, PV.same]
  | m, n, .int i, .non, _, _ => by simp [dat, PyData.eqv, PV.same]
  | m, n, .int i, .int j, _, _ => by simp [dat, PyData.eqv, PV.same]
  | m, n, .int i, .tup ys, _, _ => by simp [dat, PyData.eqv, PV.same]
  | m, n, .tup xs, .non, _, _ => by simp [dat, PyData.eqv, PV.same]
  | m, n, .tup xs, .int j, _, _ => by simp [dat, PyData.eqv, PV.same]
  | m + 1, n + 1, .tup xs, .tup ys, p, q => by
    simp only [plain] at p q
    simp only [dat, PyData.eqv, PV.same, eqvAll_dat m n xs ys p q]
  | 0, _, .tup xs, .tup ys, p, _ => by simp [plain] at p
  | _, 0, .tup xs, .tup ys, _, q => by simp [plain] at q
  | m, n, .bl _, y, p, _ => by cases m <;> simp [plain] at p
  | m, n, .str _, y, p, _ => by cases m <;> simp [plain] at p
  | m, n, .scr _, y, p, _ => by cases m <;> simp [plain] at p
  | m, n, .ref _, y, p, _ => by cases m <;> simp [plain] at p
  | m, n, .fn _, y, p, _ => by cases m <;> simp [plain] at p
  | m, n, x, .bl _, _, q => by cases n <;> simp [plain] at q
  | m, n, x, .str _, _, q => by cases n <;> simp [plain] at q
  | m, n, x, .scr _, _, q => by cases n <;> simp [plain] at q
  | m, n, x, .ref _, _, q => by cases n <;> simp [plain] at q
  | m, n, x, .fn _, _, q => by cases n <;> simp [plain] at q
theorem eqvAll_dat : ∀ (m n : Nat) (x y : List PV), plains m x = true → plains n y = true → PyData.eqvAll (dats x) (dats y) = PV.sames x y
  | m, n, [], [], _, _ => by simp [dats, PyData.eqvAll, PV.sames]
  | m, n, [], _ :: _, _, _ => by simp [dats, PyData.eqvAll, PV.sames]
  | m, n, _ :: _, [], _, _ => by simp [dats, PyData.eqvAll, PV.sames]
  | m, n, x :: r, y :: q, p, p' => by
    simp only [plains, Bool.and_eq_true] at p p'
    simp only [dats, PyData.eqvAll, PV.sames, eqv_dat m n x y p.1 p'.1, eqvAll_dat m n r q p.2 p'.2]
end
instance : DecidableEq PV := fun a b => if h : PV.same a b = true then .isTrue (PV.same_eq h) else .isFalse fun e => h (e ▸ PV.same_rfl a)
theorem same_dec (a b : PV) : PV.same a b = decide (a = b) := by
  by_cases h : a = b
  · subst h; simp [PV.same_rfl]
  · rw [decide_eq_false h]
    cases hs : PV.same a b
    · rfl
    · exact absurd (PV.same_eq hs) h
theorem sames_dec (a b : List PV) : PV.sames a b = decide (a = b) := by
  by_cases h : a = b
  · subst h; simp [PV.sames_rfl]
  · rw [decide_eq_false h]
    cases hs : PV.sames a b
    · rfl
    · exact absurd (PV.sames_eq hs) h
theorem eqD_plain {a b : PV} (ha : plain 12 a = true) (hb : plain 12 b = true) : eqD h a b = some (decide (a = b)) := by
  unfold eqD
  rw [toD_plain 12 a ha, toD_plain 12 b hb]
  simp only
  rw [eqv_dat 12 12 a b ha hb, same_dec]
theorem eqD_lst {a b : Nat} {xs ys : List PV} (h1 : h[a]? = some (.lst xs)) (h2 : h[b]? = some (.lst ys)) (ha : plains 11 xs = true) (hb : plains 11 ys = true) : eqD h (.ref a) (.ref b) = some (decide (xs = ys)) := by
  unfold eqD
  simp only [toD, h1, h2, toDs_plain 11 xs ha, toDs_plain 11 ys hb, Option.map_some]
  rw [PyData.eqv, eqvAll_dat 11 11 xs ys ha hb, sames_dec]
theorem plain_mono : ∀ {m n : Nat} {x : PV}, plain m x = true → m ≤ n → plain n x = true := by
  intro m
  induction m with
  | zero => intro n x p _; cases x <;> simp [plain] at p <;> cases n <;> simp [plain]
  | succ m ih =>
    intro n x p hn
    obtain ⟨n, rfl⟩ : ∃ n', n = n' + 1 := ⟨n - 1, by omega⟩
    cases x <;> simp only [plain] at p ⊢ <;> try contradiction
    rename_i xs
    induction xs with
    | nil => simp [plains]
    | cons y r ihr =>
      simp only [plains, Bool.and_eq_true] at p ⊢
      exact ⟨ih p.1 (by omega), ihr p.2⟩
@[simp] theorem plain_fr {n : Nat} {q : Rat} : plain (n + 1) (fr q) = true := by simp [fr, plain, plains]
theorem fr_inj {x y : Rat} : fr x = fr y ↔ x = y := by
  constructor
  · intro e
    simp only [fr, PV.tup.injEq, List.cons.injEq, PV.int.injEq, and_true] at e
    exact Rat.ext e.1 (by exact_mod_cast e.2)
  · rintro rfl; rfl
theorem fr0 : PV.tup [.int 0, .int 1] = fr 0 := rfl
theorem eqD_fr {x y : Rat} : eqD h (fr x) (fr y) = some (decide (x = y)) := by
  rw [eqD_plain plain_fr plain_fr]
  simp only [fr_inj]
/-- rows of numbers -/
def frs (xs : List Rat) : List PV := xs.map fr
@[simp] theorem map_fr {xs : List Rat} : xs.map fr = frs xs := rfl
@[simp] theorem items_tup {xs : List PV} : items h (.tup xs) = some xs := rfl
@[simp] theorem leanOf_tup {xs : List PV} : leanOf h (.tup xs) = [] := rfl
@[simp] theorem frs_nil : frs [] = [] := rfl
@[simp] theorem frs_cons {a : Rat} {r : List Rat} : frs (a :: r) = fr a :: frs r := rfl
@[simp] theorem frs_len {xs : List Rat} : (frs xs).length = xs.length := List.length_map ..
@[simp] theorem frs_get {xs : List Rat} {i : Nat} : (frs xs)[i]? = xs[i]?.map fr := List.getElem?_map ..
@[simp] theorem frs_app {xs ys : List Rat} : frs xs ++ frs ys = frs (xs ++ ys) := List.map_append.symm
@[simp] theorem frs_rep {i : Nat} {q : Rat} : List.replicate i (fr q) = frs (List.replicate i q) := List.map_replicate.symm
@[simp] theorem frs_rev {xs : List Rat} : (frs xs).reverse = frs xs.reverse := List.map_reverse.symm
@[simp] theorem frs_last {xs : List Rat} : (frs xs).getLast? = xs.getLast?.map fr := List.getLast?_map ..
@[simp] theorem frs_take {xs : List Rat} {i : Nat} : (frs xs).take i = frs (xs.take i) := List.map_take.symm
@[simp] theorem frs_drop {xs : List Rat} {i : Nat} : (frs xs).drop i = frs (xs.drop i) := List.map_drop.symm
@[simp] theorem frs_set {xs : List Rat} {i : Nat} {q : Rat} : (frs xs).set i (fr q) = frs (xs.set i q) := List.map_set.symm
theorem frs_map {α : Type} {xs : List α} {f : α → Rat} : xs.map (fun a => fr (f a)) = frs (xs.map f) := by simp [frs]
def pol (xs : List Rat) : PV := .tup (frs xs)
@[simp] theorem plains_frs {n : Nat} {xs : List Rat} : plains (n + 1) (frs xs) = true := by
  induction xs with
  | nil => simp [plains]
  | cons a r ih => simp only [frs, List.map_cons, plains, Bool.and_eq_true]; exact ⟨plain_fr, ih⟩
@[simp] theorem plain_pol {n : Nat} {xs : List Rat} : plain (n + 2) (pol xs) = true := by
  unfold pol; simp only [plain]; exact plains_frs
@[simp] theorem lows_frs {n : Nat} {xs : List Rat} : PV.lows n (frs xs) = true := by
  induction xs with
  | nil => simp [PV.lows]
  | cons a r ih => simp only [frs, List.map_cons, PV.lows, Bool.and_eq_true]; exact ⟨low_fr, ih⟩
@[simp] theorem low_pol {n : Nat} {xs : List Rat} : PV.low n (pol xs) = true := by unfold pol; simp only [PV.low]; exact lows_frs
@[simp] theorem keep_pol {xs : List Rat} : keepP h h (pol xs) = h := keepP_self low_pol
@[simp] theorem blt_len {a : PV} : blt .len [a] h = match items h a with | some xs => .ok (.int xs.length) h | none => .bad := rfl
@[simp] theorem blt_abs {i : Int} : blt .abs [.int i] h = .ok (.int i.natAbs) h := rfl
@[simp] theorem blt_min2 {i j : Int} : blt .min2 [.int i, .int j] h = .ok (.int (if j < i then j else i)) h := rfl
@[simp] theorem blt_max2 {i j : Int} : blt .max2 [.int i, .int j] h = .ok (.int (if i < j then j else i)) h := rfl
@[simp] theorem blt_gcd {i j : Int} : blt .gcd [.int i, .int j] h = .ok (.int (Nat.gcd i.natAbs j.natAbs : Nat)) h := rfl
@[simp] theorem blt_tuple {a : PV} : blt .tuple [a] h = match items h a with | some xs => .ok (.tup xs) h | none => .bad := rfl
@[simp] theorem blt_list {a : PV} : blt .list [a] h = match items h a with | some xs => alloc xs h | none => .bad := rfl
@[simp] theorem blt_int {i : Int} : blt .int [.int i] h = .ok (.int i) h := rfl
@[simp] theorem blt_isInt {a : PV} : blt .isInt [a] h = match kindOf h a with | some k => .ok (.bl (k == 2 || k == 1)) h | none => .bad := rfl
@[simp] theorem blt_isBool {a : PV} : blt .isBool [a] h = match kindOf h a with | some k => .ok (.bl (k == 1)) h | none => .bad := rfl
@[simp] theorem blt_isTup {a : PV} : blt .isTup [a] h = match kindOf h a with | some k => .ok (.bl (k == 4)) h | none => .bad := rfl
@[simp] theorem blt_isStr {a : PV} : blt .isStr [a] h = match kindOf h a with | some k => .ok (.bl (k == 3)) h | none => .bad := rfl
@[simp] theorem blt_isList {a : PV} : blt .isList [a] h = match kindOf h a with | some k => .ok (.bl (k == 5)) h | none => .bad := rfl
@[simp] theorem blt_isTL {a : PV} : blt .isTL [a] h = match kindOf h a with | some k => .ok (.bl (k == 4 || k == 5)) h | none => .bad := rfl
@[simp] theorem blt_all {n : Nat} : blt .all [.ref n] h = match h[n]? with
    | some (.lst xs) => match truths (· && ·) true xs with | some b => .ok (.bl b) h | none => .bad
    | none => .bad := rfl
@[simp] theorem blt_any {n : Nat} : blt .any [.ref n] h = match h[n]? with
    | some (.lst xs) => match truths (· || ·) false xs with | some b => .ok (.bl b) h | none => .bad
    | none => .bad := rfl
@[simp] theorem kindOf_non : kindOf h .non = some 0 := rfl
@[simp] theorem kindOf_bl {b : Bool} : kindOf h (.bl b) = some 1 := rfl
@[simp] theorem kindOf_int {b : Int} : kindOf h (.int b) = some 2 := rfl
@[simp] theorem kindOf_str {b : Str} : kindOf h (.str b) = some 3 := rfl
@[simp] theorem kindOf_tup {b : List PV} : kindOf h (.tup b) = some 4 := rfl
@[simp] theorem kindOf_ref {n : Nat} : kindOf h (.ref n) = h[n]?.map fun _ => 5 := by
  unfold kindOf
  simp only
  cases hx : h[n]? with
  | none => rfl
  | some c => cases c; rfl
def PO.xs : PO → List PV
  | .lst xs => xs
@[simp] theorem PO.xs_lst {xs : List PV} : (PO.lst xs).xs = xs := rfl
@[simp] theorem items_ref {n : Nat} : items h (.ref n) = h[n]?.map PO.xs := by
  unfold items
  simp only
  cases hx : h[n]? with
  | none => rfl
  | some c => cases c; rfl
@[simp] theorem leanOf_ref {n : Nat} : leanOf h (.ref n) = match h[n]? with | some c => [(n, c)] | none => [] := rfl
@[simp] theorem items_scr {xs : List PV} : items h (.scr xs) = some xs := rfl
@[simp] theorem leanOf_pol {xs : List Rat} : leanOf h (pol xs) = [] := rfl
@[simp] theorem leanOf_fr {xs : Rat} : leanOf h (fr xs) = [] := rfl
@[simp] theorem items_pol {xs : List Rat} : items h (pol xs) = some (frs xs) := rfl
@[simp] theorem items_fr {q : Rat} : items h (fr q) = some [.int q.num, .int q.den] := rfl
@[simp] theorem kindOf_fr {q : Rat} : kindOf h (fr q) = some 4 := rfl
@[simp] theorem kindOf_pol {q : List Rat} : kindOf h (pol q) = some 4 := rfl
end
end PB
set_option Elab.async false
set_option linter.all false
set_option maxRecDepth 100000
set_option maxHeartbeats 1000000
set_option exponentiation.threshold 100000
namespace PB
open PySem
section
variable {k : Nat} {h t : PH} {o : PO} {m n : Nat} {x y : Rat}
theorem sub_eq (x y : Rat) : Rat.divInt (x.num * y.den - y.num * x.den) (x.den * y.den) = x - y := by
  have e := add_eq x (-y)
  rw [Rat.neg_num, Rat.neg_den] at e
  rw [show x - y = x + -y from Rat.sub_eq_add_neg x y, ← e]
  congr 1
  rw [Int.neg_mul]; omega
theorem bd_sub (hx : Bd m x) (hy : Bd n y) : Bd (m + n + 1) (x - y) := by
  rw [Rat.sub_eq_add_neg]
  exact (bd_add hx (bd_neg hy)).1
theorem num_ne {y : Rat} (h : y ≠ 0) : y.num ≠ 0 := fun e => h (Rat.num_eq_zero.mp e)
theorem div_eq (x : Rat) {y : Rat} (hy : y ≠ 0) : Rat.divInt (x.num * y.den) (x.den * y.num) = x / y := by
  rw [Rat.div_def, Rat.inv_def, ← Rat.num_divInt_den x]
  conv => rhs; rw [Rat.divInt_mul_divInt]
  rw [Rat.num_divInt_den]
theorem den_num_ne (x : Rat) {y : Rat} (hy : y ≠ 0) : ((x.den : Int) * y.num) ≠ 0 := Int.mul_ne_zero (by exact_mod_cast x.den_nz) (num_ne hy)
theorem bd_div (hx : Bd m x) (hy : Bd n y) (h0 : y ≠ 0) : Bd (m + n) (x / y) := by
  rw [← div_eq x h0]
  exact bd_divInt (den_num_ne x h0) (natAbs_mul_lt hx.1 (den_lt hy)) (natAbs_mul_lt (den_lt hx) hy.1)
theorem pow_le_pow {a b : Nat} (h : a ≤ b) : 2 ^ a ≤ 2 ^ b := Nat.pow_le_pow_right (by decide) h
theorem lt_pow {a m n : Nat} (h : a < 2 ^ m) (hk : m ≤ n) : a < 2 ^ n := Nat.lt_of_lt_of_le h (pow_le_pow hk)
theorem natAbs_sub_lt {a b : Int} {n : Nat} (ha : a.natAbs < 2 ^ n) (hb : b.natAbs < 2 ^ n) : (a - b).natAbs < 2 ^ (n + 1) := by
  rw [Nat.pow_succ]; omega
/-! ### the program's numbers -/
theorem lt_eq (x y : Rat) : (x.num * y.den < y.num * x.den) ↔ x < y := (Rat.lt_iff x y).symm
theorem below_ok (hx : Bd m x) (hy : Bd n y) (hz : m + n < 8000) : callF G (k + 1) 49 [fr x, fr y] h = .ok (.bl (decide (x < y))) h := by
  rw [callF_eq (f := f_is_below) rfl rfl]
  have m1 := mulOk_of hx.1 (den_lt hy) (by omega)
  have m2 := mulOk_of hy.1 (den_lt hx) (by omega)
  simp only [f_is_below, c_is_below]
  simp [binop, m1, m2, cmpop, lt_eq]
theorem is_int_ok {i : Int} : callF G (k + 1) 0 [.int i] h = .ok (.bl true) h := by
  rw [callF_eq (f := f_is_int) rfl rfl]
  simp only [f_is_int, c_is_int]
  simp
theorem is_ratio_ok : callF G (k + 2) 1 [fr x] h = .ok (.bl true) h := by
  rw [callF_eq (f := f_is_ratio) rfl rfl]
  simp only [f_is_ratio, c_is_ratio]
  have e1 : eqD h (.int 2) (.int 2) = some true := rfl
  have e2 : eqD h (.int ((x.num.natAbs.gcd x.den : Nat) : Int)) (.int 1) = some true := by
    have : x.num.natAbs.gcd x.den = 1 := x.reduced
    rw [this]; rfl
  simp [cmpop, is_int_ok, e1, e2, x.den_pos]
/-! ### the law's numbers -/
theorem lplus_ok (hx : Bd m x) (hy : Bd n y) (hz : m + n < 4900) : callF G (k + 2) 20 [fr x, fr y] h = .ok (fr (x + y)) h := by
  rw [callF_eq (f := f__law_plus) rfl rfl]
  obtain ⟨_, h2, h3⟩ := bd_add hx hy
  have m1 := mulOk_of hx.1 (den_lt hy) (by omega)
  have m2 := mulOk_of hy.1 (den_lt hx) (by omega)
  have m3 := mulOk_of (den_lt hx) (den_lt hy) (by omega)
  have hd := lmade_ok (k := k) (h := h) (a := x.num * y.den + y.num * x.den) (den_mul_ne x y) (lt_pow h3 (by omega))
  rw [add_eq] at hd
  simp only [f__law_plus, c__law_plus]
  simp [binop, m1, m2, m3, hd]
theorem lminus_ok (hx : Bd m x) (hy : Bd n y) (hz : m + n < 4900) : callF G (k + 2) 43 [fr x, fr y] h = .ok (fr (x - y)) h := by
  rw [callF_eq (f := f__law_minus) rfl rfl]
  have m1 := mulOk_of hx.1 (den_lt hy) (by omega)
  have m2 := mulOk_of hy.1 (den_lt hx) (by omega)
  have m3 := mulOk_of (den_lt hx) (den_lt hy) (by omega)
  have hd := lmade_ok (k := k) (h := h) (a := x.num * y.den - y.num * x.den) (den_mul_ne x y) (lt_pow (natAbs_mul_lt (den_lt hx) (den_lt hy)) (by omega))
  rw [sub_eq] at hd
  simp only [f__law_minus, c__law_minus]
  simp [binop, m1, m2, m3, hd]
theorem ltimes_ok (hx : Bd m x) (hy : Bd n y) (hz : m + n < 4900) : callF G (k + 2) 21 [fr x, fr y] h = .ok (fr (x * y)) h := by
  rw [callF_eq (f := f__law_times) rfl rfl]
  have m1 := mulOk_of hx.1 hy.1 (by omega)
  have m3 := mulOk_of (den_lt hx) (den_lt hy) (by omega)
  have hd := lmade_ok (k := k) (h := h) (a := x.num * y.num) (den_mul_ne x y) (lt_pow (natAbs_mul_lt (den_lt hx) (den_lt hy)) (by omega))
  rw [mul_eq] at hd
  simp only [f__law_times, c__law_times]
  simp [binop, m1, m3, hd]
theorem lover_ok (hx : Bd m x) (hy : Bd n y) (h0 : y ≠ 0) (hz : m + n < 4900) : callF G (k + 2) 69 [fr x, fr y] h = .ok (fr (x / y)) h := by
  rw [callF_eq (f := f__law_over) rfl rfl]
  have m1 := mulOk_of hx.1 (den_lt hy) (by omega)
  have m2 := mulOk_of (den_lt hx) hy.1 (by omega)
  have hd := lmade_ok (k := k) (h := h) (a := x.num * y.den) (den_num_ne x h0) (lt_pow (natAbs_mul_lt (den_lt hx) hy.1) (by omega))
  rw [div_eq x h0] at hd
  simp only [f__law_over, c__law_over]
  simp [binop, m1, m2, hd]
/-! ### draws -/
def Wf (t : PH) : Prop := t.all (PO.low (t.length + 1)) = true
theorem Row.low {n : Nat} (hr : Row o) : PO.low n o = true := by
  obtain ⟨ns, p, s, b, rfl, _⟩ := hr
  have : PV.lows n (ns.map PV.int) = true := by
    induction ns with
    | nil => simp [PV.lows]
    | cons a r ih => simp only [List.map_cons, PV.lows, PV.low, Bool.true_and]; exact ih (by simp_all; omega)
  simp [PO.low, PV.lows, PV.low, this]
theorem keep_row {o o' : PO} {t u : PH} {v : PV} (hr : Row o') (hw : Wf t) (hv : PV.low (t.length + 1) v = true) : keepP (o :: t) (o' :: (t ++ u)) v = o' :: t := by
  unfold keepP
  rw [if_pos]
  · simp
  · refine ⟨by simpa using hv, .inr ?_⟩
    simp only [List.length_cons, List.take_succ_cons, List.take_left', List.all_cons, Bool.and_eq_true]
    exact ⟨hr.low, hw⟩
theorem pick_lst {xs : List PV} {i : Nat} (h0 : xs ≠ []) (hz : xs.length ≤ 1000000) (hr : Row o) (hi : t[i]? = some (.lst xs)) : ∃ v o', v ∈ xs ∧ Row o' ∧ callF G (k + 2) 17 [.ref 0, .ref (i + 1)] (o :: t) = .ok v (o' :: t) := by
  have hl : 0 < xs.length := List.length_pos_iff.mpr h0
  obtain ⟨r, o', h1, h2, h3, h4⟩ := taken_ok (k := k) (t := t) (m := xs.length) (by omega) (by omega) hr
  have hlt : r.toNat < xs.length := by omega
  refine ⟨xs[r.toNat], o', List.getElem_mem hlt, h3, ?_⟩
  rw [callF_eq (f := f__law_pick) rfl rfl]
  simp only [f__law_pick, c__law_pick]
  have ha : L2.atI xs r = some xs[r.toNat] := by rw [atI_nn h1, List.getElem?_eq_getElem hlt]
  simp [h4, idxop, ha, keepP_len, hi]
theorem draw_ok (hr : Row o) (hw : Wf t) : ∃ q o', Bd 3 q ∧ Row o' ∧ callF G (k + 3) 19 [.ref 0] (o :: t) = .ok (fr q) (o' :: t) := by
  obtain ⟨v, o1, hv, h1, h2⟩ := pick_lst (k := k) (t := t ++ [.lst [.int 1, .int 1, .int 2, .int 3, .int 4]]) (i := t.length) (xs := [.int 1, .int 1, .int 2, .int 3, .int 4]) (by simp) (by simp) hr (by simp)
  obtain ⟨l, rfl, hl1, hl2⟩ : ∃ l : Int, v = .int l ∧ 0 < l ∧ l < 8 := by
    simp only [List.mem_cons, List.mem_nil_iff, or_false] at hv
    rcases hv with rfl | rfl | rfl | rfl | rfl <;> exact ⟨_, rfl, by decide, by decide⟩
  obtain ⟨r, o2, g1, g2, g3, g4⟩ := taken_ok (k := k + 1) (t := t ++ [.lst [.int 1, .int 1, .int 2, .int 3, .int 4]]) (m := 13) (by decide) (by decide) h1
  have hm := lmade_ok (k := k + 1) (h := o2 :: (t ++ [.lst [.int 1, .int 1, .int 2, .int 3, .int 4]])) (a := r - 6) (b := l) (by omega) (lt_pow (m := 3) (by omega) (by decide))
  refine ⟨Rat.divInt (r - 6) l, o2, bd_divInt (by omega) (by omega) (by omega), g3, ?_⟩
  rw [callF_eq (f := f__law_draw) rfl rfl]
  simp only [f__law_draw, c__law_draw]
  simp [alloc, many, h2, g4, binop, hm, keep_row g3 hw]
end
end PB
set_option Elab.async false
set_option linter.all false
set_option maxRecDepth 100000
set_option maxHeartbeats 1000000
set_option exponentiation.threshold 100000
namespace PB
open PySem
section
variable {k : Nat} {h t : PH} {o : PO} {m n : Nat} {x y : Rat}
@[simp] theorem get_app {α : Type} {h t : List α} {i : Nat} : (h ++ t)[h.length + i]? = t[i]? := by
  rw [List.getElem?_append_right (by omega)]; congr 1; omega
@[simp] theorem get_app0 {α : Type} {h t : List α} : (h ++ t)[h.length]? = t[0]? := by
  rw [List.getElem?_append_right (by omega)]; congr 1; omega
@[simp] theorem set_app {α : Type} {h t : List α} {i : Nat} {a : α} : (h ++ t).set (h.length + i) a = h ++ t.set i a := by
  rw [List.set_append_right _ _ (by omega)]; congr 2; omega
@[simp] theorem set_app0 {α : Type} {h t : List α} {a : α} : (h ++ t).set h.length a = h ++ t.set 0 a := by
  rw [List.set_append_right _ _ (by omega)]; congr 2; omega
@[simp] theorem keep_app {h t : PH} {v : PV} (hv : PV.low h.length v = true) : keepP h (h ++ t) v = h := keepP_app hv
/-! ### comprehensions and loops over a row that stands -/
theorem compL_map {α : Type} {F : PV → PH → Res (Option PV)} {l : Lean_} (e g : α → PV) (hl : leans l h = true) : ∀ (xs : List α), (∀ a ∈ xs, F (e a) h = .ok (some (g a)) h) → compL F l (xs.map e) h = .ok (xs.map g) h
  | [], _ => by simp [compL, hl]
  | a :: r, hF => by
    have ih := compL_map e g hl r fun b hb => hF b (by simp [hb])
    simp only [List.map_cons, compL, hl, if_true, hF a (by simp), bind_ok', ih]
theorem compL_filter {α : Type} {F : PV → PH → Res (Option PV)} {l : Lean_} (e : α → PV) (g : α → Option PV) (hl : leans l h = true) : ∀ (xs : List α), (∀ a ∈ xs, F (e a) h = .ok (g a) h) → compL F l (xs.map e) h = .ok (xs.filterMap g) h
  | [], _ => by simp [compL, hl]
  | a :: r, hF => by
    have ih := compL_filter e g hl r fun b hb => hF b (by simp [hb])
    simp only [List.map_cons, compL, hl, if_true, hF a (by simp), bind_ok', ih]
    cases ha : g a <;> simp [ha]
/-- a loop whose body leaves the heap as it is -/
theorem frL_fold {α β : Type} {g : PV → Sl → PH → Res Sl} {b : Sl → PH → Res Fl} {l : Lean_} (e : α → PV) (st : β → Sl) (step : β → α → β) (I : β → List α → Prop) (hl : leans l h = true)
    (hs : ∀ a r c, I c (a :: r) → I (step c a) r ∧ (g (e a) (st c) h).bind b = .ok (.nx (st (step c a))) h) : ∀ (xs : List α) (c : β), I c xs → frL g b l (xs.map e) (st c) h = .ok (.nx (st (xs.foldl step c))) h
  | [], c, _ => by simp [frL, hl]
  | a :: r, c, hi => by
    obtain ⟨h1, h2⟩ := hs a r c hi
    have ih := frL_fold e st step I hl hs r (step c a) h1
    rw [List.map_cons, frL, if_pos hl]
    cases hg : g (e a) (st c) h with
    | ok s1 h1 =>
      rw [hg, bind_ok'] at h2
      simp only [bind_ok', h2]
      rw [ih]; rfl
    | exc c v h1 => rw [hg] at h2; cases h2
    | bad => rw [hg] at h2; cases h2
/-! ### polynomials -/
def AllB (n : Nat) (xs : List Rat) : Prop := ∀ q ∈ xs, Bd n q
theorem AllB.mono {m n : Nat} {xs : List Rat} (h : AllB m xs) (hk : m ≤ n) : AllB n xs := fun q hq => (h q hq).mono hk
theorem bd0 (n : Nat) : Bd (n + 1) 0 := ⟨by simp <;> exact Nat.pow_pos (by decide), by simp <;> exact Nat.one_lt_two_pow (by omega)⟩
theorem bd1 (n : Nat) : Bd (n + 1) 1 := ⟨by simp <;> exact Nat.one_lt_two_pow (by omega), by simp <;> exact Nat.one_lt_two_pow (by omega)⟩
/-- the value -/
def pe : List Rat → Rat → Rat
  | [], _ => 0
  | a :: r, x => a + x * pe r x
/-- without zeros at its end -/
def trim : List Rat → List Rat
  | [] => []
  | a :: r => if trim r = [] ∧ a = 0 then [] else a :: trim r
theorem pe_trim : ∀ (xs : List Rat) (x : Rat), pe (trim xs) x = pe xs x
  | [], _ => rfl
  | a :: r, x => by
    have ih := pe_trim r x
    unfold trim
    split
    · rename_i hc
      rw [hc.1] at ih
      simp only [pe] at ih ⊢
      rw [hc.2, ← ih]
      grind
    · simp only [pe, ih]
theorem trim_mem : ∀ {xs : List Rat} {q : Rat}, q ∈ trim xs → q ∈ xs
  | [], _, h => h
  | a :: r, q, h => by
    unfold trim at h
    split at h
    · simp at h
    · rcases List.mem_cons.mp h with h | h
      · simp [h]
      · exact List.mem_cons_of_mem _ (trim_mem h)
end
end PB
set_option Elab.async false
set_option linter.all false
set_option maxRecDepth 100000
set_option maxHeartbeats 1000000
set_option exponentiation.threshold 100000
namespace PB
open PySem
section
variable {k : Nat} {h t : PH} {o : PO} {m n : Nat} {x y : Rat} {xs ys : List Rat}
@[simp] theorem low_bl {n : Nat} {b : Bool} : PV.low n (.bl b) = true := by simp [PV.low]
@[simp] theorem low_int {n : Nat} {b : Int} : PV.low n (.int b) = true := by simp [PV.low]
@[simp] theorem low_non {n : Nat} : PV.low n .non = true := by simp [PV.low]
/-- sizes -/
theorem bd_pe {c b : Nat} (hx : Bd b x) : ∀ {xs : List Rat}, AllB c xs → Bd (xs.length * (b + c + 1) + 1) (pe xs x)
  | [], _ => (bd0 0).mono (by omega)
  | a :: r, h => by
    have ih := bd_pe (xs := r) hx fun q hq => h q (by simp [hq])
    have h2 := bd_add (h a (by simp)) (bd_mul hx ih)
    refine h2.1.mono ?_
    rw [List.length_cons, Nat.add_mul]
    omega
end
end PB
set_option Elab.async false
set_option linter.all false
set_option maxRecDepth 100000
set_option maxHeartbeats 1000000
set_option exponentiation.threshold 100000
namespace PB
open PySem
section
variable {k : Nat} {h t : PH} {o : PO} {m n : Nat} {x y : Rat} {xs ys : List Rat}
/-- the sum, place by place -/
def padd : List Rat → List Rat → List Rat
  | [], ys => ys
  | a :: r, [] => a :: r
  | a :: r, b :: q => (a + b) :: padd r q
theorem pe_padd : ∀ (xs ys : List Rat), pe (padd xs ys) x = pe xs x + pe ys x
  | [], ys => by simp only [padd, pe]; grind
  | a :: r, [] => by simp only [padd, pe]; grind
  | a :: r, b :: q => by simp only [padd, pe, pe_padd r q]; grind
theorem flat_one (i : Nat) (v : PV) : (List.replicate i [v]).flatten = List.replicate i v := by
  induction i with
  | zero => rfl
  | succ i ih => simp [List.replicate_succ, ih]
/-! ### products -/
/-- F with ys added from the place p on -/
def addAt : List Rat → Nat → List Rat → List Rat
  | [], _, _ => []
  | f :: F, 0, [] => f :: F
  | f :: F, 0, y :: ys => (f + y) :: addAt F 0 ys
  | f :: F, p + 1, ys => f :: addAt F p ys
theorem addAt_len : ∀ (F : List Rat) (p : Nat) (ys : List Rat), (addAt F p ys).length = F.length
  | [], _, _ => rfl
  | f :: F, 0, [] => rfl
  | f :: F, 0, y :: ys => by simp [addAt, addAt_len F 0 ys]
  | f :: F, p + 1, ys => by simp [addAt, addAt_len F p ys]
theorem addAt_get : ∀ (F : List Rat) (p : Nat) (ys : List Rat) (i : Nat) (f : Rat), F[i]? = some f → (addAt F p ys)[i]? = some (if i < p then f else match ys[i - p]? with | some y => f + y | none => f)
  | [], _, _, _, _, h => by simp at h
  | f :: F, 0, [], i, g, h => by simp [addAt, h]
  | f :: F, 0, y :: ys, 0, g, h => by simp at h; subst h; simp [addAt]
  | f :: F, 0, y :: ys, i + 1, g, h => by
    have := addAt_get F 0 ys i g (by simpa using h)
    simp [addAt, this]
  | f :: F, p + 1, ys, 0, g, h => by simp at h; subst h; simp [addAt]
  | f :: F, p + 1, ys, i + 1, g, h => by
    have := addAt_get F p ys i g (by simpa using h)
    simp [addAt, this]
theorem pe_addAt : ∀ (F : List Rat) (p : Nat) (ys : List Rat), p + ys.length ≤ F.length → pe (addAt F p ys) x = pe F x + x ^ p * pe ys x
  | [], p, ys, h => by
    simp at h
    obtain ⟨rfl, h⟩ := h
    subst h
    simp [addAt, pe]; grind
  | f :: F, 0, [], _ => by simp [addAt, pe]; grind
  | f :: F, 0, y :: ys, h => by
    have ih := pe_addAt F 0 ys (by simp at h ⊢; omega)
    simp only [addAt, pe, ih]; grind
  | f :: F, p + 1, ys, h => by
    have ih := pe_addAt F p ys (by simp at h; omega)
    simp only [addAt, pe, ih]; grind
/-- the product -/
def pmulL (F : List Rat) (p : Nat) : List Rat → List Rat → List Rat
  | [], _ => F
  | a :: r, ys => pmulL (addAt F p (ys.map (a * ·))) (p + 1) r ys
def pmul (xs ys : List Rat) : List Rat := if xs = [] ∨ ys = [] then [] else pmulL (List.replicate (xs.length + ys.length - 1) 0) 0 xs ys
theorem pe_scaled (a : Rat) : ∀ ys : List Rat, pe (ys.map (a * ·)) x = a * pe ys x
  | [] => by simp [pe]
  | y :: ys => by simp only [List.map_cons, pe, pe_scaled a ys]; grind
theorem pe_pmulL : ∀ (xs ys F : List Rat) (p : Nat), p + xs.length + ys.length ≤ F.length + 1 → pe (pmulL F p xs ys) x = pe F x + x ^ p * (pe xs x * pe ys x)
  | [], ys, F, p, _ => by simp only [pmulL, pe]; grind
  | a :: r, ys, F, p, h => by
    simp only [List.length_cons] at h
    rw [pmulL, pe_pmulL r ys _ (p + 1) (by rw [addAt_len]; omega), pe_addAt F p _ (by rw [List.length_map]; omega), pe_scaled]
    simp only [pe]; grind
theorem pe_rep0 : ∀ n : Nat, pe (List.replicate n 0) x = 0
  | 0 => rfl
  | n + 1 => by rw [List.replicate_succ, pe, pe_rep0 n]; grind
theorem pe_pmul (xs ys : List Rat) : pe (pmul xs ys) x = pe xs x * pe ys x := by
  unfold pmul
  split
  · rename_i h
    rcases h with rfl | rfl <;> simp only [pe] <;> grind
  · rename_i h
    have h1 : xs ≠ [] := fun z => h (.inl z)
    have h2 := List.length_pos_iff.mpr h1
    rw [pe_pmulL xs ys _ 0 (by rw [List.length_replicate]; omega), pe_rep0]; grind
end
end PB
set_option Elab.async false
set_option linter.all false
set_option maxRecDepth 100000
set_option maxHeartbeats 1000000
set_option exponentiation.threshold 100000
namespace PB
open PySem
section
variable {k : Nat} {h t : PH} {o : PO} {m n : Nat} {x y : Rat} {xs ys : List Rat}
theorem atI_nat' {α : Type} {xs : List α} {j : Nat} : L2.atI xs (j : Int) = xs[j]? := by
  rw [atI_nn (by omega)]; simp
@[simp] theorem mul_lst {a : Nat} {xs : List PV} {k : Int} : binop .mul (.ref a) (.int k) h = match h[a]? with
    | some (.lst xs) => if -1000 ≤ k ∧ k ≤ many ∧ xs.length * k.toNat ≤ many then alloc (List.replicate k.toNat xs).flatten h else .bad
    | _ => .bad := rfl
@[simp] theorem add_int {i j : Int} : binop .add (.int i) (.int j) h = .ok (.int (i + j)) h := rfl
@[simp] theorem sub_int {i j : Int} : binop .sub (.int i) (.int j) h = .ok (.int (i - j)) h := rfl
@[simp] theorem mul_int {i j : Int} : binop .mul (.int i) (.int j) h = if mulOk i j = true then .ok (.int (i * j)) h else .bad := rfl
@[simp] theorem fdiv_int {i j : Int} : binop .fdiv (.int i) (.int j) h = if j ≠ 0 ∧ j.natAbs.log2 < 9000 then .ok (.int (i.fdiv j)) h else .bad := rfl
@[simp] theorem mod_int {i j : Int} : binop .mod (.int i) (.int j) h = if j ≠ 0 then .ok (.int (i.fmod j)) h else .bad := rfl
@[simp] theorem mul_tup {xs : List PV} {k : Int} : binop .mul (.tup xs) (.int k) h = if -1000 ≤ k ∧ k ≤ 1000 ∧ xs.length ≤ 1000 then .ok (.tup (List.replicate k.toNat xs).flatten) h else .bad := rfl
@[simp] theorem add_tup {xs ys : List PV} : binop .add (.tup xs) (.tup ys) h = if xs.length + ys.length ≤ many then .ok (.tup (xs ++ ys)) h else .bad := rfl
@[simp] theorem add_lst {a b : Nat} : binop .add (.ref a) (.ref b) h = match h[a]?, h[b]? with
    | some (.lst xs), some (.lst ys) => if xs.length + ys.length ≤ many then alloc (xs ++ ys) h else .bad
    | _, _ => .bad := rfl
@[simp] theorem cmp_eq {a b : PV} : cmpop .eq a b h = match eqD h a b with | some r => .ok (.bl r) h | none => .bad := rfl
@[simp] theorem cmp_ne {a b : PV} : cmpop .ne a b h = match eqD h a b with | some r => .ok (.bl (!r)) h | none => .bad := rfl
@[simp] theorem cmp_lt {i j : Int} : cmpop .lt (.int i) (.int j) h = .ok (.bl (decide (i < j))) h := rfl
@[simp] theorem cmp_le {i j : Int} : cmpop .le (.int i) (.int j) h = .ok (.bl (decide (i ≤ j))) h := rfl
@[simp] theorem cmp_gt {i j : Int} : cmpop .gt (.int i) (.int j) h = .ok (.bl (decide (j < i))) h := rfl
@[simp] theorem cmp_ge {i j : Int} : cmpop .ge (.int i) (.int j) h = .ok (.bl (decide (j ≤ i))) h := rfl
@[simp] theorem cmp_isN {a : PV} : cmpop .isN a .non h = .ok (.bl (match a with | .non => true | _ => false)) h := rfl
@[simp] theorem cmp_notN {a : PV} : cmpop .notN a .non h = .ok (.bl (match a with | .non => false | _ => true)) h := rfl
end
end PB
set_option Elab.async false
set_option linter.all false
set_option maxRecDepth 100000
set_option maxHeartbeats 1000000
set_option exponentiation.threshold 100000
namespace PB
open PySem
section
variable {k : Nat} {h t : PH} {o : PO} {m n : Nat} {x y : Rat} {xs ys : List Rat}
theorem range_len' (n : Nat) (a c : Int) : (range a n c).length = n := by
  induction n generalizing a with
  | zero => rfl
  | succ n ih => simp [range, ih]
end
end PB
set_option Elab.async false
set_option linter.all false
set_option maxRecDepth 100000
set_option maxHeartbeats 1000000
set_option exponentiation.threshold 100000
namespace PB
open PySem
section
variable {k : Nat} {h t : PH} {o : PO} {m n : Nat} {x y : Rat} {xs ys : List Rat}
theorem lat_ok {c b : Nat} (hx : Bd b x) (hc : AllB c xs) (hz : (xs.length + 1) * (b + c + 1) < 4000) : callF G (k + 3) 24 [pol xs, fr x] h = .ok (fr (pe xs x)) h := by
  rw [callF_eq (f := f__law_at) rfl rfl]
  have hf := frL_fold (h := h) (g := asT (callF G (k + 2)) (.v 3)) (b := evB (callF G (k + 2)) (.cons (.asg (.v 2) (.call 20 (.cons (.call 21 (.cons (.var 2) (.cons (.var 1) .nil))) (.cons (.var 3) .nil)))) .nil)) (l := [])
    fr (fun (s : List Rat × Option PV) => [some (pol xs), some (fr x), some (fr (pe s.1 x)), s.2]) (fun s a => (a :: s.1, some (fr a))) (fun s r => AllB c s.1 ∧ AllB c r ∧ s.1.length + r.length = xs.length) rfl
    (fun a r s ⟨i1, i2, i3⟩ => by
      have hl : s.1.length + 1 ≤ xs.length := by simp at i3; omega
      have ha : Bd c a := i2 a (by simp)
      have hp := bd_pe hx i1
      have hle : s.1.length * (b + c + 1) + (b + c + 1) ≤ (xs.length + 1) * (b + c + 1) := by
        rw [← Nat.succ_mul]; exact Nat.mul_le_mul_right _ (by omega)
      have h1 := ltimes_ok (k := k) (h := h) hp hx (by omega)
      have h2 := lplus_ok (k := k) (h := h) (bd_mul hp hx) ha (by omega)
      have e : pe s.1 x * x + a = pe (a :: s.1) x := by simp only [pe]; grind
      rw [e] at h2
      refine ⟨⟨fun q hq => ?_, fun q hq => i2 q (by simp [hq]), by simp at i3 ⊢; omega⟩, ?_⟩
      · rcases List.mem_cons.mp hq with rfl | hq
        · exact ha
        · exact i1 q hq
      · simp [h1, h2]) xs.reverse ([], none) ⟨fun q hq => by simp at hq, fun q hq => hc q (by simpa using hq), by simp⟩
  have e1 : (xs.reverse.foldl (fun (s : List Rat × Option PV) a => (a :: s.1, some (fr a))) ([], none)).1 = xs := by
    have : ∀ (zs : List Rat) (s : List Rat × Option PV), (zs.foldl (fun (s : List Rat × Option PV) a => (a :: s.1, some (fr a))) s).1 = zs.reverse ++ s.1 := by
      intro zs
      induction zs with
      | nil => intro s; rfl
      | cons z zs ih => intro s; simp [ih]
    rw [this]; simp
  simp only [e1] at hf
  have e0 : pe [] x = 0 := rfl
  rw [e0] at hf
  have er : revop (pol xs) h = .ok (.tup (frs xs).reverse) h := rfl
  rw [map_fr] at hf
  have hM : (2 : Nat) ≤ many := by decide
  simp only [f__law_at, c__law_at]
  simp [fr0, er, hM, List.replicate, hf]
theorem compL_tup {F : PV → PH → Res (Option PV)} {α : Type} (e : α → PV) (g : α → Rat) (xs : List α) (hF : ∀ a ∈ xs, F (e a) h = .ok (some (fr (g a))) h) : compL F [] (xs.map e) h = .ok (frs (xs.map g)) h := by
  rw [← frs_map]
  exact compL_map e (fun a => fr (g a)) rfl xs hF
end
end PB
set_option Elab.async false
set_option linter.all false
set_option maxRecDepth 100000
set_option maxHeartbeats 1000000
set_option exponentiation.threshold 100000
namespace PB
open PySem
section
variable {k : Nat} {h t : PH} {o : PO} {m n : Nat} {x y : Rat} {xs ys : List Rat}
@[simp] theorem frL_nil' {g : PV → Sl → PH → Res Sl} {b : Sl → PH → Res Fl} {s : Sl} {h : PH} : frL g b [] [] s h = .ok (.nx s) h := frL_nil rfl
/-! ### the law's product -/
end
end PB
set_option Elab.async false
set_option linter.all false
set_option maxRecDepth 100000
set_option maxHeartbeats 1000000
set_option exponentiation.threshold 100000
namespace PB
open PySem
section
variable {k : Nat} {h t : PH} {o : PO} {m n : Nat} {x y : Rat} {xs ys : List Rat}
theorem range_map : ∀ (n : Nat) (i : Nat), range (i : Int) n 1 = (List.range' i n).map fun j : Nat => PV.int j
  | 0, _ => rfl
  | n + 1, i => by
    have := range_map n (i + 1)
    rw [range_succ, List.range'_succ, List.map_cons, ← this]
    rfl
theorem filt_nil {α β : Type} {g : α → Option β} : ∀ {xs : List α}, xs.filterMap g = [] ↔ ∀ a ∈ xs, g a = none
  | [] => by simp
  | a :: r => by simp [List.filterMap_cons]; cases hg : g a <;> simp [hg]
theorem plains_ints {n : Nat} : ∀ {xs : List PV}, (∀ v ∈ xs, ∃ i, v = .int i) → plains n xs = true
  | [], _ => by simp [plains]
  | v :: r, hv => by
    obtain ⟨i, rfl⟩ := hv v (by simp)
    simp only [plains, Bool.and_eq_true]
    exact ⟨by cases n <;> simp [plain], plains_ints fun w hw => hv w (by simp [hw])⟩
theorem plains_get : ∀ {n : Nat} {xs : List PV} {i : Nat} {v : PV}, plains n xs = true → xs[i]? = some v → plain n v = true
  | n, [], _, _, _, e => by simp at e
  | n, a :: r, 0, v, p, e => by simp at e; subst e; simp only [plains, Bool.and_eq_true] at p; exact p.1
  | n, a :: r, i + 1, v, p, e => by simp only [plains, Bool.and_eq_true] at p; exact plains_get p.2 (by simpa using e)
@[simp] theorem eqD_ii {i j : Int} : eqD h (.int i) (.int j) = some (decide (i = j)) := rfl
@[simp] theorem eqD_nn : eqD h .non .non = some true := rfl
@[simp] theorem eqD_in {i : Int} : eqD h (.int i) .non = some false := rfl
@[simp] theorem eqD_ni {i : Int} : eqD h .non (.int i) = some false := rfl
@[simp] theorem eqD_bb {a b : Bool} : eqD h (.bl a) (.bl b) = some (a == b) := rfl
mutual
/-- no tuple longer than 10000 -/
def short : PV → Bool
  | .tup xs => decide (xs.length ≤ 10000) && shorts xs
  | _ => true
def shorts : List PV → Bool
  | [] => true
  | x :: r => short x && shorts r
end
theorem shorts_get : ∀ {xs : List PV} {i : Nat} {v : PV}, shorts xs = true → xs[i]? = some v → short v = true
  | [], _, _, _, e => by simp at e
  | a :: r, 0, v, p, e => by simp at e; subst e; simp only [shorts, Bool.and_eq_true] at p; exact p.1
  | a :: r, i + 1, v, p, e => by simp only [shorts, Bool.and_eq_true] at p; exact shorts_get p.2 (by simpa using e)
theorem alike_ok : ∀ (n k : Nat) (a b : PV) (h : PH), n ≤ 11 → plain n a = true → plain n b = true → short b = true → callF G (k + n + 1) 15 [a, b] h = .ok (.bl (decide (a = b))) h := by
  intro n
  induction n with
  | zero =>
    intro k a b h hn pa pb _
    rw [callF_eq (f := f__law_alike) rfl rfl]
    simp only [f__law_alike, c__law_alike]
    cases a <;> simp [plain] at pa <;> cases b <;> simp [plain] at pb <;> simp
  | succ n ih =>
    intro k a b h hn pa pb hb
    have pa12 := plain_mono pa (by omega : n + 1 ≤ 12)
    have en : eqD h a .non = some (decide (a = .non)) := eqD_plain pa12 (by simp [plain])
    rw [callF_eq (f := f__law_alike) rfl rfl]
    simp only [f__law_alike, c__law_alike]
    cases b <;> (try (simp [plain] at pb; done))
    case non => cases a <;> (try (simp [plain] at pa; done)) <;> simp [en]
    case int j => cases a <;> (try (simp [plain] at pa; done)) <;> simp [en]
    case tup ys =>
      cases a <;> (try (simp [plain] at pa; done))
      case non => simp
      case int => simp
      case tup xs =>
        simp only [plain] at pa pb
        simp only [short, Bool.and_eq_true, decide_eq_true_eq] at hb
        obtain ⟨hyl, hsh⟩ := hb
        by_cases hl : xs.length = ys.length
        · have hF : ∀ j ∈ List.range' 0 ys.length, compF (callF G (k + (n + 1))) (.var 2) [2] (.v 2) (.some (.not (.call 15 (.cons (.idx (.var 0) (.var 2)) (.cons (.idx (.var 1) (.var 2)) .nil))))) [some (.tup xs), some (.tup ys), none] (.int (j : Nat)) h =
              .ok (if xs[j]? = ys[j]? then none else some (PV.int (j : Nat))) h := fun j hj => by
            have hjl : j < ys.length := by simpa using hj
            have e1 : xs[j]? = some xs[j] := List.getElem?_eq_getElem (by omega)
            have e2 : ys[j]? = some ys[j] := List.getElem?_eq_getElem hjl
            have := ih k xs[j] ys[j] h (by omega) (plains_get pa e1) (plains_get pb e2) (shorts_get hsh e2)
            have a1 : L2.atI xs (j : Int) = some xs[j] := by rw [atI_nat', e1]
            have a2 : L2.atI ys (j : Int) = some ys[j] := by rw [atI_nat', e2]
            rw [e1, e2]
            by_cases hxy : xs[j] = ys[j]
            · rw [hxy] at this a1
              simp [compF, wipe, idxop, a1, a2, this, hxy, ← Nat.add_assoc]
            · simp [compF, wipe, idxop, a1, a2, this, hxy, ← Nat.add_assoc]
          have hcmp := compL_filter (h := h) (l := []) (fun j : Nat => PV.int j) (fun j => if xs[j]? = ys[j]? then none else some (PV.int (j : Nat))) rfl (List.range' 0 ys.length) hF
          rw [← range_map] at hcmp
          simp only [Int.natCast_zero] at hcmp
          generalize hzs : (List.range' 0 ys.length).filterMap (fun j => if xs[j]? = ys[j]? then none else some (PV.int (j : Nat))) = zs at hcmp
          have hzi : ∀ v ∈ zs, ∃ i, v = .int i := fun v hv => by
            rw [← hzs, List.mem_filterMap] at hv
            obtain ⟨j, _, hj⟩ := hv
            split at hj <;> cases hj
            exact ⟨_, rfl⟩
          have heq : eqD (h ++ [.lst zs, .lst []]) (.ref h.length) (.ref (h.length + 1)) = some (decide (zs = [])) := eqD_lst (by simp) (by simp) (plains_ints hzi) (by simp [plains])
          have hiff : (zs = []) ↔ xs = ys := by
            rw [← hzs, filt_nil]
            constructor
            · intro H
              apply List.ext_getElem?
              intro j
              by_cases hj : j < ys.length
              · have := H j (by simpa using hj)
                by_cases he : xs[j]? = ys[j]?
                · exact he
                · rw [if_neg he] at this; cases this
              · rw [List.getElem?_eq_none (by omega), List.getElem?_eq_none (by omega)]
            · rintro rfl j _
              rw [if_pos rfl]
          have g : (-1000000 : Int) ≤ (ys.length : Int) ∧ (ys.length : Int) ≤ 1000000 := by omega
          have hM : many = 1000000 := rfl
          have gl : (range 0 ys.length 1).length ≤ 1000000 := by rw [range_len']; omega
          simp [hl, bigR, g, hM, gl, List.replicate, alloc, hcmp, heq, hiff]

        · have : xs ≠ ys := fun z => hl (by rw [z])
          have hl' : ¬ (xs.length : Int) = (ys.length : Int) := by omega
          simp [hl, hl', this]
theorem alike_int {i j : Int} : callF G (k + 1) 15 [.int i, .int j] h = .ok (.bl (decide (i = j))) h := by
  have := alike_ok 0 k (.int i) (.int j) h (by decide) (by simp [plain]) (by simp [plain]) rfl
  simpa using this
end
end PB
set_option Elab.async false
set_option linter.all false
set_option maxRecDepth 100000
set_option maxHeartbeats 1000000
set_option exponentiation.threshold 100000
namespace PB
open PySem
section
variable {k : Nat} {h t : PH} {o : PO} {m n : Nat} {x y : Rat} {xs ys : List Rat}
theorem trim_eq_of : ∀ {xs ys : List Rat}, (∀ i : Nat, xs[i]?.getD 0 = ys[i]?.getD 0) → trim xs = trim ys
  | [], [], _ => rfl
  | [], b :: q, h => by
    have h0 := h 0
    simp at h0
    have ih := trim_eq_of (xs := []) (ys := q) fun i => by have := h (i + 1); simpa using this
    rw [trim, trim, ← ih]
    simp [trim, ← h0]
  | a :: r, [], h => by
    have h0 := h 0
    simp at h0
    have ih := trim_eq_of (xs := r) (ys := []) fun i => by have := h (i + 1); simpa using this
    rw [trim, trim, ih]
    simp [trim, h0]
  | a :: r, b :: q, h => by
    have h0 := h 0
    simp at h0
    have ih := trim_eq_of (xs := r) (ys := q) fun i => by have := h (i + 1); simpa using this
    rw [trim, trim, ih, h0]
theorem padd_getD : ∀ (xs ys : List Rat) (i : Nat), (padd xs ys)[i]?.getD 0 = xs[i]?.getD 0 + ys[i]?.getD 0
  | [], ys, i => by simp [padd]; grind
  | a :: r, [], i => by simp [padd]; grind
  | a :: r, b :: q, 0 => by simp [padd]
  | a :: r, b :: q, i + 1 => by simpa [padd] using padd_getD r q i
end
end PB
set_option Elab.async false
set_option linter.all false
set_option maxRecDepth 100000
set_option maxHeartbeats 1000000
set_option exponentiation.threshold 100000
namespace PB
open PySem
section
variable {k : Nat} {h t : PH} {o : PO} {m n : Nat} {x y : Rat} {xs ys : List Rat}
/-! ### a polynomial is told by its values -/
/-- the quotient by x - c -/
def quo (c : Rat) : List Rat → List Rat
  | [] => []
  | [_] => []
  | _ :: b :: r => pe (b :: r) c :: quo c (b :: r)
theorem pe_quo (c x : Rat) : ∀ xs : List Rat, pe xs x = pe xs c + (x - c) * pe (quo c xs) x
  | [] => by simp [quo, pe]; grind
  | [a] => by simp [quo, pe]; grind
  | a :: b :: r => by
    have ih := pe_quo c x (b :: r)
    show a + x * pe (b :: r) x = (a + c * pe (b :: r) c) + (x - c) * (pe (b :: r) c + x * pe (quo c (b :: r)) x)
    rw [ih]; grind
theorem quo_len (c : Rat) : ∀ xs : List Rat, (quo c xs).length = xs.length - 1
  | [] => rfl
  | [a] => rfl
  | a :: b :: r => by rw [quo, List.length_cons, quo_len c (b :: r)]; simp
theorem zero_of_quo (c : Rat) : ∀ xs : List Rat, pe xs c = 0 → (∀ q ∈ quo c xs, q = 0) → ∀ q ∈ xs, q = 0
  | [], _, _ => fun q hq => by simp at hq
  | [a], h0, _ => fun q hq => by
    simp [pe] at h0 hq
    subst hq
    grind
  | a :: b :: r, h0, hq => by
    rw [quo] at hq
    have h1 : pe (b :: r) c = 0 := hq _ (by simp)
    have ih := zero_of_quo c (b :: r) h1 fun q h => hq q (by simp [h])
    intro q hm
    rcases List.mem_cons.mp hm with rfl | hm
    · rw [pe, h1] at h0; grind
    · exact ih q hm
theorem zero_of_roots : ∀ (n : Nat) (xs cs : List Rat), xs.length ≤ n → cs.Nodup → xs.length ≤ cs.length → (∀ c ∈ cs, pe xs c = 0) → ∀ q ∈ xs, q = 0
  | 0, xs, cs, hn, _, _, _ => fun q hq => by
    have : xs = [] := List.length_eq_zero_iff.mp (by omega)
    subst this; simp at hq
  | n + 1, xs, [], hn, _, hl, _ => fun q hq => by
    have : xs = [] := List.length_eq_zero_iff.mp (by simpa using hl)
    subst this; simp at hq
  | n + 1, xs, c :: cs, hn, hd, hl, hr => by
    have h0 := hr c (by simp)
    by_cases he : xs = []
    · subst he; intro q hq; simp at hq
    have hpos := List.length_pos_iff.mpr he
    refine zero_of_quo c xs h0 (zero_of_roots n (quo c xs) cs (by rw [quo_len]; omega) (List.nodup_cons.mp hd).2 (by rw [quo_len]; simp at hl; omega) fun d hdm => ?_)
    have h1 := pe_quo c d xs
    rw [hr d (by simp [hdm]), h0] at h1
    have hne : d - c ≠ 0 := fun z => (List.nodup_cons.mp hd).1 (by
      have : d = c := by grind
      rw [← this]; exact hdm)
    have h2 : (d - c) * pe (quo c xs) d = 0 := by grind
    rcases Rat.mul_eq_zero.mp h2 with z | z
    · exact absurd z hne
    · exact z
theorem nodup_nats (n : Nat) : ((List.range n).map fun i : Nat => (i : Rat)).Nodup := by
  unfold List.Nodup
  rw [List.pairwise_map]
  exact List.nodup_range.imp fun h e => h (by exact_mod_cast e)
theorem zero_of_pe (hx : ∀ x, pe xs x = 0) : ∀ q ∈ xs, q = 0 :=
  zero_of_roots xs.length xs ((List.range xs.length).map fun i : Nat => (i : Rat)) (Nat.le_refl _) (nodup_nats _) (by simp) fun c _ => hx c
theorem pe_neg : ∀ ys : List Rat, pe (ys.map (· * (-1))) x = - pe ys x
  | [] => by simp [pe]
  | y :: ys => by simp only [List.map_cons, pe, pe_neg ys]; grind
theorem eq_of_pe {xs ys : List Rat} (he : ∀ x, pe xs x = pe ys x) : trim xs = trim ys := by
  have hz := zero_of_pe (xs := padd xs (ys.map (· * (-1)))) fun x => by rw [pe_padd, pe_neg, he x]; grind
  refine trim_eq_of fun i => ?_
  have hg := padd_getD xs (ys.map (· * (-1))) i
  have h0 : (padd xs (ys.map (· * (-1))))[i]?.getD 0 = 0 := by
    cases hi : (padd xs (ys.map (· * (-1))))[i]? with
    | none => rfl
    | some q => exact hz q (List.mem_of_getElem? hi)
  rw [h0, List.getElem?_map] at hg
  cases hy : ys[i]? with
  | none => rw [hy] at hg; simp at hg ⊢; grind
  | some y => rw [hy] at hg; simp at hg ⊢; grind
/-! ### scaled -/
/-! ### composed -/
end
end PB
set_option Elab.async false
set_option linter.all false
set_option maxRecDepth 100000
set_option maxHeartbeats 1000000
set_option exponentiation.threshold 100000
namespace PB
open PySem
section
variable {k : Nat} {h t : PH} {o : PO} {m n : Nat} {x y : Rat} {xs ys : List Rat}
def pb (d m : Nat) : Nat → Nat
  | 0 => 1
  | n + 1 => 1 + (n * m + 1) * (pb d m n + d + 1)
end
end PB
set_option Elab.async false
set_option linter.all false
set_option maxRecDepth 100000
set_option maxHeartbeats 1000000
set_option exponentiation.threshold 100000
namespace PB
open PySem
section
variable {k : Nat} {h t : PH} {o : PO} {m n : Nat} {x y : Rat} {xs ys : List Rat}
theorem fr_nat (i : Nat) : PV.tup [.int (i : Int), .int 1] = fr (i : Rat) := rfl
theorem bd_nat {i b : Nat} (h : i < 2 ^ b) (hb : 1 ≤ b) : Bd b (i : Rat) := by
  refine ⟨?_, ?_⟩
  · show (Rat.num (i : Rat)).natAbs < _
    rw [Rat.num_natCast]; simpa using h
  · show (Rat.den (i : Rat)) < _
    rw [Rat.den_natCast]; exact Nat.one_lt_two_pow (by omega)
/-! ### derivatives and integrals of rows -/
def ders : Nat → List Rat → List Rat
  | _, [] => []
  | i, a :: r => (a * (i : Rat)) :: ders (i + 1) r
def itg : Nat → List Rat → List Rat
  | _, [] => []
  | i, a :: r => (a * Rat.divInt 1 ((i : Int) + 1)) :: itg (i + 1) r
def pder (xs : List Rat) : List Rat := ders 1 xs.tail
theorem ders_len : ∀ (xs : List Rat) (i : Nat), (ders i xs).length = xs.length
  | [], _ => rfl
  | a :: r, i => by simp [ders, ders_len r]
/-- the value of the derivative, of the integral from 0 -/
def dv (xs : List Rat) (x : Rat) : Rat := pe (pder xs) x
def iv (xs : List Rat) (x : Rat) : Rat := x * pe (itg 0 xs) x
theorem ders_succ : ∀ (xs : List Rat) (i : Nat), pe (ders (i + 1) xs) x = pe xs x + pe (ders i xs) x
  | [], i => by simp [ders, pe]; grind
  | a :: r, i => by
    have ih := ders_succ r (i + 1)
    have e : ((i + 1 : Nat) : Rat) = (i : Rat) + 1 := Rat.natCast_add i 1
    simp only [ders, pe, ih, e]; grind
theorem dv_nil : dv [] x = 0 := rfl
theorem dv_cons (a : Rat) (r : List Rat) : dv (a :: r) x = pe r x + x * dv r x := by
  have h1 : dv (a :: r) x = pe (ders 1 r) x := rfl
  rw [h1, ders_succ]
  congr 1
  cases r with
  | nil => simp [ders, pe, dv, pder]
  | cons b q =>
    have h0 : ((0 : Nat) : Rat) = 0 := rfl
    simp only [ders, pe, dv, pder, List.tail_cons, h0]; grind
theorem dv_padd : ∀ (xs ys : List Rat), dv (padd xs ys) x = dv xs x + dv ys x
  | [], ys => by simp only [padd, dv_nil]; grind
  | a :: r, [] => by simp only [padd, dv_nil]; grind
  | a :: r, b :: q => by simp only [padd, dv_cons, dv_padd r q, pe_padd]; grind
theorem dv_scaled (a : Rat) : ∀ ys : List Rat, dv (ys.map (a * ·)) x = a * dv ys x
  | [] => by simp [dv_nil]
  | y :: ys => by simp only [List.map_cons, dv_cons, dv_scaled a ys, pe_scaled]; grind
theorem dv_trim : ∀ xs : List Rat, dv (trim xs) x = dv xs x
  | [] => rfl
  | a :: r => by
    have ih := dv_trim r
    have ip := pe_trim r x
    unfold trim
    split
    · rename_i hc
      rw [hc.1] at ih ip
      rw [dv_cons, ← ih, ← ip, dv_nil]; simp only [pe]; grind
    · rw [dv_cons, dv_cons, ih, ip]
theorem dv_congr {xs ys : List Rat} (h : ∀ x, pe xs x = pe ys x) : dv xs x = dv ys x := by
  rw [← dv_trim xs, ← dv_trim ys, eq_of_pe h]
def mulR : List Rat → List Rat → List Rat
  | [], _ => []
  | a :: r, ys => padd (ys.map (a * ·)) (0 :: mulR r ys)
theorem pe_mulR : ∀ (xs ys : List Rat) (x : Rat), pe (mulR xs ys) x = pe xs x * pe ys x
  | [], ys, x => by simp only [mulR, pe]; grind
  | a :: r, ys, x => by simp only [mulR, pe_padd, pe_scaled, pe, pe_mulR r ys x]; grind
theorem dv_mulR : ∀ (xs ys : List Rat), dv (mulR xs ys) x = dv xs x * pe ys x + pe xs x * dv ys x
  | [], ys => by simp only [mulR, dv_nil, pe]; grind
  | a :: r, ys => by simp only [mulR, dv_padd, dv_scaled, dv_cons, pe_mulR, dv_mulR r ys, pe]; grind
theorem dv_pmul (xs ys : List Rat) : dv (pmul xs ys) x = dv xs x * pe ys x + pe xs x * dv ys x := by
  rw [← dv_mulR]
  exact dv_congr fun x => by rw [pe_pmul, pe_mulR]
theorem pder_len : (pder xs).length = xs.length - 1 := by rw [pder, ders_len, List.length_tail]
/-! ### the program's derivative and integral -/
end
end PB
set_option Elab.async false
set_option linter.all false
set_option maxRecDepth 100000
set_option maxHeartbeats 1000000
set_option exponentiation.threshold 100000
namespace PB
open PySem
section
variable {k : Nat} {h t : PH} {o : PO} {m n : Nat} {x y : Rat} {xs ys : List Rat}
theorem ders_range : ∀ (zs : List Rat) (i : Nat), xs.drop i = zs → (List.range' i zs.length).map (fun j : Nat => xs[j]?.getD 0 * (j : Rat)) = ders i zs
  | [], _, _ => rfl
  | a :: r, i, hz => by
    have h0 : xs[i]? = some a := by
      have := congrArg (·[0]?) hz
      simpa using this
    have hd : xs.drop (i + 1) = r := by
      have := congrArg (·.drop 1) hz
      simpa [List.drop_drop, Nat.add_comm] using this
    rw [List.length_cons, List.range'_succ, List.map_cons, ders_range r (i + 1) hd, h0, ders]
    rfl
theorem lp_slope_ok {c : Nat} (hc : AllB c xs) (hz : c < 3900) (hl : xs.length ≤ 200) : callF G (k + 3) 44 [pol xs] h = .ok (pol (pder xs)) h := by
  rw [callF_eq (f := f__law_p_slope) rfl rfl]
  have hcmp := compL_tup (h := h) (F := compF (callF G (k + 2)) (.call 21 (.cons (.idx (.var 0) (.var 1)) (.cons (.tup (.cons (.var 1) (.cons (.con (.int 1)) .nil))) .nil))) [1] (.v 1) .none [some (pol xs), none])
    (fun j : Nat => PV.int (j : Nat)) (fun j : Nat => xs[j]?.getD 0 * (j : Rat)) (List.range' 1 (xs.length - 1)) fun j hj => by
      have hj2 : j < xs.length := by
        have := List.mem_range'.mp hj
        obtain ⟨i, hi, rfl⟩ := this
        omega
      have e0 : xs[j]? = some xs[j] := List.getElem?_eq_getElem hj2
      have hat : L2.atI (frs xs) (j : Int) = some (fr xs[j]) := by rw [atI_nat', frs_get, e0]; rfl
      have hM : (2 : Nat) ≤ many := by decide
      have := ltimes_ok (k := k) (h := h) (hc xs[j] (List.getElem_mem _)) (bd_nat (i := j) (b := 8) (by omega) (by decide)) (by omega)
      simp [compF, wipe, hM, fr_nat, idxop, hat, e0, this]
  have hdl : (xs.drop 1).length = xs.length - 1 := List.length_drop
  have hr := ders_range (xs := xs) (xs.drop 1) 1 rfl
  rw [hdl, List.drop_one] at hr
  have hrm := range_map (xs.length - 1) 1
  rw [← hrm, hr] at hcmp
  have e1 : ((1 : Nat) : Int) = 1 := rfl
  rw [e1] at hcmp
  have hM : many = 1000000 := rfl
  have g : (-1000000 : Int) ≤ (xs.length : Int) ∧ (xs.length : Int) ≤ 1000000 := by omega
  have g2 : ((xs.length : Int) - 1).toNat = xs.length - 1 := by omega
  have hlen : xs.length ≤ 1000001 := by omega
  have ep : PV.tup (frs (ders 1 xs.tail)) = pol (pder xs) := rfl
  simp only [f__law_p_slope, c__law_p_slope]
  simp [List.replicate, hM, bigR, g, g2, range_len', hlen, hcmp, alloc, ep]
end
end PB
set_option Elab.async false
set_option linter.all false
set_option maxRecDepth 100000
set_option maxHeartbeats 1000000
set_option exponentiation.threshold 100000
namespace PB
open PySem
section
/-! ### loops by invariants -/
theorem enums_map {α : Type} (e : α → PV) : ∀ (xs : List α) (i : Nat), enums (i : Int) (xs.map e) = (xs.zipIdx i).map fun p => PV.wtup [.int (p.2 : Nat), e p.1]
  | [], _ => rfl
  | a :: r, i => by
    have := enums_map e r (i + 1)
    have e1 : ((i + 1 : Nat) : Int) = (i : Int) + 1 := by omega
    rw [e1] at this
    simp only [List.map_cons, enums, this, List.zipIdx_cons]
end
/-! ### rows with one denominator -/
def CD (a d : Nat) (xs : List Rat) : Prop := ∃ D : Int, D ≠ 0 ∧ D.natAbs < 2 ^ d ∧ ∀ q ∈ xs, ∃ A : Int, q * (D : Rat) = (A : Rat) ∧ A.natAbs < 2 ^ a
section
variable {k : Nat} {h t : PH} {o : PO} {m n a b c d e : Nat} {x y : Rat} {xs ys : List Rat}
theorem CD.mono (h : CD a d xs) (h1 : a ≤ b) (h2 : d ≤ e) : CD b e xs := by
  obtain ⟨D, d0, d1, dx⟩ := h
  exact ⟨D, d0, lt_pow d1 h2, fun q hq => let ⟨A, e1, e2⟩ := dx q hq; ⟨A, e1, lt_pow e2 h1⟩⟩
theorem CD.sub (h : CD a d xs) (hs : ∀ q ∈ ys, q ∈ xs) : CD a d ys := by
  obtain ⟨D, d0, d1, dx⟩ := h
  exact ⟨D, d0, d1, fun q hq => dx q (hs q hq)⟩
theorem ratInt_ne {D : Int} (h : D ≠ 0) : (D : Rat) ≠ 0 := by
  intro z; exact h (by exact_mod_cast z)
theorem bd_of_frac {A D : Int} {q : Rat} (h0 : D ≠ 0) (hq : q * (D : Rat) = (A : Rat)) (h1 : A.natAbs < 2 ^ n) (h2 : D.natAbs < 2 ^ n) : Bd n q := by
  have hD := ratInt_ne h0
  have : q = Rat.divInt A D := by
    rw [Rat.divInt_eq_div, ← hq]; grind
  rw [this]
  exact bd_divInt h0 h1 h2
theorem CD.all (h : CD a d xs) (h1 : a ≤ n) (h2 : d ≤ n) : AllB n xs := by
  obtain ⟨D, d0, d1, dx⟩ := h
  intro q hq
  obtain ⟨A, e1, e2⟩ := dx q hq
  exact bd_of_frac d0 e1 (lt_pow e2 h1) (lt_pow d1 h2)
theorem num_den (q : Rat) : q * ((q.den : Int) : Rat) = (q.num : Rat) := by
  have h := Rat.num_divInt_den q
  have hd : ((q.den : Int) : Rat) ≠ 0 := ratInt_ne (by exact_mod_cast q.den_nz)
  rw [Rat.divInt_eq_div] at h
  generalize hz : ((q.den : Int) : Rat) = z at *
  generalize (q.num : Rat) = w at *
  rw [← h]
  grind
theorem CD.one (h : Bd n x) : CD n n [x] := ⟨x.den, by exact_mod_cast x.den_nz, by simpa using h.2, fun q hq => by
  simp at hq; subst hq
  exact ⟨q.num, num_den q, h.1⟩⟩
theorem CD.nil : CD 0 1 [] := ⟨1, by decide, by decide, fun q hq => by simp at hq⟩
theorem CD.trim (h : CD a d xs) : CD a d (trim xs) := h.sub fun q hq => trim_mem hq
theorem CD.take (h : CD a d xs) (i : Nat) : CD a d (xs.take i) := h.sub fun q hq => List.mem_of_mem_take hq
/-- both on one denominator -/
theorem CD.both (h1 : CD a d xs) (h2 : CD b e ys) : ∃ D : Int, D ≠ 0 ∧ D.natAbs < 2 ^ (d + e) ∧ (∀ q ∈ xs, ∃ A : Int, q * (D : Rat) = (A : Rat) ∧ A.natAbs < 2 ^ (a + e)) ∧ (∀ q ∈ ys, ∃ A : Int, q * (D : Rat) = (A : Rat) ∧ A.natAbs < 2 ^ (b + d)) := by
  obtain ⟨D, d0, d1, dx⟩ := h1
  obtain ⟨E, e0, e1, ey⟩ := h2
  refine ⟨D * E, Int.mul_ne_zero d0 e0, natAbs_mul_lt d1 e1, fun q hq => ?_, fun q hq => ?_⟩
  · obtain ⟨A, q1, q2⟩ := dx q hq
    refine ⟨A * E, ?_, natAbs_mul_lt q2 e1⟩
    rw [Rat.intCast_mul, Rat.intCast_mul, ← q1]; grind
  · obtain ⟨A, q1, q2⟩ := ey q hq
    refine ⟨A * D, ?_, natAbs_mul_lt q2 d1⟩
    rw [Rat.intCast_mul, Rat.intCast_mul, ← q1]; grind
theorem CD.app (h1 : CD a d xs) (h2 : CD b e ys) : CD (max (a + e) (b + d)) (d + e) (xs ++ ys) := by
  obtain ⟨D, d0, d1, dx, dy⟩ := h1.both h2
  refine ⟨D, d0, d1, fun q hq => ?_⟩
  rcases List.mem_append.mp hq with hq | hq
  · obtain ⟨A, q1, q2⟩ := dx q hq; exact ⟨A, q1, lt_pow q2 (by omega)⟩
  · obtain ⟨A, q1, q2⟩ := dy q hq; exact ⟨A, q1, lt_pow q2 (by omega)⟩
theorem CD.addAt (h1 : CD a d xs) (h2 : CD b e ys) (p : Nat) : CD (max (a + e) (b + d) + 1) (d + e) (addAt xs p ys) := by
  obtain ⟨D, d0, d1, dx, dy⟩ := h1.both h2
  refine ⟨D, d0, d1, fun q hq => ?_⟩
  obtain ⟨i, hi, rfl⟩ := List.mem_iff_getElem.mp hq
  have hlt : i < xs.length := by rw [addAt_len] at hi; exact hi
  have hg := addAt_get xs p ys i xs[i] (List.getElem?_eq_getElem hlt)
  rw [List.getElem?_eq_getElem hi] at hg
  simp only [Option.some.injEq] at hg
  rw [hg]
  obtain ⟨A, q1, q2⟩ := dx xs[i] (List.getElem_mem hlt)
  split
  · exact ⟨A, q1, lt_pow q2 (by omega)⟩
  · cases hy : ys[i - p]? with
    | none => exact ⟨A, q1, lt_pow q2 (by omega)⟩
    | some z =>
      obtain ⟨B, r1, r2⟩ := dy z (List.mem_of_getElem? hy)
      refine ⟨A + B, ?_, natAbs_add_lt (lt_pow q2 (by omega)) (lt_pow r2 (by omega))⟩
      show (xs[i] + z) * (D : Rat) = _
      rw [Rat.intCast_add, ← q1, ← r1]; grind
end
end PB
set_option Elab.async false
set_option linter.all false
set_option maxRecDepth 100000
set_option maxHeartbeats 1000000
set_option exponentiation.threshold 100000
namespace PB
open PySem
section
variable {k : Nat} {h t : PH} {o : PO} {m n a b c d e : Nat} {x y : Rat} {xs ys us : List Rat}
theorem is_from_ok {i lo hi : Int} (h1 : lo ≤ i) (h2 : i ≤ hi) : callF G (k + 2) 75 [.int i, .int lo, .int hi] h = .ok (.bl true) h := by
  rw [callF_eq (f := f_is_from) rfl rfl]
  simp only [f_is_from, c_is_from]
  simp [is_int_ok, h1, h2]
/-! ### binomial numbers -/
def bin : Nat → Nat → Nat
  | _, 0 => 1
  | 0, _ + 1 => 0
  | n + 1, j + 1 => bin n j + bin n (j + 1)
/-! ### sums of rows -/
/-! ### symmetric sums -/
end
end PB
set_option Elab.async false
set_option linter.all false
set_option maxRecDepth 100000
set_option maxHeartbeats 1000000
set_option exponentiation.threshold 100000
namespace PB
open PySem
section
variable {k : Nat} {h t : PH} {o : PO} {m n a b c d e : Nat} {x y : Rat} {xs ys us : List Rat}
/-! ### blossoms -/
/-! ### what blossoms keep -/
end
end PB
set_option Elab.async false
set_option linter.all false
set_option maxRecDepth 100000
set_option maxHeartbeats 1000000
set_option exponentiation.threshold 100000
namespace PB
open PySem
section
variable {k : Nat} {h t : PH} {o : PO} {m n a b c d e : Nat} {x y : Rat} {xs ys us : List Rat}
def isT : Res PV → Bool
  | .ok (.bl b) _ => b
  | _ => false
@[simp] theorem isT_ok {p : Bool} : isT (.ok (.bl p) h) = p := rfl
end
end PB
set_option Elab.async false
set_option linter.all false
set_option maxRecDepth 100000
set_option maxHeartbeats 1000000
set_option exponentiation.threshold 100000
namespace PB
open PySem
section
variable {k : Nat} {h t : PH} {o : PO} {m n a b c d e : Nat} {x y : Rat} {xs ys us : List Rat}
/-! ### products with one denominator -/
def CN (N : Nat) (D : Int) (xs : List Rat) : Prop := ∀ q ∈ xs, ∃ A : Int, q * (D : Rat) = (A : Rat) ∧ A.natAbs ≤ N
theorem CN.mono {N M : Nat} {D : Int} (h : CN N D xs) (hk : N ≤ M) : CN M D xs := fun q hq => let ⟨A, e1, e2⟩ := h q hq; ⟨A, e1, by omega⟩
theorem CN.rep0 {D : Int} (i : Nat) : CN 0 D (List.replicate i 0) := fun q hq => ⟨0, by rw [(List.mem_replicate.mp hq).2, Rat.zero_mul]; rfl, Nat.le_refl _⟩
theorem CN.addAt {N M : Nat} {D : Int} (h1 : CN N D xs) (h2 : CN M D ys) (p : Nat) : CN (N + M) D (addAt xs p ys) := by
  intro q hq
  obtain ⟨i, hi, rfl⟩ := List.mem_iff_getElem.mp hq
  have hlt : i < xs.length := by rw [addAt_len] at hi; exact hi
  have hg := addAt_get xs p ys i xs[i] (List.getElem?_eq_getElem hlt)
  rw [List.getElem?_eq_getElem hi] at hg
  simp only [Option.some.injEq] at hg
  rw [hg]
  obtain ⟨A, q1, q2⟩ := h1 xs[i] (List.getElem_mem hlt)
  split
  · exact ⟨A, q1, by omega⟩
  · cases hy : ys[i - p]? with
    | none => exact ⟨A, q1, by omega⟩
    | some z =>
      obtain ⟨B, r1, r2⟩ := h2 z (List.mem_of_getElem? hy)
      refine ⟨A + B, ?_, by omega⟩
      show (xs[i] + z) * (D : Rat) = _
      rw [Rat.add_mul, q1, r1, Rat.intCast_add]
theorem CN.pmulL {M K : Nat} {D E : Int} : ∀ {xs ys F : List Rat} {p N : Nat}, CN N (D * E) F → CN M D xs → CN K E ys → CN (N + xs.length * (M * K)) (D * E) (pmulL F p xs ys)
  | [], ys, F, p, N, hF, _, _ => by rw [PB.pmulL]; exact hF.mono (by simp)
  | z :: r, ys, F, p, N, hF, h1, h2 => by
    have hs : CN (M * K) (D * E) (ys.map (z * ·)) := fun q hq => by
      obtain ⟨w, hw, rfl⟩ := List.mem_map.mp hq
      obtain ⟨A, q1, q2⟩ := h1 z (by simp)
      obtain ⟨B, r1, r2⟩ := h2 w hw
      refine ⟨A * B, ?_, by rw [Int.natAbs_mul]; exact Nat.mul_le_mul q2 r2⟩
      rw [Rat.intCast_mul, Rat.intCast_mul, ← q1, ← r1]; grind
    have := CN.pmulL (xs := r) (ys := ys) (p := p + 1) (hF.addAt hs p) (fun q hq => h1 q (by simp [hq])) h2
    rw [PB.pmulL]
    refine this.mono ?_
    rw [List.length_cons, Nat.add_mul]; omega
theorem CD.cn (h : CD a d xs) : ∃ D : Int, D ≠ 0 ∧ D.natAbs < 2 ^ d ∧ CN (2 ^ a - 1) D xs := by
  obtain ⟨D, d0, d1, dx⟩ := h
  exact ⟨D, d0, d1, fun q hq => let ⟨A, e1, e2⟩ := dx q hq; ⟨A, e1, by omega⟩⟩
theorem CN.cd {N : Nat} {D : Int} (d0 : D ≠ 0) (d1 : D.natAbs < 2 ^ d) (h : CN N D xs) (hN : N < 2 ^ a) : CD a d xs := ⟨D, d0, d1, fun q hq => let ⟨A, e1, e2⟩ := h q hq; ⟨A, e1, by omega⟩⟩
theorem pow_num {a b c l : Nat} (hl : l ≤ 2 ^ c) : l * ((2 ^ a - 1) * (2 ^ b - 1)) < 2 ^ (a + b + c) := by
  have h1 : (2 ^ a - 1) * (2 ^ b - 1) < 2 ^ a * 2 ^ b := by
    have p1 : 0 < 2 ^ a := Nat.pow_pos (by decide)
    have p2 : 0 < 2 ^ b := Nat.pow_pos (by decide)
    exact Nat.mul_lt_mul'' (by omega) (by omega)
  rw [pow_pow] at h1
  have h2 : l * ((2 ^ a - 1) * (2 ^ b - 1)) ≤ 2 ^ c * ((2 ^ a - 1) * (2 ^ b - 1)) := Nat.mul_le_mul_right _ hl
  have h3 : 2 ^ c * ((2 ^ a - 1) * (2 ^ b - 1)) < 2 ^ c * 2 ^ (a + b) := Nat.mul_lt_mul_of_pos_left h1 (Nat.pow_pos (by decide))
  rw [pow_pow, Nat.add_comm c] at h3
  omega
/-- what stands at each turn -/
theorem CD.parts (h1 : CD a d xs) (h2 : CD b e ys) (hl : xs.length ≤ 2 ^ c) (N p : Nat) : ∀ j, CD (a + b + c) (d + e) (pmulL (List.replicate N 0) p (xs.take j) ys) := by
  intro j
  obtain ⟨D, d0, d1, dx⟩ := h1.cn
  obtain ⟨E, e0, e1, ey⟩ := h2.cn
  have hz : CN 0 (D * E) (List.replicate N 0) := CN.rep0 N
  have := CN.pmulL (p := p) hz (show CN (2 ^ a - 1) D (xs.take j) from fun q hq => dx q (List.mem_of_mem_take hq)) ey
  refine this.cd (Int.mul_ne_zero d0 e0) (natAbs_mul_lt d1 e1) ?_
  rw [Nat.zero_add]
  exact pow_num (Nat.le_trans (by rw [List.length_take]; omega) hl)
theorem CD.pmul (h1 : CD a d xs) (h2 : CD b e ys) (hl : xs.length ≤ 2 ^ c) : CD (a + b + c) (d + e) (pmul xs ys) := by
  unfold PB.pmul
  split
  · exact ⟨1, by decide, by show 1 < 2 ^ (d + e); exact (by
      obtain ⟨D, d0, d1, _⟩ := h1
      have : 1 < 2 ^ d := by omega
      exact Nat.lt_of_lt_of_le this (pow_le_pow (by omega))), fun q hq => by simp at hq⟩
  · have := h1.parts h2 hl (xs.length + ys.length - 1) 0 xs.length
    rwa [List.take_length] at this
end
end PB
set_option Elab.async false
set_option linter.all false
set_option maxRecDepth 100000
set_option maxHeartbeats 1000000
set_option exponentiation.threshold 100000
namespace PB
open PySem
section
variable {k : Nat} {h t : PH} {o : PO} {m n a b c d e : Nat} {x y : Rat} {xs ys us : List Rat}
/-! ### finite sums -/
def sumTo (f : Nat → Rat) : Nat → Rat
  | 0 => 0
  | n + 1 => sumTo f n + f n
/-! ### rows -/
/-! ### the law's polynomial of a row -/
theorem CD.padd (h1 : CD a d xs) (h2 : CD b e ys) : CD (max (a + e) (b + d) + 1) (d + e) (padd xs ys) := by
  obtain ⟨D, d0, d1, dx, dy⟩ := h1.both h2
  refine ⟨D, d0, d1, fun q hq => ?_⟩
  obtain ⟨i, hi, rfl⟩ := List.mem_iff_getElem.mp hq
  have hg := padd_getD xs ys i
  rw [List.getElem?_eq_getElem hi, Option.getD_some] at hg
  rw [hg]
  have hx : ∃ A : Int, xs[i]?.getD 0 * (D : Rat) = (A : Rat) ∧ A.natAbs < 2 ^ (a + e) := by
    cases hz : xs[i]? with
    | none => exact ⟨0, by simp, Nat.pow_pos (by decide)⟩
    | some z => exact dx z (List.mem_of_getElem? hz)
  have hy : ∃ A : Int, ys[i]?.getD 0 * (D : Rat) = (A : Rat) ∧ A.natAbs < 2 ^ (b + d) := by
    cases hz : ys[i]? with
    | none => exact ⟨0, by simp, Nat.pow_pos (by decide)⟩
    | some z => exact dy z (List.mem_of_getElem? hz)
  obtain ⟨A, q1, q2⟩ := hx
  obtain ⟨B, r1, r2⟩ := hy
  refine ⟨A + B, ?_, natAbs_add_lt (lt_pow q2 (by omega)) (lt_pow r2 (by omega))⟩
  rw [Rat.add_mul, q1, r1, Rat.intCast_add]
end
end PB
set_option Elab.async false
set_option linter.all false
set_option maxRecDepth 100000
set_option maxHeartbeats 1000000
set_option exponentiation.threshold 100000
namespace PB
open PySem
section
variable {k : Nat} {h t : PH} {o : PO} {m n a b c d e : Nat} {x y : Rat} {xs ys us : List Rat}
/-! ### the ladder of averages -/
/-- rows that stand in the heap, none of them at p -/
def Rws (H : PH) (p : Nat) : List PV → List (List Rat) → Prop
  | [], [] => True
  | v :: vs, R :: Rs => (∃ q, v = .ref q ∧ q ≠ p ∧ H[q]? = some (.lst (frs R))) ∧ Rws H p vs Rs
  | _, _ => False
theorem Rws.mono {H H' : PH} {p : Nat} (hH : ∀ q c, q ≠ p → H[q]? = some c → H'[q]? = some c) : ∀ {rs : List PV} {Rs : List (List Rat)}, Rws H p rs Rs → Rws H' p rs Rs
  | [], [], _ => trivial
  | _ :: _, _ :: _, ⟨⟨q, e1, e2, e3⟩, hr⟩ => ⟨⟨q, e1, e2, hH q _ e2 e3⟩, Rws.mono hH hr⟩
  | [], _ :: _, h => h.elim
  | _ :: _, [], h => h.elim
theorem Rws.len {H : PH} {p : Nat} : ∀ {rs : List PV} {Rs : List (List Rat)}, Rws H p rs Rs → rs.length = Rs.length
  | [], [], _ => rfl
  | _ :: _, _ :: _, ⟨_, hr⟩ => by rw [List.length_cons, List.length_cons, hr.len]
  | [], _ :: _, h => h.elim
  | _ :: _, [], h => h.elim
end
end PB
set_option Elab.async false
set_option linter.all false
set_option maxRecDepth 100000
set_option maxHeartbeats 1000000
set_option exponentiation.threshold 100000
namespace PB
open PySem
section
variable {k : Nat} {h t : PH} {o : PO} {m n a b c d e : Nat} {x y : Rat} {xs ys us : List Rat}
theorem cd3 (h : AllB 3 xs) : CD 12 9 xs := ⟨420, by decide, by decide, fun q hq => by
  obtain ⟨h1, h2⟩ := h q hq
  have h3 := q.den_pos
  obtain ⟨c, hc⟩ : ∃ c : Nat, q.den * c = 420 := by
    have : q.den = 1 ∨ q.den = 2 ∨ q.den = 3 ∨ q.den = 4 ∨ q.den = 5 ∨ q.den = 6 ∨ q.den = 7 := by omega
    rcases this with e | e | e | e | e | e | e <;> rw [e]
    · exact ⟨420, rfl⟩
    · exact ⟨210, rfl⟩
    · exact ⟨140, rfl⟩
    · exact ⟨105, rfl⟩
    · exact ⟨84, rfl⟩
    · exact ⟨70, rfl⟩
    · exact ⟨60, rfl⟩
  refine ⟨q.num * c, ?_, ?_⟩
  · have e : (420 : Int) = (q.den : Int) * (c : Int) := by rw [← Int.natCast_mul, hc]; rfl
    rw [e, Rat.intCast_mul, Rat.intCast_mul, ← num_den q]; grind
  · rw [Int.natAbs_mul]
    have hcle : c ≤ 420 := by
      rw [← hc]; exact Nat.le_mul_of_pos_left c h3
    have : q.num.natAbs * (c : Int).natAbs ≤ 8 * 420 := Nat.mul_le_mul (by omega) (by simpa using hcle)
    omega⟩
end
end PB
set_option Elab.async false
set_option linter.all false
set_option maxRecDepth 100000
set_option maxHeartbeats 1000000
set_option exponentiation.threshold 100000
namespace PB
open PySem
section
variable {k : Nat} {h t : PH} {o : PO} {m n a b c d e : Nat} {x y : Rat} {xs ys us : List Rat}
/-- a row built number by number -/
def tbl (f : Nat → Rat) (n : Nat) : List Rat := (List.range' 0 n).map f
theorem tbl_len (f : Nat → Rat) (n : Nat) : (tbl f n).length = n := by simp [tbl]
theorem tbl_get (f : Nat → Rat) {n i : Nat} (h : i < n) : (tbl f n)[i]? = some (f i) := by
  rw [tbl, List.getElem?_map, List.getElem?_range' h]; simp
theorem tbl_getD (f : Nat → Rat) {n i : Nat} (h : i < n) : (tbl f n)[i]?.getD 0 = f i := by rw [tbl_get f h]; rfl
/-! ### one degree more -/
theorem nat_ne {i : Nat} (h : i ≠ 0) : (i : Rat) ≠ 0 := by exact_mod_cast h
/-! ### one degree less -/
end
end PB
set_option Elab.async false
set_option linter.all false
set_option maxRecDepth 100000
set_option maxHeartbeats 1000000
set_option exponentiation.threshold 100000
namespace PB
open PySem
section
variable {k : Nat} {h t : PH} {o : PO} {m n a b c d e : Nat} {x y : Rat} {xs ys us : List Rat}
/-! ### lowered -/
/-! ### the coefficient of the greatest power -/
/-! ### sizes -/
end
end PB
set_option Elab.async false
set_option linter.all false
set_option maxRecDepth 100000
set_option maxHeartbeats 1000000
set_option exponentiation.threshold 100000
namespace PB
open PySem
section
variable {k : Nat} {h t : PH} {o : PO} {m n a b c d e : Nat} {x y : Rat} {xs ys us : List Rat}
/-! ### slopes -/
/-! ### products -/
theorem rpow_add (x : Rat) (a : Nat) : ∀ b : Nat, x ^ (a + b) = x ^ a * x ^ b
  | 0 => by rw [Nat.add_zero, Rat.pow_zero, Rat.mul_one]
  | b + 1 => by rw [← Nat.add_assoc, Rat.pow_succ, rpow_add x a b, Rat.pow_succ]; grind
/-! ### slopes of polynomials -/
end
end PB
set_option Elab.async false
set_option linter.all false
set_option maxRecDepth 100000
set_option maxHeartbeats 1000000
set_option exponentiation.threshold 100000
namespace PB
open PySem
section
variable {k : Nat} {h t : PH} {o : PO} {m n a b c d e : Nat} {x y : Rat} {xs ys us : List Rat}
end
end PB
set_option Elab.async false
set_option linter.all false
set_option maxRecDepth 100000
set_option maxHeartbeats 1000000
set_option exponentiation.threshold 100000
namespace PB
open PySem
section
variable {k : Nat} {h t : PH} {o : PO} {m n a b c d e : Nat} {x y : Rat} {xs ys us : List Rat}
end
end PB
set_option Elab.async false
set_option linter.all false
set_option maxRecDepth 100000
set_option maxHeartbeats 1000000
set_option exponentiation.threshold 100000
namespace PB
open PySem
section
variable {k : Nat} {h t : PH} {o : PO} {m n a b c d e : Nat} {x y : Rat} {xs ys us P : List Rat}
/-! ### polynomials moved -/
/-! ### control rows -/
end
end PB
set_option Elab.async false
set_option linter.all false
set_option maxRecDepth 100000
set_option maxHeartbeats 1000000
set_option exponentiation.threshold 100000
namespace PB
open PySem
section
variable {k : Nat} {h t : PH} {o : PO} {m n a b c d e : Nat} {x y : Rat} {xs ys us P : List Rat}
/-! ### rows of blossoms -/
/-! ### both parts of a row -/
theorem Rws.app {H : PH} {p : Nat} : ∀ {rs qs : List PV} {Rs Qs : List (List Rat)}, Rws H p rs Rs → Rws H p qs Qs → Rws H p (rs ++ qs) (Rs ++ Qs)
  | [], _, [], _, _, h2 => h2
  | _ :: _, _, _ :: _, _, ⟨h1, hr⟩, h2 => ⟨h1, Rws.app hr h2⟩
  | [], _, _ :: _, _, h, _ => h.elim
  | _ :: _, _, [], _, h, _ => h.elim
theorem Rws.rev {H : PH} {p : Nat} : ∀ {rs : List PV} {Rs : List (List Rat)}, Rws H p rs Rs → Rws H p rs.reverse Rs.reverse
  | [], [], _ => trivial
  | _ :: _, _ :: _, ⟨h1, hr⟩ => by
    rw [List.reverse_cons, List.reverse_cons]
    exact (Rws.rev hr).app ⟨h1, trivial⟩
  | [], _ :: _, h => h.elim
  | _ :: _, [], h => h.elim
end
end PB
set_option Elab.async false
set_option linter.all false
set_option maxRecDepth 100000
set_option maxHeartbeats 1000000
set_option exponentiation.threshold 100000
namespace PB
open PySem
section
variable {k : Nat} {h t : PH} {o : PO} {m n a b c d e : Nat} {x y : Rat} {xs ys us P : List Rat}
/-! ### changes of signs -/
def adj {α : Type} [DecidableEq α] : List α → Nat
  | [] => 0
  | [_] => 0
  | a :: b :: r => (if a = b then 0 else 1) + adj (b :: r)
def sgb (xs : List Rat) : List Bool := xs.filterMap fun q => if q = 0 then none else some (decide (0 < q))
/-! ### variation -/
def W (s : Option Bool) (xs : List Rat) : Nat := adj (s.toList ++ sgb xs)
end
end PB
set_option Elab.async false
set_option linter.all false
set_option maxRecDepth 100000
set_option maxHeartbeats 1000000
set_option exponentiation.threshold 100000
namespace PB
open PySem
section
variable {k : Nat} {h t : PH} {o : PO} {m n a b c d e : Nat} {x y : Rat} {xs ys us P : List Rat}
/-! ### a corner cut -/
end
end PB
set_option Elab.async false
set_option linter.all false
set_option maxRecDepth 100000
set_option maxHeartbeats 1000000
set_option exponentiation.threshold 100000
namespace PB
open PySem
section
variable {k : Nat} {h t : PH} {o : PO} {m n a b c d e : Nat} {x y : Rat} {xs ys us P : List Rat}
/-! ### all choices of places -/
/-! ### one place left out -/
/-! ### the walk -/
end
end PB
set_option Elab.async false
set_option linter.all false
set_option maxRecDepth 100000
set_option maxHeartbeats 1000000
set_option exponentiation.threshold 100000
namespace PB
open PySem
section
variable {k : Nat} {h t : PH} {o : PO} {m n a b c d e u v : Nat} {x y : Rat} {xs ys us P : List Rat}
/-! ### division -/
/-! ### sizes -/
/-! ### the walk -/
end
end PB
set_option Elab.async false
set_option linter.all false
set_option maxRecDepth 100000
set_option maxHeartbeats 1000000
set_option exponentiation.threshold 100000
namespace PB
open PySem
section
variable {k : Nat} {h t : PH} {o : PO} {m n a b c d e u v : Nat} {x y : Rat} {xs ys us P : List Rat}
/-! ### what divides -/
def Dv (g xs : List Rat) : Prop := ∃ q : List Rat, ∀ x, pe xs x = pe q x * pe g x
theorem Dv.nil (g : List Rat) : Dv g [] := ⟨[], fun x => by simp [pe]⟩
end
end PB
set_option Elab.async false
set_option linter.all false
set_option maxRecDepth 100000
set_option maxHeartbeats 1000000
set_option exponentiation.threshold 100000
namespace PB
open PySem
section
variable {k : Nat} {h t : PH} {o : PO} {m n a b c d e u v : Nat} {x y : Rat} {xs ys us P : List Rat}
/-! ### the greatest common divisor -/
end
end PB
set_option Elab.async false
set_option linter.all false
set_option maxRecDepth 100000
set_option maxHeartbeats 1000000
set_option exponentiation.threshold 100000
namespace PB
open PySem
section
variable {k : Nat} {h t : PH} {o : PO} {m n a b c d e u v : Nat} {x y : Rat} {xs ys us P : List Rat}
/-! ### sharper sizes -/
/-! ### one of another, a line -/
/-! ### the program's polynomial of a row -/
end
end PB
set_option Elab.async false
set_option linter.all false
set_option maxRecDepth 100000
set_option maxHeartbeats 1000000
set_option exponentiation.threshold 100000
namespace PB
open PySem
section
variable {k : Nat} {h t : PH} {o : PO} {m n a b c d e u v : Nat} {x y : Rat} {xs ys us P : List Rat}
/-! ### sizes of rows of blossoms -/
/-! ### polynomials of rows on intervals -/
def lin (lo hi : Rat) : List Rat := trim [(0 - lo) / (hi - lo), 1 / (hi - lo)]
/-! ### the law's intervals -/
end
end PB
set_option Elab.async false
set_option linter.all false
set_option maxRecDepth 100000
set_option maxHeartbeats 1000000
set_option exponentiation.threshold 100000
namespace PB
open PySem
section
variable {k : Nat} {h t : PH} {o : PO} {m n a b c d e : Nat} {x y : Rat} {xs ys us T : List Rat}
/-! ### splines: knots, basis functions -/
theorem idx_pol {i : Nat} (hi : i < T.length) : idxop (pol T) (.int (i : Nat)) h = .ok (fr (T.getD i 0)) h := by
  have e : T.getD i 0 = T[i] := by simp [List.getD, hi]
  rw [e]
  simp only [idxop, items_pol, atI_nn (show (0 : Int) ≤ (i : Nat) by omega), Int.toNat_natCast, frs_get, List.getElem?_eq_getElem hi, Option.map_some]
theorem need_low_ok (hd : d ≤ 4) : callF G (k + 3) 149 [.int (d : Nat), .int 0] h = .ok .non h := by
  rw [callF_eq (f := f_need_low) rfl rfl]
  have h1 := is_from_ok (k := k) (h := h) (i := (d : Nat)) (lo := 0) (hi := 4) (by omega) (by omega)
  simp only [f_need_low, c_need_low]
  simp [h1]
/-- knots of a degree: they rise, at most d + 1 of them alike -/
def Kn (d : Nat) (T : List Rat) : Prop := (∀ i, i + 1 < T.length → T.getD i 0 ≤ T.getD (i + 1) 0) ∧ ∀ i, i + d + 1 < T.length → T.getD i 0 < T.getD (i + d + 1) 0
end
end PB
set_option Elab.async false
set_option linter.all false
set_option maxRecDepth 100000
set_option maxHeartbeats 1000000
set_option exponentiation.threshold 100000
namespace PB
open PySem
section
variable {k : Nat} {h t : PH} {o : PO} {m n a b c d e : Nat} {x y : Rat} {xs ys us T : List Rat}
/-! ### basis functions as divided differences -/
/-! ### sizes -/
def PK (j : Nat) (q : Rat) : Prop := ∃ N : Int, q * 2520 = N ∧ N.natAbs ≤ 17640 + 15120 * j
theorem PK.mono {i j : Nat} {q : Rat} (h : PK i q) (hij : i ≤ j) : PK j q := by
  obtain ⟨N, h1, h2⟩ := h
  exact ⟨N, h1, by have := Nat.mul_le_mul_left 15120 hij; omega⟩
theorem PK.of {q : Rat} (h : Bd 3 q) : PK 0 q := by
  obtain ⟨h1, h2⟩ := h
  have h3 := q.den_pos
  obtain ⟨c, hc⟩ : ∃ c : Nat, q.den * c = 2520 := by
    have : q.den = 1 ∨ q.den = 2 ∨ q.den = 3 ∨ q.den = 4 ∨ q.den = 5 ∨ q.den = 6 ∨ q.den = 7 := by omega
    rcases this with e | e | e | e | e | e | e <;> rw [e]
    · exact ⟨2520, rfl⟩
    · exact ⟨1260, rfl⟩
    · exact ⟨840, rfl⟩
    · exact ⟨630, rfl⟩
    · exact ⟨504, rfl⟩
    · exact ⟨420, rfl⟩
    · exact ⟨360, rfl⟩
  refine ⟨q.num * c, ?_, ?_⟩
  · have e : ((2520 : Int) : Rat) = ((q.den : Int) : Rat) * ((c : Int) : Rat) := by rw [← Rat.intCast_mul, ← Int.natCast_mul, hc]; rfl
    have e' : (2520 : Rat) = ((q.den : Int) : Rat) * ((c : Int) : Rat) := e
    rw [e', Rat.intCast_mul, ← num_den q]; grind
  · rw [Int.natAbs_mul]
    have hcle : c ≤ 2520 := by
      rw [← hc]; exact Nat.le_mul_of_pos_left c h3
    have : q.num.natAbs * (c : Int).natAbs ≤ 7 * 2520 := Nat.mul_le_mul (by omega) (by simpa using hcle)
    omega
theorem PK.step {j : Nat} {q : Rat} (h : PK j q) {r s : Int} (r0 : 0 ≤ r) (r1 : r < 6) (hs : s = 1 ∨ s = 2 ∨ s = 3) : PK (j + 1) (q + Rat.divInt (1 + r) s) := by
  obtain ⟨N, h1, h2⟩ := h
  have key : ∀ c : Int, c * s = 2520 → c.natAbs ≤ 2520 → PK (j + 1) (q + Rat.divInt (1 + r) s) := fun c hc hcl => by
    refine ⟨N + (1 + r) * c, ?_, ?_⟩
    · have hs0 : (s : Rat) ≠ 0 := by rcases hs with e | e | e <;> subst e <;> decide
      have e : (2520 : Rat) = (c : Rat) * (s : Rat) := by rw [← Rat.intCast_mul, hc]; rfl
      simp only [Rat.divInt_eq_div, Rat.intCast_add, Rat.intCast_mul, ← h1, Rat.div_def]
      have hi : (s : Rat) * (s : Rat)⁻¹ = 1 := Rat.mul_inv_cancel _ hs0
      rw [e]; grind
    · have : (1 + r).natAbs * c.natAbs ≤ 6 * 2520 := Nat.mul_le_mul (by omega) hcl
      rw [← Int.natAbs_mul] at this
      omega
  rcases hs with e | e | e <;> subst e
  · exact key 2520 (by decide) (by decide)
  · exact key 1260 (by decide) (by decide)
  · exact key 840 (by decide) (by decide)
theorem PK.bd {j : Nat} {q : Rat} (h : PK j q) (hj : j ≤ 5) : Bd 17 q := by
  obtain ⟨N, h1, h2⟩ := h
  have : CD 17 12 [q] := ⟨2520, by decide, by decide, fun z hz => by
    rw [List.mem_singleton] at hz; subst hz
    exact ⟨N, h1, by omega⟩⟩
  exact this.all (n := 17) (by decide) (by decide) q (by simp)
/-! ### the law -/
theorem idx_lst {p i : Nat} (hp : h[p]? = some (.lst (frs T))) (hi : i < T.length) : idxop (.ref p) (.int (i : Nat)) h = .ok (fr (T.getD i 0)) h := by
  have e : T.getD i 0 = T[i] := by simp [List.getD, hi]
  rw [e]
  have hit : items h (.ref p) = some (frs T) := by simp only [items, hp]
  simp only [idxop, hit, atI_nn (show (0 : Int) ≤ (i : Nat) by omega), Int.toNat_natCast, frs_get, List.getElem?_eq_getElem hi, Option.map_some]
section
variable {v0 v1 v2 v5 v6 v9 v11 s3 s4 s10 s11 : Option PV} {junk : PH}
end
end
end PB
set_option Elab.async false
set_option linter.all false
set_option maxRecDepth 100000
set_option maxHeartbeats 1000000
set_option exponentiation.threshold 100000
namespace PB
open PySem
section
variable {k : Nat} {h t u : PH} {o : PO} {m n a b c d e p : Nat} {x y q : Rat} {xs ys us T : List Rat}
/-! ### sorting by insertion -/
/-! ### drawn knots -/
def cnt (q : Rat) (F : List Rat) : Nat := (F.filter fun z => decide (z = q)).length
def PQ (m : Nat) (q : Rat) : Prop := ∃ N : Int, q * 420 = N ∧ N.natAbs ≤ m
theorem PQ.mono {m n : Nat} {q : Rat} (h : PQ m q) (hmn : m ≤ n) : PQ n q := by
  obtain ⟨N, h1, h2⟩ := h; exact ⟨N, h1, by omega⟩
theorem PQ.of {q : Rat} (h : Bd 3 q) : PQ 2940 q := by
  obtain ⟨N, h1, h2⟩ := PK.of h
  obtain ⟨g1, g2⟩ := h
  have h3 := q.den_pos
  obtain ⟨c, hc⟩ : ∃ c : Nat, q.den * c = 420 := by
    have : q.den = 1 ∨ q.den = 2 ∨ q.den = 3 ∨ q.den = 4 ∨ q.den = 5 ∨ q.den = 6 ∨ q.den = 7 := by omega
    rcases this with e | e | e | e | e | e | e <;> rw [e]
    · exact ⟨420, rfl⟩
    · exact ⟨210, rfl⟩
    · exact ⟨140, rfl⟩
    · exact ⟨105, rfl⟩
    · exact ⟨84, rfl⟩
    · exact ⟨70, rfl⟩
    · exact ⟨60, rfl⟩
  refine ⟨q.num * c, ?_, ?_⟩
  · have e : ((420 : Int) : Rat) = ((q.den : Int) : Rat) * ((c : Int) : Rat) := by rw [← Rat.intCast_mul, ← Int.natCast_mul, hc]; rfl
    have e' : (420 : Rat) = ((q.den : Int) : Rat) * ((c : Int) : Rat) := e
    rw [e', Rat.intCast_mul, ← num_den q]; grind
  · rw [Int.natAbs_mul]
    have hcle : c ≤ 420 := by
      rw [← hc]; exact Nat.le_mul_of_pos_left c h3
    have : q.num.natAbs * (c : Int).natAbs ≤ 7 * 420 := Nat.mul_le_mul (by omega) (by simpa using hcle)
    omega
theorem PQ.succ {m : Nat} {q : Rat} (h : PQ m q) : PQ (m + 420) (q + 1) := by
  obtain ⟨N, h1, h2⟩ := h
  refine ⟨N + 420, ?_, by omega⟩
  rw [Rat.intCast_add, ← h1]
  have : ((420 : Int) : Rat) = 420 := rfl
  rw [this]; grind
theorem PQ.bd {m : Nat} {q : Rat} (h : PQ m q) (hm : m < 131072) : Bd 17 q := by
  obtain ⟨N, h1, h2⟩ := h
  have : CD 17 9 [q] := ⟨420, by decide, by decide, fun z hz => by
    rw [List.mem_singleton] at hz; subst hz
    exact ⟨N, h1, by omega⟩⟩
  exact this.all (n := 17) (by decide) (by decide) q (by simp)
end
end PB
set_option Elab.async false
set_option linter.all false
set_option maxRecDepth 100000
set_option maxHeartbeats 1000000
set_option exponentiation.threshold 100000
namespace PB
open PySem
section
variable {k : Nat} {h t u : PH} {o : PO} {m n a b c d e p : Nat} {x y q : Rat} {xs ys us T : List Rat}
/-! ### basis functions: their support, their signs, their sum -/
/-! ### sizes of the values -/
end
end PB
set_option Elab.async false
set_option linter.all false
set_option maxRecDepth 100000
set_option maxHeartbeats 1000000
set_option exponentiation.threshold 100000
namespace PB
open PySem
section
variable {k : Nat} {h t u : PH} {o : PO} {m n a b c d e p : Nat} {x y q : Rat} {xs ys us T P R : List Rat}
/-! ### Marsden's identity -/
/-! ### coefficients, means -/
/-- numbers over 3360 -/
def PE (q : Rat) : Prop := ∃ N : Int, q * 3360 = N ∧ N.natAbs ≤ 829920
theorem PQ.pe {q : Rat} (h : PQ 103740 q) : PE q := by
  obtain ⟨N, h1, h2⟩ := h
  refine ⟨N * 8, ?_, by omega⟩
  rw [Rat.intCast_mul, ← h1]
  have : ((8 : Int) : Rat) = 8 := rfl
  rw [this]; grind
end
end PB
set_option Elab.async false
set_option linter.all false
set_option maxRecDepth 100000
set_option maxHeartbeats 1000000
set_option exponentiation.threshold 100000
namespace PB
open PySem
section
variable {k : Nat} {h t u : PH} {o : PO} {m n a b c d e p : Nat} {x y q : Rat} {xs ys us T P R : List Rat}
/-! ### a basis function's polynomial on a span -/
def bB (lo hi : Rat) : List Rat := [hi * (1 / (hi - lo)), -(1 / (hi - lo))]
end
end PB
set_option Elab.async false
set_option linter.all false
set_option maxRecDepth 100000
set_option maxHeartbeats 1000000
set_option exponentiation.threshold 100000
namespace PB
open PySem
/-- sizes that are found by themselves -/
class Sz (q : Rat) (n : outParam Nat) : Prop where
  b : Bd n q
theorem Bd.pos {n : Nat} {q : Rat} (h : Bd n q) : 1 ≤ n := by
  rcases Nat.eq_zero_or_pos n with e | e
  · subst e
    have := h.2
    have := q.den_pos
    omega
  · exact e
section
variable {k m n : Nat} {h : PH} {x y z : Rat}
instance sz_add [hx : Sz x m] [hy : Sz y n] : Sz (x + y) (m + n + 1) := ⟨(bd_add hx.b hy.b).1⟩
instance sz_sub [hx : Sz x m] [hy : Sz y n] : Sz (x - y) (m + n + 1) := ⟨bd_sub hx.b hy.b⟩
instance sz_mul [hx : Sz x m] [hy : Sz y n] : Sz (x * y) (m + n) := ⟨bd_mul hx.b hy.b⟩
instance sz_neg [hx : Sz x m] : Sz (-x) m := ⟨bd_neg hx.b⟩
instance sz_div [hx : Sz x m] [hy : Sz y n] : Sz (x / y) (m + n) := ⟨by
  by_cases h0 : y = 0
  · subst h0
    have e : x / 0 = 0 := by rw [Rat.div_def, Rat.inv_zero, Rat.mul_zero]
    rw [e]
    have := hx.b.pos
    exact (bd0 (m + n - 1)).mono (by omega)
  · exact bd_div hx.b hy.b h0⟩
instance sz_0 : Sz 0 1 := ⟨bd0 0⟩
instance sz_1 : Sz 1 1 := ⟨bd1 0⟩
instance sz_2 : Sz 2 2 := ⟨by refine ⟨?_, ?_⟩ <;> decide⟩
instance sz_3 : Sz 3 2 := ⟨by refine ⟨?_, ?_⟩ <;> decide⟩
instance sz_4 : Sz 4 3 := ⟨by refine ⟨?_, ?_⟩ <;> decide⟩
theorem is_ratio_i (hk : 2 ≤ k) : callF G k 1 [fr x] h = .ok (.bl true) h := by
  obtain ⟨k, rfl⟩ := Nat.exists_eq_add_of_le hk
  rw [Nat.add_comm]; exact is_ratio_ok
theorem lplus_i [hx : Sz x m] [hy : Sz y n] (hk : 2 ≤ k) (hz : m + n < 4900) : callF G k 20 [fr x, fr y] h = .ok (fr (x + y)) h := by
  obtain ⟨k, rfl⟩ := Nat.exists_eq_add_of_le hk
  rw [Nat.add_comm]; exact lplus_ok hx.b hy.b hz
end
@[simp] theorem gt0 {γ : Type} {a0 : γ} {l : List γ} : (a0 :: l)[0]? = some a0 := by first | (rw [List.getElem?_cons_zero]; done) | (simp only [List.getElem?_cons_succ, List.getElem?_cons_zero])
@[simp] theorem gt1 {γ : Type} {a0 a1 : γ} {l : List γ} : (a0 :: a1 :: l)[1]? = some a1 := by first | (rw [List.getElem?_cons_zero]; done) | (simp only [List.getElem?_cons_succ, List.getElem?_cons_zero])
@[simp] theorem gt2 {γ : Type} {a0 a1 a2 : γ} {l : List γ} : (a0 :: a1 :: a2 :: l)[2]? = some a2 := by first | (rw [List.getElem?_cons_zero]; done) | (simp only [List.getElem?_cons_succ, List.getElem?_cons_zero])
@[simp] theorem gt3 {γ : Type} {a0 a1 a2 a3 : γ} {l : List γ} : (a0 :: a1 :: a2 :: a3 :: l)[3]? = some a3 := by first | (rw [List.getElem?_cons_zero]; done) | (simp only [List.getElem?_cons_succ, List.getElem?_cons_zero])
@[simp] theorem gt4 {γ : Type} {a0 a1 a2 a3 a4 : γ} {l : List γ} : (a0 :: a1 :: a2 :: a3 :: a4 :: l)[4]? = some a4 := by first | (rw [List.getElem?_cons_zero]; done) | (simp only [List.getElem?_cons_succ, List.getElem?_cons_zero])
@[simp] theorem gt5 {γ : Type} {a0 a1 a2 a3 a4 a5 : γ} {l : List γ} : (a0 :: a1 :: a2 :: a3 :: a4 :: a5 :: l)[5]? = some a5 := by first | (rw [List.getElem?_cons_zero]; done) | (simp only [List.getElem?_cons_succ, List.getElem?_cons_zero])
@[simp] theorem gt6 {γ : Type} {a0 a1 a2 a3 a4 a5 a6 : γ} {l : List γ} : (a0 :: a1 :: a2 :: a3 :: a4 :: a5 :: a6 :: l)[6]? = some a6 := by first | (rw [List.getElem?_cons_zero]; done) | (simp only [List.getElem?_cons_succ, List.getElem?_cons_zero])
@[simp] theorem gt7 {γ : Type} {a0 a1 a2 a3 a4 a5 a6 a7 : γ} {l : List γ} : (a0 :: a1 :: a2 :: a3 :: a4 :: a5 :: a6 :: a7 :: l)[7]? = some a7 := by first | (rw [List.getElem?_cons_zero]; done) | (simp only [List.getElem?_cons_succ, List.getElem?_cons_zero])
@[simp] theorem gt8 {γ : Type} {a0 a1 a2 a3 a4 a5 a6 a7 a8 : γ} {l : List γ} : (a0 :: a1 :: a2 :: a3 :: a4 :: a5 :: a6 :: a7 :: a8 :: l)[8]? = some a8 := by first | (rw [List.getElem?_cons_zero]; done) | (simp only [List.getElem?_cons_succ, List.getElem?_cons_zero])
@[simp] theorem gt9 {γ : Type} {a0 a1 a2 a3 a4 a5 a6 a7 a8 a9 : γ} {l : List γ} : (a0 :: a1 :: a2 :: a3 :: a4 :: a5 :: a6 :: a7 :: a8 :: a9 :: l)[9]? = some a9 := by first | (rw [List.getElem?_cons_zero]; done) | (simp only [List.getElem?_cons_succ, List.getElem?_cons_zero])
@[simp] theorem gt10 {γ : Type} {a0 a1 a2 a3 a4 a5 a6 a7 a8 a9 a10 : γ} {l : List γ} : (a0 :: a1 :: a2 :: a3 :: a4 :: a5 :: a6 :: a7 :: a8 :: a9 :: a10 :: l)[10]? = some a10 := by first | (rw [List.getElem?_cons_zero]; done) | (simp only [List.getElem?_cons_succ, List.getElem?_cons_zero])
@[simp] theorem gt11 {γ : Type} {a0 a1 a2 a3 a4 a5 a6 a7 a8 a9 a10 a11 : γ} {l : List γ} : (a0 :: a1 :: a2 :: a3 :: a4 :: a5 :: a6 :: a7 :: a8 :: a9 :: a10 :: a11 :: l)[11]? = some a11 := by first | (rw [List.getElem?_cons_zero]; done) | (simp only [List.getElem?_cons_succ, List.getElem?_cons_zero])
@[simp] theorem get_app2 {γ : Type} {h t : List γ} {i j : Nat} : (h ++ t)[h.length + i + j]? = t[i + j]? := by rw [Nat.add_assoc]; exact get_app
@[simp] theorem set_app2 {γ : Type} {h t : List γ} {i j : Nat} {a : γ} : (h ++ t).set (h.length + i + j) a = h ++ t.set (i + j) a := by rw [Nat.add_assoc]; exact set_app
@[simp] theorem it0 {a0 : PV} {l : List PV} {h : PH} : idxop (.tup (a0 :: l)) (.int 0) h = .ok a0 h := by simp [idxop, atI_nn]
@[simp] theorem it1 {a0 a1 : PV} {l : List PV} {h : PH} : idxop (.tup (a0 :: a1 :: l)) (.int 1) h = .ok a1 h := by simp [idxop, atI_nn]
@[simp] theorem it2 {a0 a1 a2 : PV} {l : List PV} {h : PH} : idxop (.tup (a0 :: a1 :: a2 :: l)) (.int 2) h = .ok a2 h := by simp [idxop, atI_nn]
@[simp] theorem it3 {a0 a1 a2 a3 : PV} {l : List PV} {h : PH} : idxop (.tup (a0 :: a1 :: a2 :: a3 :: l)) (.int 3) h = .ok a3 h := by simp [idxop, atI_nn]
@[simp] theorem it4 {a0 a1 a2 a3 a4 : PV} {l : List PV} {h : PH} : idxop (.tup (a0 :: a1 :: a2 :: a3 :: a4 :: l)) (.int 4) h = .ok a4 h := by simp [idxop, atI_nn]
@[simp] theorem it5 {a0 a1 a2 a3 a4 a5 : PV} {l : List PV} {h : PH} : idxop (.tup (a0 :: a1 :: a2 :: a3 :: a4 :: a5 :: l)) (.int 5) h = .ok a5 h := by simp [idxop, atI_nn]
theorem fr_int (z : Int) : PV.tup [.int z, .int 1] = fr (z : Rat) := by simp [fr]
/-! ### what a step comes to -/
@[irreducible] def Res.To {α : Type} (x : Res α) (Q : α → PH → Prop) : Prop := match x with
  | .ok a h => Q a h
  | _ => False
section
variable {α β : Type} {h : PH}
@[simp] theorem to_ok {a : α} {Q : α → PH → Prop} : (Res.ok a h).To Q = Q a h := by simp [Res.To]
@[simp] theorem to_bad {Q : α → PH → Prop} : (Res.bad : Res α).To Q = False := by simp [Res.To]
@[simp] theorem to_exc {c : Nat} {v : PV} {Q : α → PH → Prop} : (Res.exc c v h : Res α).To Q = False := by simp [Res.To]
theorem to_bind' {x : Res α} {f : α → PH → Res β} {Q : β → PH → Prop} : (x.bind f).To Q = x.To fun a h => (f a h).To Q := by cases x <;> simp
/-- what is left to be done: simp does not look into it -/
class Hd (α : Type) where
  q : α → PH → Prop
@[irreducible] def Kp [i : Hd α] : α → PH → Prop := i.q
@[simp ↓] theorem Kp_app {Q : α → PH → Prop} {a : α} : @Kp α ⟨Q⟩ a h = Q a h := by unfold Kp; rfl
@[simp] theorem to_bind {x : Res α} {f : α → PH → Res β} {Q : β → PH → Prop} : (x.bind f).To Q = x.To (@Kp α ⟨fun a h => (f a h).To Q⟩) := by rw [to_bind']; unfold Kp; rfl
@[simp] theorem to_if_bad {p : Prop} [Decidable p] {x : Res α} {Q : α → PH → Prop} : (if p then x else .bad).To Q = (p ∧ x.To Q) := by
  by_cases hp : p <;> simp [hp]
@[simp] theorem to_if_exc {p : Prop} [Decidable p] {x : Res α} {Q : α → PH → Prop} {c : Nat} {v : PV} : (if p then x else .exc c v h).To Q = (p ∧ x.To Q) := by
  by_cases hp : p <;> simp [hp]
@[simp] theorem to_if_exc' {p : Prop} [Decidable p] {x : Res α} {Q : α → PH → Prop} {c : Nat} {v : PV} : (if p then .exc c v h else x).To Q = (¬ p ∧ x.To Q) := by
  by_cases hp : p <;> simp [hp]
theorem of_to {x : Res α} {v : α} {h' : PH} (q : x.To fun a b => a = v ∧ b = h') : x = .ok v h' := by
  cases x with
  | ok a b => rw [to_ok] at q; obtain ⟨rfl, rfl⟩ := q; rfl
  | exc c v h => simp at q
  | bad => simp at q
theorem to_ex {x : Res α} {Q : α → PH → Prop} (q : x.To Q) : ∃ a h', x = .ok a h' ∧ Q a h' := by
  cases x with
  | ok a b => rw [to_ok] at q; exact ⟨a, b, rfl, q⟩
  | exc c v h => simp at q
  | bad => simp at q
theorem to_mono {x : Res α} {P Q : α → PH → Prop} (q : x.To P) (hm : ∀ a h, P a h → Q a h) : x.To Q := by
  obtain ⟨a, b, rfl, q1⟩ := to_ex q
  rw [to_ok]; exact hm a b q1
theorem to_eq {x : Res α} {a : α} {h' : PH} {Q : α → PH → Prop} (e : x = .ok a h') (q : Q a h') : x.To Q := by subst e; rw [to_ok]; exact q
/-- a for over a range, as one word -/
@[irreducible] def forR (lo hi : Int) (g : PV → Sl → PH → Res Sl) (b : Sl → PH → Res Fl) (s : Sl) (h : PH) : Res Fl :=
  if -bigR ≤ lo ∧ lo ≤ bigR ∧ -bigR ≤ hi ∧ hi ≤ bigR then frL g b [] (range lo (hi - lo).toNat 1) s h else .bad
@[irreducible] def compR (lo hi : Int) (F : PV → PH → Res (Option PV)) (h : PH) : Res (List PV) :=
  if -bigR ≤ lo ∧ lo ≤ bigR ∧ -bigR ≤ hi ∧ hi ≤ bigR then (if (range lo (hi - lo).toNat 1).length ≤ many then compL F [] (range lo (hi - lo).toNat 1) h else .bad) else .bad
section
variable {cf : Nat → List PV → PH → Res PV} {s : Sl}
@[simp high] theorem evS_for1 {t : CT} {e : CE} {b : CB} : evS cf (.for_ t (.rng1 (.cons e .nil)) b) s h = (evE cf e s h).bind fun x h1 => match x with | .int z => forR 0 z (asT cf t) (evB cf b) s h1 | _ => .bad := by
  rw [evS_for, evI_rng1, evA_cons]
  cases evE cf e s h with
  | ok x h1 =>
    simp only [bind_ok', evA_nil]
    cases x <;> simp only [bind_bad]
    rename_i z
    rw [forR, bind_ite]
    have hb : bigR = 1000000 := rfl
    by_cases hz : -bigR ≤ z ∧ z ≤ bigR
    · rw [if_pos hz, if_pos (by omega), Int.sub_zero]; simp
    · rw [if_neg hz, if_neg (by omega)]; simp
  | exc c v h => simp
  | bad => simp
@[simp high] theorem evS_for2 {t : CT} {e e' : CE} {b : CB} : evS cf (.for_ t (.rng2 (.cons e (.cons e' .nil))) b) s h = (evE cf e s h).bind fun x h1 => (evE cf e' s h1).bind fun y h2 => match x, y with | .int z, .int w => forR z w (asT cf t) (evB cf b) s h2 | _, _ => .bad := by
  rw [evS_for, evI_rng2, evA_cons]
  cases evE cf e s h with
  | ok x h1 =>
    simp only [bind_ok', evA_cons]
    cases evE cf e' s h1 with
    | ok y h2 =>
      simp only [bind_ok', evA_nil]
      cases x <;> cases y <;> simp only [bind_bad]
      rename_i z w
      rw [forR, bind_ite]
      simp
    | exc c v h => simp
    | bad => simp
  | exc c v h => simp
  | bad => simp
@[simp high] theorem evE_comp1 {e c : CE} {own : List Nat} {tg : CT} {co : CO} : evE cf (.comp e own tg (.rng1 (.cons c .nil)) co) s h = (evE cf c s h).bind fun x h1 => match x with | .int z => (compR 0 z (compF cf e own tg co s) h1).bind (fun ys h2 => alloc ys h2) | _ => .bad := by
  rw [evE_comp, evI_rng1, evA_cons]
  cases evE cf c s h with
  | ok x h1 =>
    simp only [bind_ok', evA_nil]
    cases x <;> simp only [bind_bad]
    rename_i z
    rw [compR, bind_ite]
    have hb : bigR = 1000000 := rfl
    by_cases hz : -bigR ≤ z ∧ z ≤ bigR
    · rw [if_pos hz, if_pos (by omega), Int.sub_zero]; simp
    · rw [if_neg hz, if_neg (by omega)]; simp
  | exc c v h => simp
  | bad => simp
@[simp high] theorem evE_comp2 {e c c' : CE} {own : List Nat} {tg : CT} {co : CO} : evE cf (.comp e own tg (.rng2 (.cons c (.cons c' .nil))) co) s h = (evE cf c s h).bind fun x h1 => (evE cf c' s h1).bind fun y h2 => match x, y with | .int z, .int w => (compR z w (compF cf e own tg co s) h2).bind (fun ys h2 => alloc ys h2) | _, _ => .bad := by
  rw [evE_comp, evI_rng2, evA_cons]
  cases evE cf c s h with
  | ok x h1 =>
    simp only [bind_ok', evA_cons]
    cases evE cf c' s h1 with
    | ok y h2 =>
      simp only [bind_ok', evA_nil]
      cases x <;> cases y <;> simp only [bind_bad]
      rename_i z w
      rw [compR, bind_ite]
      simp
    | exc c v h => simp
    | bad => simp
  | exc c v h => simp
  | bad => simp
end
/-- what a loop's turn leaves -/
def Turn (S : Sl → PH → Prop) (Q : Fl → PH → Prop) : Fl → PH → Prop
  | .nx s, h => S s h
  | .ct s, h => S s h
  | .bk s, h => Q (.nx s) h
  | .rt v, h => Q (.rt v) h
section
variable {S : Sl → PH → Prop} {Q : Fl → PH → Prop} {s : Sl} {v : PV}
@[simp] theorem turn_nx : Turn S Q (.nx s) h = S s h := by rw [Turn]
@[simp] theorem turn_ct : Turn S Q (.ct s) h = S s h := by rw [Turn]
@[simp] theorem turn_bk : Turn S Q (.bk s) h = Q (.nx s) h := by rw [Turn]
@[simp] theorem turn_rt : Turn S Q (.rt v) h = Q (.rt v) h := by rw [Turn]
end
theorem frL_go {β : Type} {g : PV → Sl → PH → Res Sl} {b : Sl → PH → Res Fl} {l : Lean_} (e : β → PV) (S : List β → Sl → PH → Prop) {Q : Fl → PH → Prop} (hl : ∀ r s h, S r s h → leans l h = true)
    (hs : ∀ a r s h, S (a :: r) s h → ((g (e a) s h).bind b).To (Turn (S r) Q)) (hc : ∀ s h, S [] s h → Q (.nx s) h) : ∀ (xs : List β) (s : Sl) (h : PH), S xs s h → (frL g b l (xs.map e) s h).To Q
  | [], s, h, q => by rw [List.map_nil, frL_nil (hl _ _ _ q), to_ok]; exact hc s h q
  | a :: r, s, h, q => by
    rw [List.map_cons, frL_cons (hl _ _ _ q), to_bind']
    have z := hs a r s h q
    rw [to_bind'] at z
    refine to_mono z fun s1 h1 z1 => ?_
    rw [to_bind']
    refine to_mono z1 fun f h2 z2 => ?_
    cases f with
    | nx s2 => exact frL_go e S hl hs hc r s2 h2 z2
    | ct s2 => exact frL_go e S hl hs hc r s2 h2 z2
    | bk s2 => show (Res.ok (Fl.nx s2) h2).To Q; rw [to_ok]; exact z2
    | rt v => show (Res.ok (Fl.rt v) h2).To Q; rw [to_ok]; exact z2
/-- a for over a list that stays -/
theorem frL_l {β : Type} {g : PV → Sl → PH → Res Sl} {b : Sl → PH → Res Fl} {l : Lean_} {s : Sl} {Q : Fl → PH → Prop} (e : β → PV) (xs : List β) (S : List β → Sl → PH → Prop) (h0 : S xs s h) (hl : ∀ r s h, S r s h → leans l h = true)
    (hs : ∀ a r s h, S (a :: r) s h → ((g (e a) s h).bind b).To (Turn (S r) Q)) (hc : ∀ s h, S [] s h → Q (.nx s) h) : (frL g b l (xs.map e) s h).To Q := frL_go e S hl hs hc xs s h h0
/-- a for over a list or tuple, by places -/
theorem frL_i {β : Type} {g : PV → Sl → PH → Res Sl} {b : Sl → PH → Res Fl} {l : Lean_} {s : Sl} {Q : Fl → PH → Prop} (e : β → PV) (xs : List β) (S : Nat → Sl → PH → Prop) (h0 : S 0 s h) (hl : ∀ i s h, i ≤ xs.length → S i s h → leans l h = true)
    (hs : ∀ i a s h, xs[i]? = some a → S i s h → ((g (e a) s h).bind b).To (Turn (S (i + 1)) Q)) (hc : ∀ s h, S xs.length s h → Q (.nx s) h) : (frL g b l (xs.map e) s h).To Q := by
  refine frL_l e xs (fun r s h => ∃ i, i + r.length = xs.length ∧ xs.drop i = r ∧ S i s h) ⟨0, by simp, rfl, h0⟩ (fun r s h ⟨i, e1, _, q⟩ => hl i s h (by omega) q) (fun a r s h ⟨i, e1, e2, q⟩ => ?_) (fun s h ⟨i, e1, _, q⟩ => ?_)
  · have hx : xs[i]? = some a := by
      have := congrArg (fun l => l[0]?) e2
      simpa using this
    refine to_mono (hs i a s h hx q) fun f h' z => ?_
    have ed : xs.drop (i + 1) = r := by rw [← List.drop_drop, e2]; rfl
    cases f with
    | nx s => exact ⟨i + 1, by simp at e1; omega, ed, z⟩
    | ct s => exact ⟨i + 1, by simp at e1; omega, ed, z⟩
    | bk s => exact z
    | rt v => exact z
  · simp at e1; subst e1; exact hc s h q
/-- a for over enumerate -/
theorem frL_e {β : Type} {g : PV → Sl → PH → Res Sl} {b : Sl → PH → Res Fl} {l : Lean_} {s : Sl} {Q : Fl → PH → Prop} (e : β → PV) (xs : List β) (S : Nat → Sl → PH → Prop) (h0 : S 0 s h) (hl : ∀ i s h, i ≤ xs.length → S i s h → leans l h = true)
    (hs : ∀ i a s h, xs[i]? = some a → S i s h → ((g (.wtup [.int (i : Nat), e a]) s h).bind b).To (Turn (S (i + 1)) Q)) (hc : ∀ s h, S xs.length s h → Q (.nx s) h) : (frL g b l (enums 0 (xs.map e)) s h).To Q := by
  have em := enums_map e xs 0
  rw [show ((0 : Nat) : Int) = 0 from rfl] at em
  rw [em]
  refine frL_i _ _ S h0 (fun i s h hi q => hl i s h (by simpa using hi) q) (fun i a s h ha q => ?_) (fun s h q => hc s h (by simpa using q))
  rw [List.getElem?_zipIdx] at ha
  cases hx : xs[i]? with
  | none => rw [hx] at ha; simp at ha
  | some x =>
    rw [hx] at ha
    simp at ha
    subst ha
    have := hs i x s h hx q
    simpa using this
theorem forR_go {g : PV → Sl → PH → Res Sl} {b : Sl → PH → Res Fl} {Q : Fl → PH → Prop} (S : Nat → Sl → PH → Prop) (N : Nat)
    (hs : ∀ i s h, i < N → S i s h → ((g (.int (i : Nat)) s h).bind b).To (Turn (S (i + 1)) Q)) (hc : ∀ s h, S N s h → Q (.nx s) h) : ∀ (m i : Nat) (s : Sl) (h : PH), i + m = N → S i s h → (frL g b [] (range (i : Nat) m 1) s h).To Q
  | 0, i, s, h, hi, q => by
    have : i = N := by omega
    subst this
    rw [range, frL_nil rfl, to_ok]; exact hc s h q
  | m + 1, i, s, h, hi, q => by
    rw [range_succ, frL_cons rfl, to_bind']
    have z := hs i s h (by omega) q
    rw [to_bind'] at z
    have e : (i : Int) + 1 = ((i + 1 : Nat) : Int) := by omega
    refine to_mono z fun s1 h1 z1 => ?_
    rw [to_bind']
    refine to_mono z1 fun f h2 z2 => ?_
    cases f with
    | nx s2 => show (frL g b [] (range ((i : Int) + 1) m 1) s2 h2).To Q; rw [e]; exact forR_go S N hs hc m (i + 1) s2 h2 (by omega) z2
    | ct s2 => show (frL g b [] (range ((i : Int) + 1) m 1) s2 h2).To Q; rw [e]; exact forR_go S N hs hc m (i + 1) s2 h2 (by omega) z2
    | bk s2 => show (Res.ok (Fl.nx s2) h2).To Q; rw [to_ok]; exact z2
    | rt v => show (Res.ok (Fl.rt v) h2).To Q; rw [to_ok]; exact z2
/-- a for over a range -/
theorem forR_to {g : PV → Sl → PH → Res Sl} {b : Sl → PH → Res Fl} {s : Sl} {Q : Fl → PH → Prop} {z w : Int} (a N : Nat) (S : Nat → Sl → PH → Prop) (hz : z = a) (hw : w = N) (ha : a ≤ N) (hn : N ≤ 1000000) (h0 : S a s h)
    (hs : ∀ i s h, a ≤ i → i < N → S i s h → ((g (.int (i : Nat)) s h).bind b).To (Turn (S (i + 1)) Q)) (hc : ∀ s h, S N s h → Q (.nx s) h) : (forR z w g b s h).To Q := by
  subst hz; subst hw
  have hb : bigR = 1000000 := rfl
  rw [forR, if_pos (by omega)]
  have : ((N : Int) - (a : Int)).toNat = N - a := by omega
  rw [this]
  refine to_mono (forR_go (fun i s h => a ≤ i ∧ S i s h) N (Q := Q) (fun i s h hi q => to_mono (hs i s h q.1 hi q.2) fun f h' z => ?_) (fun s h q => hc s h q.2) (N - a) a s h (by omega) ⟨Nat.le_refl _, h0⟩) fun _ _ q => q
  cases f with
  | nx s => exact ⟨Nat.le_succ_of_le q.1, z⟩
  | ct s => exact ⟨Nat.le_succ_of_le q.1, z⟩
  | bk s => exact z
  | rt v => exact z
theorem forR_to0 {g : PV → Sl → PH → Res Sl} {b : Sl → PH → Res Fl} {s : Sl} {Q : Fl → PH → Prop} {w : Int} (N : Nat) (S : Nat → Sl → PH → Prop) (hw : w = N) (hn : N ≤ 1000000) (h0 : S 0 s h)
    (hs : ∀ i s h, i < N → S i s h → ((g (.int (i : Nat)) s h).bind b).To (Turn (S (i + 1)) Q)) (hc : ∀ s h, S N s h → Q (.nx s) h) : (forR 0 w g b s h).To Q :=
  forR_to 0 N S rfl hw (by omega) hn h0 (fun i s h _ hi q => hs i s h hi q) hc
theorem compL_go {β : Type} {F : PV → PH → Res (Option PV)} {l : Lean_} (e : β → PV) (S : List β → List PV → PH → Prop) {Q : List PV → PH → Prop} (hl : ∀ r ys h, S r ys h → leans l h = true)
    (hs : ∀ a r ys h, S (a :: r) ys h → (F (e a) h).To fun y h' => S r (ys ++ y.toList) h') (hc : ∀ ys h, S [] ys h → Q ys h) : ∀ (xs : List β) (ys : List PV) (h : PH), S xs ys h → (compL F l (xs.map e) h).To fun zs h' => Q (ys ++ zs) h'
  | [], ys, h, q => by rw [List.map_nil, compL, if_pos (hl _ _ _ q), to_ok]; simpa using hc ys h q
  | a :: r, ys, h, q => by
    rw [List.map_cons, compL, if_pos (hl _ _ _ q), to_bind']
    refine to_mono (hs a r ys h q) fun y h1 z => ?_
    rw [to_bind']
    refine to_mono (compL_go e S hl hs hc r _ h1 z) fun zs h2 z2 => ?_
    cases y <;> simpa using z2
/-- a comprehension over a list that stays -/
theorem compL_to {β : Type} {F : PV → PH → Res (Option PV)} {l : Lean_} (e : β → PV) (xs : List β) (S : List β → List PV → PH → Prop) {Q : List PV → PH → Prop} (h0 : S xs [] h) (hl : ∀ r ys h, S r ys h → leans l h = true)
    (hs : ∀ a r ys h, S (a :: r) ys h → (F (e a) h).To fun y h' => S r (ys ++ y.toList) h') (hc : ∀ ys h, S [] ys h → Q ys h) : (compL F l (xs.map e) h).To Q := by
  simpa using compL_go e S hl hs hc xs [] h h0
theorem range_map0 (n a : Nat) : range (a : Nat) n 1 = (List.range' a n).map fun j : Nat => PV.int j := range_map n a
/-- a comprehension over a range -/
theorem compR_to {F : PV → PH → Res (Option PV)} {z w : Int} {Q : List PV → PH → Prop} (a N : Nat) (S : Nat → List PV → PH → Prop) (hz : z = a) (hw : w = N) (ha : a ≤ N) (hn : N ≤ 1000000) (h0 : S a [] h)
    (hs : ∀ i ys h, a ≤ i → i < N → S i ys h → (F (.int (i : Nat)) h).To fun y h' => S (i + 1) (ys ++ y.toList) h') (hc : ∀ ys h, S N ys h → Q ys h) : (compR z w F h).To Q := by
  subst hz; subst hw
  have hb : bigR = 1000000 := rfl
  have hM : many = 1000000 := rfl
  rw [compR, if_pos (by omega)]
  have en : ((N : Int) - (a : Int)).toNat = N - a := by omega
  rw [en, range_len', if_pos (by omega), range_map0]
  refine compL_to (fun j : Nat => PV.int j) _ (fun r ys h => ∃ i, a ≤ i ∧ i + r.length = N ∧ r = List.range' i (N - i) ∧ S i ys h) ⟨a, Nat.le_refl _, by simp; omega, rfl, h0⟩ (fun _ _ _ _ => rfl) (fun x r ys h ⟨i, h1, h2, h3, h4⟩ => ?_) (fun ys h ⟨i, h1, h2, h3, h4⟩ => ?_)
  · obtain ⟨m, hm⟩ : ∃ m, N - i = m + 1 := ⟨N - i - 1, by simp at h2; omega⟩
    rw [hm, List.range'_succ] at h3
    injection h3 with h3 h5
    subst h3
    refine to_mono (hs x ys h h1 (by simp at h2; omega) h4) fun y h' q => ⟨x + 1, by omega, by simp at h2; omega, ?_, q⟩
    rw [h5]; congr 1; omega
  · simp at h2; subst h2; exact hc ys h h4
end
end PB
set_option Elab.async false
set_option linter.all false
set_option maxRecDepth 100000
set_option maxHeartbeats 1000000
set_option exponentiation.threshold 100000
namespace PB
open PySem
/-! ### numbers over a power of 420 -/
def Fq (e n : Nat) (q : Rat) : Prop := ∃ A : Int, q * (420 : Rat) ^ e = (A : Rat) ∧ A.natAbs < 2 ^ n
section
variable {k : Nat} {h t : PH} {o : PO} {e e' n n' m b c : Nat} {x y : Rat}
theorem pow420 (e : Nat) : ((420 : Rat) ^ e) = (((420 ^ e : Nat) : Int) : Rat) := by
  induction e with
  | zero => rfl
  | succ e ih => rw [Rat.pow_succ, ih, Nat.pow_succ]; push_cast; rfl
theorem lt420 (e : Nat) : 420 ^ e ≤ 2 ^ (9 * e) := by
  rw [Nat.pow_mul]; exact Nat.pow_le_pow_left (by decide) e
theorem Fq.bd (h : Fq e n x) (hm : n ≤ m) (h9 : 9 * e + 1 ≤ m) : Bd m x := by
  obtain ⟨A, h1, h2⟩ := h
  rw [pow420] at h1
  refine bd_of_frac (D := ((420 ^ e : Nat) : Int)) ?_ h1 (lt_pow h2 hm) ?_
  · have := Nat.pow_pos (n := e) (show 0 < 420 by decide); omega
  · have := lt420 e
    rw [Int.natAbs_natCast]
    refine Nat.lt_of_le_of_lt this ?_
    exact Nat.lt_of_lt_of_le (Nat.pow_lt_pow_right (by decide) (Nat.lt_succ_self _)) (Nat.pow_le_pow_right (by decide) h9)
theorem Fq.lift (h : Fq e n x) (d : Nat) : Fq (e + d) (n + 9 * d) x := by
  obtain ⟨A, h1, h2⟩ := h
  refine ⟨A * ((420 ^ d : Nat) : Int), ?_, ?_⟩
  · rw [rpow_add, ← Rat.mul_assoc, h1, pow420]; push_cast; rfl
  · rw [Int.natAbs_mul, Int.natAbs_natCast]
    calc A.natAbs * 420 ^ d ≤ A.natAbs * 2 ^ (9 * d) := Nat.mul_le_mul_left _ (lt420 d)
      _ < 2 ^ n * 2 ^ (9 * d) := Nat.mul_lt_mul_of_pos_right h2 (Nat.pow_pos (by decide))
      _ = 2 ^ (n + 9 * d) := pow_pow
theorem Fq.up (h : Fq e n x) (he : e ≤ e') (hn : n + 9 * (e' - e) ≤ n') : Fq e' n' x := by
  obtain ⟨A, h1, h2⟩ := h.lift (e' - e)
  have : e + (e' - e) = e' := by omega
  rw [this] at h1
  exact ⟨A, h1, lt_pow h2 hn⟩
theorem Fq.add (hx : Fq e n x) (hy : Fq e n y) : Fq e (n + 1) (x + y) := by
  obtain ⟨A, a1, a2⟩ := hx; obtain ⟨B, b1, b2⟩ := hy
  refine ⟨A + B, ?_, natAbs_add_lt a2 b2⟩
  rw [Rat.add_mul, a1, b1]; push_cast; rfl
theorem Fq.sub (hx : Fq e n x) (hy : Fq e n y) : Fq e (n + 1) (x - y) := by
  obtain ⟨A, a1, a2⟩ := hx; obtain ⟨B, b1, b2⟩ := hy
  refine ⟨A - B, ?_, natAbs_sub_lt a2 b2⟩
  have : (x - y) * (420 : Rat) ^ e = x * 420 ^ e - y * 420 ^ e := by grind
  rw [this, a1, b1]; push_cast; rfl
theorem Fq.mul (hx : Fq e n x) (hy : Fq e' n' y) : Fq (e + e') (n + n') (x * y) := by
  obtain ⟨A, a1, a2⟩ := hx; obtain ⟨B, b1, b2⟩ := hy
  refine ⟨A * B, ?_, natAbs_mul_lt a2 b2⟩
  have : (x * y) * (420 : Rat) ^ (e + e') = (x * 420 ^ e) * (y * 420 ^ e') := by rw [rpow_add]; grind
  rw [this, a1, b1]; push_cast; rfl
theorem Fq.neg (hx : Fq e n x) : Fq e n (-x) := by
  obtain ⟨A, a1, a2⟩ := hx
  refine ⟨-A, ?_, by simpa using a2⟩
  rw [Rat.neg_mul, a1]; push_cast; rfl
theorem Fq.int (i : Int) (h : i.natAbs < 2 ^ n) : Fq 0 n (i : Rat) := ⟨i, by rw [Rat.pow_zero, Rat.mul_one], h⟩
theorem Fq.zero' : Fq e n 0 := ⟨0, by rw [Rat.zero_mul]; rfl, by simpa using Nat.pow_pos (show 0 < 2 by decide)⟩
theorem Fq.zero : Fq 0 1 0 := Fq.int 0 (by decide)
theorem Fq.one : Fq 0 1 1 := Fq.int 1 (by decide)
theorem Fq.of3 (h : Bd 3 x) : Fq 1 12 x := by
  obtain ⟨D, d0, d1, hD⟩ := cd3 (xs := [x]) (fun q hq => by simp at hq; subst hq; exact h)
  obtain ⟨h1, h2⟩ := h
  have h3 := x.den_pos
  obtain ⟨c, hc⟩ : ∃ c : Nat, x.den * c = 420 := by
    have : x.den = 1 ∨ x.den = 2 ∨ x.den = 3 ∨ x.den = 4 ∨ x.den = 5 ∨ x.den = 6 ∨ x.den = 7 := by omega
    rcases this with e | e | e | e | e | e | e <;> rw [e]
    · exact ⟨420, rfl⟩
    · exact ⟨210, rfl⟩
    · exact ⟨140, rfl⟩
    · exact ⟨105, rfl⟩
    · exact ⟨84, rfl⟩
    · exact ⟨70, rfl⟩
    · exact ⟨60, rfl⟩
  refine ⟨x.num * c, ?_, ?_⟩
  · have e : (420 : Rat) = (((x.den : Int) * (c : Int) : Int) : Rat) := by rw [← Int.natCast_mul, hc]; rfl
    rw [show (1 : Nat) = 0 + 1 from rfl, Rat.pow_succ, Rat.pow_zero, Rat.one_mul, e, Rat.intCast_mul, Rat.intCast_mul, ← num_den x]; grind
  · rw [Int.natAbs_mul]
    have hcle : c ≤ 420 := by rw [← hc]; exact Nat.le_mul_of_pos_left c h3
    have : x.num.natAbs * (c : Int).natAbs ≤ 8 * 420 := Nat.mul_le_mul (by omega) (by simpa using hcle)
    have : (2:Nat) ^ 12 = 4096 := rfl
    omega
/-- sizes in statements -/
class Fz (q : Rat) (e n : outParam Nat) : Prop where
  f : Fq e n q
instance (priority := high) sz_fz [hx : Fz x e n] : Sz x (max n (9 * e + 1)) := ⟨hx.f.bd (by omega) (by omega)⟩
instance fz_add [hx : Fz x e n] [hy : Fz y e' n'] : Fz (x + y) (max e e') (max (n + 9 * (max e e' - e)) (n' + 9 * (max e e' - e')) + 1) := ⟨(hx.f.up (by omega) (by omega)).add (hy.f.up (by omega) (by omega))⟩
instance fz_sub [hx : Fz x e n] [hy : Fz y e' n'] : Fz (x - y) (max e e') (max (n + 9 * (max e e' - e)) (n' + 9 * (max e e' - e')) + 1) := ⟨(hx.f.up (by omega) (by omega)).sub (hy.f.up (by omega) (by omega))⟩
instance fz_mul [hx : Fz x e n] [hy : Fz y e' n'] : Fz (x * y) (e + e') (n + n') := ⟨hx.f.mul hy.f⟩
instance fz_neg [hx : Fz x e n] : Fz (-x) e n := ⟨hx.f.neg⟩
instance fz_0 : Fz 0 0 1 := ⟨.zero⟩
instance fz_1 : Fz 1 0 1 := ⟨.one⟩
instance fz_2 : Fz 2 0 2 := ⟨.int 2 (by decide)⟩
instance fz_3 : Fz 3 0 2 := ⟨.int 3 (by decide)⟩
instance fz_4 : Fz 4 0 3 := ⟨.int 4 (by decide)⟩
theorem draw_fq (hr : Row o) (hw : Wf t) (hk : 3 ≤ k) : ∃ q o', Fq 1 12 q ∧ Row o' ∧ callF G k 19 [.ref 0] (o :: t) = .ok (fr q) (o' :: t) := by
  obtain ⟨k, rfl⟩ := Nat.exists_eq_add_of_le hk
  rw [Nat.add_comm]
  obtain ⟨q, o', h1, h2, h3⟩ := draw_ok (k := k) hr hw
  exact ⟨q, o', .of3 h1, h2, h3⟩
end
end PB
set_option Elab.async false
set_option linter.all false
set_option maxRecDepth 100000
set_option maxHeartbeats 1000000
set_option exponentiation.threshold 100000
namespace PB
open PySem
section
variable {k : Nat} {h t : PH} {o : PO} {e e' n n' m b c : Nat} {x y : Rat} {xs : List Rat}
/-! ### nets -/
abbrev Net := Nat → Nat → Rat
def rowsN (L : List (List Rat)) : List PV := L.map pol
@[simp] theorem map_pol {L : List (List Rat)} : L.map pol = rowsN L := rfl
@[simp] theorem rowsN_len {L : List (List Rat)} : (rowsN L).length = L.length := List.length_map ..
@[simp] theorem rowsN_get {L : List (List Rat)} {i : Nat} : (rowsN L)[i]? = L[i]?.map pol := List.getElem?_map ..
@[simp] theorem rowsN_app {L M : List (List Rat)} : rowsN L ++ rowsN M = rowsN (L ++ M) := List.map_append.symm
@[simp] theorem rowsN_nil : rowsN [] = [] := rfl
@[simp] theorem rowsN_cons {a : List Rat} {L : List (List Rat)} : rowsN (a :: L) = pol a :: rowsN L := rfl
@[simp] theorem rowsN_snoc {L : List (List Rat)} {a : List Rat} : rowsN L ++ [pol a] = rowsN (L ++ [a]) := by rw [rowsN, rowsN, List.map_append]; rfl
@[simp] theorem frs_snoc {L : List Rat} {a : Rat} : frs L ++ [fr a] = frs (L ++ [a]) := by rw [frs, frs, List.map_append]; rfl
@[simp] theorem lows_rowsN {n : Nat} {L : List (List Rat)} : PV.lows n (rowsN L) = true := by
  induction L with
  | nil => simp [PV.lows]
  | cons a r ih => simp only [rowsN_cons, PV.lows, Bool.and_eq_true]; exact ⟨low_pol, ih⟩
@[simp] theorem plains_rowsN {n : Nat} {L : List (List Rat)} : plains (n + 2) (rowsN L) = true := by
  induction L with
  | nil => simp [plains]
  | cons a r ih => simp only [rowsN_cons, plains, Bool.and_eq_true]; exact ⟨plain_pol, ih⟩
/-- the rows of a net whose lists have n, n - 1, .. numbers behind the first i -/
def netR (f : Net) (n i : Nat) : List (List Rat) := (List.range' 0 i).map fun a => tbl (f a) (n - a)
def netv (n : Nat) (f : Net) : PV := .tup (rowsN (netR f (n + 1) (n + 1)))
@[simp] theorem low_netv {m n : Nat} {f : Net} : PV.low m (netv n f) = true := by simp [netv, PV.low]
@[simp] theorem keep_netv {n : Nat} {f : Net} : keepP h h (netv n f) = h := keepP_self low_netv
@[simp] theorem plain_netv {m n : Nat} {f : Net} : plain (m + 3) (netv n f) = true := by simp [netv, plain]
@[simp] theorem items_netv {n : Nat} {f : Net} : items h (netv n f) = some (rowsN (netR f (n + 1) (n + 1))) := rfl
@[simp] theorem kindOf_netv {n : Nat} {f : Net} : kindOf h (netv n f) = some 4 := rfl
@[simp] theorem leanOf_netv {n : Nat} {f : Net} : leanOf h (netv n f) = [] := rfl
abbrev P3 := Rat × Rat × Rat
def F3 (e n : Nat) (p : P3) : Prop := Fq e n p.1 ∧ Fq e n p.2.1 ∧ Fq e n p.2.2
def av (p : P3) (f : Net) : Net := fun i j => p.1 * f i j + p.2.1 * f (i + 1) j + p.2.2 * f i (j + 1)
def FN (e n : Nat) (f : Net) : Prop := ∀ i j, Fq e n (f i j)
theorem FN.av {f : Net} {p : P3} (hf : FN e n f) (hp : F3 e' n' p) : FN (e' + e) (n' + n + 2) (av p f) := fun i j =>
  ((hp.1.mul (hf i j)).add (hp.2.1.mul (hf (i + 1) j))).add ((hp.2.2.mul (hf i (j + 1))).up (Nat.le_refl _) (by omega))
/-! ### blossoms of nets -/
def opp (ps : List P3) (f : Net) : Net := ps.foldl (fun g p => av p g) f
@[simp] theorem opp_nil (f : Net) : opp [] f = f := rfl
end
end PB
set_option Elab.async false
set_option linter.all false
set_option maxRecDepth 100000
set_option maxHeartbeats 1000000
set_option exponentiation.threshold 100000
namespace PB
open PySem
section
variable {k : Nat} {h t : PH} {o : PO} {e e' n n' m b c : Nat} {x y : Rat} {xs : List Rat}
/-! ### the law's own words about nets -/
def ntm (c : Nat) (f : Net) (p : P3) (i j : Nat) : Rat := f i j * ((p.2.1 ^ i * p.2.2 ^ j * p.1 ^ (c - i - j)) * ((bin c i : Rat) * (bin (c - i) j : Rat)))
def NA (c : Nat) (f : Net) (p : P3) : Rat := sumTo (fun i => sumTo (fun j => ntm c f p i j) (c + 1 - i)) (c + 1)
end
end PB
set_option Elab.async false
set_option linter.all false
set_option maxRecDepth 100000
set_option maxHeartbeats 1000000
set_option exponentiation.threshold 100000
namespace PB
open PySem
section
variable {k : Nat} {h t : PH} {o : PO} {e e' n n' m b c : Nat} {x y : Rat} {xs : List Rat}
/-! ### drawn nets and places -/
/-! ### the algebra of nets -/
def c1 : P3 := (0, 1, 0)
def c2 : P3 := (0, 0, 1)
/-! ### draws, as they stand in a goal -/
theorem of_law {x : Res PV} (q : x.To fun v _ => v = .bl true) : ∃ h', x = .ok (.bl true) h' := by
  obtain ⟨v, h', e, rfl⟩ := to_ex q
  exact ⟨h', e⟩
theorem taken_to {m : Int} {Q : PV → PH → Prop} (hm : 0 < m) (hz : m ≤ 1000000) (hr : Row o) (hk : 1 ≤ k) (q : ∀ (r : Nat) o', (r : Int) < m → Row o' → Q (.int r) (o' :: t)) : (callF G k 14 [.ref 0, .int m] (o :: t)).To Q := by
  obtain ⟨k, rfl⟩ := Nat.exists_eq_add_of_le hk
  rw [Nat.add_comm]
  obtain ⟨r, o', h1, h2, h3, h4⟩ := taken_ok (k := k) (t := t) hm hz hr
  obtain ⟨r, rfl⟩ : ∃ a : Nat, r = a := ⟨r.toNat, by omega⟩
  exact to_eq h4 (q r o' h2 h3)
theorem draw_to {Q : PV → PH → Prop} (hr : Row o) (hw : Wf t) (hk : 3 ≤ k) (q : ∀ x o', Fq 1 12 x → Row o' → Q (fr x) (o' :: t)) : (callF G k 19 [.ref 0] (o :: t)).To Q := by
  obtain ⟨x, o', h1, h2, h3⟩ := draw_fq (k := k) hr hw hk
  exact to_eq h3 (q x o' h1 h2)
theorem F3.up {p : P3} (h : F3 e n p) (he : e ≤ e') (hn : n + 9 * (e' - e) ≤ n') : F3 e' n' p := ⟨h.1.up he hn, h.2.1.up he hn, h.2.2.up he hn⟩
theorem row0 {ns : List Int} (hl : ns.length ≤ 63) {s : Int} (h0 : 0 ≤ s) (h1 : s < 2147483647) : Row (.lst [.scr (ns.map PV.int), .int 0, .int s, .int 0]) := ⟨ns, 0, s, 0, rfl, by omega, by decide, h0, h1⟩
end
end PB
set_option Elab.async false
set_option linter.all false
set_option maxRecDepth 100000
set_option maxHeartbeats 1000000
set_option exponentiation.threshold 100000
namespace PB
open PySem
section
variable {k : Nat} {h t : PH} {o : PO} {m n : Nat}
def Pls (ps : List P3) : Prop := ∀ p ∈ ps, F3 1 14 p ∧ p.1 + p.2.1 + p.2.2 = 1
theorem Pls.nil : Pls [] := fun _ h => by simp at h
end
end PB
set_option Elab.async false
set_option linter.all false
set_option maxRecDepth 100000
set_option maxHeartbeats 1000000
set_option exponentiation.threshold 100000
namespace PB
open PySem
section
variable {k : Nat} {h t : PH} {o : PO} {e e' n n' m b c : Nat} {x y : Rat} {xs : List Rat}
/-- the net of a derivative -/
def slN (c : Nat) (s : P3) (f : Net) : Net := if c = 0 then fun _ _ => 0 else fun i j => av s f i j * (c : Rat)
end
end PB
set_option Elab.async false
set_option linter.all false
set_option maxRecDepth 100000
set_option maxHeartbeats 2000000
set_option exponentiation.threshold 100000
namespace PB
open PySem
section
variable {k : Nat} {h t : PH} {o : PO} {e e' n n' m b c : Nat}
end
end PB
set_option Elab.async false
set_option linter.all false
set_option maxRecDepth 100000
set_option maxHeartbeats 2000000
set_option exponentiation.threshold 100000
namespace PB
open PySem
section
variable {k : Nat} {h t : PH} {o : PO} {e e' n n' m b c : Nat}
end
end PB
set_option Elab.async false
set_option linter.all false
set_option maxRecDepth 100000
set_option maxHeartbeats 4000000
set_option exponentiation.threshold 100000
namespace PB
open PySem
section
variable {k : Nat} {h t : PH} {o : PO} {e e' n n' m b c : Nat}
/-- the slopes' nets -/
def Sk (c : Nat) (s : P3) (f : Net) : Nat → Net
  | 0 => f
  | i + 1 => slN (c - i) s (Sk c s f i)
end
end PB
set_option Elab.async false
set_option linter.all false
set_option maxRecDepth 100000
set_option maxHeartbeats 4000000
set_option exponentiation.threshold 100000
namespace PB
open PySem
section
variable {k : Nat} {h t : PH} {o : PO} {e e' n n' m b c : Nat}
def dd : P3 := (1, -1, 0)
def hkp (c k : Nat) : P3 := (0, (k : Rat) / ((c + 1 : Nat) : Rat), ((c + 1 - k : Nat) : Rat) / ((c + 1 : Nat) : Rat))
end
end PB
set_option Elab.async false
set_option linter.all false
set_option maxRecDepth 100000
set_option maxHeartbeats 4000000
set_option exponentiation.threshold 100000
namespace PB
open PySem
section
variable {k : Nat} {h t : PH} {o : PO} {e e' n n' m b c : Nat}
def rowEq (c : Nat) (T g : Net) (r : Nat) : Prop := ∀ i, i ≤ c - r → T i (c - r - i) = g i (c - r - i)
instance (c : Nat) (T g : Net) : DecidablePred (rowEq c T g) := fun r => decidable_of_iff (∀ i, i < c - r + 1 → T i (c - r - i) = g i (c - r - i)) ⟨fun h i hi => h i (by omega), fun h i hi => h i (by omega)⟩
def valEq (c : Nat) (a : P3) (f g : Net) (r : Nat) : Prop := ∀ k, k ≤ c → NA (c - r) (Sk c a f r) (hkp c k) = NA (c - r) (Sk c dd g r) (hkp c k)
instance (c : Nat) (a : P3) (f g : Net) : DecidablePred (valEq c a f g) := fun r => decidable_of_iff (∀ k, k < c + 1 → NA (c - r) (Sk c a f r) (hkp c k) = NA (c - r) (Sk c dd g r) (hkp c k)) ⟨fun h i hi => h i (by omega), fun h i hi => h i (by omega)⟩
/-! ### the program's steps -/
end
end PB
set_option Elab.async false
set_option linter.all false
set_option maxRecDepth 100000
set_option maxHeartbeats 1000000
set_option exponentiation.threshold 100000
namespace PB
open PySem
/-! ### steps as they stand in a goal: what comes later stays hidden -/
/-- a branch not yet decided -/
class Hb where
  a : Prop
@[irreducible] def Br (p : Bool) [i : Hb] [j : Hb] : Prop := if p = true then i.a else j.a
section
variable {α β : Type} {cf : Nat → List PV → PH → Res PV} {s : Sl} {h : PH}
theorem bnd {γ : Type} {x : Res α} {f : α → PH → Res β} {g : β → PH → Res γ} : (x.bind f).bind g = x.bind fun a h => (f a h).bind g := by cases x <;> simp
theorem Kp_eq {Q : α → PH → Prop} : @Kp α ⟨Q⟩ = Q := by unfold Kp; rfl
@[simp ↓] theorem br_true {x y : Prop} : @Br true ⟨x⟩ ⟨y⟩ = x := by unfold Br; simp
@[simp ↓] theorem br_false {x y : Prop} : @Br false ⟨x⟩ ⟨y⟩ = y := by unfold Br; simp
@[simp ↓] theorem to_ifB {p : Bool} {a b : Res α} {Q : α → PH → Prop} : ((PV.bl p).ifB a b).To Q = @Br p ⟨a.To Q⟩ ⟨b.To Q⟩ := by
  cases p <;> simp
variable {Q : PV → PH → Prop} {QA : List PV → PH → Prop} {QF : Fl → PH → Prop} {QS : Sl → PH → Prop} {QO : Option PV → PH → Prop} {QI : List PV × Lean_ → PH → Prop}
@[simp] theorem many_eq : many = 1000000 := by unfold many; rfl
@[simp] theorem setAll_n : setAll [] [] s = some s := by rw [setAll]
@[simp] theorem setAll_c {i : Nat} {is : List Nat} {x : PV} {xs : List PV} : setAll (i :: is) (x :: xs) s = setAll is xs (s.set i (some x)) := by rw [setAll]
@[simp] theorem optI_none : optI h none = .ok none h := by rw [optI]
@[simp] theorem optI_int {i : Int} : optI h (some (.int i)) = .ok (some i) h := by rw [optI]
@[simp ↓] theorem tB_nil : (evB cf .nil s h).To QF = QF (.nx s) h := by rw [evB_nil, to_ok]
@[simp ↓] theorem tB_cons {st : CS} {r : CB} : (evB cf (.cons st r) s h).To QF = (evS cf st s h).To (@Kp Fl ⟨fun f h1 => (match f with
    | .nx s2 => evB cf r s2 h1
    | f => .ok f h1).To QF⟩) := by rw [evB_cons, to_bind', Kp_eq]; try rfl
@[simp ↓] theorem tS_asg {t : CT} {e : CE} : (evS cf (.asg t e) s h).To QF = (evE cf e s h).To (@Kp PV ⟨fun x h1 => (asT cf t x s h1).To (@Kp Sl ⟨fun s2 h2 => QF (.nx s2) h2⟩)⟩) := by
  simp only [evS_asg, to_bind', Kp_eq, to_ok]
@[simp ↓] theorem tS_par {is : List Nat} {es : CA} : (evS cf (.par is es) s h).To QF = (evA cf es s h).To (@Kp (List PV) ⟨fun xs h1 => (match setAll is xs s with | some s2 => Res.ok (Fl.nx s2) h1 | none => .bad).To QF⟩) := by
  simp only [evS_par, to_bind', Kp_eq]; try rfl
@[simp ↓] theorem tS_expr {e : CE} : (evS cf (.expr e) s h).To QF = (evE cf e s h).To (@Kp PV ⟨fun _ h1 => QF (.nx s) h1⟩) := by
  simp only [evS_expr, to_bind', Kp_eq, to_ok]
@[simp ↓] theorem tS_ret {e : CE} : (evS cf (.ret e) s h).To QF = (evE cf e s h).To (@Kp PV ⟨fun x h1 => QF (.rt x) h1⟩) := by
  simp only [evS_ret, to_bind', Kp_eq, to_ok]
@[simp ↓] theorem tS_retN : (evS cf .retN s h).To QF = QF (.rt .non) h := by rw [evS_retN, to_ok]
@[simp ↓] theorem tS_pass : (evS cf .pass s h).To QF = QF (.nx s) h := by rw [evS_pass, to_ok]
@[simp ↓] theorem tS_brk : (evS cf .brk s h).To QF = QF (.bk s) h := by rw [evS_brk, to_ok]
@[simp ↓] theorem tS_cnt : (evS cf .cnt s h).To QF = QF (.ct s) h := by rw [evS_cnt, to_ok]
@[simp ↓] theorem tS_ifs {c : CE} {a b : CB} : (evS cf (.ifs c a b) s h).To QF = (evE cf c s h).To (@Kp PV ⟨fun x h1 => (x.ifB (evB cf a s h1) (evB cf b s h1)).To QF⟩) := by
  simp only [evS_ifs, to_bind', Kp_eq]
@[simp ↓] theorem tS_for1 {t : CT} {e : CE} {b : CB} : (evS cf (.for_ t (.rng1 (.cons e .nil)) b) s h).To QF = (evE cf e s h).To (@Kp PV ⟨fun x h1 => (match x with | .int z => forR 0 z (asT cf t) (evB cf b) s h1 | _ => .bad).To QF⟩) := by
  rw [evS_for1, to_bind', Kp_eq]; try rfl
@[simp ↓] theorem tS_for2 {t : CT} {e e' : CE} {b : CB} : (evS cf (.for_ t (.rng2 (.cons e (.cons e' .nil))) b) s h).To QF = (evE cf e s h).To (@Kp PV ⟨fun x h1 => (evE cf e' s h1).To (@Kp PV ⟨fun y h2 => (match x, y with | .int z, .int w => forR z w (asT cf t) (evB cf b) s h2 | _, _ => .bad).To QF⟩)⟩) := by
  rw [evS_for2, to_bind', Kp_eq]; congr 1; funext x h1; rw [to_bind', Kp_eq]; try rfl
@[simp ↓] theorem tS_forS {t : CT} {e : CE} {b : CB} : (evS cf (.for_ t (.seq e) b) s h).To QF = (evE cf e s h).To (@Kp PV ⟨fun x h1 => (match items h1 x with | some xs => frL (asT cf t) (evB cf b) (leanOf h1 x) xs s h1 | none => .bad).To QF⟩) := by
  rw [evS_for, evI_seq, bnd, to_bind', Kp_eq]
  congr 1; funext x h1
  cases items h1 x <;> simp
@[simp ↓] theorem tS_forE {t : CT} {e : CE} {b : CB} : (evS cf (.for_ t (.enu (.cons e .nil)) b) s h).To QF = (evE cf e s h).To (@Kp PV ⟨fun x h1 => (match items h1 x with | some xs => frL (asT cf t) (evB cf b) (leanOf h1 x) (enums 0 xs) s h1 | none => .bad).To QF⟩) := by
  rw [evS_for, evI_enu, evA_cons, bnd, bnd, to_bind', Kp_eq]
  congr 1; funext x h1
  simp only [evA_nil, bind_ok']
  cases items h1 x <;> simp
@[simp ↓] theorem tE_bin {op : BinO} {a b : CE} : (evE cf (.bin op a b) s h).To Q = (evE cf a s h).To (@Kp PV ⟨fun x h1 => (evE cf b s h1).To (@Kp PV ⟨fun y h2 => (binop op x y h2).To Q⟩)⟩) := by
  simp only [evE_bin, to_bind', Kp_eq]
@[simp ↓] theorem tE_neg {a : CE} : (evE cf (.neg a) s h).To Q = (evE cf a s h).To (@Kp PV ⟨fun x h1 => (match x with | .int i => Res.ok (PV.int (-i)) h1 | _ => .bad).To Q⟩) := by
  rw [evE_neg, to_bind', Kp_eq]; try rfl
@[simp ↓] theorem tE_not {a : CE} : (evE cf (.not a) s h).To Q = (evE cf a s h).To (@Kp PV ⟨fun x h1 => (match x with | .bl b => Res.ok (PV.bl (!b)) h1 | _ => .bad).To Q⟩) := by
  rw [evE_not, to_bind', Kp_eq]; try rfl
@[simp ↓] theorem tE_and {a b : CE} : (evE cf (.and a b) s h).To Q = (evE cf a s h).To (@Kp PV ⟨fun x h1 => (x.ifB (evE cf b s h1) (.ok (.bl false) h1)).To Q⟩) := by
  rw [evE_and, to_bind', Kp_eq]
@[simp ↓] theorem tE_or {a b : CE} : (evE cf (.or a b) s h).To Q = (evE cf a s h).To (@Kp PV ⟨fun x h1 => (x.ifB (.ok (.bl true) h1) (evE cf b s h1)).To Q⟩) := by
  rw [evE_or, to_bind', Kp_eq]
@[simp ↓] theorem tE_cmp {op : CmpO} {a b : CE} : (evE cf (.cmp op a b) s h).To Q = (evE cf a s h).To (@Kp PV ⟨fun x h1 => (evE cf b s h1).To (@Kp PV ⟨fun y h2 => (cmpop op x y h2).To Q⟩)⟩) := by
  simp only [evE_cmp, to_bind', Kp_eq]
@[simp ↓] theorem tE_chn {op op' : CmpO} {a b c : CE} : (evE cf (.chn op op' a b c) s h).To Q = (evE cf a s h).To (@Kp PV ⟨fun x h1 => (evE cf b s h1).To (@Kp PV ⟨fun y h2 => (cmpop op x y h2).To (@Kp PV ⟨fun r h3 => (r.ifB ((evE cf c s h3).bind fun z h4 => cmpop op' y z h4) (.ok (.bl false) h3)).To Q⟩)⟩)⟩) := by
  rw [evE_chn, to_bind', Kp_eq]; congr 1; funext x h1; rw [to_bind', Kp_eq]; congr 1; funext y h2; rw [to_bind', Kp_eq]
@[simp ↓] theorem tE_ite {c a b : CE} : (evE cf (.ite c a b) s h).To Q = (evE cf c s h).To (@Kp PV ⟨fun x h1 => (x.ifB (evE cf a s h1) (evE cf b s h1)).To Q⟩) := by
  rw [evE_ite, to_bind', Kp_eq]
@[simp ↓] theorem tE_tup {es : CA} : (evE cf (.tup es) s h).To Q = (evA cf es s h).To (@Kp (List PV) ⟨fun xs h1 => xs.length ≤ many ∧ Q (.tup xs) h1⟩) := by
  rw [evE_tup, to_bind', Kp_eq]; congr 1; funext x h1; simp
@[simp ↓] theorem tE_lst {es : CA} : (evE cf (.lst es) s h).To Q = (evA cf es s h).To (@Kp (List PV) ⟨fun xs h1 => xs.length ≤ many ∧ Q (.ref h1.length) (h1 ++ [PO.lst xs])⟩) := by
  rw [evE_lst, to_bind', Kp_eq]; congr 1; funext x h1; simp [alloc]
@[simp ↓] theorem tE_idx {a b : CE} : (evE cf (.idx a b) s h).To Q = (evE cf a s h).To (@Kp PV ⟨fun x h1 => (evE cf b s h1).To (@Kp PV ⟨fun y h2 => (idxop x y h2).To Q⟩)⟩) := by
  simp only [evE_idx, to_bind', Kp_eq]
@[simp ↓] theorem tE_two {a : CE} {k : CO} : (evE cf (.two a k) s h).To Q = (evE cf a s h).To (@Kp PV ⟨fun x h1 => (evO cf k s h1).To (@Kp (Option PV) ⟨fun l h2 => (optI h2 l).To (@Kp (Option Int) ⟨fun l h3 => (twoop x l h3).To Q⟩)⟩)⟩) := by
  simp only [evE_two, to_bind', Kp_eq]
@[simp ↓] theorem tE_slc {a : CE} {lo hi : CO} : (evE cf (.slc a lo hi) s h).To Q = (evE cf a s h).To (@Kp PV ⟨fun x h1 => (evO cf lo s h1).To (@Kp (Option PV) ⟨fun l h2 => (evO cf hi s h2).To (@Kp (Option PV) ⟨fun u h3 => (optI h3 l).To (@Kp (Option Int) ⟨fun l h3 => (optI h3 u).To (@Kp (Option Int) ⟨fun u h3 => (slcop x l u h3).To Q⟩)⟩)⟩)⟩)⟩) := by
  simp only [evE_slc, to_bind', Kp_eq]
@[simp ↓] theorem tE_rev {a : CE} : (evE cf (.rev a) s h).To Q = (evE cf a s h).To (@Kp PV ⟨fun x h1 => (revop x h1).To Q⟩) := by
  simp only [evE_rev, to_bind', Kp_eq]
@[simp ↓] theorem tE_call {f : Nat} {es : CA} : (evE cf (.call f es) s h).To Q = (evA cf es s h).To (@Kp (List PV) ⟨fun xs h1 => (cf f xs h1).To Q⟩) := by
  simp only [evE_call, to_bind', Kp_eq]
@[simp ↓] theorem tE_blt {b : Blt} {es : CA} : (evE cf (.blt b es) s h).To Q = (evA cf es s h).To (@Kp (List PV) ⟨fun xs h1 => (blt b xs h1).To Q⟩) := by
  simp only [evE_blt, to_bind', Kp_eq]
@[simp ↓] theorem tE_mth {m : Mth} {o : CE} {es : CA} : (evE cf (.mth m o es) s h).To Q = (evE cf o s h).To (@Kp PV ⟨fun x h1 => (evA cf es s h1).To (@Kp (List PV) ⟨fun xs h2 => (mth m x xs h2).To Q⟩)⟩) := by
  simp only [evE_mth, to_bind', Kp_eq]
@[simp ↓] theorem tE_comp1 {e c : CE} {own : List Nat} {tg : CT} {co : CO} : (evE cf (.comp e own tg (.rng1 (.cons c .nil)) co) s h).To Q = (evE cf c s h).To (@Kp PV ⟨fun x h1 => (match x with | .int z => compR 0 z (compF cf e own tg co s) h1 | _ => .bad).To (@Kp (List PV) ⟨fun ys h2 => Q (.ref h2.length) (h2 ++ [PO.lst ys])⟩)⟩) := by
  rw [evE_comp1, to_bind', Kp_eq]; congr 1; funext x h1
  cases x <;> simp [alloc, to_bind', Kp_eq]
@[simp ↓] theorem tE_compS {e c : CE} {own : List Nat} {tg : CT} {co : CO} : (evE cf (.comp e own tg (.seq c) co) s h).To Q = (evE cf c s h).To (@Kp PV ⟨fun x h1 => (match items h1 x with | some xs => if xs.length ≤ many then compL (compF cf e own tg co s) (leanOf h1 x) xs h1 else .bad | none => .bad).To (@Kp (List PV) ⟨fun ys h2 => Q (.ref h2.length) (h2 ++ [PO.lst ys])⟩)⟩) := by
  rw [evE_comp, evI_seq, bnd, to_bind', Kp_eq]; congr 1; funext x h1
  cases items h1 x with
  | none => simp
  | some xs => by_cases hl : xs.length ≤ many <;> simp [hl, alloc, to_bind', Kp_eq]
@[simp ↓] theorem tA_nil : (evA cf .nil s h).To QA = QA [] h := by rw [evA_nil, to_ok]
@[simp ↓] theorem tA_cons {e : CE} {r : CA} : (evA cf (.cons e r) s h).To QA = (evE cf e s h).To (@Kp PV ⟨fun x h1 => (evA cf r s h1).To (@Kp (List PV) ⟨fun xs h2 => QA (x :: xs) h2⟩)⟩) := by
  simp only [evA_cons, to_bind', Kp_eq, to_ok]
@[simp ↓] theorem tO_some {e : CE} : (evO cf (.some e) s h).To QO = (evE cf e s h).To (@Kp PV ⟨fun x h1 => QO (some x) h1⟩) := by
  simp only [evO_some, to_bind', Kp_eq, to_ok]
@[simp ↓] theorem tT_cons {a r : CT} {x : PV} {xs : List PV} : (asT cf (.cons a r) (.tup (x :: xs)) s h).To QS = (asT cf a x s h).To (@Kp Sl ⟨fun s1 h1 => (asTs cf r xs s1 h1).To QS⟩) := by
  simp only [asT_cons, to_bind', Kp_eq]
@[simp ↓] theorem tT_rcons {a r : CT} {n : Nat} {x : PV} {xs : List PV} (hx : h[n]? = some (.lst (x :: xs))) : (asT cf (.cons a r) (.ref n) s h).To QS = (asT cf a x s h).To (@Kp Sl ⟨fun s1 h1 => (asTs cf r xs s1 h1).To QS⟩) := by
  rw [asT_rcons hx, to_bind', Kp_eq]
@[simp ↓] theorem tT_wcons {a r : CT} {x : PV} {xs : List PV} : (asT cf (.cons a r) (.wtup (x :: xs)) s h).To QS = (asT cf a x s h).To (@Kp Sl ⟨fun s1 h1 => (asTs cf r xs s1 h1).To QS⟩) := by
  simp only [asT_wcons, to_bind', Kp_eq]
@[simp ↓] theorem tTs_cons {a r : CT} {x : PV} {xs : List PV} : (asTs cf (.cons a r) (x :: xs) s h).To QS = (asT cf a x s h).To (@Kp Sl ⟨fun s1 h1 => (asTs cf r xs s1 h1).To QS⟩) := by
  simp only [asTs_cons, to_bind', Kp_eq]
@[simp ↓] theorem tT_s {o i : CE} {x : PV} : (asT cf (.s o i) x s h).To QS = (evE cf o s h).To (@Kp PV ⟨fun ov h1 => (evE cf i s h1).To (@Kp PV ⟨fun iv h2 => (setop ov iv x h2).To (@Kp Unit ⟨fun _ h3 => QS s h3⟩)⟩)⟩) := by
  simp only [asT_s, to_bind', Kp_eq, to_ok]
@[simp ↓] theorem t_compF {e : CE} {own : List Nat} {tg : CT} {c : CO} {x : PV} : (compF cf e own tg c s x h).To QO = (asT cf tg x (wipe s own) h).To (@Kp Sl ⟨fun s3 h3 => (evO cf c s3 h3).To (@Kp (Option PV) ⟨fun t h4 => (match t with
        | some (.bl false) => Res.ok none h4
        | some (.bl true) => (evE cf e s3 h4).bind fun y h5 => .ok (some y) h5
        | none => (evE cf e s3 h4).bind fun y h5 => .ok (some y) h5
        | _ => .bad).To QO⟩)⟩) := by
  rw [compF, to_bind', Kp_eq]; congr 1; funext s3 h3; rw [to_bind', Kp_eq]; try rfl
@[simp ↓] theorem to_bindP {x : Res α} {f : α → PH → Res β} {Q : β → PH → Prop} : (x.bind f).To Q = x.To (@Kp α ⟨fun a h => (f a h).To Q⟩) := to_bind
end
end PB
set_option Elab.async false
set_option linter.all false
set_option maxRecDepth 100000
set_option maxHeartbeats 4000000
set_option exponentiation.threshold 100000
namespace PB
open PySem
section
variable {k : Nat} {h t : PH} {o : PO} {e e' n n' m b c d : Nat} {x y : Rat} {T R : List Rat}
/-! ### drawn splines -/
theorem getD_app_left {xs ys : List Rat} {i : Nat} (h : i < xs.length) : (xs ++ ys).getD i 0 = xs.getD i 0 := by
  simp only [List.getD_eq_getElem?_getD]; rw [List.getElem?_append_left h]
theorem getD_app_rep {xs : List Rat} {q : Rat} {m i : Nat} (h1 : xs.length ≤ i) (h2 : i < xs.length + m) : (xs ++ List.replicate m q).getD i 0 = q := by
  simp only [List.getD_eq_getElem?_getD]
  rw [List.getElem?_append_right h1, List.getElem?_replicate, if_pos (by omega)]; rfl
theorem Kn.mono (hk : Kn d T) : ∀ {j i : Nat}, i ≤ j → j < T.length → T.getD i 0 ≤ T.getD j 0
  | 0, i, h, _ => by have : i = 0 := by omega
                     subst this; exact Rat.le_refl
  | j + 1, i, h, hj => by
    by_cases he : i = j + 1
    · subst he; exact Rat.le_refl
    · exact Rat.le_trans (Kn.mono hk (j := j) (by omega) (by omega)) (hk.1 j hj)
/-- a greater knot behind -/
theorem Kn.app (hk : Kn d T) (h0 : 0 < T.length) {q : Rat} (hq : T.getD (T.length - 1) 0 < q) {m : Nat} (hm : m ≤ d + 1) : Kn d (T ++ List.replicate m q) := by
  refine ⟨fun i hi => ?_, fun i hi => ?_⟩
  · simp only [List.length_append, List.length_replicate] at hi
    by_cases h1 : i + 1 < T.length
    · rw [getD_app_left (by omega), getD_app_left h1]; exact hk.1 i h1
    · rw [getD_app_rep (i := i + 1) (by omega) hi]
      by_cases h2 : i < T.length
      · rw [getD_app_left h2]
        have := hk.mono (i := i) (j := T.length - 1) (by omega) (by omega)
        grind
      · rw [getD_app_rep (by omega) (by omega)]; exact Rat.le_refl
  · simp only [List.length_append, List.length_replicate] at hi
    by_cases h1 : i + d + 1 < T.length
    · rw [getD_app_left (by omega), getD_app_left h1]; exact hk.2 i h1
    · rw [getD_app_rep (i := i + d + 1) (by omega) hi, getD_app_left (by omega)]
      have := hk.mono (i := i) (j := T.length - 1) (by omega) (by omega)
      grind
theorem getD_take {xs : List Rat} {i j : Nat} (h : i < j) : (xs.take j).getD i 0 = xs.getD i 0 := by
  simp only [List.getD_eq_getElem?_getD]; rw [List.getElem?_take_of_lt h]
theorem Kn.take (hk : Kn d T) (j : Nat) : Kn d (T.take j) := ⟨fun i hi => by
  simp at hi
  rw [getD_take (by omega), getD_take (by omega)]; exact hk.1 i (by omega), fun i hi => by
  simp at hi
  rw [getD_take (by omega), getD_take (by omega)]; exact hk.2 i (by omega)⟩
structure Spl (d : Nat) (T R : List Rat) : Prop where
  dl : d ≤ 4
  kn : Kn d T
  lo : 2 * d + 2 ≤ T.length
  hi : T.length ≤ 16
  fst : T.getD 0 0 = T.getD d 0
  lst : T.getD (T.length - 1) 0 = T.getD (T.length - d - 1) 0
  rl : R.length + d + 1 = T.length
  tb : ∀ q ∈ T, Fq 1 18 q
  rb : ∀ q ∈ R, Fq 1 14 q
/-- knots of a spline, before they are cut -/
structure Kts (d : Nat) (K : List Rat) (now : Rat) (j : Nat) : Prop where
  kn : Kn d K
  len : d + 1 ≤ K.length
  le : K.length ≤ (j + 1) * (d + 1)
  fst : K.getD 0 0 = K.getD d 0
  last : K.getD (K.length - 1) 0 = now
  tb : ∀ q ∈ K, Fq 1 (12 + j) q
theorem Kts.tn {K : List Rat} {now : Rat} {j : Nat} (h : Kts d K now j) : Fq 1 (12 + j) now := by
  have hl := h.len
  rw [← h.last, List.getD_eq_getElem?_getD, List.getElem?_eq_getElem (by omega)]
  exact h.tb _ (List.getElem_mem _)
theorem Kts.step {K : List Rat} {now a : Rat} {j m : Nat} (h : Kts d K now j) (ha : 0 < a) (hf : Fq 1 12 a) (h1 : 1 ≤ m) (hm : m ≤ d + 1) : Kts d (K ++ List.replicate m (now + a)) (now + a) (j + 1) := by
  have hl := h.len
  have hq : K.getD (K.length - 1) 0 < now + a := by rw [h.last]; grind
  refine ⟨h.kn.app (by omega) hq hm, by simp; omega, ?_, ?_, ?_, fun q hq => ?_⟩
  · have := h.le
    have z := Nat.add_mul (j + 1) 1 (d + 1)
    simp only [List.length_append, List.length_replicate]; omega
  · rw [getD_app_left (by omega), getD_app_left (by omega)]; exact h.fst
  · simp only [List.length_append, List.length_replicate]
    exact getD_app_rep (by omega) (by omega)
  · rcases List.mem_append.mp hq with hq | hq
    · exact (h.tb q hq).up (Nat.le_refl _) (by omega)
    · rw [List.eq_of_mem_replicate hq]
      exact ((Kts.tn h).add (hf.up (Nat.le_refl _) (by omega))).up (Nat.le_refl _) (by omega)
theorem Kts.done {K : List Rat} {now a : Rat} {j : Nat} (h : Kts d K now j) (hj : j ≤ 3) (hd : d ≤ 4) (ha : 0 < a) (hf : Fq 1 12 a) (T : List Rat)
    (hT : T = if (K ++ List.replicate (d + 1) (now + a)).length > 16 then (K ++ List.replicate (d + 1) (now + a)).take (15 - d) ++ (K ++ List.replicate (d + 1) (now + a)).drop ((K ++ List.replicate (d + 1) (now + a)).length - (d + 1)) else K ++ List.replicate (d + 1) (now + a)) (R : List Rat) (hR : R.length + d + 1 = T.length) (hRb : ∀ q ∈ R, Fq 1 12 q) : Spl d T R := by
  have hl := h.len
  obtain ⟨K', hK', e, hlen⟩ : ∃ K', (∃ p, K' = K.take p ∧ d + 1 ≤ p) ∧ T = K' ++ List.replicate (d + 1) (now + a) ∧ K'.length ≤ 15 - d := by
    simp only [List.length_append, List.length_replicate] at hT
    split at hT
    · rename_i hgt
      refine ⟨K.take (15 - d), ⟨15 - d, rfl, by omega⟩, ?_, by simp; omega⟩
      rw [hT, List.take_append_of_le_length (by omega), show K.length + (d + 1) - (d + 1) = K.length by omega, List.drop_left]
    · exact ⟨K, ⟨K.length, by simp, hl⟩, hT, by omega⟩
  obtain ⟨p, rfl, hp⟩ := hK'
  have hkl : (K.take p).length = min p K.length := List.length_take
  have h0 : 0 < (K.take p).length := by omega
  have hlast : (K.take p).getD ((K.take p).length - 1) 0 < now + a := by
    rw [getD_take (by omega)]
    have := h.kn.mono (i := (K.take p).length - 1) (j := K.length - 1) (by omega) (by omega)
    rw [h.last] at this
    grind
  have hTl : T.length = (K.take p).length + (d + 1) := by rw [e]; simp
  refine ⟨hd, ?_, by omega, by omega, ?_, ?_, hR, fun q hq => ?_, fun q hq => (hRb q hq).up (by omega) (by omega)⟩
  · rw [e]; exact (h.kn.take p).app h0 hlast (Nat.le_refl _)
  · rw [e, getD_app_left (by omega), getD_app_left (by omega), getD_take (by omega), getD_take (by omega)]; exact h.fst
  · rw [hTl, e, getD_app_rep (by omega) (by omega), getD_app_rep (by omega) (by omega)]
  · rw [e] at hq
    rcases List.mem_append.mp hq with hq | hq
    · exact (h.tb q (List.mem_of_mem_take hq)).up (Nat.le_refl _) (by omega)
    · rw [List.eq_of_mem_replicate hq]
      exact ((Kts.tn h).add (hf.up (Nat.le_refl _) (by omega))).up (Nat.le_refl _) (by omega)
theorem lmade_i {a b : Int} (hk : 1 ≤ k) (hb : b ≠ 0) (hz : b.natAbs < 2 ^ 4900) : callF G k 16 [.int a, .int b] h = .ok (fr (Rat.divInt a b)) h := by
  obtain ⟨k, rfl⟩ := Nat.exists_eq_add_of_le hk
  rw [Nat.add_comm]; exact lmade_ok hb hz
end
end PB
set_option Elab.async false
set_option linter.all false
set_option maxRecDepth 100000
set_option maxHeartbeats 4000000
set_option exponentiation.threshold 100000
namespace PB
open PySem
section
variable {k : Nat} {h t : PH} {o : PO} {e e' n n' m b c d p : Nat} {x y : Rat} {T R : List Rat}
theorem getD_mem {xs : List Rat} {i : Nat} (h : i < xs.length) : xs.getD i 0 ∈ xs := by
  rw [List.getD_eq_getElem?_getD, List.getElem?_eq_getElem h]; exact List.getElem_mem h
theorem getD_fq {xs : List Rat} (hx : ∀ q ∈ xs, Fq e n q) (i : Nat) : Fq e n (xs.getD i 0) := by
  by_cases h : i < xs.length
  · exact hx _ (getD_mem h)
  · rw [List.getD_eq_getElem?_getD, List.getElem?_eq_none (by omega)]; exact Fq.zero'
theorem Spl.up (h : Spl d T R) {i j : Nat} (hij : i ≤ j) (hj : j < T.length) : T.getD i 0 ≤ T.getD j 0 := h.kn.mono hij hj
/-! ### C. de Boor's averages -/
end
end PB
set_option Elab.async false
set_option linter.all false
set_option maxRecDepth 100000
set_option maxHeartbeats 1000000
set_option exponentiation.threshold 100000
namespace PB
open PySem
section
variable {k : Nat} {h t : PH} {o : PO} {e n m a b c d p : Nat} {x y : Rat} {xs ys T R P : List Rat}
/-! ### sizes of the polynomials of basis functions on a span: one denominator for each degree -/
end
end PB
set_option Elab.async false
set_option linter.all false
set_option maxRecDepth 100000
set_option maxHeartbeats 1000000
set_option exponentiation.threshold 100000
namespace PB
open PySem
section
variable {k : Nat} {h t : PH} {o : PO} {e n m a b c d p : Nat} {x y : Rat} {xs ys T R P : List Rat}
/-! ### the pieces of a spline -/
/-! ### pieces -/
end
end PB
set_option Elab.async false
set_option linter.all false
set_option maxRecDepth 100000
set_option maxHeartbeats 1000000
set_option exponentiation.threshold 100000
namespace PB
section
/-! divided differences of polynomials, by synthetic division -/
def qd : List Rat → Rat → List Rat
  | [], _ => []
  | [_], _ => []
  | _ :: b :: r, a => pe (b :: r) a :: qd (b :: r) a
theorem pe_qd : ∀ (p : List Rat) (a X : Rat), pe p X = pe p a + (X - a) * pe (qd p a) X
  | [], a, X => by simp only [qd, pe]; grind
  | [c], a, X => by simp only [qd, pe]; grind
  | c :: b :: r, a, X => by
    have ih := pe_qd (b :: r) a X
    have e1 : pe (c :: b :: r) X = c + X * pe (b :: r) X := rfl
    have e2 : pe (c :: b :: r) a = c + a * pe (b :: r) a := rfl
    have e3 : pe (qd (c :: b :: r) a) X = pe (b :: r) a + X * pe (qd (b :: r) a) X := rfl
    rw [e1, e2, e3, ih]; grind
def ddp : List Rat → List Rat → Rat
  | _, [] => 0
  | p, [a] => pe p a
  | p, a :: b :: r => ddp (qd p a) (b :: r)
theorem pe_li0 (z : Rat) (q : List Rat) (X : Rat) : pe (pmul [-z, 1] q) X = (X - z) * pe q X := by
  rw [pe_pmul]; simp only [pe]; grind
/-! derivatives -/
def Dn : Nat → List Rat → List Rat
  | 0, p => p
  | n + 1, p => pder (Dn n p)
theorem dv_comb {u v w : List Rat} {c a s : Rat} (h : ∀ X, pe u X = c + (X - a) * pe v X + s * pe w X) (X : Rat) : pe (pder u) X = pe v X + (X - a) * pe (pder v) X + s * pe (pder w) X := by
  have e : ∀ X, pe u X = pe (padd (padd [c] (pmul [-a, 1] v)) (w.map (s * ·))) X := fun X => by
    rw [h, pe_padd, pe_padd, pe_li0, pe_scaled]; simp only [pe]; grind
  have h1 : pe (pder u) X = dv u X := rfl
  rw [h1, dv_congr e, dv_padd, dv_padd, dv_pmul, dv_scaled]
  have h2 : dv v X = pe (pder v) X := rfl
  have h3 : dv w X = pe (pder w) X := rfl
  simp only [dv_cons, dv_nil, pe, ← h2, ← h3]; grind
theorem Dn_lin {p q : List Rat} {c a : Rat} (h : ∀ X, pe p X = c + (X - a) * pe q X) : ∀ (j : Nat) (X : Rat), pe (Dn (j + 1) p) X = (X - a) * pe (Dn (j + 1) q) X + ((j + 1 : Nat) : Rat) * pe (Dn j q) X
  | 0, X => by
    have := dv_comb (u := p) (v := q) (w := []) (c := c) (a := a) (s := 0) (fun X => by rw [h]; grind) X
    have h0 : ((0 + 1 : Nat) : Rat) = 1 := rfl
    simp only [Dn]
    rw [this, h0]; grind
  | j + 1, X => by
    have ih := Dn_lin h j
    have := dv_comb (u := Dn (j + 1) p) (v := Dn (j + 1) q) (w := Dn j q) (c := 0) (a := a) (s := ((j + 1 : Nat) : Rat)) (fun X => by rw [ih]; grind) X
    have e1 : ((j + 1 + 1 : Nat) : Rat) = ((j + 1 : Nat) : Rat) + 1 := Rat.natCast_add _ 1
    have e2 : Dn (j + 1 + 1) p = pder (Dn (j + 1) p) := rfl
    have e3 : Dn (j + 1 + 1) q = pder (Dn (j + 1) q) := rfl
    have e4 : Dn (j + 1) q = pder (Dn j q) := rfl
    rw [e2, this, e1, e3, ← e4]; grind
theorem Dn_comb {p q r : List Rat} {s : Rat} (h : ∀ X, pe r X = pe p X + s * pe q X) : ∀ (j : Nat) (X : Rat), pe (Dn j r) X = pe (Dn j p) X + s * pe (Dn j q) X
  | 0, X => h X
  | j + 1, X => by
    have ih := Dn_comb h j
    have e : ∀ X, pe (Dn j r) X = pe (padd (Dn j p) ((Dn j q).map (s * ·))) X := fun X => by rw [ih, pe_padd, pe_scaled]
    have h1 : pe (Dn (j + 1) r) X = dv (Dn j r) X := rfl
    rw [h1, dv_congr e, dv_padd, dv_scaled]; rfl
theorem Dn_congr {p q : List Rat} (h : ∀ X, pe p X = pe q X) (j : Nat) (X : Rat) : pe (Dn j p) X = pe (Dn j q) X := by
  have := Dn_comb (r := p) (p := q) (q := []) (s := 0) (fun X => by rw [h]; grind) j X
  rw [this]; grind
def fctr : Nat → Nat
  | 0 => 1
  | n + 1 => fctr n * (n + 1)
theorem fctr_pos : ∀ n, 0 < fctr n
  | 0 => by decide
  | n + 1 => Nat.mul_pos (fctr_pos n) (by omega)
/-! products of differences -/
def pnl : List Rat → List Rat
  | [] => [1]
  | x :: r => pmul [-x, 1] (pnl r)
theorem pnl_cons (x : Rat) (r : List Rat) (X : Rat) : pe (pnl (x :: r)) X = (X - x) * pe (pnl r) X := pe_li0 x _ X
theorem pnl_app : ∀ (xs ys : List Rat) (X : Rat), pe (pnl (xs ++ ys)) X = pe (pnl xs) X * pe (pnl ys) X
  | [], ys, X => by
    show pe (pnl ys) X = pe [1] X * _
    simp only [pe]; grind
  | x :: r, ys, X => by
    rw [List.cons_append, pnl_cons, pnl_cons, pnl_app r ys]; grind
theorem pnl_one (y X : Rat) : pe (pnl [y]) X = X - y := by rw [pnl_cons]; show (X - y) * pe [1] X = _; simp only [pe]; grind
theorem ddp_snoc : ∀ (xs : List Rat) (y : Rat) (p : List Rat), ddp p (xs ++ [y]) = pe (xs.foldl qd p) y
  | [], y, p => rfl
  | [x], y, p => rfl
  | x :: z :: r, y, p => ddp_snoc (z :: r) y (qd p x)
/-- the sum of coefficients times products of differences -/
def nwt (c : Nat → Rat) (xs : List Rat) (m : Nat) (X : Rat) : Rat := sumTo (fun k => c k * pe (pnl (xs.take k)) X) m
theorem newton (p xs : List Rat) (X : Rat) : ∀ m, m ≤ xs.length → pe p X = nwt (fun k => ddp p (xs.take (k + 1))) xs m X + pe (pnl (xs.take m)) X * pe ((xs.take m).foldl qd p) X
  | 0, _ => by
    show pe p X = 0 + pe [1] X * pe p X
    simp only [pe]; grind
  | m + 1, h => by
    have ih := newton p xs X m (by omega)
    have hm : m < xs.length := h
    have e1 : xs.take (m + 1) = xs.take m ++ [xs[m]] := by rw [List.take_append_getElem]
    have h1 := pe_qd ((xs.take m).foldl qd p) xs[m] X
    have h2 : nwt (fun k => ddp p (xs.take (k + 1))) xs (m + 1) X = nwt (fun k => ddp p (xs.take (k + 1))) xs m X + ddp p (xs.take (m + 1)) * pe (pnl (xs.take m)) X := rfl
    rw [ih, h2, e1, ddp_snoc, pnl_app, pnl_one, List.foldl_append, List.foldl_cons, List.foldl_nil, h1]
    grind
/-! zeros with their multiplicity -/
def Zd (a : Rat) (m : Nat) (p : List Rat) : Prop := ∀ j, j < m → pe (Dn j p) a = 0
theorem Zd.lin {a c : Rat} {m : Nat} {p q : List Rat} (h : ∀ X, pe p X = (X - c) * pe q X) (z : Zd a m q) : Zd a m p ∧ (c = a → Zd a (m + 1) p) := by
  have hl := Dn_lin (p := p) (q := q) (c := 0) (a := c) (fun X => by rw [h]; grind)
  constructor
  · intro j hj
    cases j with
    | zero => show pe p a = 0; rw [h, show pe q a = 0 from z 0 hj]; grind
    | succ j => rw [hl, z (j + 1) hj, z j (by omega)]; grind
  · rintro rfl
    intro j hj
    cases j with
    | zero => show pe p c = 0; rw [h]; grind
    | succ j => rw [hl, z j (by omega)]; grind
theorem Zd.prod (a : Rat) : ∀ (xs : List Rat) (p q : List Rat), (∀ X, pe p X = pe (pnl xs) X * pe q X) → Zd a (xs.count a) p
  | [], p, q, h => fun j hj => by simp at hj
  | x :: r, p, q, h => by
    have ih := Zd.prod a r (pmul (pnl r) q) q (fun X => pe_pmul _ _)
    have h' : ∀ X, pe p X = (X - x) * pe (pmul (pnl r) q) X := fun X => by rw [h, pnl_cons, pe_pmul]; grind
    obtain ⟨z1, z2⟩ := Zd.lin h' ih
    by_cases e : x = a
    · subst e; rw [List.count_cons_self]; exact z2 rfl
    · rw [List.count_cons_of_ne e]; exact z1
/-- p has the data ds at the nodes xs -/
def Hdt (p xs ds : List Rat) : Prop := ∀ i a d, xs[i]? = some a → ds[i]? = some d → pe (Dn ((xs.take i).count a) p) a = d
theorem Hdt.congr {p q xs ds : List Rat} (h : Hdt p xs ds) (e : ∀ X, pe q X = pe p X) : Hdt q xs ds := fun i a d h1 h2 => by rw [Dn_congr e, h i a d h1 h2]
theorem Hdt.take {p xs ds : List Rat} (h : Hdt p xs ds) (m : Nat) : Hdt p (xs.take m) (ds.take m) := fun i a d h1 h2 => by
  by_cases hi : i < m
  · rw [List.getElem?_take_of_lt hi] at h1 h2
    rw [List.take_take, Nat.min_eq_left (by omega)]
    exact h i a d h1 h2
  · rw [List.getElem?_take_eq_none (by omega)] at h1; cases h1
theorem count_lt {xs : List Rat} {i m : Nat} {a : Rat} (hi : xs[i]? = some a) (hm : i < m) : (xs.take i).count a < (xs.take m).count a := by
  obtain ⟨hl, rfl⟩ := List.getElem?_eq_some_iff.mp hi
  have e1 : xs.take (i + 1) = xs.take i ++ [xs[i]] := by rw [List.take_append_getElem]
  have h1 : (xs.take (i + 1)).count xs[i] = (xs.take i).count xs[i] + 1 := by rw [e1, List.count_append, List.count_singleton_self]
  have h2 : (xs.take (i + 1)).count xs[i] ≤ (xs.take m).count xs[i] := by
    have : xs.take (i + 1) = (xs.take m).take (i + 1) := by rw [List.take_take, Nat.min_eq_left (by omega)]
    rw [this]
    exact List.Sublist.count_le _ (List.take_sublist _ _)
  omega
/-- the sum has the data, too -/
theorem Hdt.sum {p W xs ds : List Rat} (h : Hdt p xs ds) (hW : ∀ X, pe W X = nwt (fun k => ddp p (xs.take (k + 1))) xs xs.length X) : Hdt W xs ds := fun i a d h1 h2 => by
  have hr : ∀ X, pe p X = pe W X + 1 * pe (pmul (pnl xs) (xs.foldl qd p)) X := fun X => by
    have := newton p xs X xs.length (Nat.le_refl _)
    rw [List.take_length] at this
    rw [this, hW, pe_pmul]; grind
  have hD := Dn_comb hr ((xs.take i).count a) a
  have hc : (xs.take i).count a < xs.count a := by
    have := count_lt h1 (List.getElem?_eq_some_iff.mp h1).1
    rwa [List.take_length] at this
  have z := Zd.prod a xs (pmul (pnl xs) (xs.foldl qd p)) (xs.foldl qd p) (fun X => pe_pmul _ _) _ hc
  rw [h i a d h1 h2, z] at hD
  grind
/-! facts on polynomials -/
end
end PB
set_option Elab.async false
set_option linter.all false
set_option maxRecDepth 100000
set_option maxHeartbeats 1000000
set_option exponentiation.threshold 100000
namespace PB
section
/-! the table of differences -/
def nd (T : List Rat) (i : Nat) : Rat := T.getD i 0
theorem nd_get {T : List Rat} {i : Nat} (h : i < T.length) : T[i]? = some (nd T i) := by
  rw [nd, List.getD_eq_getElem?_getD, List.getElem?_eq_getElem h]; rfl
theorem nd_of {T : List Rat} {i : Nat} {a : Rat} (h : T[i]? = some a) : nd T i = a := by
  rw [nd, List.getD_eq_getElem?_getD, h]; rfl
theorem nd_mem {T : List Rat} {i : Nat} (h : i < T.length) : nd T i ∈ T := List.mem_of_getElem? (nd_get h)
def AscL (T : List Rat) : Prop := ∀ i j, i ≤ j → j < T.length → nd T i ≤ nd T j
theorem AscL.take {T : List Rat} (h : AscL T) (m : Nat) : AscL (T.take m) := fun i j hij hj => by
  rw [List.length_take] at hj
  have e : ∀ i, i < m → nd (T.take m) i = nd T i := fun i hi => by
    rw [nd, nd, List.getD_eq_getElem?_getD, List.getD_eq_getElem?_getD, List.getElem?_take_of_lt hi]
  rw [e i (by omega), e j (by omega)]
  exact h i j hij (by omega)
theorem AscL.drop {T : List Rat} (h : AscL T) (m : Nat) : AscL (T.drop m) := fun i j hij hj => by
  rw [List.length_drop] at hj
  have e : ∀ i, nd (T.drop m) i = nd T (m + i) := fun i => by
    rw [nd, nd, List.getD_eq_getElem?_getD, List.getD_eq_getElem?_getD, List.getElem?_drop]
  rw [e i, e j]
  exact h _ _ (by omega) (by omega)
def wnd (T : List Rat) (i k : Nat) : List Rat := (List.range' i k).map (nd T)
/-! sizes of the table -/
/-! the sum: as the program and the law add it up -/
theorem CN.padd : ∀ {xs ys : List Rat} {N M : Nat} {D : Int}, CN N D xs → CN M D ys → CN (N + M) D (padd xs ys)
  | [], ys, N, M, D, _, h2 => h2.mono (by omega)
  | a :: r, [], N, M, D, h1, _ => h1.mono (by omega)
  | a :: r, b :: q, N, M, D, h1, h2 => fun z hz => by
    rcases List.mem_cons.mp hz with hz | hz
    · subst hz
      obtain ⟨A, a1, a2⟩ := h1 a (by simp)
      obtain ⟨B, b1, b2⟩ := h2 b (by simp)
      exact ⟨A + B, by rw [Rat.intCast_add, ← a1, ← b1]; grind, by omega⟩
    · exact CN.padd (fun q hq => h1 q (by simp [hq])) (fun q hq => h2 q (by simp [hq])) z hz
end
end PB
set_option Elab.async false
set_option linter.all false
set_option maxRecDepth 100000
set_option maxHeartbeats 1000000
set_option exponentiation.threshold 100000
namespace PB
open PySem
section
variable {k : Nat} {h t : PH} {o : PO} {T xs p : List Rat} {x : Rat} {a b c d m n : Nat}
/-! tuple.count, tuple.index -/
/-! derivatives: sizes -/
theorem cn_dr {N B : Nat} {D : Int} : ∀ (xs : List Rat) (i : Nat), i + xs.length ≤ B + 1 → CN N D xs → CN (N * B) D (ders i xs)
  | [], _, _, _ => fun q hq => by simp [ders] at hq
  | y :: r, i, hi, hc => fun q hq => by
    rw [List.length_cons] at hi
    rcases List.mem_cons.mp hq with hq | hq
    · subst hq
      obtain ⟨A, a1, a2⟩ := hc y (by simp)
      refine ⟨A * (i : Int), ?_, ?_⟩
      · rw [Rat.intCast_mul, ← a1]
        have : ((i : Int) : Rat) = (i : Rat) := rfl
        rw [this]; grind
      · rw [Int.natAbs_mul]; exact Nat.mul_le_mul a2 (by simp; omega)
    · exact cn_dr r (i + 1) (by omega) (fun q hq => hc q (by simp [hq])) q hq
theorem cd_dr (hc : CD a d p) (hl : p.length ≤ 16) : CD (a + 4) d (pder p) := by
  obtain ⟨D, d0, d1, hc⟩ := hc.cn
  have h2 := cn_dr (B := 15) p.tail 1 (by rw [List.length_tail]; omega) fun q hq => hc q (List.mem_of_mem_tail hq)
  refine CN.cd d0 d1 h2 ?_
  have h1 : 1 ≤ 2 ^ a := Nat.one_le_two_pow
  rw [Nat.pow_add]; omega
theorem Dn_len (p : List Rat) : ∀ j, (Dn j p).length ≤ p.length
  | 0 => Nat.le_refl _
  | j + 1 => by rw [Dn, pder_len]; have := Dn_len p j; omega
theorem Dn_cd (hc : CD a d p) (hl : p.length ≤ 16) : ∀ j, CD (a + 4 * j) d (Dn j p)
  | 0 => hc
  | j + 1 => (cd_dr (Dn_cd hc hl j) (by have := Dn_len p j; omega)).mono (by omega) (by omega)
theorem Dn_all (hc : CD a d p) (hl : p.length ≤ 16) {j : Nat} (h1 : a + 4 * j ≤ n) (h2 : d ≤ n) : AllB n (Dn j p) := (Dn_cd hc hl j).all h1 h2
/-! the data of a polynomial -/
end
end PB
set_option Elab.async false
set_option linter.all false
set_option maxRecDepth 100000
set_option maxHeartbeats 2000000
set_option exponentiation.threshold 100000
namespace PB
open PySem
section
variable {k : Nat} {h t : PH} {o : PO} {T xs p ds : List Rat} {x : Rat} {a b c d m n : Nat}
theorem zips_map {α β : Type} (f : α → PV) (g : β → PV) : ∀ (xs : List α) (ys : List β), zips (xs.map f) (ys.map g) = (xs.zip ys).map fun p => PV.wtup [f p.1, g p.2]
  | [], _ => by cases ‹List β› <;> rfl
  | _ :: _, [] => rfl
  | x :: xs, y :: ys => by rw [List.map_cons, List.map_cons, zips, zips_map f g xs ys]; rfl
theorem idx_ref {q i : Nat} {ys : List Rat} {y : Rat} (h1 : h[q]? = some (.lst (frs ys))) (h2 : ys[i]? = some y) : idxop (.ref q) (.int (i : Nat)) h = .ok (fr y) h := by
  have hi := (List.getElem?_eq_some_iff.mp h2).1
  rw [idx_lst h1 hi, List.getD_eq_getElem?_getD, h2]; rfl
/-- sizes that data may have -/
structure Nds (E N : Nat) (T ds : List Rat) : Prop where
  asc : AscL T
  fT : ∀ x ∈ T, Fq 1 12 x
  fd : ∀ x ∈ ds, Fq E N x
  len : ds.length = T.length
  one : 1 ≤ T.length
  five : T.length ≤ 5
  hE : 9 * E ≤ 500
  hN : N ≤ 500
theorem Nds.take {E N : Nat} (h : Nds E N T ds) (hm : 1 ≤ m) : Nds E N (T.take m) (ds.take m) :=
  ⟨h.asc.take m, fun x hx => h.fT x (List.mem_of_mem_take hx), fun x hx => h.fd x (List.mem_of_mem_take hx), by rw [List.length_take, List.length_take, h.len], by have := h.one; rw [List.length_take]; omega, by have := h.five; rw [List.length_take]; omega, h.hE, h.hN⟩
end
end PB
set_option Elab.async false
set_option linter.all false
set_option maxRecDepth 100000
set_option maxHeartbeats 2000000
set_option exponentiation.threshold 100000
namespace PB
open PySem
section
variable {k : Nat} {h t : PH} {o : PO} {T xs p ds : List Rat} {x : Rat} {a b c d m n : Nat}
theorem lslopes_ok {n : Nat} (hc : CD a d p) (hl : p.length ≤ 16) (ha : a ≤ 1000) (hd : d ≤ 1000) (hn : n ≤ 10) (hk : 4 ≤ k) : callF G k 61 [pol p, .int (n : Nat)] h = .ok (pol (Dn n p)) h := by
  obtain ⟨k, rfl⟩ := Nat.exists_eq_add_of_le hk
  rw [Nat.add_comm]
  refine of_to ?_
  rw [callF_eq (f := f__law_slopes) rfl rfl, to_bind]
  simp only [f__law_slopes, c__law_slopes]
  simp [List.replicate]
  refine forR_to0 n (S := fun j s h' => ∃ s3, s = [some (pol p), some (.int (n : Nat)), some (pol (Dn j p)), s3] ∧ h' = h) rfl (by omega) ?_ ?_ ?_
  · exact ⟨none, rfl, rfl⟩
  · rintro j s h' hj ⟨s3, rfl, rfl⟩
    have eS := lp_slope_ok (k := k) (h := h') (Dn_all (n := 1100) hc (by omega) (j := j) (by omega) (by omega)) (by omega) (by have := Dn_len p j; omega)
    simp [eS]; rfl
  · rintro s h' ⟨s3, rfl, rfl⟩
    simp
/-- a number is put in its place -/
theorem AscL.put {F : List Rat} (hA : AscL F) {i : Nat} (hi : i ≤ F.length) (h1 : ∀ j, j < i → nd F j ≤ x) (h2 : i < F.length → x ≤ nd F i) : AscL (F.take i ++ [x] ++ F.drop i) := fun a b hab hb => by
  have e : ∀ j, j < (F.take i ++ [x] ++ F.drop i).length → nd (F.take i ++ [x] ++ F.drop i) j = if j < i then nd F j else if j = i then x else nd F (j - 1) := fun j hj => by
    have hti : (F.take i).length = i := by rw [List.length_take]; omega
    refine nd_of ?_
    rw [List.append_assoc]
    by_cases c1 : j < i
    · rw [if_pos c1, List.getElem?_append_left (by omega), List.getElem?_take_of_lt c1, nd_get (by omega)]
    · rw [if_neg c1, List.getElem?_append_right (by omega), hti]
      by_cases c2 : j = i
      · subst c2; rw [if_pos rfl, Nat.sub_self]; rfl
      · rw [if_neg c2]
        have hl : (F.take i ++ [x] ++ F.drop i).length = F.length + 1 := by simp; omega
        rw [show j - i = (j - 1 - i) + 1 from by omega, List.singleton_append, List.getElem?_cons_succ, List.getElem?_drop, show i + (j - 1 - i) = j - 1 from by omega, nd_get (by omega)]
  have hl : (F.take i ++ [x] ++ F.drop i).length = F.length + 1 := by simp; omega
  rw [hl] at hb
  rw [e a (by omega), e b (by omega)]
  by_cases a1 : a < i
  · rw [if_pos a1]
    by_cases b1 : b < i
    · rw [if_pos b1]; exact hA a b hab (by omega)
    · rw [if_neg b1]
      by_cases b2 : b = i
      · rw [if_pos b2]; exact h1 a a1
      · rw [if_neg b2]; exact hA a (b - 1) (by omega) (by omega)
  · have b1 : ¬ b < i := by omega
    rw [if_neg a1, if_neg b1]
    by_cases a2 : a = i
    · rw [if_pos a2]
      by_cases b2 : b = i
      · rw [if_pos b2]; exact Rat.le_refl
      · rw [if_neg b2]
        exact Rat.le_trans (h2 (by omega)) (hA i (b - 1) (by omega) (by omega))
    · have b2 : ¬ b = i := by omega
      rw [if_neg a2, if_neg b2]
      exact hA (a - 1) (b - 1) (by omega) (by omega)
theorem idx_atH {q i : Nat} {xs : List PV} {v : PV} (h1 : h[q]? = some (.lst xs)) (h2 : xs[i]? = some v) : idxop (.ref q) (.int (i : Nat)) h = .ok v h := by
  have hit : items h (.ref q) = some xs := by simp only [items, h1]
  have hat : L2.atI xs (i : Nat) = some v := by rw [atI_nn (by omega), Int.toNat_natCast, h2]
  simp only [idxop, hit, hat]
theorem dr_fq {e n : Nat} {p : List Rat} (h : ∀ q ∈ p, Fq e n q) (hl : p.length ≤ 16) : ∀ q ∈ pder p, Fq e (n + 4) q := by
  have hc : ∀ (xs : List Rat) (i : Nat), i + xs.length ≤ 16 → (∀ q ∈ xs, Fq e n q) → ∀ q ∈ ders i xs, Fq e (n + 4) q := by
    intro xs
    induction xs with
    | nil => intro i _ _ q hq; simp [ders] at hq
    | cons y r ih =>
      intro i hi hx q hq
      rw [List.length_cons] at hi
      rcases List.mem_cons.mp hq with hq | hq
      · subst hq
        have h1 := Fq.int (n := 4) (i : Int) (by simp; omega)
        exact ((hx y (by simp)).mul h1).up (by omega) (by omega)
      · exact ih (i + 1) (by omega) (fun q hq => hx q (by simp [hq])) q hq
  exact hc p.tail 1 (by rw [List.length_tail]; omega) fun q hq => h q (List.mem_of_mem_tail hq)
theorem Dn_fq {e n : Nat} {p : List Rat} (h : ∀ q ∈ p, Fq e n q) (hl : p.length ≤ 16) : ∀ j, ∀ q ∈ Dn j p, Fq e (n + 4 * j) q
  | 0 => h
  | j + 1 => fun q hq => (dr_fq (Dn_fq h hl j) (by have := Dn_len p j; omega) q hq).up (by omega) (by omega)
end
end PB
set_option Elab.async false
set_option linter.all false
set_option maxRecDepth 100000
set_option maxHeartbeats 1000000
set_option exponentiation.threshold 100000
namespace PB
open PySem
section
variable {T : List Rat} {b : Rat} {p p' d i j : Nat} {X : Rat}
/-! derivatives of a basis function's polynomials -/
/-! windows: how often b stands there, the product of the other differences -/
def pr (b : Rat) : List Rat → Rat
  | [] => 1
  | x :: r => if x = b then pr b r else (x - b) * pr b r
def mw (T : List Rat) (b : Rat) (i n : Nat) : Nat := (wnd T i n).count b
theorem zero_div' (a : Rat) : 0 / a = 0 := by rw [Rat.div_def, Rat.zero_mul]
end
end PB
set_option Elab.async false
set_option linter.all false
set_option maxRecDepth 100000
set_option maxHeartbeats 1000000
set_option exponentiation.threshold 100000
namespace PB
open PySem
section
variable {k : Nat} {h t : PH} {o : PO} {T : List Rat} {b : Rat} {p p' d i j n : Nat} {X : Rat}
/-! the jumps of basis functions -/
/-! places where the knots change -/
end
end PB
set_option Elab.async false
set_option linter.all false
set_option maxRecDepth 100000
set_option maxHeartbeats 2000000
set_option exponentiation.threshold 100000
namespace PB
open PySem
section
variable {k : Nat} {h t : PH} {o : PO} {T T' : List Rat} {b : Rat} {p d e i j n c : Nat} {x : Rat}
/-! sizes of the polynomials of a basis function on any span -/
/-! pieces of a basis function -/
end
end PB
set_option Elab.async false
set_option linter.all false
set_option maxRecDepth 100000
set_option maxHeartbeats 1000000
set_option exponentiation.threshold 100000
namespace PB
open PySem
section
variable {T : List Rat} {b : Rat} {p p' d i j n : Nat} {X : Rat}
/-! integrals over all spans -/
/-! the values right of a knot -/
end
end PB
set_option Elab.async false
set_option linter.all false
set_option maxRecDepth 100000
set_option maxHeartbeats 1000000
set_option exponentiation.threshold 100000
namespace PB
open PySem
section
variable {k : Nat} {h t : PH} {o : PO} {T M P : List Rat} {x y : Rat} {p d i j n a e c : Nat}
/-! sizes of integrals -/
theorem pe_fqm {e n : Nat} (hx : Fq 1 18 x) : ∀ {p : List Rat}, (∀ q ∈ p, Fq e n q) → Fq (e + p.length) (n + 19 * p.length + 1) (pe p x)
  | [], _ => Fq.zero'
  | a :: r, h => by
    have ih := pe_fqm hx (p := r) fun q hq => h q (by simp [hq])
    have h1 := hx.mul ih
    have h2 := (h a (by simp)).up (e' := 1 + (e + r.length)) (n' := 18 + (n + 19 * r.length + 1)) (by omega) (by omega)
    rw [List.length_cons]
    exact (h2.add h1).up (by omega) (by omega)
end
end PB
set_option Elab.async false
set_option linter.all false
set_option maxRecDepth 100000
set_option maxHeartbeats 4000000
set_option exponentiation.threshold 100000
namespace PB
open PySem
section
variable {k : Nat} {h t w : PH} {o : PO} {N W L q b n : Nat} {rs : List Nat} {M : Nat → List Rat} {F : Nat → Nat}
/-! the rank of matrices whose elimination changes nothing -/
structure Stair (N W : Nat) (M : Nat → List Rat) (F : Nat → Nat) : Prop where
  z : F 0 = 0
  len : ∀ i, i < N → (M i).length = W
  st : ∀ c, c < W → (F c < N ∧ F (c + 1) = F c + 1 ∧ nd (M (F c)) c ≠ 0 ∧ ∀ i, F c < i → i < N → nd (M i) c = 0) ∨ (F (c + 1) = F c ∧ ∀ i, F c ≤ i → i < N → nd (M i) c = 0)
  le : ∀ c, c ≤ W → F c ≤ N
/-- rows in the heap -/
structure Rwm (h : PH) (L : Nat) (rs : List Nat) (N : Nat) (M : Nat → List Rat) : Prop where
  cell : h[L]? = some (.lst (rs.map PV.ref))
  len : rs.length = N
  row : ∀ i r, rs[i]? = some r → h[r]? = some (.lst (frs (M i))) ∧ r ≠ L
theorem Rwm.app (hR : Rwm h L rs N M) (w : PH) : Rwm (h ++ w) L rs N M where
  cell := by
    have := (List.getElem?_eq_some_iff.mp hR.cell).1
    rw [List.getElem?_append_left this]; exact hR.cell
  len := hR.len
  row := fun i r hr => by
    obtain ⟨h1, h2⟩ := hR.row i r hr
    have := (List.getElem?_eq_some_iff.mp h1).1
    exact ⟨by rw [List.getElem?_append_left this]; exact h1, h2⟩
theorem Rwm.put (hR : Rwm h L rs N M) {i : Nat} (hi : i < N) : Rwm ((h ++ [PO.lst (frs (M i))] : PH).set L (PO.lst ((rs.set i h.length).map PV.ref))) L (rs.set i h.length) N M := by
  have hL := (List.getElem?_eq_some_iff.mp hR.cell).1
  refine ⟨?_, by rw [List.length_set]; exact hR.len, fun j r hr => ?_⟩
  · rw [List.getElem?_set_self (by rw [List.length_append]; omega)]
  · by_cases hj : j = i
    · subst hj
      rw [List.getElem?_set_self (by rw [hR.len]; exact hi)] at hr
      cases hr
      refine ⟨?_, by omega⟩
      rw [List.getElem?_set_ne (by omega), List.getElem?_append_right (Nat.le_refl _), Nat.sub_self]; rfl
    · rw [List.getElem?_set_ne (Ne.symm hj)] at hr
      obtain ⟨h1, h2⟩ := hR.row j r hr
      have h3 := (List.getElem?_eq_some_iff.mp h1).1
      refine ⟨?_, h2⟩
      rw [List.getElem?_set_ne (Ne.symm h2), List.getElem?_append_left h3]; exact h1
theorem Rwm.at_ (hR : Rwm h L rs N M) {i : Nat} (hi : i < N) : ∃ r, rs[i]? = some r ∧ idxop (.ref L) (.int (i : Nat)) h = .ok (.ref r) h ∧ h[r]? = some (.lst (frs (M i))) := by
  have hi' : i < rs.length := by rw [hR.len]; exact hi
  refine ⟨rs[i], List.getElem?_eq_getElem hi', idx_atH hR.cell (by rw [List.getElem?_map, List.getElem?_eq_getElem hi']; rfl), (hR.row i _ (List.getElem?_eq_getElem hi')).1⟩
theorem row_at {r c : Nat} {xs : List Rat} (hr : h[r]? = some (.lst (frs xs))) (hc : c < xs.length) : idxop (.ref r) (.int (c : Nat)) h = .ok (fr (nd xs c)) h := idx_ref hr (nd_get hc)
theorem seq_data' (hR : Rwm h L rs N M) : ∃ ds, toD h 12 (.ref L) = some (.list ds) ∧ ds.length = N := by
  have key : ∀ l : List Nat, (∀ r ∈ l, ∃ xs, h[r]? = some (.lst (frs xs))) → ∃ ds, toDs (toD h 11) (l.map PV.ref) = some ds ∧ ds.length = l.length := fun l => by
    induction l with
    | nil => intro _; exact ⟨[], rfl, rfl⟩
    | cons r l ih =>
      intro hl
      obtain ⟨ds, d1, d2⟩ := ih fun s hs => hl s (by simp [hs])
      obtain ⟨xs, hx⟩ := hl r (by simp)
      have e : toD h 11 (.ref r) = some (.list (dats (frs xs))) := by
        have z := toDs_plain (h := h) 10 (frs xs) plains_frs
        simp only [toD, hx, z, Option.map_some]
      exact ⟨_ :: ds, by rw [List.map_cons, toDs, e, d1], by simp [d2]⟩
  obtain ⟨ds, d1, d2⟩ := key rs fun r hr => by
    obtain ⟨i, hi⟩ := List.mem_iff_getElem?.mp hr
    exact ⟨_, (hR.row i r hi).1⟩
  exact ⟨ds, by simp only [toD, hR.cell, d1, Option.map_some], by rw [d2, hR.len]⟩
theorem eq_none (hR : Rwm h L rs N M) {e : Nat} (he : h[e]? = some (.lst [])) : eqD h (.ref L) (.ref e) = some (decide (N = 0)) := by
  obtain ⟨ds, d1, d2⟩ := seq_data' hR
  have d3 : toD h 12 (.ref e) = some (.list []) := by simp only [toD, he, toDs, Option.map_some]
  unfold eqD
  rw [d1, d3]
  simp only
  cases ds with
  | nil =>
    have : N = 0 := by rw [← d2]; rfl
    subst this; rfl
  | cons a r =>
    have : N ≠ 0 := by rw [← d2]; simp
    rw [decide_eq_false this]; rfl
theorem set_same (hR : Rwm h L rs N M) {i r : Nat} (hi : i < N) (hr : rs[i]? = some r) : setop (.ref L) (.int (i : Nat)) (.ref r) h = .ok () h := by
  have hL := (List.getElem?_eq_some_iff.mp hR.cell)
  have hlt := (List.getElem?_eq_some_iff.mp hr)
  have hx : L2.ixN (rs.map PV.ref).length (i : Nat) = some i := by
    unfold L2.ixN
    rw [List.length_map, hR.len]
    simp
    omega
  have e1 : (rs.map PV.ref).set i (.ref r) = rs.map PV.ref := by
    rw [← List.map_set]
    congr 1
    obtain ⟨h1, h2⟩ := hlt
    rw [← h2]; exact List.set_getElem_self h1
  have e2 : h.set L (.lst (rs.map PV.ref)) = h := by
    obtain ⟨h1, h2⟩ := hL
    rw [← h2]; exact List.set_getElem_self h1
  simp only [setop, hR.cell, hx, e1, e2]
theorem set_row {x : PO} {v : Nat} (hR : Rwm h L rs N M) {i : Nat} (hi : i < N) : setop (.ref L) (.int (i : Nat)) (.ref v) (h ++ [x]) = .ok () ((h ++ [x] : PH).set L (PO.lst ((rs.set i v).map PV.ref))) := by
  have hc := (hR.app [x]).cell
  have hx : L2.ixN (rs.map PV.ref).length (i : Nat) = some i := by
    unfold L2.ixN
    rw [List.length_map, hR.len]
    simp
    omega
  simp only [setop, hc, hx, List.map_set]
theorem lrank_to {Q : PV → PH → Prop} (hS : Stair N W M F) (hb : ∀ i, i < N → AllB b (M i)) (hbz : 2 * b + 10 < 4900) (hR : Rwm h q rs N M) (hN : N ≤ 100) (hW : W ≤ 100) (hk : 3 ≤ k) (hq : Q (.int (F (if N = 0 then 0 else W) : Nat)) h) : (callF G k 204 [.ref q] h).To Q := by
  obtain ⟨k, rfl⟩ := Nat.exists_eq_add_of_le hk
  rw [Nat.add_comm]
  rw [callF_eq (f := f__law_rank) rfl rfl, to_bind]
  simp only [f__law_rank, c__law_rank]
  have hit : items h (.ref q) = some (rs.map PV.ref) := by simp only [items, hR.cell]
  have hlq : leanOf h (.ref q) = [(q, .lst (rs.map PV.ref))] := by simp only [leanOf, hR.cell]
  have hrl := hR.len
  have hM : many = 1000000 := rfl
  simp [List.replicate, hR.cell]
  refine ⟨by omega, ?_⟩
  refine compL_to PV.ref rs (S := fun r ys h' => ∃ i, rs.drop i = r ∧ i ≤ N ∧ ys = (List.range' h.length i).map PV.ref ∧ h' = h ++ (List.range' 0 i).map (fun j => PO.lst (frs (M j)))) ⟨0, by simp, by omega, by simp, by simp⟩ (fun r ys h' ⟨i, _, _, _, e⟩ => ?_) ?_ ?_
  · subst e
    have hql := (List.getElem?_eq_some_iff.mp hR.cell).1
    simp only [leans, List.all_cons, List.all_nil, Bool.and_true]
    rw [List.getElem?_append_left hql, hR.cell]
    exact PO.same_rfl _
  · rintro a r ys h' ⟨i, e1, e2, rfl, rfl⟩
    have hi : i < rs.length := by
      refine Classical.byContradiction fun z => ?_
      rw [List.drop_eq_nil_of_le (by omega)] at e1; cases e1
    rw [List.drop_eq_getElem_cons hi] at e1
    obtain ⟨ea, er⟩ := List.cons.inj e1
    have hrow := (hR.row i a (by rw [List.getElem?_eq_getElem hi, ea])).1
    have hal := (List.getElem?_eq_some_iff.mp hrow).1
    have hg : ∀ w : PH, (h ++ w)[a]? = some (.lst (frs (M i))) := fun w => by rw [List.getElem?_append_left hal]; exact hrow
    simp [compF, wipe, hg, alloc]
    refine ⟨i + 1, er, by omega, ?_, ?_⟩
    · rw [List.range'_concat, List.map_append]; simp
    · rw [List.range'_concat, List.map_append]; simp
  rintro ys h' ⟨i, e1, e2, rfl, rfl⟩
  have hiN : i = N := by
    have := List.drop_eq_nil_iff.mp e1
    omega
  subst hiN
  clear e1 e2
  obtain ⟨H, hH⟩ : ∃ H : PH, H = h ++ ((List.range' 0 i).map (fun j => PO.lst (frs (M j))) ++ [.lst ((List.range' h.length i).map PV.ref)]) := ⟨_, rfl⟩
  obtain ⟨L, hL⟩ : ∃ L, L = h.length + i := ⟨_, rfl⟩
  have hRH : Rwm H L (List.range' h.length i) i M := by
    refine ⟨?_, by simp, fun j r hr => ?_⟩
    · rw [hH, hL, List.getElem?_append_right (by omega), Nat.add_sub_cancel_left, List.getElem?_append_right (by simp)]; simp
    · have hj : j < i := by
        have := (List.getElem?_eq_some_iff.mp hr).1
        simpa using this
      rw [List.getElem?_range' hj] at hr
      cases hr
      refine ⟨?_, by omega⟩
      rw [hH, List.getElem?_append_right (by omega), List.getElem?_append_left (by simp; omega), List.getElem?_map, List.getElem?_range' (by omega)]
      simp
  have hHl : H.length = L + 1 := by rw [hH, hL]; simp; omega
  have heq0 : eqD (H ++ [.lst []]) (.ref L) (.ref (L + 1)) = some (decide (i = 0)) := eq_none (hRH.app _) (by rw [← hHl, List.getElem?_append_right (Nat.le_refl _), Nat.sub_self]; rfl)
  have hR1 : Rwm (H ++ [.lst []]) L (List.range' h.length i) i M := hRH.app _
  obtain ⟨H1, hH1⟩ : ∃ H1 : PH, H1 = H ++ [.lst []] := ⟨_, rfl⟩
  obtain ⟨u1, hu1⟩ : ∃ u1 : PH, H1 = h ++ u1 := ⟨_, by rw [hH1, hH, List.append_assoc]⟩
  have hH1' : H1 = h ++ ((List.range' 0 i).map (fun j => PO.lst (frs (M j))) ++ [.lst ((List.range' h.length i).map PV.ref), .lst []]) := by rw [hH1, hH]; simp
  have hL' : L + 1 = h.length + (i + 1) := by omega
  rw [← hH1] at heq0 hR1
  by_cases hi0 : i = 0
  · rw [hi0] at hq
    have hz : F 0 = 0 := hS.z
    rw [decide_eq_true hi0, hH1', hL', hL] at heq0
    simp [alloc, heq0]
    rw [← hH1', hu1]
    refine forR_to0 0 (S := fun c st h' => st = [some (.ref q), some (.int 0), none, some (.ref (h.length + i)), some (.int 0), none, none, none, none, none, none, none] ∧ h' = h ++ u1) rfl (by omega) ⟨rfl, rfl⟩ (fun c st h' hc => by omega) ?_
    rintro st h' ⟨rfl, rfl⟩
    simp only [if_true, hz, Int.natCast_zero] at hq
    simp
    exact hq
  obtain ⟨r0, hr0, hi1, hi2⟩ := hR1.at_ (i := 0) (by omega)
  have hW0 : (M 0).length = W := hS.len 0 (by omega)
  rw [decide_eq_false hi0, hH1', hL', hL] at heq0
  rw [hH1', hL] at hi1
  rw [hH1'] at hi2
  simp only [Int.natCast_zero] at hi1
  simp [alloc, heq0, hi1, hi2, hW0]
  rw [← hH1', ← hL, hu1]
  rw [hu1] at hR1
  clear heq0 hi1 hi2 hH1' hH1 hH hRH hit hlq
  refine forR_to0 W (S := fun c st h' => ∃ u rs s2 s5 s6 s8 s9, st = [some (.ref q), some (.int (W : Nat)), s2, some (.ref L), some (.int (F c : Nat)), s5, s6, none, s8, s9, none, none] ∧ h' = h ++ u ∧ Rwm h' L rs i M) rfl (by omega) ⟨u1, _, none, none, none, none, none, by rw [hS.z]; rfl, rfl, hR1⟩ ?_ ?_
  · rintro c st h' hc ⟨u, rs, s2, s5, s6, s8, s9, rfl, rfl, hRw⟩
    have hFN := hS.le c (by omega)
    have hlen : items (h ++ u) (.ref L) = some (rs.map PV.ref) := by simp only [items, hRw.cell]
    have hrl2 := hRw.len
    have hcell := hRw.cell
    have hpv : ∀ p, p < i → ∃ r, idxop (.ref L) (.int (p : Nat)) (h ++ u) = .ok (.ref r) (h ++ u) ∧ idxop (.ref r) (.int (c : Nat)) (h ++ u) = .ok (fr (nd (M p) c)) (h ++ u) := fun p hp => by
      obtain ⟨r, _, h1, h2⟩ := hRw.at_ hp
      exact ⟨r, h1, row_at h2 (by rw [hS.len p hp]; exact hc)⟩
    simp [hcell, hrl2]
    refine compR_to (F c) i (S := fun p ys h' => ys = (((List.range' (F c) (p - F c)).filter fun p => decide (nd (M p) c ≠ 0)).map fun p : Nat => PV.int p) ∧ h' = h ++ u) rfl rfl hFN (by omega) ⟨by simp, rfl⟩ ?_ ?_
    · rintro p ys h' hp1 hp2 ⟨rfl, rfl⟩
      obtain ⟨r, g1, g2⟩ := hpv p hp2
      have e : p + 1 - F c = (p - F c) + 1 := by omega
      have hsnoc : (List.range' (F c) (p + 1 - F c)).filter (fun p => decide (nd (M p) c ≠ 0)) = (List.range' (F c) (p - F c)).filter (fun p => decide (nd (M p) c ≠ 0)) ++ if nd (M p) c ≠ 0 then [p] else [] := by
        rw [e, List.range'_concat, List.filter_append, show F c + 1 * (p - F c) = p by omega]
        by_cases hz : nd (M p) c ≠ 0
        · simp [hz]
        · simp [hz]
      rw [hsnoc, List.map_append]
      generalize nd (M p) c = v at *
      by_cases hz : v = 0
      · simp [compF, wipe, g1, g2, fr0, eqD_fr, hz]
      · simp [compF, wipe, g1, g2, fr0, eqD_fr, hz]
    · rintro ys h' ⟨rfl, rfl⟩
      obtain ⟨H, hH⟩ : ∃ H : PH, H = h ++ u := ⟨_, rfl⟩
      rw [← hH] at hRw hpv ⊢
      have gA : ∀ a (w : PH), (H ++ a :: w)[H.length]? = some a := fun a w => by rw [List.getElem?_append_right (Nat.le_refl _), Nat.sub_self]; rfl
      have gA1 : ∀ a b (w : PH), (H ++ a :: b :: w)[H.length + 1]? = some b := fun a b w => by rw [List.getElem?_append_right (by omega), Nat.add_sub_cancel_left]; rfl
      rcases hS.st c hc with ⟨p1, p2, p3, p4⟩ | ⟨p2, p4⟩
      · have hfl : (List.range' (F c) (i - F c)).filter (fun p => decide (nd (M p) c ≠ 0)) = [F c] := by
          rw [show i - F c = (i - F c - 1) + 1 by omega, List.range'_succ, List.filter_cons, if_pos (by simpa using p3), List.filter_eq_nil_iff.mpr]
          intro p hp
          rw [List.mem_range'_1] at hp
          simpa using p4 p (by omega) (by omega)
        rw [hfl]
        have heq : eqD (H ++ [.lst [.int (F c : Nat)], .lst []]) (.ref H.length) (.ref (H.length + 1)) = some false := by
          rw [eqD_lst (gA _ _) (gA1 _ _ _) (by simp [plains, plain]) (by simp [plains])]; simp
        have hR2 : Rwm (H ++ [.lst [.int (F c : Nat)], .lst []]) L rs i M := hRw.app _
        obtain ⟨rF, f1, f2, f3⟩ := hR2.at_ p1
        have f4 : idxop (.ref H.length) (.int 0) (H ++ [.lst [.int (F c : Nat)], .lst []]) = .ok (.int (F c : Nat)) (H ++ [.lst [.int (F c : Nat)], .lst []]) := by
          have := idx_atH (h := H ++ [.lst [.int (F c : Nat)], .lst []]) (i := 0) (gA (.lst [.int (F c : Nat)]) [.lst []]) (v := .int (F c : Nat)) rfl
          simpa using this
        have hset : setop (.ref L) (.int (F c : Nat)) (.ref rF) (H ++ [.lst [.int (F c : Nat)], .lst []]) = .ok () (H ++ [.lst [.int (F c : Nat)], .lst []]) := set_same hR2 p1 f1
        have hc2 := hR2.cell
        have hrl3 := hR2.len
        simp [alloc, heq, f2, f4, hset, hc2, hrl3]
        obtain ⟨nH, hnH⟩ : ∃ nH, nH = H.length := ⟨_, rfl⟩
        have hRH2 : ∃ u2, H ++ [.lst [.int (F c : Nat)], .lst []] = h ++ u2 := ⟨u ++ [.lst [.int (F c : Nat)], .lst []], by rw [hH]; simp⟩
        rw [← hnH]
        clear heq f2 f3 f4 hset hc2 hrl3 hfl hcell hpv
        generalize (H ++ [.lst [.int (F c : Nat)], .lst []] : PH) = H5 at *
        refine forR_to (F c + 1) i (S := fun p st h' => ∃ u rs s6 s8 s9, st = [some (.ref q), some (.int (W : Nat)), some (.int (c : Nat)), some (.ref L), some (.int (F c : Nat)), some (.ref nH), s6, none, s8, s9, none, none] ∧ h' = h ++ u ∧ Rwm h' L rs i M) rfl rfl (by omega) (by omega) ?_ ?_ ?_
        · obtain ⟨u2, hu2⟩ := hRH2
          exact ⟨u2, rs, s6, s8, s9, rfl, hu2, hR2⟩
        · rintro p st h' hp1 hp2 ⟨u3, rs3, s6, s8, s9, rfl, rfl, hR3⟩
          obtain ⟨rp, b1, b2, b3⟩ := hR3.at_ hp2
          obtain ⟨rF3, d1, d2, d3⟩ := hR3.at_ p1
          have lp := hS.len p hp2
          have lF := hS.len (F c) p1
          have b4 := row_at b3 (c := c) (by rw [lp]; exact hc)
          have d4 := row_at d3 (c := c) (by rw [lF]; exact hc)
          rw [p4 p (by omega) hp2] at b4
          have bm : Bd b (nd (M (F c)) c) := hb (F c) p1 _ (nd_mem (by rw [lF]; exact hc))
          have e1 := fun H => lover_ok (k := k) (h := H) (bd0 b) bm p3 (by omega)
          rw [zero_div'] at e1
          have hzm := zips_map fr fr (M p) (M (F c))
          rw [map_fr, map_fr] at hzm
          have hcl := fun G1 hG => compL_map (h := h ++ u3) (F := G1) (l := [(rp, PO.lst (frs (M p))), (rF3, PO.lst (frs (M (F c))))]) (fun pr : Rat × Rat => PV.wtup [fr pr.1, fr pr.2]) (fun pr => fr pr.1) (by
            simp only [leans, List.all_cons, List.all_nil, Bool.and_true, b3, d3]
            rw [PO.same_rfl, PO.same_rfl]; rfl) ((M p).zip (M (F c))) hG
          have hfst : ((M p).zip (M (F c))).map (fun pr => fr pr.1) = frs (M p) := by
            have := List.map_fst_zip (l₁ := M p) (l₂ := M (F c)) (by rw [lp, lF]; exact Nat.le_refl _)
            conv => rhs; rw [← this]
            show _ = (((M p).zip (M (F c))).map Prod.fst).map fr
            rw [List.map_map]; rfl
          rw [hfst, ← hzm] at hcl
          have hset := set_row (v := (h ++ u3).length) (x := PO.lst (frs (M p))) hR3 hp2
          have hlz : (zips (frs (M p)) (frs (M (F c)))).length ≤ 1000000 := by
            rw [hzm]; simp; omega
          have hmem : ∀ pr ∈ (M p).zip (M (F c)), Bd b pr.1 ∧ Bd b pr.2 := fun pr hpr => ⟨hb p hp2 _ (List.of_mem_zip hpr).1, hb (F c) p1 _ (List.of_mem_zip hpr).2⟩
          simp [b2, b4, d2, d4, e1, b3, d3]
          refine ⟨hlz, ?_⟩
          rw [hcl _ (fun pr hpr => by
            obtain ⟨m1, m2⟩ := hmem pr hpr
            have t1 := fun H => ltimes_ok (k := k) (h := H) (bd0 b) m2 (by omega)
            have t2 := fun H => lminus_ok (k := k) (h := H) m1 (bd0 b) (by omega)
            rw [Rat.zero_mul] at t1
            rw [show pr.1 - 0 = pr.1 by grind] at t2
            obtain ⟨x1, y1⟩ := pr
            simp only at t1 t2 ⊢
            simp [compF, wipe, t1, t2]), to_ok]
          have hput := hR3.put hp2
          simp [alloc]
          simp at hset
          rw [hset, to_ok]
          have hput' : Rwm ((h ++ (u3 ++ [PO.lst (frs (M p))])).set L (PO.lst ((List.map PV.ref rs3).set p (PV.ref (h.length + u3.length))))) L (rs3.set p (h ++ u3).length) i M := by
            have := hput
            rw [List.map_set, List.append_assoc, List.length_append] at this
            rw [List.length_append]
            exact this
          have e9 : (h ++ (u3 ++ [PO.lst (frs (M p))])).set L (PO.lst ((List.map PV.ref rs3).set p (PV.ref (h.length + u3.length)))) = h ++ ((u3 ++ [PO.lst (frs (M p))]).set (L - h.length) (PO.lst ((List.map PV.ref rs3).set p (PV.ref (h.length + u3.length))))) := List.set_append_right _ _ (by omega)
          simp
          exact ⟨⟨_, e9⟩, _, hput'⟩
        · rintro st h' ⟨u3, rs3, s6, s8, s9, rfl, rfl, hR3⟩
          simp
          exact ⟨by rw [p2]; simp, rs3, hR3⟩
      · have hfl : (List.range' (F c) (i - F c)).filter (fun p => decide (nd (M p) c ≠ 0)) = [] := by
          rw [List.filter_eq_nil_iff]
          intro p hp
          rw [List.mem_range'_1] at hp
          simpa using p4 p (by omega) (by omega)
        rw [hfl]
        have heq : eqD (H ++ [.lst [], .lst []]) (.ref H.length) (.ref (H.length + 1)) = some true := by
          rw [eqD_lst (gA _ _) (gA1 _ _ _) (by simp [plains]) (by simp [plains])]; simp
        simp [alloc, heq]
        exact ⟨by rw [p2], ⟨u ++ [.lst [], .lst []], by rw [hH]; simp⟩, rs, hRw.app _⟩
  · rintro st h' ⟨u, rs, s2, s5, s6, s8, s9, rfl, rfl, hRw⟩
    rw [if_neg hi0] at hq
    simp
    exact hq
end
end PB
set_option Elab.async false
set_option linter.all false
set_option maxRecDepth 100000
set_option maxHeartbeats 4000000
set_option exponentiation.threshold 100000
namespace PB
open PySem
section
variable {k : Nat} {h t w : PH} {o : PO} {N W L q b n d s m i j e c : Nat} {B : List Rat} {x y : Rat}
/-! the conditions at the breaks -/
def mono (e : Nat) : List Rat := List.replicate e 0 ++ [1]
def cv (B : List Rat) (β j e : Nat) : Rat := pe (Dn j (mono e)) (nd B (β + 1))
def cond (B : List Rat) (d s i c : Nat) : Rat :=
  if c / (d + 1) = i / s then cv B (i / s) (i % s) (c % (d + 1)) else if c / (d + 1) = i / s + 1 then -cv B (i / s) (i % s) (c % (d + 1)) else 0
def condR (B : List Rat) (d s m i : Nat) : List Rat := tbl (cond B d s i) (m * (d + 1))
def condF (d s m c : Nat) : Nat := if c / (d + 1) < m - 1 then c / (d + 1) * s + min (c % (d + 1)) s else (m - 1) * s
theorem cv_zero (he : e ≤ 4) (hj : j ≤ 4) (h : e < j) (β : Nat) : cv B β j e = 0 := by
  have key : ∀ e ∈ List.range 5, ∀ j ∈ List.range 5, e < j → Dn j (mono e) = [] := by decide +kernel
  rw [cv, key e (List.mem_range.mpr (by omega)) j (List.mem_range.mpr (by omega)) h]; rfl
theorem cv_ne (he : e ≤ 4) (β : Nat) : cv B β e e ≠ 0 := by
  have key : ∀ e ∈ List.range 5, Dn e (mono e) = [((fctr e : Nat) : Rat)] := by decide +kernel
  rw [cv, key e (List.mem_range.mpr (by omega))]
  simp only [pe]
  rw [Rat.mul_zero, Rat.add_zero]
  exact nat_ne (by have := fctr_pos e; omega)
theorem condR_nd (hc : c < m * (d + 1)) : nd (condR B d s m i) c = cond B d s i c := by
  show (condR B d s m i).getD c 0 = _
  rw [List.getD_eq_getElem?_getD, condR, tbl_getD _ hc]
theorem cond_stair (hd : d ≤ 4) (hs : s ≤ d + 1) (hm : 1 ≤ m) : Stair ((m - 1) * s) (m * (d + 1)) (condR B d s m) (condF d s m) := by
  have hF : ∀ c, condF d s m c ≤ (m - 1) * s := fun c => by
    rw [condF]
    split
    · rename_i h
      have h1 : (c / (d + 1) + 1) * s ≤ (m - 1) * s := Nat.mul_le_mul_right s h
      rw [Nat.succ_mul] at h1
      omega
    · exact Nat.le_refl _
  refine ⟨?_, fun i _ => by rw [condR, tbl_len], fun c hc => ?_, fun c _ => hF c⟩
  · rw [condF, Nat.zero_div, Nat.zero_mod]
    by_cases h : 0 < m - 1
    · rw [if_pos h]; omega
    · rw [if_neg h, show m - 1 = 0 by omega]; omega
  · obtain ⟨b, hb⟩ : ∃ b, b = c / (d + 1) := ⟨_, rfl⟩
    obtain ⟨e, he⟩ : ∃ e, e = c % (d + 1) := ⟨_, rfl⟩
    have hce : c = b * (d + 1) + e := by rw [hb, he, Nat.mul_comm]; exact (Nat.div_add_mod c (d + 1)).symm
    have hed : e ≤ d := by rw [he]; have := Nat.mod_lt c (show 0 < d + 1 by omega); omega
    have hnext : (c + 1) / (d + 1) = (if e = d then b + 1 else b) ∧ (c + 1) % (d + 1) = (if e = d then 0 else e + 1) := by
      by_cases hd' : e = d
      · rw [if_pos hd', if_pos hd']
        have : c + 1 = (d + 1) * (b + 1) := by rw [hce, hd', Nat.mul_comm (d + 1), Nat.succ_mul]; omega
        rw [this]
        exact ⟨Nat.mul_div_cancel_left _ (by omega), Nat.mul_mod_right _ _⟩
      · rw [if_neg hd', if_neg hd']
        have : c + 1 = (e + 1) + (d + 1) * b := by rw [hce, Nat.mul_comm]; omega
        rw [this]
        exact ⟨by rw [Nat.add_mul_div_left _ _ (by omega), Nat.div_eq_of_lt (by omega), Nat.zero_add], by rw [Nat.add_mul_mod_self_left, Nat.mod_eq_of_lt (by omega)]⟩
    have hM : ∀ i, nd (condR B d s m i) c = if b = i / s then cv B (i / s) (i % s) e else if b = i / s + 1 then -cv B (i / s) (i % s) e else 0 := fun i => by
      rw [condR_nd hc, cond, ← hb, ← he]
    have hFc : condF d s m c = if b < m - 1 then b * s + min e s else (m - 1) * s := by rw [condF, ← hb, ← he]
    have hFn : condF d s m (c + 1) = if (if e = d then b + 1 else b) < m - 1 then (if e = d then b + 1 else b) * s + min (if e = d then 0 else e + 1) s else (m - 1) * s := by rw [condF, hnext.1, hnext.2]
    by_cases hbm : b < m - 1
    · rw [if_pos hbm] at hFc
      have hmul : (b + 1) * s ≤ (m - 1) * s := Nat.mul_le_mul_right s hbm
      have hsucc : (b + 1) * s = b * s + s := Nat.succ_mul b s
      by_cases hes : e < s
      · left
        have hF0 : condF d s m c = b * s + e := by rw [hFc]; omega
        have hdiv : (b * s + e) / s = b := by
          rw [Nat.add_comm, Nat.add_mul_div_right _ _ (by omega), Nat.div_eq_of_lt hes, Nat.zero_add]
        have hmod : (b * s + e) % s = e := by
          rw [Nat.add_comm, Nat.add_mul_mod_self_right, Nat.mod_eq_of_lt hes]
        refine ⟨by omega, ?_, ?_, fun i hi1 hi2 => ?_⟩
        · rw [hFn, hF0]
          by_cases hd' : e = d
          · rw [if_pos hd', if_pos hd']
            by_cases hb2 : b + 1 < m - 1
            · rw [if_pos hb2]; omega
            · rw [if_neg hb2]
              have : m - 1 = b + 1 := by omega
              rw [this]; omega
          · rw [if_neg hd', if_neg hd', if_pos hbm]; omega
        · rw [hF0, hM, hdiv, if_pos rfl, hmod]
          exact cv_ne (by omega) b
        · rw [hF0] at hi1
          rw [hM]
          have hdm := Nat.div_add_mod i s
          have hge : b ≤ i / s := (Nat.le_div_iff_mul_le (by omega)).mpr (by omega)
          by_cases hbi : b = i / s
          · rw [if_pos hbi]
            have hlt := Nat.mod_lt i (show 0 < s by omega)
            rw [← hbi, Nat.mul_comm] at hdm
            exact cv_zero (by omega) (by omega) (by omega) _
          · rw [if_neg hbi, if_neg (by omega)]
      · right
        have hF0 : condF d s m c = b * s + s := by rw [hFc]; omega
        refine ⟨?_, fun i hi1 hi2 => ?_⟩
        · rw [hFn, hF0]
          by_cases hd' : e = d
          · rw [if_pos hd', if_pos hd']
            by_cases hb2 : b + 1 < m - 1
            · rw [if_pos hb2]; omega
            · rw [if_neg hb2]
              have : m - 1 = b + 1 := by omega
              rw [this]; omega
          · rw [if_neg hd', if_neg hd', if_pos hbm]; omega
        · rw [hF0] at hi1
          rw [hM]
          by_cases hs0 : s = 0
          · rw [hs0, Nat.mul_zero] at hi2; omega
          · have hge : b + 1 ≤ i / s := (Nat.le_div_iff_mul_le (by omega)).mpr (by omega)
            rw [if_neg (by omega), if_neg (by omega)]
    · right
      rw [if_neg hbm] at hFc
      refine ⟨?_, fun i hi1 hi2 => by omega⟩
      rw [hFn, hFc, if_neg (by split <;> omega)]
theorem condF_end (hm : 1 ≤ m) : condF d s m (m * (d + 1)) = (m - 1) * s := by
  rw [condF, Nat.mul_div_cancel _ (by omega), if_neg (by omega)]
def Asc' (B : List Rat) : Prop := ∀ i, i + 1 < B.length → nd B i < nd B (i + 1)
theorem space_size_ok (hA : Asc' B) (hb : AllB b B) (hz : b ≤ 3000) (h1 : 2 ≤ B.length) (h8 : B.length ≤ 6) (hd : d ≤ 4) (hs : s ≤ d + 1) (hk : 5 ≤ k) : callF G k 205 [pol B, .int (d : Nat), .int ((s : Int) - 1)] h = .ok (.int (((B.length - 1) * (d + 1) : Nat) - (((B.length - 2) * s : Nat) : Int))) h := by
  obtain ⟨k, rfl⟩ := Nat.exists_eq_add_of_le hk
  rw [Nat.add_comm]
  refine of_to ?_
  rw [callF_eq (f := f_space_size) rfl rfl, to_bind]
  simp only [f_space_size, c_space_size]
  have c1 : (2 : Int) ≤ B.length := by omega
  have c2 : (B.length : Int) ≤ 6 := by omega
  simp [List.replicate, c1, c2]
  rw [← map_fr]
  refine frL_e fr B (S := fun i st h' => ∃ s1 s2, st = [some (pol B), some (.int (d : Nat)), some (.int ((s : Int) - 1)), s1, s2] ∧ h' = h) ?_ ?_ ?_ ?_
  · exact ⟨none, none, rfl, rfl⟩
  · intro i st h' _ _; rfl
  · rintro i x st h' hx ⟨s1, s2, rfl, rfl⟩
    have hi := (List.getElem?_eq_some_iff.mp hx).1
    simp [is_ratio_i]
    cases i with
    | zero => simp
    | succ i =>
      have g1 : idxop (pol B) (.int (i : Nat)) h' = .ok (fr (nd B i)) h' := idx_pol (by omega)
      have bx : Bd b x := hb x (List.mem_of_getElem? hx)
      have by_ : Bd b (nd B i) := hb _ (nd_mem (by omega))
      have eb := below_ok (k := k + 3) (h := h') by_ bx (by omega)
      have hlt : nd B i < x := by
        have := hA i hi
        rw [nd_of hx] at this
        exact this
      have ei : ((i + 1 : Nat) : Int) - 1 = (i : Int) := by omega
      rw [decide_eq_true (show 0 < i + 1 by omega)]
      simp at ei
      simp [ei, g1, eb, hlt]
  · rintro st h' ⟨s1, s2, rfl, rfl⟩
    have e1 := need_low_ok (k := k + 1) (h := h') hd
    have e2 := is_from_ok (k := k + 2) (h := h') (i := (s : Int) - 1) (lo := -1) (hi := (d : Int)) (by omega) (by omega)
    have n1 : ((B.length : Int) - 1) = ((B.length - 1 : Nat) : Int) := by omega
    have n2 : ((B.length : Int) - 2) = ((B.length - 2 : Nat) : Int) := by omega
    have m1 : mulOk ((B.length : Int) - 1) ((d : Int) + 1) = true := mulOk_of (m := 4) (n := 4) (by omega) (by omega) (by omega)
    have m2 : mulOk ((B.length : Int) - 2) (s : Int) = true := mulOk_of (m := 4) (n := 4) (by omega) (by omega) (by omega)
    simp [e1, e2, binop, m1]
    exact ⟨m2, by rw [n1, n2]⟩
/-! sizes -/
theorem cv_fq (hB : ∀ q ∈ B, Fq 1 18 q) (he : e ≤ 4) (hj : j ≤ 5) (β : Nat) : Fq 5 130 (cv B β j e) := by
  have hp : ∀ q ∈ mono e, Fq 0 1 q := fun q hq => by
    rw [mono, List.mem_append] at hq
    rcases hq with hq | hq
    · rw [List.eq_of_mem_replicate hq]; exact Fq.zero'
    · rw [List.mem_singleton] at hq
      subst hq
      exact Fq.int (n := 1) 1 (by decide)
  have hl : (mono e).length = e + 1 := by simp [mono]
  have h1 := Dn_fq hp (by omega) j
  have hx : Fq 1 18 (nd B (β + 1)) := getD_fq hB _
  have h2 := pe_fqm hx h1
  have h3 := Dn_len (mono e) j
  rw [cv]
  exact h2.up (by omega) (by omega)
theorem cond_bd (hB : ∀ q ∈ B, Fq 1 18 q) (hd : d ≤ 4) (hs : s ≤ d + 1) (hs0 : 0 < s) (i c : Nat) : Bd 200 (cond B d s i c) := by
  have hc : c % (d + 1) ≤ 4 := by have := Nat.mod_lt c (show 0 < d + 1 by omega); omega
  have hj : i % s ≤ 5 := by have := Nat.mod_lt i hs0; omega
  rw [cond]
  split
  · exact (cv_fq hB hc hj _).bd (by omega) (by omega)
  · split
    · exact bd_neg ((cv_fq hB hc hj _).bd (by omega) (by omega))
    · exact bd0 _
/-! building the rows -/
section
variable {rs : List Nat} {M : Nat → List Rat} {v : Nat}
theorem Rwm.other (hR : Rwm h L rs N M) {x : PO} (h1 : v ≠ L) (h2 : v ∉ rs) : Rwm (h.set v x) L rs N M where
  cell := by rw [List.getElem?_set_ne h1]; exact hR.cell
  len := hR.len
  row := fun i r hr => by
    obtain ⟨g1, g2⟩ := hR.row i r hr
    have : v ≠ r := fun z => h2 (by rw [z]; exact List.mem_of_getElem? hr)
    exact ⟨by rw [List.getElem?_set_ne this]; exact g1, g2⟩
theorem Rwm.below (hR : Rwm h L rs N M) : L < h.length ∧ ∀ r ∈ rs, r < h.length := by
  refine ⟨(List.getElem?_eq_some_iff.mp hR.cell).1, fun r hr => ?_⟩
  obtain ⟨i, hi⟩ := List.mem_iff_getElem?.mp hr
  exact (List.getElem?_eq_some_iff.mp (hR.row i r hi).1).1
theorem Rwm.push (hR : Rwm h L rs N M) (hv : h[v]? = some (.lst (frs (M N)))) (h1 : v ≠ L) : Rwm (h.set L (.lst ((rs ++ [v]).map PV.ref))) L (rs ++ [v]) (N + 1) M where
  cell := by rw [List.getElem?_set_self hR.below.1]
  len := by rw [List.length_append, hR.len]; rfl
  row := fun i r hr => by
    by_cases hi : i < rs.length
    · rw [List.getElem?_append_left hi] at hr
      obtain ⟨g1, g2⟩ := hR.row i r hr
      exact ⟨by rw [List.getElem?_set_ne (Ne.symm g2)]; exact g1, g2⟩
    · have hi2 := (List.getElem?_eq_some_iff.mp hr).1
      rw [List.length_append] at hi2
      have e : i = rs.length := by simp at hi2; omega
      rw [e, List.getElem?_append_right (Nat.le_refl _), Nat.sub_self] at hr
      cases hr
      rw [e, hR.len]
      exact ⟨by rw [List.getElem?_set_ne (Ne.symm h1)]; exact hv, h1⟩
end
/-- a row, up to a power -/
def condP (B : List Rat) (d s m i e : Nat) : List Rat := tbl (fun c => if c % (d + 1) < e then cond B d s i c else 0) (m * (d + 1))
theorem tbl_cg {f g : Nat → Rat} {n : Nat} (h : ∀ c, c < n → f c = g c) : tbl f n = tbl g n := by
  rw [tbl, tbl]
  refine List.map_congr_left fun c hc => ?_
  rw [List.mem_range'_1] at hc
  exact h c (by omega)
theorem condP_0 : condP B d s m i 0 = List.replicate (m * (d + 1)) 0 := by
  rw [condP]
  apply List.ext_getElem?
  intro c
  by_cases hc : c < m * (d + 1)
  · rw [tbl_get _ hc, List.getElem?_replicate, if_pos hc, if_neg (by omega)]
  · rw [List.getElem?_eq_none (by rw [tbl_len]; omega), List.getElem?_eq_none (by simp; omega)]
theorem condP_all : condP B d s m i (d + 1) = condR B d s m i := tbl_cg fun c _ => by rw [if_pos (Nat.mod_lt c (by omega))]
theorem tbl_setg (f : Nat → Rat) (m j : Nat) (y : Rat) : (tbl f m).set j y = tbl (fun b => if b = j then y else f b) m := by
  apply List.ext_getElem?
  intro c
  by_cases hc : c < m
  · rw [tbl_get _ hc]
    by_cases hj : c = j
    · subst hj; rw [List.getElem?_set_self (by rw [tbl_len]; exact hc), if_pos rfl]
    · rw [List.getElem?_set_ne (Ne.symm hj), tbl_get _ hc, if_neg hj]
  · rw [List.getElem?_eq_none (by rw [List.length_set, tbl_len]; omega), List.getElem?_eq_none (by rw [tbl_len]; omega)]
theorem condP_next {a : Nat} (he : e ≤ d) (ha : 1 ≤ a) (hi : i / s = a - 1) : ((condP B d s m i e).set ((a - 1) * (d + 1) + e) (cv B (a - 1) (i % s) e)).set (a * (d + 1) + e) (cv B (a - 1) (i % s) e * -1) = condP B d s m i (e + 1) := by
  rw [condP, tbl_setg, tbl_setg, condP]
  refine tbl_cg fun c hc => ?_
  have hdm := Nat.div_add_mod c (d + 1)
  have hml := Nat.mod_lt c (show 0 < d + 1 by omega)
  have key : ∀ q, c = q * (d + 1) + e → c / (d + 1) = q ∧ c % (d + 1) = e := fun q hq => by
    have e1 : c = e + (d + 1) * q := by rw [hq, Nat.mul_comm]; omega
    rw [e1]
    exact ⟨by rw [Nat.add_mul_div_left _ _ (by omega), Nat.div_eq_of_lt (by omega), Nat.zero_add], by rw [Nat.add_mul_mod_self_left, Nat.mod_eq_of_lt (by omega)]⟩
  by_cases h1 : c = a * (d + 1) + e
  · obtain ⟨k1, k2⟩ := key a h1
    rw [if_pos h1, if_pos (by omega), cond, k1, k2, hi, if_neg (by omega), if_pos (by omega)]
    grind
  · rw [if_neg h1]
    by_cases h2 : c = (a - 1) * (d + 1) + e
    · obtain ⟨k1, k2⟩ := key (a - 1) h2
      rw [if_pos h2, if_pos (by omega), cond, k1, k2, hi, if_pos rfl]
    · rw [if_neg h2]
      by_cases h3 : c % (d + 1) = e
      · have hz : cond B d s i c = 0 := by
          have n1 : c / (d + 1) ≠ a - 1 := fun z => h2 (by rw [← hdm, z, h3, Nat.mul_comm])
          have n2 : c / (d + 1) ≠ a := fun z => h1 (by rw [← hdm, z, h3, Nat.mul_comm])
          rw [cond, hi, if_neg n1, if_neg (by omega)]
        rw [hz]; split <;> split <;> rfl
      · by_cases h4 : c % (d + 1) < e
        · rw [if_pos h4, if_pos (by omega)]
        · rw [if_neg h4, if_neg (by omega)]
theorem condP_len : (condP B d s m i e).length = m * (d + 1) := by rw [condP, tbl_len]
theorem frs_set' (xs : List Rat) (i : Nat) (y : Rat) : (frs xs).set i (fr y) = frs (xs.set i y) := by
  show (xs.map fr).set i (fr y) = (xs.set i y).map fr
  rw [List.map_set]
theorem set_at {xs : List PV} {z : PV} (hq : h[q]? = some (.lst xs)) {i : Nat} {zi : Int} (hzi : zi = i) (hi : i < xs.length) : setop (.ref q) (.int zi) z h = .ok () (h.set q (.lst (xs.set i z))) := by
  subst hzi
  have hx : L2.ixN xs.length (i : Nat) = some i := by
    unfold L2.ixN
    simp
    omega
  simp only [setop, hq, hx]
theorem mono_tup (e : Nat) : PV.tup ((List.replicate e [PV.tup [.int 0, .int 1]]).flatten ++ [.tup [.int 1, .int 1]]) = pol (mono e) := by
  rw [mono, pol]
  have : (List.replicate e [PV.tup [.int 0, .int 1]]).flatten = frs (List.replicate e 0) := by
    induction e with
    | zero => rfl
    | succ e ih => rw [List.replicate_succ, List.flatten_cons, ih, List.replicate_succ, frs_cons]; rfl
  rw [this]
  show _ = PV.tup ((List.replicate e (0 : Rat) ++ [(1 : Rat)]).map fr)
  rw [List.map_append]; rfl
theorem mono_cd (e : Nat) : CD 2 2 (mono e) := ⟨1, by decide, by decide, fun q hq => by
  rw [mono, List.mem_append] at hq
  rcases hq with hq | hq
  · rw [List.eq_of_mem_replicate hq]; exact ⟨0, by decide +kernel, by decide⟩
  · rw [List.mem_singleton] at hq
    subst hq
    exact ⟨1, by decide +kernel, by decide⟩⟩
end
end PB
set_option Elab.async false
set_option linter.all false
set_option maxRecDepth 100000
set_option maxHeartbeats 4000000
set_option exponentiation.threshold 100000
namespace PB
open PySem
section
theorem math36 (ns : List Int) (hl : ns.length ≤ 63) : ∃ h', callF G 40 206 [.scr (ns.map PV.int)] [] = .ok (.bl true) h' := by
  apply of_law
  have w0 : Wf [] := rfl
  have hM : many = 1000000 := rfl
  rw [callF_eq (f := f_law_29) rfl rfl, to_bind]
  simp only [f_law_29, c_law_29]
  simp [alloc, List.replicate]
  refine taken_to (m := 5) (by decide) (by decide) (row0 (ns := ns) (s := 4136) hl (by decide) (by decide)) (by decide) fun d o1 hd r1 => ?_
  simp
  refine taken_to (by omega) (by omega) r1 (by decide) fun s o2 hs r2 => ?_
  simp
  refine draw_to r2 w0 (by decide) fun x0 o3 hx0 r3 => ?_
  simp [alloc]
  refine taken_to (by decide) (by decide) r3 (by decide) fun nt o4 hnt r4 => ?_
  simp
  refine forR_to0 (nt + 2) (S := fun j st h' => ∃ Bs now o' u s4, st = [some (.scr (ns.map PV.int)), some (.ref 0), some (.int (d : Nat)), some (.int ((s : Int) - 1)), s4, none, some (fr now), some (.ref 1), none, none, none, none, none, none] ∧ h' = o' :: (.lst (frs Bs) :: u) ∧ Row o' ∧ (∀ c ∈ u, PO.low 0 c = true) ∧ Bs.length = j ∧ (∀ q ∈ Bs ++ [now], Fq 1 (12 + j) q) ∧ Asc' (Bs ++ [now])) (by omega) (by omega) ?_ ?_ ?_
  · refine ⟨[], x0, o4, [], none, ?_, ?_, r4, by simp, rfl, ?_, ?_⟩
    · simp
    · rfl
    · intro q hq; simp at hq; subst hq; exact hx0
    · intro i hi; simp at hi
  · rintro j st h' hj ⟨Bs, now, o', u, s4, rfl, rfl, r', hu, hBl, hBf, hBa⟩
    simp [mth]
    refine ⟨by omega, ?_⟩
    refine taken_to (by decide) (by decide) r' (by decide) fun a o5 ha r5 => ?_
    simp [alloc]
    have hx : (PO.lst (frs (Bs ++ [now])) :: (u ++ [PO.lst [PV.int 1, PV.int 2, PV.int 3]]))[1 + u.length]? = some (.lst [PV.int 1, PV.int 2, PV.int 3]) := by
      rw [Nat.add_comm, List.getElem?_cons_succ, List.getElem?_append_right (Nat.le_refl _), Nat.sub_self]; rfl
    obtain ⟨v, o6, hv, r6, e6⟩ := pick_lst (k := 37) (t := PO.lst (frs (Bs ++ [now])) :: (u ++ [.lst [.int 1, .int 2, .int 3]])) (i := 1 + u.length) (xs := [.int 1, .int 2, .int 3]) (by simp) (by simp) r5 hx
    simp only [Nat.reduceAdd] at e6
    have e7 : callF G 39 17 [.ref 0, .ref (u.length + 1 + 1)] (o5 :: PO.lst (frs (Bs ++ [now])) :: (u ++ [.lst [.int 1, .int 2, .int 3]])) = .ok v (o6 :: PO.lst (frs (Bs ++ [now])) :: (u ++ [.lst [.int 1, .int 2, .int 3]])) := by
      rw [show u.length + 1 + 1 = 1 + u.length + 1 by omega]; exact e6
    rw [e7, to_ok]
    obtain ⟨b, rfl, hb1, hb2⟩ : ∃ b : Nat, v = .int b ∧ 1 ≤ b ∧ b ≤ 3 := by
      simp only [List.mem_cons, List.not_mem_nil, or_false] at hv
      rcases hv with rfl | rfl | rfl
      · exact ⟨1, rfl, by decide, by decide⟩
      · exact ⟨2, rfl, by decide, by decide⟩
      · exact ⟨3, rfl, by decide, by decide⟩
    have em := fun H => lmade_i (k := 39) (h := H) (a := 1 + (a : Int)) (b := (b : Int)) (by omega) (by omega) (lt_pow (m := 2) (by omega) (by decide))
    have hq3 : Bd 3 (Rat.divInt (1 + (a : Int)) (b : Int)) := bd_divInt (by omega) (by omega) (by omega)
    have hq0 : 0 < Rat.divInt (1 + (a : Int)) (b : Int) := by
      rw [Rat.divInt_eq_div]
      have h1 : (0 : Rat) < ((1 + (a : Int) : Int) : Rat) := by
        have : 0 < 1 + (a : Int) := by omega
        exact_mod_cast this
      have h2 : (0 : Rat) < ((b : Int) : Rat) := by
        have : 0 < (b : Int) := by omega
        exact_mod_cast this
      rw [Rat.lt_div_iff h2]; grind
    generalize Rat.divInt (1 + (a : Int)) (b : Int) = q at *
    have hqf : Fq 1 12 q := .of3 hq3
    have hnf : Fq 1 (12 + j) now := hBf now (by simp)
    haveI : Fz q 1 12 := ⟨hqf⟩
    haveI : Fz now 1 (12 + j) := ⟨hnf⟩
    simp (disch := omega) [em, lplus_i]
    refine ⟨Bs ++ [now], now + q, rfl, o6, _, ⟨rfl, rfl, rfl⟩, r6, ?_, by simp [hBl], ?_, ?_⟩
    · intro c hc
      rcases List.mem_append.mp hc with hc | hc
      · exact hu c hc
      · rw [List.mem_singleton] at hc; subst hc; simp [PO.low, PV.lows, PV.low]
    · intro z hz
      rcases hz with hz | hz
      · exact (hBf z hz).up (by omega) (by omega)
      · subst hz
        exact (hnf.add (hqf.up (e' := 1) (n' := 12 + j) (by omega) (by omega))).up (by omega) (by omega)
    · intro i hi
      by_cases hi2 : i + 1 < (Bs ++ [now]).length
      · have := hBa i hi2
        have e1 : ∀ c, c < (Bs ++ [now]).length → nd (Bs ++ [now] ++ [now + q]) c = nd (Bs ++ [now]) c := fun c hc => by
          show (Bs ++ [now] ++ [now + q]).getD c 0 = (Bs ++ [now]).getD c 0
          rw [List.getD_eq_getElem?_getD, List.getD_eq_getElem?_getD, List.getElem?_append_left hc]
        rw [e1 i (by omega), e1 (i + 1) hi2]; exact this
      · have e2 : i = Bs.length := by simp at hi hi2; omega
        have e3 : nd (Bs ++ [now] ++ [now + q]) i = now := by
          show (Bs ++ [now] ++ [now + q]).getD i 0 = now
          rw [e2]; simp
        have e4 : nd (Bs ++ [now] ++ [now + q]) (i + 1) = now + q := by
          show (Bs ++ [now] ++ [now + q]).getD (i + 1) 0 = now + q
          rw [e2]; simp
        rw [e3, e4]; grind
  · rintro st h' ⟨Bs, now, o', u, s4, rfl, rfl, r', hu, hBl, hBf, hBa⟩
    simp [alloc]
    obtain ⟨m, hm⟩ : ∃ m, Bs.length = m + 1 := ⟨nt + 1, by omega⟩
    have hm1 : 1 ≤ m := by omega
    have hm4 : m ≤ 3 := by omega
    have hmz : ((Bs.length : Nat) : Int) - 1 = (m : Int) := by omega
    have hBq : ∀ q ∈ Bs, Fq 1 18 q := fun q hq => (hBf q (by simp [hq])).up (by omega) (by omega)
    have hBa' : Asc' Bs := fun i hi => by
      have := hBa i (by simp; omega)
      have e1 : ∀ c, c < Bs.length → nd (Bs ++ [now]) c = nd Bs c := fun c hc => by
        show (Bs ++ [now]).getD c 0 = Bs.getD c 0
        rw [List.getD_eq_getElem?_getD, List.getD_eq_getElem?_getD, List.getElem?_append_left hc]
      rw [e1 i (by omega), e1 (i + 1) hi] at this
      exact this
    rw [hmz]
    obtain ⟨H0, hH0⟩ : ∃ H0 : PH, H0 = o' :: PO.lst (frs Bs) :: (u ++ [PO.lst []]) := ⟨_, rfl⟩
    obtain ⟨R, hR⟩ : ∃ R, R = u.length + 1 + 1 := ⟨_, rfl⟩
    have hR0 : Rwm H0 R [] 0 (condR Bs d s m) := ⟨by rw [hH0, hR, List.getElem?_cons_succ, List.getElem?_cons_succ, List.getElem?_append_right (Nat.le_refl _), Nat.sub_self]; rfl, rfl, fun i r hr => by simp at hr⟩
    have hB0 : H0[1]? = some (.lst (frs Bs)) := by rw [hH0]; rfl
    have hR1 : R ≠ 1 := by omega
    rw [← hH0, ← hR]
    clear hH0 hR
    have ers : ((s : Int) - 1 + 1) = (s : Int) := by omega
    refine forR_to 1 m (S := fun a st h' => ∃ s4 s5 s10 s11 s12 s13 rs, st = [some (.scr (ns.map PV.int)), some (.ref 0), some (.int (d : Nat)), some (.int ((s : Int) - 1)), s4, s5, some (fr now), some (.ref 1), some (.int (m : Nat)), some (.ref R), s10, s11, s12, s13] ∧ Rwm h' R rs ((a - 1) * s) (condR Bs d s m) ∧ h'[1]? = some (.lst (frs Bs))) rfl rfl hm1 (by omega) ?_ ?_ ?_
    · exact ⟨s4, none, none, none, none, none, [], rfl, by rw [Nat.sub_self, Nat.zero_mul]; exact hR0, hB0⟩
    · rintro a st h' ha1 ha2 ⟨s4, s5, s10, s11, s12, s13, rs, rfl, hRw, hBc⟩
      simp [ers]
      refine forR_to0 s (S := fun j st h' => ∃ s4 s10 s11 s12 s13 rs, st = [some (.scr (ns.map PV.int)), some (.ref 0), some (.int (d : Nat)), some (.int ((s : Int) - 1)), s4, some (.int (a : Nat)), some (fr now), some (.ref 1), some (.int (m : Nat)), some (.ref R), s10, s11, s12, s13] ∧ Rwm h' R rs ((a - 1) * s + j) (condR Bs d s m) ∧ h'[1]? = some (.lst (frs Bs))) rfl (by omega) ⟨s4, s10, s11, s12, s13, rs, by simp, hRw, hBc⟩ ?_ ?_
      · rintro j st h' hj ⟨s4, s10, s11, s12, s13, rs, rfl, hRw, hBc⟩
        have mw : mulOk (m : Nat) ((d : Int) + 1) = true := mulOk_of (m := 4) (n := 4) (by omega) (by omega) (by omega)
        have ew : ((m : Nat) : Int) * ((d : Int) + 1) = ((m * (d + 1) : Nat) : Int) := by simp
        have hwb : m * (d + 1) ≤ 15 := by
          have := Nat.mul_le_mul hm4 (show d + 1 ≤ 5 by omega)
          omega
        simp [alloc, binop, mw, ew, flat_one, -Int.natCast_mul]
        refine ⟨⟨by omega, by omega⟩, ?_⟩
        obtain ⟨n, hn⟩ : ∃ n, n = (a - 1) * s + j := ⟨_, rfl⟩
        have hndiv : n / s = a - 1 := by rw [hn, Nat.add_comm, Nat.add_mul_div_right _ _ (by omega), Nat.div_eq_of_lt hj, Nat.zero_add]
        have hnmod : n % s = j := by rw [hn, Nat.add_comm, Nat.add_mul_mod_self_right, Nat.mod_eq_of_lt hj]
        rw [← hn] at hRw
        obtain ⟨Hs, hHs⟩ : ∃ Hs : PH, Hs = h' ++ [PO.lst [PV.tup [PV.int 0, PV.int 1]], PO.lst (List.replicate (m * (d + 1)) (PV.tup [PV.int 0, PV.int 1]))] := ⟨_, rfl⟩
        obtain ⟨L, hL⟩ : ∃ L, L = h'.length + 1 := ⟨_, rfl⟩
        have hLc : Hs[L]? = some (.lst (frs (condP Bs d s m n 0))) := by
          rw [hHs, hL, List.getElem?_append_right (by omega), Nat.add_sub_cancel_left, condP_0]
          show some (PO.lst _) = _
          rw [show frs (List.replicate (m * (d + 1)) (0 : Rat)) = List.replicate (m * (d + 1)) (PV.tup [PV.int 0, PV.int 1]) from List.map_replicate]
        have hLl : L < Hs.length := (List.getElem?_eq_some_iff.mp hLc).1
        have hRs : Rwm Hs R rs n (condR Bs d s m) := by rw [hHs]; exact hRw.app _
        have hLR : L ≠ R := by have := hRw.below.1; omega
        have hLrs : L ∉ rs := fun z => by have := hRw.below.2 L z; omega
        have hL1 : L ≠ 1 := by
          have := (List.getElem?_eq_some_iff.mp hBc).1
          omega
        have hB1 : Hs[1]? = some (.lst (frs Bs)) := by rw [hHs, List.getElem?_append_left (List.getElem?_eq_some_iff.mp hBc).1]; exact hBc
        rw [← hHs, ← hL]
        clear hHs hL
        refine forR_to0 (d + 1) (S := fun e st h'' => ∃ s11 s12 s13, st = [some (.scr (ns.map PV.int)), some (.ref 0), some (.int (d : Nat)), some (.int ((s : Int) - 1)), some (.int (j : Nat)), some (.int (a : Nat)), some (fr now), some (.ref 1), some (.int (m : Nat)), some (.ref R), some (.ref L), s11, s12, s13] ∧ h'' = Hs.set L (.lst (frs (condP Bs d s m n e)))) (by omega) (by omega) ⟨s11, s12, s13, by simp, ?_⟩ ?_ ?_
        · obtain ⟨g1, g2⟩ := List.getElem?_eq_some_iff.mp hLc
          rw [← g2]; exact (List.set_getElem_self g1).symm
        · rintro e st h'' he ⟨s11, s12, s13, rfl, rfl⟩
          have mt : PV.tup (List.replicate e (PV.tup [PV.int 0, PV.int 1]) ++ [PV.tup [PV.int 1, PV.int 1]]) = pol (mono e) := by rw [← mono_tup, flat_one]
          have es := fun H => lslopes_ok (k := 39) (h := H) (n := j) (mono_cd e) (by simp [mono]; omega) (by decide) (by decide) (by omega) (by decide)
          have hgB : ∀ X : PO, (Hs.set L X)[1]? = some (.lst (frs Bs)) := fun X => by rw [List.getElem?_set_ne hL1]; exact hB1
          have hgL : ∀ X : PO, (Hs.set L X)[L]? = some X := fun X => List.getElem?_set_self hLl
          have ib : ∀ X : PO, idxop (.ref 1) (.int (a : Nat)) (Hs.set L X) = .ok (fr (nd Bs a)) (Hs.set L X) := fun X => row_at (hgB X) (by omega)
          have hdl := Dn_len (mono e) j
          have hml : (mono e).length = e + 1 := by simp [mono]
          have bt : Bd 19 (nd Bs a) := (getD_fq hBq a).bd (by omega) (by omega)
          have el := fun H => lat_ok (k := 36) (h := H) (xs := Dn j (mono e)) bt (Dn_all (mono_cd e) (by omega) (n := 30) (by omega) (by omega)) (by
            have := Nat.mul_le_mul_right (19 + 30 + 1) (show (Dn j (mono e)).length + 1 ≤ 6 by omega)
            omega)
          have hcv : pe (Dn j (mono e)) (nd Bs a) = cv Bs (a - 1) j e := by rw [cv, Nat.sub_add_cancel ha1]
          rw [hcv] at el
          have bv : Bd 200 (cv Bs (a - 1) j e) := (cv_fq hBq (by omega) (by omega) _).bd (by omega) (by omega)
          have fm1 : PV.tup [.int (-1), .int 1] = fr (-1) := by rw [fr_int]; rfl
          have bm1 : Bd 1 (-1 : Rat) := ⟨by decide, by decide⟩
          have et := fun H => ltimes_ok (k := 37) (h := H) bv bm1 (by omega)
          rw [← fm1] at et
          have hidx : a * (d + 1) + e < m * (d + 1) + (d + 1) := by
            have := Nat.mul_le_mul_right (d + 1) (show a ≤ m by omega)
            omega
          have hidx2 : a * (d + 1) + e < m * (d + 1) := by
            have := Nat.mul_le_mul_right (d + 1) (show a + 1 ≤ m by omega)
            rw [Nat.succ_mul] at this
            omega
          have hidx1 : (a - 1) * (d + 1) + e < m * (d + 1) := by
            have := Nat.mul_le_mul_right (d + 1) (show a - 1 ≤ a by omega)
            omega
          have z1 : ((a : Int) - 1) * ((d : Int) + 1) + (e : Int) = (((a - 1) * (d + 1) + e : Nat) : Int) := by
            rw [show (a : Int) - 1 = ((a - 1 : Nat) : Int) by omega]; simp
          have z2 : (a : Int) * ((d : Int) + 1) + (e : Int) = ((a * (d + 1) + e : Nat) : Int) := by simp
          have mk1 : mulOk ((a : Int) - 1) ((d : Int) + 1) = true := mulOk_of (m := 4) (n := 4) (by omega) (by omega) (by omega)
          have mk2 : mulOk (a : Int) ((d : Int) + 1) = true := mulOk_of (m := 4) (n := 4) (by omega) (by omega) (by omega)
          have st1 := set_at (h := Hs.set L (.lst (frs (condP Bs d s m n e)))) (z := fr (cv Bs (a - 1) j e)) (hgL _) z1 (by rw [frs_len, condP_len]; exact hidx1)
          rw [List.set_set, frs_set'] at st1
          have st2 := set_at (h := Hs.set L (.lst (frs ((condP Bs d s m n e).set ((a - 1) * (d + 1) + e) (cv Bs (a - 1) j e))))) (z := fr (cv Bs (a - 1) j e * -1)) (hgL _) z2 (by rw [frs_len, List.length_set, condP_len]; exact hidx2)
          have hnx := condP_next (B := Bs) (d := d) (s := s) (m := m) (i := n) (e := e) (a := a) (by omega) ha1 hndiv
          rw [hnmod] at hnx
          rw [List.set_set, frs_set', hnx] at st2
          simp only [Nat.reduceAdd] at el et
          generalize cv Bs (a - 1) j e = cvv at *
          simp [binop, flat_one, mt, es, ib, el, mk1, mk2, st1, et, st2]
          exact ⟨by omega, by omega⟩
        · rintro st h'' ⟨s11, s12, s13, rfl, rfl⟩
          rw [condP_all]
          have hR3 : Rwm (Hs.set L (.lst (frs (condR Bs d s m n)))) R rs n (condR Bs d s m) := hRs.other hLR hLrs
          have hL3 : (Hs.set L (.lst (frs (condR Bs d s m n))))[L]? = some (.lst (frs (condR Bs d s m n))) := List.getElem?_set_self hLl
          have hB3 : (Hs.set L (.lst (frs (condR Bs d s m n))))[1]? = some (.lst (frs Bs)) := by rw [List.getElem?_set_ne hL1]; exact hB1
          generalize (Hs.set L (.lst (frs (condR Bs d s m n))) : PH) = H3 at *
          have hc3 := hR3.cell
          have hr3 := hR3.len
          have hp3 := hR3.push hL3 hLR
          have hn100 : n ≤ 100 := by
            have := Nat.mul_le_mul (show a - 1 ≤ 4 by omega) (show s ≤ 6 by omega)
            omega
          simp [mth, hc3]
          refine ⟨by omega, ⟨rs ++ [L], ?_⟩, by rw [List.getElem?_set_ne hR1]; exact hB3⟩
          rw [← Nat.add_assoc, ← hn]
          have := hp3
          rw [List.map_append] at this
          exact this
      · rintro st h' ⟨s4, s10, s11, s12, s13, rs, rfl, hRw, hBc⟩
        simp
        refine ⟨⟨rs, ?_⟩, hBc⟩
        have e : a * s = (a - 1) * s + s := by
          rw [← Nat.succ_mul, Nat.succ_eq_add_one, Nat.sub_add_cancel ha1]
        rw [e]; exact hRw
    · rintro st h' ⟨s4, s5, s10, s11, s12, s13, rs, rfl, hRw, hBc⟩
      have bB : AllB 19 Bs := fun q hq => (hBq q hq).bd (by omega) (by omega)
      have e1 := fun H => space_size_ok (k := 39) (h := H) hBa' bB (by omega) (by omega) (by omega) (d := d) (s := s) (by omega) (by omega) (by decide)
      rw [hm] at e1
      have mw : mulOk (m : Nat) ((d : Int) + 1) = true := mulOk_of (m := 4) (n := 4) (by omega) (by omega) (by omega)
      have hN : (m - 1) * s ≤ 15 := by
        have := Nat.mul_le_mul (show m - 1 ≤ 2 by omega) (show s ≤ 5 by omega)
        omega
      have hW : m * (d + 1) ≤ 15 := by
        have := Nat.mul_le_mul hm4 (show d + 1 ≤ 5 by omega)
        omega
      have e1' : ∀ H, callF G 39 205 [.tup (frs Bs), .int (d : Nat), .int ((s : Int) - 1)] H = _ := e1
      simp [hBc, e1', binop, mw]
      refine lrank_to (N := (m - 1) * s) (W := m * (d + 1)) (b := 200) (cond_stair (by omega) (by omega) hm1) (fun i hi q hq => ?_) (by omega) hRw (by omega) (by omega) (by decide) ?_
      · have hs0 : 0 < s := by
          refine Nat.pos_of_ne_zero fun z => ?_
          rw [z, Nat.mul_zero] at hi; omega
        rw [condR, tbl, List.mem_map] at hq
        obtain ⟨c, _, rfl⟩ := hq
        exact cond_bd hBq (by omega) (by omega) hs0 i c
      · have hrk : condF d s m (if (m - 1) * s = 0 then 0 else m * (d + 1)) = (m - 1) * s := by
          by_cases hz : (m - 1) * s = 0
          · rw [if_pos hz, hz]
            have := (cond_stair (B := Bs) (by omega) (by omega) hm1 : Stair ((m - 1) * s) (m * (d + 1)) (condR Bs d s m) (condF d s m)).z
            exact this
          · rw [if_neg hz]; exact condF_end hm1
        rw [hrk]
        have eal := fun H (z : Int) => alike_int (k := 38) (h := H) (i := z) (j := z)
        simp only [Nat.reduceAdd] at eal
        have ez : ((m * (d + 1) : Nat) : Int) - (((m - 1) * s : Nat) : Int) = ((m + 1 - 1) * (d + 1) : Nat) - (((m + 1 - 2) * s : Nat) : Int) := by
          rw [Nat.add_sub_cancel, show m + 1 - 2 = m - 1 by omega]
        simp [eal]
end
end PB
set_option Elab.async false
set_option linter.all false
set_option maxRecDepth 100000
set_option maxHeartbeats 4000000
namespace PB
open PySem PySem.Spec L2
def topS (i : Nat) : Stmt := PySem.Challenge.pw_blendcurves_k36_whole_sizes_of_spaces.main.body.getD i (.Pass ⟨0, 0, 0, 0⟩)
abbrev t_is_int : Stmt := topS 7
abbrev N_is_int : List Str := ["value"]
abbrev P_is_int : List Str := ["value"]
theorem sc_is_int : FnScope N_is_int P_is_int (C8.fnScope t_is_int) := C8.fnScope_by (by decide +kernel)
abbrev t_is_from : Stmt := topS 8
abbrev N_is_from : List Str := ["value", "least", "most"]
abbrev P_is_from : List Str := ["value", "least", "most"]
theorem sc_is_from : FnScope N_is_from P_is_from (C8.fnScope t_is_from) := C8.fnScope_by (by decide +kernel)
abbrev t_is_ratio : Stmt := topS 9
abbrev N_is_ratio : List Str := ["value"]
abbrev P_is_ratio : List Str := ["value"]
theorem sc_is_ratio : FnScope N_is_ratio P_is_ratio (C8.fnScope t_is_ratio) := C8.fnScope_by (by decide +kernel)
abbrev t_is_below : Stmt := topS 10
abbrev N_is_below : List Str := ["one", "other"]
abbrev P_is_below : List Str := ["one", "other"]
theorem sc_is_below : FnScope N_is_below P_is_below (C8.fnScope t_is_below) := C8.fnScope_by (by decide +kernel)
abbrev t_need_low : Stmt := topS 13
abbrev N_need_low : List Str := ["value", "least"]
abbrev P_need_low : List Str := ["value", "least"]
theorem sc_need_low : FnScope N_need_low P_need_low (C8.fnScope t_need_low) := C8.fnScope_by (by decide +kernel)
abbrev t_space_size : Stmt := topS 16
abbrev N_space_size : List Str := ["breaks", "degree", "order", "index", "one"]
abbrev P_space_size : List Str := ["breaks", "degree", "order"]
theorem sc_space_size : FnScope N_space_size P_space_size (C8.fnScope t_space_size) := C8.fnScope_by (by decide +kernel)
abbrev t__law_taken : Stmt := topS 18
abbrev N__law_taken : List Str := ["_law_row", "_law_many", "_law_cell", "_law_found"]
abbrev P__law_taken : List Str := ["_law_row", "_law_many"]
theorem sc__law_taken : FnScope N__law_taken P__law_taken (C8.fnScope t__law_taken) := C8.fnScope_by (by decide +kernel)
abbrev t__law_pick : Stmt := topS 19
abbrev N__law_pick : List Str := ["_law_row", "_law_things"]
abbrev P__law_pick : List Str := ["_law_row", "_law_things"]
theorem sc__law_pick : FnScope N__law_pick P__law_pick (C8.fnScope t__law_pick) := C8.fnScope_by (by decide +kernel)
abbrev t__law_alike : Stmt := topS 20
abbrev N__law_alike : List Str := ["_law_found", "_law_due", "_law_k"]
abbrev P__law_alike : List Str := ["_law_found", "_law_due"]
theorem sc__law_alike : FnScope N__law_alike P__law_alike (C8.fnScope t__law_alike) := C8.fnScope_by (by decide +kernel)
abbrev t__law_made : Stmt := topS 21
abbrev N__law_made : List Str := ["_law_top", "_law_low", "_law_turn", "_law_one", "_law_other"]
abbrev P__law_made : List Str := ["_law_top", "_law_low"]
theorem sc__law_made : FnScope N__law_made P__law_made (C8.fnScope t__law_made) := C8.fnScope_by (by decide +kernel)
abbrev t__law_plus : Stmt := topS 22
abbrev N__law_plus : List Str := ["_law_one", "_law_other"]
abbrev P__law_plus : List Str := ["_law_one", "_law_other"]
theorem sc__law_plus : FnScope N__law_plus P__law_plus (C8.fnScope t__law_plus) := C8.fnScope_by (by decide +kernel)
abbrev t__law_minus : Stmt := topS 23
abbrev N__law_minus : List Str := ["_law_one", "_law_other"]
abbrev P__law_minus : List Str := ["_law_one", "_law_other"]
theorem sc__law_minus : FnScope N__law_minus P__law_minus (C8.fnScope t__law_minus) := C8.fnScope_by (by decide +kernel)
abbrev t__law_times : Stmt := topS 24
abbrev N__law_times : List Str := ["_law_one", "_law_other"]
abbrev P__law_times : List Str := ["_law_one", "_law_other"]
theorem sc__law_times : FnScope N__law_times P__law_times (C8.fnScope t__law_times) := C8.fnScope_by (by decide +kernel)
abbrev t__law_over : Stmt := topS 25
abbrev N__law_over : List Str := ["_law_one", "_law_other"]
abbrev P__law_over : List Str := ["_law_one", "_law_other"]
theorem sc__law_over : FnScope N__law_over P__law_over (C8.fnScope t__law_over) := C8.fnScope_by (by decide +kernel)
abbrev t__law_draw : Stmt := topS 26
abbrev N__law_draw : List Str := ["_law_row", "_law_low"]
abbrev P__law_draw : List Str := ["_law_row"]
theorem sc__law_draw : FnScope N__law_draw P__law_draw (C8.fnScope t__law_draw) := C8.fnScope_by (by decide +kernel)
abbrev t__law_at : Stmt := topS 27
abbrev N__law_at : List Str := ["_law_poly", "_law_x", "_law_found", "_law_one"]
abbrev P__law_at : List Str := ["_law_poly", "_law_x"]
theorem sc__law_at : FnScope N__law_at P__law_at (C8.fnScope t__law_at) := C8.fnScope_by (by decide +kernel)
abbrev t__law_p_slope : Stmt := topS 28
abbrev N__law_p_slope : List Str := ["_law_poly", "_law_power"]
abbrev P__law_p_slope : List Str := ["_law_poly"]
theorem sc__law_p_slope : FnScope N__law_p_slope P__law_p_slope (C8.fnScope t__law_p_slope) := C8.fnScope_by (by decide +kernel)
abbrev t__law_slopes : Stmt := topS 29
abbrev N__law_slopes : List Str := ["_law_poly", "_law_many", "_law_found", "_law_turn"]
abbrev P__law_slopes : List Str := ["_law_poly", "_law_many"]
theorem sc__law_slopes : FnScope N__law_slopes P__law_slopes (C8.fnScope t__law_slopes) := C8.fnScope_by (by decide +kernel)
abbrev t__law_rank : Stmt := topS 30
abbrev N__law_rank : List Str := ["_law_rows", "_law_width", "_law_at_here", "_law_left", "_law_found", "_law_some", "_law_place", "_law_line", "_law_part", "_law_head", "_law_x", "_law_y"]
abbrev P__law_rank : List Str := ["_law_rows"]
theorem sc__law_rank : FnScope N__law_rank P__law_rank (C8.fnScope t__law_rank) := C8.fnScope_by (by decide +kernel)
abbrev t_law : Stmt := topS 31
abbrev N_law : List Str := ["_law_script", "_law_row", "_law_degree", "_law_order", "_law_turn", "_law_at_here", "_law_now", "_law_breaks", "_law_many", "_law_rows", "_law_line", "_law_power", "_law_poly", "_law_value"]
abbrev P_law : List Str := ["_law_script"]
theorem sc_law : FnScope N_law P_law (C8.fnScope t_law) := C8.fnScope_by (by decide +kernel)
structure Wld (mg : Str → Option Value) (K : PySem.W.Frag) (fv : Nat → Option Addr) : Prop where
  m_abs : mg "abs" = none
  m_bool : mg "bool" = none
  m_enumerate : mg "enumerate" = none
  m_gcd : mg "gcd" = some (.builtin "math.gcd")
  m_int : mg "int" = none
  m_isinstance : mg "isinstance" = none
  m_len : mg "len" = none
  m_list : mg "list" = none
  m_range : mg "range" = none
  m_str : mg "str" = none
  m_tuple : mg "tuple" = none
  m_zip : mg "zip" = none
  z_MOST_BREAKS : GC mg K fv "MOST_BREAKS" (.int 6)
  z_MOST_DEGREE : GC mg K fv "MOST_DEGREE" (.int 4)
structure Cals (P : Program) (w : World) (K : PySem.W.Frag) (mg : Str → Option Value) (base : Heap) (fv : Nat → Option Addr) (k : Nat) : Prop where
  c_is_int : C8.Cal P w K mg base k "is_int" (spI K fv G k 0) []
  c_is_from : C8.Cal P w K mg base k "is_from" (spI K fv G k 75) []
  c_is_ratio : C8.Cal P w K mg base k "is_ratio" (spI K fv G k 1) []
  c_is_below : C8.Cal P w K mg base k "is_below" (spI K fv G k 49) []
  c_need_low : C8.Cal P w K mg base k "need_low" (spI K fv G k 149) []
  c_space_size : C8.Cal P w K mg base k "space_size" (spI K fv G k 205) []
  c__law_taken : C8.Cal P w K mg base k "_law_taken" (spI K fv G k 14) []
  c__law_pick : C8.Cal P w K mg base k "_law_pick" (spI K fv G k 17) []
  c__law_alike : C8.Cal P w K mg base k "_law_alike" (spI K fv G k 15) []
  c__law_made : C8.Cal P w K mg base k "_law_made" (spI K fv G k 16) []
  c__law_plus : C8.Cal P w K mg base k "_law_plus" (spI K fv G k 20) []
  c__law_minus : C8.Cal P w K mg base k "_law_minus" (spI K fv G k 43) []
  c__law_times : C8.Cal P w K mg base k "_law_times" (spI K fv G k 21) []
  c__law_over : C8.Cal P w K mg base k "_law_over" (spI K fv G k 69) []
  c__law_draw : C8.Cal P w K mg base k "_law_draw" (spI K fv G k 19) []
  c__law_at : C8.Cal P w K mg base k "_law_at" (spI K fv G k 24) []
  c__law_p_slope : C8.Cal P w K mg base k "_law_p_slope" (spI K fv G k 44) []
  c__law_slopes : C8.Cal P w K mg base k "_law_slopes" (spI K fv G k 61) []
  c__law_rank : C8.Cal P w K mg base k "_law_rank" (spI K fv G k 204) []
  c_law : C8.Cal P w K mg base k "law" (spI K fv G k 206) []
section
variable {P : Program} {w : World} {K : PySem.W.Frag} {mg : Str → Option Value} {base : Heap} {fv : Nat → Option Addr} {k : Nat}
theorem d_is_int (W : Wld mg K fv) (C : Cals P w K mg base fv k) (f : Addr) (cdv : Value) (A : Around) (outer : List Env) (s : Shared) (H : Hp) (E : XK) (hr : Room k (A.deeper (PyProof.Rows.envOfC "is_int" (C8.fnScope t_is_int) s.heap.objs.size f cdv))) :
    PSs (cxOf CX0 P w K mg base N_is_int "is_int" (C8.fnScope t_is_int) f cdv A outer s H E).nox (C8.fnBody t_is_int) (tK K fv (callF G k) c_is_int) :=
  have nd := sc_is_int.nd
  (k_cons (s_ret (e_and (e_isInt (by rfl) W.m_isinstance (by rfl) W.m_int (e_var (pv 0))) (e_one (e_not (e_isBool (by rfl) W.m_isinstance (by rfl) W.m_bool (e_var (pv 0)))))))
      k_nil)
theorem d_is_from (W : Wld mg K fv) (C : Cals P w K mg base fv k) (f : Addr) (cdv : Value) (A : Around) (outer : List Env) (s : Shared) (H : Hp) (E : XK) (hr : Room k (A.deeper (PyProof.Rows.envOfC "is_from" (C8.fnScope t_is_from) s.heap.objs.size f cdv))) :
    PSs (cxOf CX0 P w K mg base N_is_from "is_from" (C8.fnScope t_is_from) f cdv A outer s H E).nox (C8.fnBody t_is_from) (tK K fv (callF G k) c_is_from) :=
  have nd := sc_is_from.nd
  (k_cons (s_ret (e_and (e_call C.c_is_int hr (by rfl) (a_cons (e_var (pv 0)) a_nil)) (e_one (e_chn c_le c_le (e_var (pv 1)) (e_var (pv 0)) (e_var (pv 2))))))
      k_nil)
theorem d_is_ratio (W : Wld mg K fv) (C : Cals P w K mg base fv k) (f : Addr) (cdv : Value) (A : Around) (outer : List Env) (s : Shared) (H : Hp) (E : XK) (hr : Room k (A.deeper (PyProof.Rows.envOfC "is_ratio" (C8.fnScope t_is_ratio) s.heap.objs.size f cdv))) :
    PSs (cxOf CX0 P w K mg base N_is_ratio "is_ratio" (C8.fnScope t_is_ratio) f cdv A outer s H E).nox (C8.fnBody t_is_ratio) (tK K fv (callF G k) c_is_ratio) :=
  have nd := sc_is_ratio.nd
  (k_cons (s_if (PW.pt (t_or (t_not (t_val (e_isTup (by rfl) W.m_isinstance (by rfl) W.m_tuple (e_var (pv 0))))) (t_or (t_cmp (c_ne hr) (e_len (by rfl) W.m_len (a_cons (e_var (pv 0)) a_nil)) e_int) (t_or (t_not (t_val (e_call C.c_is_int hr (by rfl) (a_cons (e_idx (e_var (pv 0)) e_int) a_nil)))) (t_or1 (t_not (t_val (e_call C.c_is_int hr (by rfl) (a_cons (e_idx (e_var (pv 0)) e_int) a_nil))))))))) (k_cons (s_ret e_bl)
      k_nil) k_nil)
      (k_cons (s_ret (e_and (e_cmp c_gt (e_idx (e_var (pv 0)) e_int) e_int) (e_one (e_cmp (c_eq hr) (e_gcd (by rfl) W.m_gcd (a_cons (e_idx (e_var (pv 0)) e_int) (a_cons (e_idx (e_var (pv 0)) e_int) a_nil))) e_int))))
      k_nil))
theorem d_is_below (W : Wld mg K fv) (C : Cals P w K mg base fv k) (f : Addr) (cdv : Value) (A : Around) (outer : List Env) (s : Shared) (H : Hp) (E : XK) (hr : Room k (A.deeper (PyProof.Rows.envOfC "is_below" (C8.fnScope t_is_below) s.heap.objs.size f cdv))) :
    PSs (cxOf CX0 P w K mg base N_is_below "is_below" (C8.fnScope t_is_below) f cdv A outer s H E).nox (C8.fnBody t_is_below) (tK K fv (callF G k) c_is_below) :=
  have nd := sc_is_below.nd
  (k_cons (s_ret (e_cmp c_lt (e_mul (e_idx (e_var (pv 0)) e_int) (e_idx (e_var (pv 1)) e_int)) (e_mul (e_idx (e_var (pv 1)) e_int) (e_idx (e_var (pv 0)) e_int))))
      k_nil)
theorem d_need_low (W : Wld mg K fv) (C : Cals P w K mg base fv k) (f : Addr) (cdv : Value) (A : Around) (outer : List Env) (s : Shared) (H : Hp) (E : XK) (hr : Room k (A.deeper (PyProof.Rows.envOfC "need_low" (C8.fnScope t_need_low) s.heap.objs.size f cdv))) :
    PSs (cxOf CX0 P w K mg base N_need_low "need_low" (C8.fnScope t_need_low) f cdv A outer s H E).nox (C8.fnBody t_need_low) (tK K fv (callF G k) c_need_low) :=
  have nd := sc_need_low.nd
  (k_cons (s_if (t_not (t_val (e_call C.c_is_from hr (by rfl) (a_cons (e_var (pv 0)) (a_cons (e_var (pv 1)) (a_cons (e_gc W.z_MOST_DEGREE (by rfl)) a_nil)))))) (k_cons s_raise
      k_nil) k_nil)
      k_nil)
theorem d_space_size (W : Wld mg K fv) (C : Cals P w K mg base fv k) (f : Addr) (cdv : Value) (A : Around) (outer : List Env) (s : Shared) (H : Hp) (E : XK) (hr : Room k (A.deeper (PyProof.Rows.envOfC "space_size" (C8.fnScope t_space_size) s.heap.objs.size f cdv))) :
    PSs (cxOf CX0 P w K mg base N_space_size "space_size" (C8.fnScope t_space_size) f cdv A outer s H E).nox (C8.fnBody t_space_size) (tK K fv (callF G k) c_space_size) :=
  have nd := sc_space_size.nd
  (k_cons (s_if (PW.pt (t_or (t_not (t_val (e_isTup (by rfl) W.m_isinstance (by rfl) W.m_tuple (e_var (pv 0))))) (t_or1 (t_not (t_chn c_le c_le e_int (e_len (by rfl) W.m_len (a_cons (e_var (pv 0)) a_nil)) (e_gc W.z_MOST_BREAKS (by rfl))))))) (k_cons s_raise
      k_nil) k_nil)
      (k_cons (s_for PassesOwn.never rfl (i_enu (by rfl) W.m_enumerate (a_cons (e_var (pv 0)) a_nil)) (g_tup rfl (gs_cons (g_v (pg_name (i := 3) nd rfl (by first | exact .inl rfl | exact .inr rfl))) (gs_cons (g_v (pg_name (i := 4) nd rfl (by first | exact .inl rfl | exact .inr rfl))) gs_nil))) (k_cons (s_if (PW.pt (t_or (t_not (t_val (e_call C.c_is_ratio hr (by rfl) (a_cons (e_var (pv 4)) a_nil)))) (t_or1 (PW.pt (t_and (t_cmp c_gt (e_var (pv 3)) e_int) (t_and1 (t_not (t_val (e_call C.c_is_below hr (by rfl) (a_cons (e_idx (e_var (pv 0)) (e_sub (e_var (pv 3)) e_int)) (a_cons (e_var (pv 4)) a_nil))))))))))) (k_cons s_raise
      k_nil) k_nil)
      k_nil))
      (k_cons (s_expr (e_call C.c_need_low hr (by rfl) (a_cons (e_var (pv 1)) (a_cons e_int a_nil))))
      (k_cons (s_if (t_not (t_val (e_call C.c_is_from hr (by rfl) (a_cons (e_var (pv 2)) (a_cons (e_neg e_int) (a_cons (e_var (pv 1)) a_nil)))))) (k_cons s_raise
      k_nil) k_nil)
      (k_cons (s_ret (e_sub (e_mul (e_sub (e_len (by rfl) W.m_len (a_cons (e_var (pv 0)) a_nil)) e_int) (e_add (e_var (pv 1)) e_int)) (e_mul (e_sub (e_len (by rfl) W.m_len (a_cons (e_var (pv 0)) a_nil)) e_int) (e_add (e_var (pv 2)) e_int))))
      k_nil)))))
theorem d__law_taken (W : Wld mg K fv) (C : Cals P w K mg base fv k) (f : Addr) (cdv : Value) (A : Around) (outer : List Env) (s : Shared) (H : Hp) (E : XK) (hr : Room k (A.deeper (PyProof.Rows.envOfC "_law_taken" (C8.fnScope t__law_taken) s.heap.objs.size f cdv))) :
    PSs (cxOf CX0 P w K mg base N__law_taken "_law_taken" (C8.fnScope t__law_taken) f cdv A outer s H E).nox (C8.fnBody t__law_taken) (tK K fv (callF G k) c__law_taken) :=
  have nd := sc__law_taken.nd
  (k_cons (s_if (t_cmp c_gt (e_idx (e_var (pv 0)) e_int) e_int) (k_cons (s_set (i := 3) nd rfl (by first | exact .inl rfl | exact .inr rfl) (e_mod (e_intf (by rfl) W.m_int (a_cons (e_idx (e_var (pv 0)) e_int) a_nil)) (e_var (pv 1))))
      (k_cons (s_asg (e_fdiv (e_idx (e_var (pv 0)) e_int) (e_var (pv 1))) (g_sub (e_var (pv 0)) e_int))
      (k_cons (s_ret (e_var (pv 3)))
      k_nil))) k_nil)
      (k_cons (s_asg (e_add (e_idx (e_var (pv 0)) e_int) e_int) (g_sub (e_var (pv 0)) e_int))
      (k_cons (s_if (t_cmp c_gt (e_idx (e_var (pv 0)) e_int) (e_len (by rfl) W.m_len (a_cons (e_idx (e_var (pv 0)) e_int) a_nil))) (k_cons (s_asg (e_mod (e_intf (by rfl) W.m_int (a_cons (e_add (e_mul (e_idx (e_var (pv 0)) e_int) e_int) e_int) a_nil)) e_int) (g_sub (e_var (pv 0)) e_int))
      (k_cons (s_ret (e_mod (e_intf (by rfl) W.m_int (a_cons (e_fdiv (e_idx (e_var (pv 0)) e_int) e_int) a_nil)) (e_var (pv 1))))
      k_nil)) k_nil)
      (k_cons (s_set (i := 2) nd rfl (by first | exact .inl rfl | exact .inr rfl) (e_idx (e_idx (e_var (pv 0)) e_int) (e_sub (e_idx (e_var (pv 0)) e_int) e_int)))
      (k_cons (s_asg (e_mod (e_intf (by rfl) W.m_int (a_cons (e_add (e_add (e_mul (e_idx (e_var (pv 0)) e_int) e_int) (e_var (pv 2))) e_int) a_nil)) e_int) (g_sub (e_var (pv 0)) e_int))
      (k_cons (s_if (t_cmp c_ge (e_var (pv 2)) (e_pow e_int e_int)) (k_cons (s_asg (e_fdiv (e_var (pv 2)) (e_var (pv 1))) (g_sub (e_var (pv 0)) e_int))
      k_nil) k_nil)
      (k_cons (s_ret (e_mod (e_intf (by rfl) W.m_int (a_cons (e_var (pv 2)) a_nil)) (e_var (pv 1))))
      k_nil)))))))
theorem d__law_pick (W : Wld mg K fv) (C : Cals P w K mg base fv k) (f : Addr) (cdv : Value) (A : Around) (outer : List Env) (s : Shared) (H : Hp) (E : XK) (hr : Room k (A.deeper (PyProof.Rows.envOfC "_law_pick" (C8.fnScope t__law_pick) s.heap.objs.size f cdv))) :
    PSs (cxOf CX0 P w K mg base N__law_pick "_law_pick" (C8.fnScope t__law_pick) f cdv A outer s H E).nox (C8.fnBody t__law_pick) (tK K fv (callF G k) c__law_pick) :=
  have nd := sc__law_pick.nd
  (k_cons (s_ret (e_idx (e_var (pv 1)) (e_call C.c__law_taken hr (by rfl) (a_cons (e_var (pv 0)) (a_cons (e_len (by rfl) W.m_len (a_cons (e_var (pv 1)) a_nil)) a_nil)))))
      k_nil)
theorem d__law_alike (W : Wld mg K fv) (C : Cals P w K mg base fv k) (f : Addr) (cdv : Value) (A : Around) (outer : List Env) (s : Shared) (H : Hp) (E : XK) (hr : Room k (A.deeper (PyProof.Rows.envOfC "_law_alike" (C8.fnScope t__law_alike) s.heap.objs.size f cdv))) :
    PSs (cxOf CX0 P w K mg base N__law_alike "_law_alike" (C8.fnScope t__law_alike) f cdv A outer s H E).nox (C8.fnBody t__law_alike) (tK K fv (callF G k) c__law_alike) :=
  have nd := sc__law_alike.nd
  (k_cons (s_if (t_val (e_isTL (by rfl) W.m_isinstance (by rfl) W.m_tuple (by rfl) W.m_list (e_var (pv 1)))) (k_cons (s_if (PW.pt (t_or (t_not (t_val (e_isTL (by rfl) W.m_isinstance (by rfl) W.m_tuple (by rfl) W.m_list (e_var (pv 0))))) (t_or1 (t_cmp (c_ne hr) (e_isList (by rfl) W.m_isinstance (by rfl) W.m_list (e_var (pv 0))) (e_isList (by rfl) W.m_isinstance (by rfl) W.m_list (e_var (pv 1))))))) (k_cons (s_ret e_bl)
      k_nil) k_nil)
      (k_cons (s_if (t_cmp (c_ne hr) (e_len (by rfl) W.m_len (a_cons (e_var (pv 0)) a_nil)) (e_len (by rfl) W.m_len (a_cons (e_var (pv 1)) a_nil))) (k_cons (s_ret e_bl)
      k_nil) k_nil)
      (k_cons (s_ret (e_cmp (c_eq hr) (e_comp [("_law_k", 2)] rfl nd (i_rng1 (by rfl) W.m_range (a_cons (e_len (by rfl) W.m_len (a_cons (e_var (pv 1)) a_nil)) a_nil)) (blkOk_by (by rfl)) (fun _ _ _ _ _ => (g_v (pg_name (i := 2) nd rfl (by first | exact .inl rfl | exact .inr rfl)))) (fun _ _ _ _ _ => (w_one (t_not (t_val (e_call C.c__law_alike hr (by rfl) (a_cons (e_idx (e_var (pv 0)) (e_var (pv 2))) (a_cons (e_idx (e_var (pv 1)) (e_var (pv 2))) a_nil))))))) (fun _ _ _ _ _ => (e_var (pv 2)))) (e_lst a_nil)))
      k_nil))) k_nil)
      (k_cons (s_if (PW.pt (t_or (t_cmp c_isN (e_var (pv 1)) e_non) (t_or1 (t_val (e_isStr (by rfl) W.m_isinstance (by rfl) W.m_str (e_var (pv 1))))))) (k_cons (s_ret (e_and (e_cmp (c_eq hr) (e_var (pv 0)) (e_var (pv 1))) (e_one (e_cmp (c_eq hr) (e_isStr (by rfl) W.m_isinstance (by rfl) W.m_str (e_var (pv 0))) (e_isStr (by rfl) W.m_isinstance (by rfl) W.m_str (e_var (pv 1)))))))
      k_nil) k_nil)
      (k_cons (s_ret (e_and (e_isInt (by rfl) W.m_isinstance (by rfl) W.m_int (e_var (pv 0))) (e_and (e_cmp (c_eq hr) (e_isBool (by rfl) W.m_isinstance (by rfl) W.m_bool (e_var (pv 0))) (e_isBool (by rfl) W.m_isinstance (by rfl) W.m_bool (e_var (pv 1)))) (e_one (e_cmp (c_eq hr) (e_var (pv 0)) (e_var (pv 1)))))))
      k_nil)))
theorem d__law_made (W : Wld mg K fv) (C : Cals P w K mg base fv k) (f : Addr) (cdv : Value) (A : Around) (outer : List Env) (s : Shared) (H : Hp) (E : XK) (hr : Room k (A.deeper (PyProof.Rows.envOfC "_law_made" (C8.fnScope t__law_made) s.heap.objs.size f cdv))) :
    PSs (cxOf CX0 P w K mg base N__law_made "_law_made" (C8.fnScope t__law_made) f cdv A outer s H E).nox (C8.fnBody t__law_made) (tK K fv (callF G k) c__law_made) :=
  have nd := sc__law_made.nd
  (k_cons (s_par2 (i := 3) (j := 4) rfl nd rfl rfl (by decide) rfl rfl (a_cons (e_abs (by rfl) W.m_abs (a_cons (e_var (pv 0)) a_nil)) (a_cons (e_abs (by rfl) W.m_abs (a_cons (e_var (pv 1)) a_nil)) a_nil)))
      (k_cons (s_for PassesOwn.never rfl (i_rng1 (by rfl) W.m_range (a_cons e_int a_nil)) (g_v (pg_name (i := 2) nd rfl (by first | exact .inl rfl | exact .inr rfl))) (k_cons (s_if (t_cmp (c_eq hr) (e_var (pv 4)) e_int) (k_cons s_brk
      k_nil) k_nil)
      (k_cons (s_par2 (i := 3) (j := 4) rfl nd rfl rfl (by decide) rfl rfl (a_cons (e_var (pv 4)) (a_cons (e_mod (e_var (pv 3)) (e_var (pv 4))) a_nil)))
      k_nil)))
      (k_cons (s_set (i := 3) nd rfl (by first | exact .inl rfl | exact .inr rfl) (e_ite (t_cmp c_lt (e_var (pv 1)) e_int) (e_sub e_int (e_var (pv 3))) (e_var (pv 3))))
      (k_cons (s_ret (e_tup (a_cons (e_fdiv (e_var (pv 0)) (e_var (pv 3))) (a_cons (e_fdiv (e_var (pv 1)) (e_var (pv 3))) a_nil))))
      k_nil))))
theorem d__law_plus (W : Wld mg K fv) (C : Cals P w K mg base fv k) (f : Addr) (cdv : Value) (A : Around) (outer : List Env) (s : Shared) (H : Hp) (E : XK) (hr : Room k (A.deeper (PyProof.Rows.envOfC "_law_plus" (C8.fnScope t__law_plus) s.heap.objs.size f cdv))) :
    PSs (cxOf CX0 P w K mg base N__law_plus "_law_plus" (C8.fnScope t__law_plus) f cdv A outer s H E).nox (C8.fnBody t__law_plus) (tK K fv (callF G k) c__law_plus) :=
  have nd := sc__law_plus.nd
  (k_cons (s_ret (e_call C.c__law_made hr (by rfl) (a_cons (e_add (e_mul (e_idx (e_var (pv 0)) e_int) (e_idx (e_var (pv 1)) e_int)) (e_mul (e_idx (e_var (pv 1)) e_int) (e_idx (e_var (pv 0)) e_int))) (a_cons (e_mul (e_idx (e_var (pv 0)) e_int) (e_idx (e_var (pv 1)) e_int)) a_nil))))
      k_nil)
theorem d__law_minus (W : Wld mg K fv) (C : Cals P w K mg base fv k) (f : Addr) (cdv : Value) (A : Around) (outer : List Env) (s : Shared) (H : Hp) (E : XK) (hr : Room k (A.deeper (PyProof.Rows.envOfC "_law_minus" (C8.fnScope t__law_minus) s.heap.objs.size f cdv))) :
    PSs (cxOf CX0 P w K mg base N__law_minus "_law_minus" (C8.fnScope t__law_minus) f cdv A outer s H E).nox (C8.fnBody t__law_minus) (tK K fv (callF G k) c__law_minus) :=
  have nd := sc__law_minus.nd
  (k_cons (s_ret (e_call C.c__law_made hr (by rfl) (a_cons (e_sub (e_mul (e_idx (e_var (pv 0)) e_int) (e_idx (e_var (pv 1)) e_int)) (e_mul (e_idx (e_var (pv 1)) e_int) (e_idx (e_var (pv 0)) e_int))) (a_cons (e_mul (e_idx (e_var (pv 0)) e_int) (e_idx (e_var (pv 1)) e_int)) a_nil))))
      k_nil)
theorem d__law_times (W : Wld mg K fv) (C : Cals P w K mg base fv k) (f : Addr) (cdv : Value) (A : Around) (outer : List Env) (s : Shared) (H : Hp) (E : XK) (hr : Room k (A.deeper (PyProof.Rows.envOfC "_law_times" (C8.fnScope t__law_times) s.heap.objs.size f cdv))) :
    PSs (cxOf CX0 P w K mg base N__law_times "_law_times" (C8.fnScope t__law_times) f cdv A outer s H E).nox (C8.fnBody t__law_times) (tK K fv (callF G k) c__law_times) :=
  have nd := sc__law_times.nd
  (k_cons (s_ret (e_call C.c__law_made hr (by rfl) (a_cons (e_mul (e_idx (e_var (pv 0)) e_int) (e_idx (e_var (pv 1)) e_int)) (a_cons (e_mul (e_idx (e_var (pv 0)) e_int) (e_idx (e_var (pv 1)) e_int)) a_nil))))
      k_nil)
theorem d__law_over (W : Wld mg K fv) (C : Cals P w K mg base fv k) (f : Addr) (cdv : Value) (A : Around) (outer : List Env) (s : Shared) (H : Hp) (E : XK) (hr : Room k (A.deeper (PyProof.Rows.envOfC "_law_over" (C8.fnScope t__law_over) s.heap.objs.size f cdv))) :
    PSs (cxOf CX0 P w K mg base N__law_over "_law_over" (C8.fnScope t__law_over) f cdv A outer s H E).nox (C8.fnBody t__law_over) (tK K fv (callF G k) c__law_over) :=
  have nd := sc__law_over.nd
  (k_cons (s_ret (e_call C.c__law_made hr (by rfl) (a_cons (e_mul (e_idx (e_var (pv 0)) e_int) (e_idx (e_var (pv 1)) e_int)) (a_cons (e_mul (e_idx (e_var (pv 0)) e_int) (e_idx (e_var (pv 1)) e_int)) a_nil))))
      k_nil)
theorem d__law_draw (W : Wld mg K fv) (C : Cals P w K mg base fv k) (f : Addr) (cdv : Value) (A : Around) (outer : List Env) (s : Shared) (H : Hp) (E : XK) (hr : Room k (A.deeper (PyProof.Rows.envOfC "_law_draw" (C8.fnScope t__law_draw) s.heap.objs.size f cdv))) :
    PSs (cxOf CX0 P w K mg base N__law_draw "_law_draw" (C8.fnScope t__law_draw) f cdv A outer s H E).nox (C8.fnBody t__law_draw) (tK K fv (callF G k) c__law_draw) :=
  have nd := sc__law_draw.nd
  (k_cons (s_set (i := 1) nd rfl (by first | exact .inl rfl | exact .inr rfl) (e_call C.c__law_pick hr (by rfl) (a_cons (e_var (pv 0)) (a_cons (e_lst (a_cons e_int (a_cons e_int (a_cons e_int (a_cons e_int (a_cons e_int a_nil)))))) a_nil))))
      (k_cons (s_ret (e_call C.c__law_made hr (by rfl) (a_cons (e_sub (e_call C.c__law_taken hr (by rfl) (a_cons (e_var (pv 0)) (a_cons e_int a_nil))) e_int) (a_cons (e_var (pv 1)) a_nil))))
      k_nil))
theorem d__law_at (W : Wld mg K fv) (C : Cals P w K mg base fv k) (f : Addr) (cdv : Value) (A : Around) (outer : List Env) (s : Shared) (H : Hp) (E : XK) (hr : Room k (A.deeper (PyProof.Rows.envOfC "_law_at" (C8.fnScope t__law_at) s.heap.objs.size f cdv))) :
    PSs (cxOf CX0 P w K mg base N__law_at "_law_at" (C8.fnScope t__law_at) f cdv A outer s H E).nox (C8.fnBody t__law_at) (tK K fv (callF G k) c__law_at) :=
  have nd := sc__law_at.nd
  (k_cons (s_set (i := 2) nd rfl (by first | exact .inl rfl | exact .inr rfl) (e_tup (a_cons e_int (a_cons e_int a_nil))))
      (k_cons (s_for PassesOwn.never rfl (i_seq (e_rev (e_var (pv 0)))) (g_v (pg_name (i := 3) nd rfl (by first | exact .inl rfl | exact .inr rfl))) (k_cons (s_set (i := 2) nd rfl (by first | exact .inl rfl | exact .inr rfl) (e_call C.c__law_plus hr (by rfl) (a_cons (e_call C.c__law_times hr (by rfl) (a_cons (e_var (pv 2)) (a_cons (e_var (pv 1)) a_nil))) (a_cons (e_var (pv 3)) a_nil))))
      k_nil))
      (k_cons (s_ret (e_var (pv 2)))
      k_nil)))
theorem d__law_p_slope (W : Wld mg K fv) (C : Cals P w K mg base fv k) (f : Addr) (cdv : Value) (A : Around) (outer : List Env) (s : Shared) (H : Hp) (E : XK) (hr : Room k (A.deeper (PyProof.Rows.envOfC "_law_p_slope" (C8.fnScope t__law_p_slope) s.heap.objs.size f cdv))) :
    PSs (cxOf CX0 P w K mg base N__law_p_slope "_law_p_slope" (C8.fnScope t__law_p_slope) f cdv A outer s H E).nox (C8.fnBody t__law_p_slope) (tK K fv (callF G k) c__law_p_slope) :=
  have nd := sc__law_p_slope.nd
  (k_cons (s_ret (e_tuple (by rfl) W.m_tuple (a_cons (e_comp [("_law_power", 1)] rfl nd (i_rng2 (by rfl) W.m_range (a_cons e_int (a_cons (e_len (by rfl) W.m_len (a_cons (e_var (pv 0)) a_nil)) a_nil))) (blkOk_by (by rfl)) (fun _ _ _ _ _ => (g_v (pg_name (i := 1) nd rfl (by first | exact .inl rfl | exact .inr rfl)))) (fun _ _ _ _ _ => w_nil) (fun _ _ _ _ _ => (e_call C.c__law_times hr (by rfl) (a_cons (e_idx (e_var (pv 0)) (e_var (pv 1))) (a_cons (e_tup (a_cons (e_var (pv 1)) (a_cons e_int a_nil))) a_nil))))) a_nil)))
      k_nil)
theorem d__law_slopes (W : Wld mg K fv) (C : Cals P w K mg base fv k) (f : Addr) (cdv : Value) (A : Around) (outer : List Env) (s : Shared) (H : Hp) (E : XK) (hr : Room k (A.deeper (PyProof.Rows.envOfC "_law_slopes" (C8.fnScope t__law_slopes) s.heap.objs.size f cdv))) :
    PSs (cxOf CX0 P w K mg base N__law_slopes "_law_slopes" (C8.fnScope t__law_slopes) f cdv A outer s H E).nox (C8.fnBody t__law_slopes) (tK K fv (callF G k) c__law_slopes) :=
  have nd := sc__law_slopes.nd
  (k_cons (s_set (i := 2) nd rfl (by first | exact .inl rfl | exact .inr rfl) (e_var (pv 0)))
      (k_cons (s_for PassesOwn.never rfl (i_rng1 (by rfl) W.m_range (a_cons (e_var (pv 1)) a_nil)) (g_v (pg_name (i := 3) nd rfl (by first | exact .inl rfl | exact .inr rfl))) (k_cons (s_set (i := 2) nd rfl (by first | exact .inl rfl | exact .inr rfl) (e_call C.c__law_p_slope hr (by rfl) (a_cons (e_var (pv 2)) a_nil)))
      k_nil))
      (k_cons (s_ret (e_var (pv 2)))
      k_nil)))
theorem d__law_rank (W : Wld mg K fv) (C : Cals P w K mg base fv k) (f : Addr) (cdv : Value) (A : Around) (outer : List Env) (s : Shared) (H : Hp) (E : XK) (hr : Room k (A.deeper (PyProof.Rows.envOfC "_law_rank" (C8.fnScope t__law_rank) s.heap.objs.size f cdv))) :
    PSs (cxOf CX0 P w K mg base N__law_rank "_law_rank" (C8.fnScope t__law_rank) f cdv A outer s H E).nox (C8.fnBody t__law_rank) (tK K fv (callF G k) c__law_rank) :=
  have nd := sc__law_rank.nd
  (k_cons (s_asg (e_tup (a_cons (e_comp [("_law_line", 7)] rfl nd (i_seq (e_var (pv 0))) (blkOk_by (by rfl)) (fun _ _ _ _ _ => (g_v (pg_name (i := 7) nd rfl (by first | exact .inl rfl | exact .inr rfl)))) (fun _ _ _ _ _ => w_nil) (fun _ _ _ _ _ => (e_list (by rfl) W.m_list (a_cons (e_var (pv 7)) a_nil)))) (a_cons e_int a_nil))) (g_tup rfl (gs_cons (g_v (pg_name (i := 3) nd rfl (by first | exact .inl rfl | exact .inr rfl))) (gs_cons (g_v (pg_name (i := 4) nd rfl (by first | exact .inl rfl | exact .inr rfl))) gs_nil))))
      (k_cons (s_set (i := 1) nd rfl (by first | exact .inl rfl | exact .inr rfl) (e_ite (t_cmp (c_ne hr) (e_var (pv 3)) (e_lst a_nil)) (e_len (by rfl) W.m_len (a_cons (e_idx (e_var (pv 3)) e_int) a_nil)) e_int))
      (k_cons (s_for PassesOwn.never rfl (i_rng1 (by rfl) W.m_range (a_cons (e_var (pv 1)) a_nil)) (g_v (pg_name (i := 2) nd rfl (by first | exact .inl rfl | exact .inr rfl))) (k_cons (s_setComp (i := 5) [("_law_place", 6)] rfl nd rfl rfl (i_rng2 (by rfl) W.m_range (a_cons (e_var (pv 4)) (a_cons (e_len (by rfl) W.m_len (a_cons (e_var (pv 3)) a_nil)) a_nil))) (blkOk_by (by rfl)) (fun _ _ _ _ _ => (g_v (pg_name (i := 6) nd rfl (by first | exact .inl rfl | exact .inr rfl)))) (fun _ _ _ _ _ => (w_one (t_cmp (c_ne hr) (e_idx (e_idx (e_var (pv 3)) (e_var (pv 6))) (e_var (pv 2))) (e_tup (a_cons e_int (a_cons e_int a_nil)))))) (fun _ _ _ _ _ => (e_var (pv 6))))
      (k_cons (s_if (t_cmp (c_ne hr) (e_var (pv 5)) (e_lst a_nil)) (k_cons (s_asg (e_tup (a_cons (e_idx (e_var (pv 3)) (e_idx (e_var (pv 5)) e_int)) (a_cons (e_idx (e_var (pv 3)) (e_var (pv 4))) a_nil))) (g_tup rfl (gs_cons (g_sub (e_var (pv 3)) (e_var (pv 4))) (gs_cons (g_sub (e_var (pv 3)) (e_idx (e_var (pv 5)) e_int)) gs_nil))))
      (k_cons (s_for PassesOwn.never rfl (i_rng2 (by rfl) W.m_range (a_cons (e_add (e_var (pv 4)) e_int) (a_cons (e_len (by rfl) W.m_len (a_cons (e_var (pv 3)) a_nil)) a_nil))) (g_v (pg_name (i := 6) nd rfl (by first | exact .inl rfl | exact .inr rfl))) (k_cons (s_set (i := 8) nd rfl (by first | exact .inl rfl | exact .inr rfl) (e_call C.c__law_over hr (by rfl) (a_cons (e_idx (e_idx (e_var (pv 3)) (e_var (pv 6))) (e_var (pv 2))) (a_cons (e_idx (e_idx (e_var (pv 3)) (e_var (pv 4))) (e_var (pv 2))) a_nil))))
      (k_cons (s_set (i := 9) nd rfl (by first | exact .inl rfl | exact .inr rfl) (e_idx (e_var (pv 3)) (e_var (pv 4))))
      (k_cons (s_asg (e_comp [("_law_x", 10), ("_law_y", 11)] rfl nd (i_zip (by rfl) W.m_zip (a_cons (e_idx (e_var (pv 3)) (e_var (pv 6))) (a_cons (e_var (pv 9)) a_nil))) (blkOk_by (by rfl)) (fun _ _ _ _ _ => (g_tup rfl (gs_cons (g_v (pg_name (i := 10) nd rfl (by first | exact .inl rfl | exact .inr rfl))) (gs_cons (g_v (pg_name (i := 11) nd rfl (by first | exact .inl rfl | exact .inr rfl))) gs_nil)))) (fun _ _ _ _ _ => w_nil) (fun _ _ _ _ _ => (e_call C.c__law_minus hr (by rfl) (a_cons (e_var (pv 10)) (a_cons (e_call C.c__law_times hr (by rfl) (a_cons (e_var (pv 8)) (a_cons (e_var (pv 11)) a_nil))) a_nil))))) (g_sub (e_var (pv 3)) (e_var (pv 6))))
      k_nil))))
      (k_cons (s_set (i := 4) nd rfl (by first | exact .inl rfl | exact .inr rfl) (e_add (e_var (pv 4)) e_int))
      k_nil))) k_nil)
      k_nil)))
      (k_cons (s_ret (e_var (pv 4)))
      k_nil))))
theorem d_law (W : Wld mg K fv) (C : Cals P w K mg base fv k) (f : Addr) (cdv : Value) (A : Around) (outer : List Env) (s : Shared) (H : Hp) (E : XK) (hr : Room k (A.deeper (PyProof.Rows.envOfC "law" (C8.fnScope t_law) s.heap.objs.size f cdv))) :
    PSs (cxOf CX0 P w K mg base N_law "law" (C8.fnScope t_law) f cdv A outer s H E).nox (C8.fnBody t_law) (tK K fv (callF G k) c_law_29) :=
  have nd := sc_law.nd
  (k_cons (s_set (i := 1) nd rfl (by first | exact .inl rfl | exact .inr rfl) (e_lst (a_cons (e_var (pv 0)) (a_cons e_int (a_cons e_int (a_cons e_int a_nil))))))
      (k_cons (s_set (i := 2) nd rfl (by first | exact .inl rfl | exact .inr rfl) (e_call C.c__law_taken hr (by rfl) (a_cons (e_var (pv 1)) (a_cons e_int a_nil))))
      (k_cons (s_set (i := 3) nd rfl (by first | exact .inl rfl | exact .inr rfl) (e_sub (e_call C.c__law_taken hr (by rfl) (a_cons (e_var (pv 1)) (a_cons (e_add (e_var (pv 2)) e_int) a_nil))) e_int))
      (k_cons (s_par2 (i := 6) (j := 7) rfl nd rfl rfl (by decide) rfl rfl (a_cons (e_call C.c__law_draw hr (by rfl) (a_cons (e_var (pv 1)) a_nil)) (a_cons (e_lst a_nil) a_nil)))
      (k_cons (s_for PassesOwn.never rfl (i_rng1 (by rfl) W.m_range (a_cons (e_add e_int (e_call C.c__law_taken hr (by rfl) (a_cons (e_var (pv 1)) (a_cons e_int a_nil)))) a_nil)) (g_v (pg_name (i := 4) nd rfl (by first | exact .inl rfl | exact .inr rfl))) (k_cons (s_expr (e_append (e_var (pv 7)) (a_cons (e_var (pv 6)) a_nil)))
      (k_cons (s_set (i := 6) nd rfl (by first | exact .inl rfl | exact .inr rfl) (e_call C.c__law_plus hr (by rfl) (a_cons (e_var (pv 6)) (a_cons (e_call C.c__law_made hr (by rfl) (a_cons (e_add e_int (e_call C.c__law_taken hr (by rfl) (a_cons (e_var (pv 1)) (a_cons e_int a_nil)))) (a_cons (e_call C.c__law_pick hr (by rfl) (a_cons (e_var (pv 1)) (a_cons (e_lst (a_cons e_int (a_cons e_int (a_cons e_int a_nil)))) a_nil))) a_nil))) a_nil))))
      k_nil)))
      (k_cons (s_par2 (i := 8) (j := 9) rfl nd rfl rfl (by decide) rfl rfl (a_cons (e_sub (e_len (by rfl) W.m_len (a_cons (e_var (pv 7)) a_nil)) e_int) (a_cons (e_lst a_nil) a_nil)))
      (k_cons (s_for PassesOwn.never rfl (i_rng2 (by rfl) W.m_range (a_cons e_int (a_cons (e_var (pv 8)) a_nil))) (g_v (pg_name (i := 5) nd rfl (by first | exact .inl rfl | exact .inr rfl))) (k_cons (s_for PassesOwn.never rfl (i_rng1 (by rfl) W.m_range (a_cons (e_add (e_var (pv 3)) e_int) a_nil)) (g_v (pg_name (i := 4) nd rfl (by first | exact .inl rfl | exact .inr rfl))) (k_cons (s_set (i := 10) nd rfl (by first | exact .inl rfl | exact .inr rfl) (e_mul (e_lst (a_cons (e_tup (a_cons e_int (a_cons e_int a_nil))) a_nil)) (e_mul (e_var (pv 8)) (e_add (e_var (pv 2)) e_int))))
      (k_cons (s_for PassesOwn.never rfl (i_rng1 (by rfl) W.m_range (a_cons (e_add (e_var (pv 2)) e_int) a_nil)) (g_v (pg_name (i := 11) nd rfl (by first | exact .inl rfl | exact .inr rfl))) (k_cons (s_set (i := 12) nd rfl (by first | exact .inl rfl | exact .inr rfl) (e_call C.c__law_slopes hr (by rfl) (a_cons (e_add (e_mul (e_tup (a_cons (e_tup (a_cons e_int (a_cons e_int a_nil))) a_nil)) (e_var (pv 11))) (e_tup (a_cons (e_tup (a_cons e_int (a_cons e_int a_nil))) a_nil))) (a_cons (e_var (pv 4)) a_nil))))
      (k_cons (s_set (i := 13) nd rfl (by first | exact .inl rfl | exact .inr rfl) (e_call C.c__law_at hr (by rfl) (a_cons (e_var (pv 12)) (a_cons (e_idx (e_var (pv 7)) (e_var (pv 5))) a_nil))))
      (k_cons (s_asg (e_var (pv 13)) (g_sub (e_var (pv 10)) (e_add (e_mul (e_sub (e_var (pv 5)) e_int) (e_add (e_var (pv 2)) e_int)) (e_var (pv 11)))))
      (k_cons (s_asg (e_call C.c__law_times hr (by rfl) (a_cons (e_var (pv 13)) (a_cons (e_tup (a_cons (e_neg e_int) (a_cons e_int a_nil))) a_nil))) (g_sub (e_var (pv 10)) (e_add (e_mul (e_var (pv 5)) (e_add (e_var (pv 2)) e_int)) (e_var (pv 11)))))
      k_nil)))))
      (k_cons (s_expr (e_append (e_var (pv 9)) (a_cons (e_var (pv 10)) a_nil)))
      k_nil))))
      k_nil))
      (k_cons (s_ret (e_call C.c__law_alike hr (by rfl) (a_cons (e_call C.c_space_size hr (by rfl) (a_cons (e_tuple (by rfl) W.m_tuple (a_cons (e_var (pv 7)) a_nil)) (a_cons (e_var (pv 2)) (a_cons (e_var (pv 3)) a_nil)))) (a_cons (e_sub (e_mul (e_var (pv 8)) (e_add (e_var (pv 2)) e_int)) (e_call C.c__law_rank hr (by rfl) (a_cons (e_var (pv 9)) a_nil))) a_nil))))
      k_nil))))))))
theorem cals (W : Wld mg K fv) (h_is_int : Has K mg "is_int" t_is_int P_is_int) (h_is_from : Has K mg "is_from" t_is_from P_is_from) (h_is_ratio : Has K mg "is_ratio" t_is_ratio P_is_ratio) (h_is_below : Has K mg "is_below" t_is_below P_is_below) (h_need_low : Has K mg "need_low" t_need_low P_need_low) (h_space_size : Has K mg "space_size" t_space_size P_space_size) (h__law_taken : Has K mg "_law_taken" t__law_taken P__law_taken) (h__law_pick : Has K mg "_law_pick" t__law_pick P__law_pick) (h__law_alike : Has K mg "_law_alike" t__law_alike P__law_alike) (h__law_made : Has K mg "_law_made" t__law_made P__law_made) (h__law_plus : Has K mg "_law_plus" t__law_plus P__law_plus) (h__law_minus : Has K mg "_law_minus" t__law_minus P__law_minus) (h__law_times : Has K mg "_law_times" t__law_times P__law_times) (h__law_over : Has K mg "_law_over" t__law_over P__law_over) (h__law_draw : Has K mg "_law_draw" t__law_draw P__law_draw) (h__law_at : Has K mg "_law_at" t__law_at P__law_at) (h__law_p_slope : Has K mg "_law_p_slope" t__law_p_slope P__law_p_slope) (h__law_slopes : Has K mg "_law_slopes" t__law_slopes P__law_slopes) (h__law_rank : Has K mg "_law_rank" t__law_rank P__law_rank) (h_law : Has K mg "law" t_law P_law) (k : Nat) : Cals P w K mg base fv k := by
  induction k with
  | zero => exact ⟨h_is_int.zero, h_is_from.zero, h_is_ratio.zero, h_is_below.zero, h_need_low.zero, h_space_size.zero, h__law_taken.zero, h__law_pick.zero, h__law_alike.zero, h__law_made.zero, h__law_plus.zero, h__law_minus.zero, h__law_times.zero, h__law_over.zero, h__law_draw.zero, h__law_at.zero, h__law_p_slope.zero, h__law_slopes.zero, h__law_rank.zero, h_law.zero⟩
  | succ k ih => exact ⟨h_is_int.succ sc_is_int rfl fun f cdv A outer s H E hr => d_is_int W ih f cdv A outer s H E hr,
      h_is_from.succ sc_is_from rfl fun f cdv A outer s H E hr => d_is_from W ih f cdv A outer s H E hr,
      h_is_ratio.succ sc_is_ratio rfl fun f cdv A outer s H E hr => d_is_ratio W ih f cdv A outer s H E hr,
      h_is_below.succ sc_is_below rfl fun f cdv A outer s H E hr => d_is_below W ih f cdv A outer s H E hr,
      h_need_low.succ sc_need_low rfl fun f cdv A outer s H E hr => d_need_low W ih f cdv A outer s H E hr,
      h_space_size.succ sc_space_size rfl fun f cdv A outer s H E hr => d_space_size W ih f cdv A outer s H E hr,
      h__law_taken.succ sc__law_taken rfl fun f cdv A outer s H E hr => d__law_taken W ih f cdv A outer s H E hr,
      h__law_pick.succ sc__law_pick rfl fun f cdv A outer s H E hr => d__law_pick W ih f cdv A outer s H E hr,
      h__law_alike.succ sc__law_alike rfl fun f cdv A outer s H E hr => d__law_alike W ih f cdv A outer s H E hr,
      h__law_made.succ sc__law_made rfl fun f cdv A outer s H E hr => d__law_made W ih f cdv A outer s H E hr,
      h__law_plus.succ sc__law_plus rfl fun f cdv A outer s H E hr => d__law_plus W ih f cdv A outer s H E hr,
      h__law_minus.succ sc__law_minus rfl fun f cdv A outer s H E hr => d__law_minus W ih f cdv A outer s H E hr,
      h__law_times.succ sc__law_times rfl fun f cdv A outer s H E hr => d__law_times W ih f cdv A outer s H E hr,
      h__law_over.succ sc__law_over rfl fun f cdv A outer s H E hr => d__law_over W ih f cdv A outer s H E hr,
      h__law_draw.succ sc__law_draw rfl fun f cdv A outer s H E hr => d__law_draw W ih f cdv A outer s H E hr,
      h__law_at.succ sc__law_at rfl fun f cdv A outer s H E hr => d__law_at W ih f cdv A outer s H E hr,
      h__law_p_slope.succ sc__law_p_slope rfl fun f cdv A outer s H E hr => d__law_p_slope W ih f cdv A outer s H E hr,
      h__law_slopes.succ sc__law_slopes rfl fun f cdv A outer s H E hr => d__law_slopes W ih f cdv A outer s H E hr,
      h__law_rank.succ sc__law_rank rfl fun f cdv A outer s H E hr => d__law_rank W ih f cdv A outer s H E hr,
      h_law.succ sc_law rfl fun f cdv A outer s H E hr => d_law W ih f cdv A outer s H E hr⟩
end
theorem law_end {P : Program} {w : World} {K : PySem.W.Frag} {mg : Str → Option Value} {fv : Nat → Option Addr} {fa : Addr} (hmg : mg "law" = some (.ref fa)) (W : Wld mg K fv) (h_is_int : Has K mg "is_int" t_is_int P_is_int) (h_is_from : Has K mg "is_from" t_is_from P_is_from) (h_is_ratio : Has K mg "is_ratio" t_is_ratio P_is_ratio) (h_is_below : Has K mg "is_below" t_is_below P_is_below) (h_need_low : Has K mg "need_low" t_need_low P_need_low) (h_space_size : Has K mg "space_size" t_space_size P_space_size) (h__law_taken : Has K mg "_law_taken" t__law_taken P__law_taken) (h__law_pick : Has K mg "_law_pick" t__law_pick P__law_pick) (h__law_alike : Has K mg "_law_alike" t__law_alike P__law_alike) (h__law_made : Has K mg "_law_made" t__law_made P__law_made) (h__law_plus : Has K mg "_law_plus" t__law_plus P__law_plus) (h__law_minus : Has K mg "_law_minus" t__law_minus P__law_minus) (h__law_times : Has K mg "_law_times" t__law_times P__law_times) (h__law_over : Has K mg "_law_over" t__law_over P__law_over) (h__law_draw : Has K mg "_law_draw" t__law_draw P__law_draw) (h__law_at : Has K mg "_law_at" t__law_at P__law_at) (h__law_p_slope : Has K mg "_law_p_slope" t__law_p_slope P__law_p_slope) (h__law_slopes : Has K mg "_law_slopes" t__law_slopes P__law_slopes) (h__law_rank : Has K mg "_law_rank" t__law_rank P__law_rank) (h_law : Has K mg "law" t_law P_law) :
    ∃ fd : FuncData, (∀ (s : Shared) (u : Value), BindsTo s fd ⟨[u], []⟩ [("_law_script", u)]) ∧ ∀ base : Heap, K.In base → base.Ns mainGlobals mg → FnOk P w K mg base CX0 40 fa fd ["_law_script"] (spI K fv G 40 206) := by
  obtain ⟨f, fd, F, b⟩ := h_law.ex
  have e := hmg.symm.trans F.mgf
  cases e
  refine ⟨fd, fun s u => .of_eq (b [u] rfl), fun base _ _ => ?_⟩
  exact fn_succ F.fn sc_law rfl (fun cdv A outer s H E hr => d_law W (cals W h_is_int h_is_from h_is_ratio h_is_below h_need_low h_space_size h__law_taken h__law_pick h__law_alike h__law_made h__law_plus h__law_minus h__law_times h__law_over h__law_draw h__law_at h__law_p_slope h__law_slopes h__law_rank h_law 39) fa cdv A outer s H E hr)
end PB
open PySem PySem.W PyProof.Rows
set_option maxHeartbeats 0 in
theorem PySem.Challenge.cw_blendcurves_k36_whole_sizes_of_spaces_holds : PySem.Challenge.rw_blendcurves_k36_whole_sizes_of_spaces.Holds := by
  w_on; o_law; k_head; (case hw => w_witness2)
  k_fill
  refine L2.walk_of (l := PySem.Challenge.rw_blendcurves_k36_whole_sizes_of_spaces) (n := 63) (k := 40) (x := "_law_script") (CX := fun _ => L2.CX0) (sp := fun w => PB.spI _ (fun _ => none) PB.G 40 206) rfl (by decide) rfl ⟨rfl, by decide, by decide⟩ (fun w h Y => PySem.W.kIn_of Y) ?F (fun _ H a ns hl hO hS => PB.law_sp hO hS (PB.math36 ns hl) _) (fun _ _ _ _ _ h => h)
  case F =>
    intro w mg fa h KX G hmg
    refine' PB.law_end hmg ⟨PySem.W.mg_none_of KX G ?m_abs, PySem.W.mg_none_of KX G ?m_bool, PySem.W.mg_none_of KX G ?m_enumerate, PySem.W.mg_of KX G ?m_gcd, PySem.W.mg_none_of KX G ?m_int, PySem.W.mg_none_of KX G ?m_isinstance, PySem.W.mg_none_of KX G ?m_len, PySem.W.mg_none_of KX G ?m_list, PySem.W.mg_none_of KX G ?m_range, PySem.W.mg_none_of KX G ?m_str, PySem.W.mg_none_of KX G ?m_tuple, PySem.W.mg_none_of KX G ?m_zip, PB.KC.gc (PySem.W.mg_of KX G ?z_MOST_BREAKS) PB.KC.int, PB.KC.gc (PySem.W.mg_of KX G ?z_MOST_DEGREE) PB.KC.int⟩ (PB.has_mk KX G ?a_is_int ?l_is_int ?c_is_int ?p_is_int (fun _ _ _ _ _ _ us hl => match us, hl with | [_], _ => rfl)) (PB.has_mk KX G ?a_is_from ?l_is_from ?c_is_from ?p_is_from (fun _ _ _ _ _ _ us hl => match us, hl with | [_, _, _], _ => rfl)) (PB.has_mk KX G ?a_is_ratio ?l_is_ratio ?c_is_ratio ?p_is_ratio (fun _ _ _ _ _ _ us hl => match us, hl with | [_], _ => rfl)) (PB.has_mk KX G ?a_is_below ?l_is_below ?c_is_below ?p_is_below (fun _ _ _ _ _ _ us hl => match us, hl with | [_, _], _ => rfl)) (PB.has_mk KX G ?a_need_low ?l_need_low ?c_need_low ?p_need_low (fun _ _ _ _ _ _ us hl => match us, hl with | [_, _], _ => rfl)) (PB.has_mk KX G ?a_space_size ?l_space_size ?c_space_size ?p_space_size (fun _ _ _ _ _ _ us hl => match us, hl with | [_, _, _], _ => rfl)) (PB.has_mk KX G ?a__law_taken ?l__law_taken ?c__law_taken ?p__law_taken (fun _ _ _ _ _ _ us hl => match us, hl with | [_, _], _ => rfl)) (PB.has_mk KX G ?a__law_pick ?l__law_pick ?c__law_pick ?p__law_pick (fun _ _ _ _ _ _ us hl => match us, hl with | [_, _], _ => rfl)) (PB.has_mk KX G ?a__law_alike ?l__law_alike ?c__law_alike ?p__law_alike (fun _ _ _ _ _ _ us hl => match us, hl with | [_, _], _ => rfl)) (PB.has_mk KX G ?a__law_made ?l__law_made ?c__law_made ?p__law_made (fun _ _ _ _ _ _ us hl => match us, hl with | [_, _], _ => rfl)) (PB.has_mk KX G ?a__law_plus ?l__law_plus ?c__law_plus ?p__law_plus (fun _ _ _ _ _ _ us hl => match us, hl with | [_, _], _ => rfl)) (PB.has_mk KX G ?a__law_minus ?l__law_minus ?c__law_minus ?p__law_minus (fun _ _ _ _ _ _ us hl => match us, hl with | [_, _], _ => rfl)) (PB.has_mk KX G ?a__law_times ?l__law_times ?c__law_times ?p__law_times (fun _ _ _ _ _ _ us hl => match us, hl with | [_, _], _ => rfl)) (PB.has_mk KX G ?a__law_over ?l__law_over ?c__law_over ?p__law_over (fun _ _ _ _ _ _ us hl => match us, hl with | [_, _], _ => rfl)) (PB.has_mk KX G ?a__law_draw ?l__law_draw ?c__law_draw ?p__law_draw (fun _ _ _ _ _ _ us hl => match us, hl with | [_], _ => rfl)) (PB.has_mk KX G ?a__law_at ?l__law_at ?c__law_at ?p__law_at (fun _ _ _ _ _ _ us hl => match us, hl with | [_, _], _ => rfl)) (PB.has_mk KX G ?a__law_p_slope ?l__law_p_slope ?c__law_p_slope ?p__law_p_slope (fun _ _ _ _ _ _ us hl => match us, hl with | [_], _ => rfl)) (PB.has_mk KX G ?a__law_slopes ?l__law_slopes ?c__law_slopes ?p__law_slopes (fun _ _ _ _ _ _ us hl => match us, hl with | [_, _], _ => rfl)) (PB.has_mk KX G ?a__law_rank ?l__law_rank ?c__law_rank ?p__law_rank (fun _ _ _ _ _ _ us hl => match us, hl with | [_], _ => rfl)) (PB.has_mk KX G ?a_law ?l_law ?c_law ?p_law (fun _ _ _ _ _ _ us hl => match us, hl with | [_], _ => rfl))
    (case m_abs => k_is); (case m_bool => k_is); (case m_enumerate => k_is); (case m_gcd => k_is); (case m_int => k_is); (case m_isinstance => k_is); (case m_len => k_is); (case m_list => k_is); (case m_range => k_is); (case m_str => k_is); (case m_tuple => k_is); (case m_zip => k_is); (case z_MOST_BREAKS => k_is); (case z_MOST_DEGREE => k_is); (case a_is_int => k_is); (case l_is_int => k_is); (case c_is_int => k_is); (case p_is_int => k_is); (case a_is_from => k_is); (case l_is_from => k_is); (case c_is_from => k_is); (case p_is_from => k_is); (case a_is_ratio => k_is); (case l_is_ratio => k_is); (case c_is_ratio => k_is); (case p_is_ratio => k_is); (case a_is_below => k_is); (case l_is_below => k_is); (case c_is_below => k_is); (case p_is_below => k_is); (case a_need_low => k_is); (case l_need_low => k_is); (case c_need_low => k_is); (case p_need_low => k_is); (case a_space_size => k_is); (case l_space_size => k_is); (case c_space_size => k_is); (case p_space_size => k_is); (case a__law_taken => k_is); (case l__law_taken => k_is); (case c__law_taken => k_is); (case p__law_taken => k_is); (case a__law_pick => k_is); (case l__law_pick => k_is); (case c__law_pick => k_is); (case p__law_pick => k_is); (case a__law_alike => k_is); (case l__law_alike => k_is); (case c__law_alike => k_is); (case p__law_alike => k_is); (case a__law_made => k_is); (case l__law_made => k_is); (case c__law_made => k_is); (case p__law_made => k_is); (case a__law_plus => k_is); (case l__law_plus => k_is); (case c__law_plus => k_is); (case p__law_plus => k_is); (case a__law_minus => k_is); (case l__law_minus => k_is); (case c__law_minus => k_is); (case p__law_minus => k_is); (case a__law_times => k_is); (case l__law_times => k_is); (case c__law_times => k_is); (case p__law_times => k_is); (case a__law_over => k_is); (case l__law_over => k_is); (case c__law_over => k_is); (case p__law_over => k_is); (case a__law_draw => k_is); (case l__law_draw => k_is); (case c__law_draw => k_is); (case p__law_draw => k_is); (case a__law_at => k_is); (case l__law_at => k_is); (case c__law_at => k_is); (case p__law_at => k_is); (case a__law_p_slope => k_is); (case l__law_p_slope => k_is); (case c__law_p_slope => k_is); (case p__law_p_slope => k_is); (case a__law_slopes => k_is); (case l__law_slopes => k_is); (case c__law_slopes => k_is); (case p__law_slopes => k_is); (case a__law_rank => k_is); (case l__law_rank => k_is); (case c__law_rank => k_is); (case p__law_rank => k_is); (case a_law => k_is); (case l_law => k_is); (case c_law => k_is); (case p_law => k_is)

