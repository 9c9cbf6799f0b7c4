import PyProof.Rows.All
import Wide.All
import OpenK.AllK
import Wide.FinOn
import HandS.ForMost
import HandS.Codes
import HandS.Walk
import HandS.TupAny
import HandS.TupMul
import HandS.Zip
import HandS.IsInst
import HandS.Gcd
import HandS.Star
import HandS.Wide
import HandS.Deep
import KE.KDictZip
import KE.KDictList
import PyProof.ListNew
import HandS.Style
import HandS.CallLocal
import HandS.Iter
import KE.GoesEnum
import KE.GoesMore
import HandS.TryOnly
import HandS.New
import KE.KRevSl
import HandS.Strs
import HandS.Ends
import PySem.Challenge.RW_blendcurves_k31_whole_refined_splines
set_option Elab.async false
set_option linter.all false
set_option maxRecDepth 100000
namespace PB
open PySem

/-- pure values -/
inductive PV where
  | non | bl (b : Bool) | int (i : Int) | str (x : Str) | tup (xs : List PV) | wtup (xs : List PV) | scr (xs : List PV) | ref (n : Nat) | fn (n : Nat)
/-- what stands in the pure heap -/
inductive PO where
  | lst (xs : List PV)
abbrev PH := List PO
abbrev Sl := List (Option PV)

mutual
def PV.same : PV → PV → Bool
  | .non, .non => true
  | .bl a, .bl b => a == b
  | .int a, .int b => a == b
  | .str a, .str b => a == b
  | .tup a, .tup b => PV.sames a b
  | .wtup a, .wtup b => PV.sames a b
  | .scr a, .scr b => PV.sames a b
  | .ref a, .ref b => a == b
  | .fn a, .fn b => a == b
  | _, _ => false
def PV.sames : List PV → List PV → Bool
  | [], [] => true
  | a :: r, b :: q => PV.same a b && PV.sames r q
  | _, _ => false
end
mutual
theorem PV.same_eq : ∀ {a b : PV}, PV.same a b = true → a = b
  | .non, b, h => by cases b <;> simp_all [PV.same]
  | .bl x, b, h => by cases b <;> simp_all [PV.same]
  | .int x, b, h => by cases b <;> simp_all [PV.same]
  | .str x, b, h => by cases b <;> simp_all [PV.same]
  | .tup x, b, h => by
    cases b with
    | tup y => simp only [PV.same] at h; rw [PV.sames_eq h]
    | _ => simp [PV.same] at h
  | .wtup x, b, h => by
    cases b with
    | wtup y => simp only [PV.same] at h; rw [PV.sames_eq h]
    | _ => simp [PV.same] at h
  | .scr x, b, h => by
    cases b with
    | scr y => simp only [PV.same] at h; rw [PV.sames_eq h]
    | _ => simp [PV.same] at h
  | .ref x, b, h => by cases b <;> simp_all [PV.same]
  | .fn x, b, h => by cases b <;> simp_all [PV.same]
theorem PV.sames_eq : ∀ {a b : List PV}, PV.sames a b = true → a = b
  | [], b, h => by cases b <;> simp_all [PV.sames]
  | a :: r, b, h => by
    cases b with
    | nil => simp [PV.sames] at h
    | cons c q =>
      simp only [PV.sames, Bool.and_eq_true] at h
      rw [PV.same_eq h.1, PV.sames_eq h.2]
end
mutual
theorem PV.same_rfl : ∀ a : PV, PV.same a a = true
  | .non => by simp [PV.same]
  | .bl x => by simp [PV.same]
  | .int x => by simp [PV.same]
  | .str x => by simp [PV.same]
  | .tup x => by simp only [PV.same]; exact PV.sames_rfl x
  | .wtup x => by simp only [PV.same]; exact PV.sames_rfl x
  | .scr x => by simp only [PV.same]; exact PV.sames_rfl x
  | .ref x => by simp [PV.same]
  | .fn x => by simp [PV.same]
theorem PV.sames_rfl : ∀ a : List PV, PV.sames a a = true
  | [] => by simp [PV.sames]
  | a :: r => by simp only [PV.sames, Bool.and_eq_true]; exact ⟨PV.same_rfl a, PV.sames_rfl r⟩
end
def PO.same : PO → PO → Bool
  | .lst a, .lst b => PV.sames a b
theorem PO.same_eq {a b : PO} (h : PO.same a b = true) : a = b := by
  cases a <;> cases b <;> simp [PO.same] at h <;> rw [PV.sames_eq h]
theorem PO.same_rfl (a : PO) : PO.same a a = true := by cases a <;> simp only [PO.same] <;> exact PV.sames_rfl _

/-- what a step gives -/
inductive Res (α : Type) where
  | ok (a : α) (h : PH) | exc (c : Nat) (v : PV) (h : PH) | bad
def Res.bind {α β : Type} (x : Res α) (f : α → PH → Res β) : Res β :=
  match x with
  | .ok a h => f a h
  | .exc c v h => .exc c v h
  | .bad => .bad

inductive BinO where
  | add | sub | mul | fdiv | mod | pow
inductive CmpO where
  | eq | ne | lt | le | gt | ge | isN | notN | isIn | notIn
/-- built-in functions -/
inductive Blt where
  | len | abs | min2 | max2 | min1 | max1 | gcd | tuple | list | int | isInt | isBool | isTup | isStr | isList | isTL | all | any | sum | lzip
inductive Mth where
  | append | extend | pop | pop0 | count | index

mutual
/-- expressions -/
inductive CE where
  | var (i : Nat) | con (v : PV)
  | bin (op : BinO) (a b : CE) | neg (a : CE) | not (a : CE)
  | and (a b : CE) | or (a b : CE)
  | cmp (op : CmpO) (a b : CE) | chn (op op' : CmpO) (a b c : CE)
  | ite (c a b : CE)
  | tup (es : CA) | lst (es : CA)
  | idx (a b : CE) | slc (a : CE) (lo hi : CO) | rev (a : CE) | two (a : CE) (k : CO)
  | call (f : Nat) (es : CA) | callv (i : Nat) (es : CA)
  | blt (b : Blt) (es : CA) | mth (m : Mth) (o : CE) (es : CA)
  | comp (e : CE) (own : List Nat) (tg : CT) (it : CI) (c : CO)
/-- arguments, items -/
inductive CA where
  | nil | cons (e : CE) (r : CA) | star (e : CE) (r : CA)
/-- an optional part -/
inductive CO where
  | none | some (e : CE)
/-- what a for walks -/
inductive CI where
  | seq (e : CE) | rng1 (es : CA) | rng2 (es : CA) | rng3 (es : CA) | enu (es : CA) | zip (es : CA)
/-- targets -/
inductive CT where
  | v (i : Nat) | s (o i : CE) | nil | cons (a r : CT)
end

mutual
/-- statements -/
inductive CS where
  | asg (t : CT) (e : CE) | par (is : List Nat) (es : CA) | aug (i : Nat) (op : BinO) (e : CE)
  | expr (e : CE) | ret (e : CE) | retN
  | ifs (c : CE) (a b : CB) | whl (c : CE) (b : CB) | for_ (t : CT) (it : CI) (b : CB)
  | brk | cnt | pass | raise (c : Nat) (es : CA)
/-- blocks -/
inductive CB where
  | nil | cons (s : CS) (r : CB)
end

/-! ### operators -/
def toDs (f : PV → Option PyData) : List PV → Option (List PyData)
  | [] => some []
  | x :: r => match f x, toDs f r with
    | some d, some ds => some (d :: ds)
    | _, _ => none
/-- what a value stands for, its lists read -/
def toD (h : PH) : Nat → PV → Option PyData
  | _, .non => some .none
  | _, .bl b => some (.bool b)
  | _, .int i => some (.int i)
  | _, .str x => if PyData.canLay0 (.str x) = true then some (.str x) else none
  | n + 1, .tup xs => (toDs (toD h n) xs).map .tuple
  | n + 1, .scr xs => (toDs (toD h n) xs).map .list
  | n + 1, .ref a => match h[a]? with
    | some (.lst xs) => (toDs (toD h n) xs).map .list
    | none => none
  | _, _ => none
def eqD (h : PH) (a b : PV) : Option Bool :=
  match toD h 12 a, toD h 12 b with
  | some d, some e => some (PyData.eqv d e)
  | _, _ => none
/-- the items of a list or tuple -/
def items (h : PH) : PV → Option (List PV)
  | .tup xs => some xs
  | .scr xs => some xs
  | .ref a => match h[a]? with
    | some (.lst xs) => some xs
    | none => none
  | _ => none
def mulOk (i j : Int) : Bool := decide (i.natAbs.log2 + j.natAbs.log2 < 1000000)
def many : Nat := 1000000
def alloc (xs : List PV) (h : PH) : Res PV := .ok (.ref h.length) (h ++ [.lst xs])
def binop : BinO → PV → PV → PH → Res PV
  | .add, .int i, .int j, h => .ok (.int (i + j)) h
  | .sub, .int i, .int j, h => .ok (.int (i - j)) h
  | .mul, .int i, .int j, h => if mulOk i j = true then .ok (.int (i * j)) h else .bad
  | .fdiv, .int i, .int j, h => if j ≠ 0 ∧ j.natAbs.log2 < 9000 then .ok (.int (i.fdiv j)) h else .bad
  | .mod, .int i, .int j, h => if j ≠ 0 then .ok (.int (i.fmod j)) h else .bad
  | .pow, .int i, .int j, h => if 0 ≤ j ∧ j ≤ 1000 ∧ i.natAbs < 2 ^ 64 then .ok (.int (i ^ j.toNat)) h else .bad
  | .add, .tup xs, .tup ys, h => if xs.length + ys.length ≤ many then .ok (.tup (xs ++ ys)) h else .bad
  | .add, .ref a, .ref b, h => match h[a]?, h[b]? with
    | some (.lst xs), some (.lst ys) => if xs.length + ys.length ≤ many then alloc (xs ++ ys) h else .bad
    | _, _ => .bad
  | .mul, .ref a, .int k, h => match h[a]? with
    | some (.lst xs) => if -1000 ≤ k ∧ k ≤ many ∧ xs.length * k.toNat ≤ many then alloc (List.replicate k.toNat xs).flatten h else .bad
    | _ => .bad
  | .mul, .tup xs, .int k, h => if -1000 ≤ k ∧ k ≤ 1000 ∧ xs.length ≤ 1000 then .ok (.tup (List.replicate k.toNat xs).flatten) h else .bad
  | _, _, _, _ => .bad
/-- the data of a list's or a tuple's items -/
def seqD (h : PH) (b : PV) : Option (List PyData) :=
  match toD h 12 b with
  | some (.list ds) => some ds
  | some (.tuple ds) => some ds
  | _ => none
def cmpop : CmpO → PV → PV → PH → Res PV
  | .eq, a, b, h => match eqD h a b with | some r => .ok (.bl r) h | none => .bad
  | .ne, a, b, h => match eqD h a b with | some r => .ok (.bl (!r)) h | none => .bad
  | .lt, .int i, .int j, h => .ok (.bl (decide (i < j))) h
  | .le, .int i, .int j, h => .ok (.bl (decide (i ≤ j))) h
  | .gt, .int i, .int j, h => .ok (.bl (decide (j < i))) h
  | .ge, .int i, .int j, h => .ok (.bl (decide (j ≤ i))) h
  | .isN, a, b, h => match b with
    | .non => .ok (.bl (match a with | .non => true | _ => false)) h
    | .bl y => match a with | .bl x => .ok (.bl (decide (x = y))) h | _ => .bad
    | _ => .bad
  | .notN, a, b, h => match b with
    | .non => .ok (.bl (match a with | .non => false | _ => true)) h
    | .bl y => match a with | .bl x => .ok (.bl (!decide (x = y))) h | _ => .bad
    | _ => .bad
  | .isIn, a, b, h => match toD h 12 a, seqD h b with
    | some d, some ds => .ok (.bl (ds.any fun z => PyData.eqv z d)) h
    | _, _ => .bad
  | .notIn, a, b, h => match toD h 12 a, seqD h b with
    | some d, some ds => .ok (.bl (!(ds.any fun z => PyData.eqv z d))) h
    | _, _ => .bad
  | _, _, _, _ => .bad

def idxop (a b : PV) (h : PH) : Res PV :=
  match items h a, b with
  | some xs, .int i => match L2.atI xs i with | some v => .ok v h | none => .bad
  | _, _ => .bad
def cut (xs : List PV) (lo hi : Option Int) : List PV := (xs.drop (HT.sIx xs.length 0 lo)).take (HT.sIx xs.length xs.length hi - HT.sIx xs.length 0 lo)
def slcop (a : PV) (lo hi : Option Int) (h : PH) : Res PV :=
  match a with
  | .tup xs => .ok (.tup (cut xs lo hi)) h
  | .ref n => match h[n]? with
    | some (.lst xs) => alloc (cut xs lo hi) h
    | _ => .bad
  | _ => .bad
def revop (a : PV) (h : PH) : Res PV :=
  match a with
  | .tup xs => .ok (.tup xs.reverse) h
  | .ref n => match h[n]? with
    | some (.lst xs) => alloc xs.reverse h
    | _ => .bad
  | _ => .bad
/-- each second item -/
def seconds {α : Type} : List α → List α
  | [] => []
  | [x] => [x]
  | x :: _ :: r => x :: seconds r
def twoop (a : PV) (k : Option Int) (h : PH) : Res PV :=
  match a with
  | .tup xs => if 0 ≤ k.getD 0 then .ok (.tup (seconds (xs.drop (k.getD 0).toNat))) h else .bad
  | _ => .bad
def truths (p : Bool → Bool → Bool) (e : Bool) : List PV → Option Bool
  | [] => some e
  | .bl b :: r => match truths p e r with | some c => some (p b c) | none => none
  | _ => none
def intsOf : List PV → Option (List Int)
  | [] => some []
  | .int i :: r => match intsOf r with | some is => some (i :: is) | none => none
  | _ => none
/-- the class of a value: NoneType, bool, int, str, tuple, list -/
def kindOf (h : PH) : PV → Option Nat
  | .non => some 0 | .bl _ => some 1 | .int _ => some 2 | .str _ => some 3 | .tup _ => some 4
  | .ref n => match h[n]? with | some (.lst _) => some 5 | none => none
  | _ => none
/-- the pairs of two lists -/
def pairs : List PV → List PV → List PV
  | x :: r, y :: q => .tup [x, y] :: pairs r q
  | _, _ => []
def blt : Blt → List PV → PH → Res PV
  | .len, [a], h => match items h a with | some xs => .ok (.int xs.length) h | none => .bad
  | .abs, [.int i], h => .ok (.int i.natAbs) h
  | .min2, [.int i, .int j], h => .ok (.int (if j < i then j else i)) h
  | .max2, [.int i, .int j], h => .ok (.int (if i < j then j else i)) h
  | .min1, [.ref n], h => match h[n]? with
    | some (.lst xs) => match intsOf xs with | some (i :: is) => .ok (.int (is.foldl min i)) h | _ => .bad
    | none => .bad
  | .max1, [.ref n], h => match h[n]? with
    | some (.lst xs) => match intsOf xs with | some (i :: is) => .ok (.int (is.foldl max i)) h | _ => .bad
    | none => .bad
  | .gcd, [.int i, .int j], h => .ok (.int (Nat.gcd i.natAbs j.natAbs : Nat)) h
  | .tuple, [a], h => match items h a with | some xs => .ok (.tup xs) h | none => .bad
  | .list, [a], h => match items h a with | some xs => alloc xs h | none => .bad
  | .int, [.int i], h => .ok (.int i) h
  | .isInt, [a], h => match kindOf h a with | some k => .ok (.bl (k == 2 || k == 1)) h | none => .bad
  | .isBool, [a], h => match kindOf h a with | some k => .ok (.bl (k == 1)) h | none => .bad
  | .isTup, [a], h => match kindOf h a with | some k => .ok (.bl (k == 4)) h | none => .bad
  | .isStr, [a], h => match kindOf h a with | some k => .ok (.bl (k == 3)) h | none => .bad
  | .isList, [a], h => match kindOf h a with | some k => .ok (.bl (k == 5)) h | none => .bad
  | .isTL, [a], h => match kindOf h a with | some k => .ok (.bl (k == 4 || k == 5)) h | none => .bad
  | .all, [.ref n], h => match h[n]? with
    | some (.lst xs) => match truths (· && ·) true xs with | some b => .ok (.bl b) h | none => .bad
    | none => .bad
  | .any, [.ref n], h => match h[n]? with
    | some (.lst xs) => match truths (· || ·) false xs with | some b => .ok (.bl b) h | none => .bad
    | none => .bad
  | .sum, [.ref n], h => match h[n]? with
    | some (.lst xs) => match intsOf xs with | some is => .ok (.int is.sum) h | none => .bad
    | none => .bad
  | .lzip, [.ref n, .ref m], h => match h[n]?, h[m]? with
    | some (.lst xs), some (.lst ys) => alloc (pairs xs ys) h
    | _, _ => .bad
  | _, _, _ => .bad
def mth : Mth → PV → List PV → PH → Res PV
  | .append, .ref n, [x], h => match h[n]? with
    | some (.lst xs) => if xs.length < many then .ok .non (h.set n (.lst (xs ++ [x]))) else .bad
    | _ => .bad
  | .extend, .ref n, [.ref m], h => match h[n]?, h[m]? with
    | some (.lst xs), some (.lst ys) => if xs.length + ys.length < many then .ok .non (h.set n (.lst (xs ++ ys))) else .bad
    | _, _ => .bad
  | .pop, .ref n, [], h => match h[n]? with
    | some (.lst xs) => match xs.getLast? with | some x => .ok x (h.set n (.lst xs.dropLast)) | none => .bad
    | _ => .bad
  | .pop0, .ref n, [.int i], h => match h[n]? with
    | some (.lst (x :: xs)) => if i = 0 then .ok x (h.set n (.lst xs)) else .bad
    | _ => .bad
  | .count, a, [x], h => match seqD h a, toD h 12 x with
    | some ds, some d => .ok (.int (ds.countP fun z => PyData.eqv z d : Nat)) h
    | _, _ => .bad
  | .index, a, [x], h => match seqD h a, toD h 12 x with
    | some ds, some d => match ds.findIdx? fun z => PyData.eqv z d with | some c => .ok (.int c) h | none => .bad
    | _, _ => .bad
  | _, _, _, _ => .bad
/-- o[i] = v -/
def setop (o i v : PV) (h : PH) : Res Unit :=
  match o, i with
  | .ref n, .int i => match h[n]? with
    | some (.lst xs) => match L2.ixN xs.length i with
      | some j => .ok () (h.set n (.lst (xs.set j v)))
      | none => .bad
    | _ => .bad
  | _, _ => .bad

def range : Int → Nat → Int → List PV
  | _, 0, _ => []
  | a, n + 1, c => .int a :: range (a + c) n c
def enums : Int → List PV → List PV
  | _, [] => []
  | i, x :: r => .wtup [.int i, x] :: enums (i + 1) r
def zips : List PV → List PV → List PV
  | x :: r, y :: q => .wtup [x, y] :: zips r q
  | _, _ => []
/-- the cells that a walk leans on -/
abbrev Lean_ := List (Nat × PO)
def leans (l : Lean_) (h : PH) : Bool := l.all fun p => match h[p.1]? with | some c => PO.same c p.2 | none => false
def leanOf (h : PH) : PV → Lean_
  | .ref n => match h[n]? with | some c => [(n, c)] | none => []
  | _ => []
def bigR : Int := 1000000
/-- the slots of a comprehension's own names are empty -/
def wipe (s : Sl) : List Nat → Sl
  | [] => s
  | i :: r => (wipe s r).set i none
def compL (f : PV → PH → Res (Option PV)) (l : Lean_) : List PV → PH → Res (List PV)
  | [], h => if leans l h = true then .ok [] h else .bad
  | x :: r, h => if leans l h = true then (f x h).bind fun y h1 => (compL f l r h1).bind fun ys h2 =>
      .ok (match y with | some y => y :: ys | none => ys) h2 else .bad
def optI (h : PH) : Option PV → Res (Option Int)
  | none => .ok none h
  | some (.int i) => .ok (some i) h
  | _ => .bad

section
variable (cf : Nat → List PV → PH → Res PV)
mutual
def evE : CE → Sl → PH → Res PV
  | .var i, s, h => match s[i]? with | some (some v) => .ok v h | _ => .bad
  | .con v, _, h => .ok v h
  | .bin op a b, s, h => (evE a s h).bind fun x h1 => (evE b s h1).bind fun y h2 => binop op x y h2
  | .neg a, s, h => (evE a s h).bind fun x h1 => match x with | .int i => .ok (.int (-i)) h1 | _ => .bad
  | .not a, s, h => (evE a s h).bind fun x h1 => match x with | .bl b => .ok (.bl (!b)) h1 | _ => .bad
  | .and a b, s, h => (evE a s h).bind fun x h1 => match x with | .bl true => evE b s h1 | .bl false => .ok (.bl false) h1 | _ => .bad
  | .or a b, s, h => (evE a s h).bind fun x h1 => match x with | .bl false => evE b s h1 | .bl true => .ok (.bl true) h1 | _ => .bad
  | .cmp op a b, s, h => (evE a s h).bind fun x h1 => (evE b s h1).bind fun y h2 => cmpop op x y h2
  | .chn op op' a b c, s, h => (evE a s h).bind fun x h1 => (evE b s h1).bind fun y h2 => (cmpop op x y h2).bind fun r h3 =>
      match r with | .bl true => (evE c s h3).bind fun z h4 => cmpop op' y z h4 | .bl false => .ok (.bl false) h3 | _ => .bad
  | .ite c a b, s, h => (evE c s h).bind fun x h1 => match x with | .bl true => evE a s h1 | .bl false => evE b s h1 | _ => .bad
  | .tup es, s, h => (evA es s h).bind fun xs h1 => if xs.length ≤ many then .ok (.tup xs) h1 else .bad
  | .lst es, s, h => (evA es s h).bind fun xs h1 => if xs.length ≤ many then alloc xs h1 else .bad
  | .idx a b, s, h => (evE a s h).bind fun x h1 => (evE b s h1).bind fun y h2 => idxop x y h2
  | .slc a lo hi, s, h => (evE a s h).bind fun x h1 => (evO lo s h1).bind fun l h2 => (evO hi s h2).bind fun u h3 =>
      (optI h3 l).bind fun l h3 => (optI h3 u).bind fun u h3 => slcop x l u h3
  | .rev a, s, h => (evE a s h).bind fun x h1 => revop x h1
  | .two a k, s, h => (evE a s h).bind fun x h1 => (evO k s h1).bind fun l h2 => (optI h2 l).bind fun l h3 => twoop x l h3
  | .call f es, s, h => (evA es s h).bind fun xs h1 => cf f xs h1
  | .callv i es, s, h => match s[i]? with
    | some (some (.fn f)) => (evA es s h).bind fun xs h1 => cf f xs h1
    | _ => .bad
  | .blt b es, s, h => (evA es s h).bind fun xs h1 => blt b xs h1
  | .mth m o es, s, h => (evE o s h).bind fun x h1 => (evA es s h1).bind fun xs h2 => mth m x xs h2
  | .comp e own tg it c, s, h => (evI it s h).bind fun p h1 => if p.1.length ≤ many then
      (compL (fun x h2 => (asT tg x (wipe s own) h2).bind fun s3 h3 => (evO c s3 h3).bind fun t h4 =>
        match t with
        | some (.bl false) => .ok none h4
        | some (.bl true) => (evE e s3 h4).bind fun y h5 => .ok (some y) h5
        | none => (evE e s3 h4).bind fun y h5 => .ok (some y) h5
        | _ => .bad) p.2 p.1 h1).bind (fun ys h2 => alloc ys h2) else .bad
def evA : CA → Sl → PH → Res (List PV)
  | .nil, _, h => .ok [] h
  | .cons e r, s, h => (evE e s h).bind fun x h1 => (evA r s h1).bind fun xs h2 => .ok (x :: xs) h2
  | .star e r, s, h => (evE e s h).bind fun x h1 => match items h1 x with
    | some ys => (evA r s h1).bind fun xs h2 => .ok (ys ++ xs) h2
    | none => .bad
def evO : CO → Sl → PH → Res (Option PV)
  | .none, _, h => .ok none h
  | .some e, s, h => (evE e s h).bind fun x h1 => .ok (some x) h1
/-- the items that a for walks, and the lists that it leans on -/
def evI : CI → Sl → PH → Res (List PV × Lean_)
  | .seq e, s, h => (evE e s h).bind fun x h1 => match items h1 x with | some xs => .ok (xs, leanOf h1 x) h1 | none => .bad
  | .rng1 es, s, h => (evA es s h).bind fun xs h1 => match xs with
    | [.int b] => if -bigR ≤ b ∧ b ≤ bigR then .ok (range 0 b.toNat 1, []) h1 else .bad
    | _ => .bad
  | .rng2 es, s, h => (evA es s h).bind fun xs h1 => match xs with
    | [.int a, .int b] => if -bigR ≤ a ∧ a ≤ bigR ∧ -bigR ≤ b ∧ b ≤ bigR then .ok (range a (b - a).toNat 1, []) h1 else .bad
    | _ => .bad
  | .rng3 es, s, h => (evA es s h).bind fun xs h1 => match xs with
    | [.int a, .int b, .int c] => if -bigR ≤ a ∧ a ≤ bigR ∧ -bigR ≤ b ∧ b ≤ bigR ∧ c = -1 then .ok (range a (a - b).toNat (-1), []) h1 else .bad
    | _ => .bad
  | .enu es, s, h => (evA es s h).bind fun xs h1 => match xs with
    | [x] => match items h1 x with | some ys => .ok (enums 0 ys, leanOf h1 x) h1 | none => .bad
    | _ => .bad
  | .zip es, s, h => (evA es s h).bind fun xs h1 => match xs with
    | [x, y] => match items h1 x, items h1 y with
      | some us, some ws => .ok (zips us ws, leanOf h1 x ++ leanOf h1 y) h1
      | _, _ => .bad
    | _ => .bad
/-- a value is given to a target -/
def asT : CT → PV → Sl → PH → Res Sl
  | .v i, x, s, h => .ok (s.set i (some x)) h
  | .s o i, x, s, h => (evE o s h).bind fun ov h1 => (evE i s h1).bind fun iv h2 => (setop ov iv x h2).bind fun _ h3 => .ok s h3
  | .nil, x, s, h => match x with | .tup [] => .ok s h | _ => .bad
  | .cons a r, x, s, h => match x with
    | .tup (x :: xs) => (asT a x s h).bind fun s1 h1 => asTs r xs s1 h1
    | .wtup (x :: xs) => (asT a x s h).bind fun s1 h1 => asTs r xs s1 h1
    | .ref n => match h[n]? with
      | some (.lst (x :: xs)) => (asT a x s h).bind fun s1 h1 => asTs r xs s1 h1
      | _ => .bad
    | _ => .bad
def asTs : CT → List PV → Sl → PH → Res Sl
  | .cons a r, x :: xs, s, h => (asT a x s h).bind fun s1 h1 => asTs r xs s1 h1
  | .nil, [], s, h => .ok s h
  | _, _, _, _ => .bad
end
end

/-! ### statements -/
inductive Fl where
  | nx (s : Sl) | rt (v : PV) | bk (s : Sl) | ct (s : Sl)
def whL (c : Sl → PH → Res PV) (b : Sl → PH → Res Fl) : Nat → Sl → PH → Res Fl
  | 0, _, _ => .bad
  | n + 1, s, h => (c s h).bind fun x h1 => match x with
    | .bl true => (b s h1).bind fun f h2 => match f with
      | .nx s2 => whL c b n s2 h2
      | .ct s2 => whL c b n s2 h2
      | .bk s2 => .ok (.nx s2) h2
      | .rt v => .ok (.rt v) h2
    | .bl false => .ok (.nx s) h1
    | _ => .bad
def frL (g : PV → Sl → PH → Res Sl) (b : Sl → PH → Res Fl) (l : Lean_) : List PV → Sl → PH → Res Fl
  | [], s, h => if leans l h = true then .ok (.nx s) h else .bad
  | x :: r, s, h => if leans l h = true then (g x s h).bind fun s1 h1 => (b s1 h1).bind fun f h2 => match f with
      | .nx s2 => frL g b l r s2 h2
      | .ct s2 => frL g b l r s2 h2
      | .bk s2 => .ok (.nx s2) h2
      | .rt v => .ok (.rt v) h2
    else .bad
def fuel : Nat := 100000
def setAll : List Nat → List PV → Sl → Option Sl
  | [], [], s => some s
  | i :: is, x :: xs, s => setAll is xs (s.set i (some x))
  | _, _, _ => none
def isNum : PV → Bool
  | .int _ => true
  | _ => false
section
variable (cf : Nat → List PV → PH → Res PV)
mutual
def evS : CS → Sl → PH → Res Fl
  | .asg t e, s, h => (evE cf e s h).bind fun x h1 => (asT cf t x s h1).bind fun s2 h2 => .ok (.nx s2) h2
  | .par is es, s, h => (evA cf es s h).bind fun xs h1 => match setAll is xs s with | some s2 => .ok (.nx s2) h1 | none => .bad
  | .aug i op e, s, h => match s[i]? with
    | some (some x) => (evE cf e s h).bind fun y h1 => if isNum x = true ∧ isNum y = true then
        (binop op x y h1).bind fun z h2 => .ok (.nx (s.set i (some z))) h2 else .bad
    | _ => .bad
  | .expr e, s, h => (evE cf e s h).bind fun _ h1 => .ok (.nx s) h1
  | .ret e, s, h => (evE cf e s h).bind fun x h1 => .ok (.rt x) h1
  | .retN, _, h => .ok (.rt .non) h
  | .ifs c a b, s, h => (evE cf c s h).bind fun x h1 => match x with | .bl true => evB a s h1 | .bl false => evB b s h1 | _ => .bad
  | .whl c b, s, h => whL (evE cf c) (evB b) fuel s h
  | .for_ t it b, s, h => (evI cf it s h).bind fun p h1 => frL (asT cf t) (evB b) p.2 p.1 s h1
  | .brk, s, h => .ok (.bk s) h
  | .cnt, s, h => .ok (.ct s) h
  | .pass, s, h => .ok (.nx s) h
  | .raise c es, s, h => (evA cf es s h).bind fun xs h1 => .exc c (.tup xs) h1
def evB : CB → Sl → PH → Res Fl
  | .nil, s, h => .ok (.nx s) h
  | .cons st r, s, h => (evS st s h).bind fun f h1 => match f with
    | .nx s2 => evB r s2 h1
    | f => .ok f h1
end
end

/-! ### functions -/
structure Fn where
  np : Nat
  ns : Nat
  body : CB
mutual
/-- all ids below n -/
def PV.low (n : Nat) : PV → Bool
  | .ref k => decide (k < n)
  | .tup xs => PV.lows n xs
  | .wtup xs => PV.lows n xs
  | .scr xs => PV.lows n xs
  | _ => true
def PV.lows (n : Nat) : List PV → Bool
  | [] => true
  | x :: r => PV.low n x && PV.lows n r
end
def PO.low (n : Nat) : PO → Bool
  | .lst xs => PV.lows n xs
def POs.same : PH → PH → Bool
  | [], [] => true
  | a :: r, b :: q => PO.same a b && POs.same r q
  | _, _ => false
/-- what a call leaves: without its own lists, where nothing of the caller's names them -/
def keepP (h h1 : PH) (v : PV) : PH :=
  if PV.low h.length v = true ∧ (POs.same (h1.take h.length) h = true ∨ (h1.take h.length).all (PO.low h.length) = true) then h1.take h.length else h1
def startP (n : Nat) (args : List PV) : Sl := args.map some ++ List.replicate (n - args.length) none
def outF (h : PH) (f : Fl) (h1 : PH) : Res PV :=
  match f with
  | .rt v => .ok v (keepP h h1 v)
  | .nx _ => .ok .non (keepP h h1 .non)
  | _ => .bad
def callF (G : Nat → Option Fn) : Nat → Nat → List PV → PH → Res PV
  | 0, _, _, _ => .bad
  | k + 1, i, args, h => match G i with
    | none => .bad
    | some f => if args.length = f.np then (evB (callF G k) f.body (startP f.ns args) h).bind (outF h) else .bad
end PB

set_option Elab.async false
set_option linter.all false
set_option maxRecDepth 100000
set_option maxHeartbeats 1000000
namespace PB
open PySem PySem.Spec PyProof.Rows L2

/-! ### a list that never changes: locked, or of the written part -/
def SqF (K : PySem.W.Frag) (H : Hp) (a : Addr) (vs : List V) : Prop := (∃ o, H a = some (.frz o (.lst vs))) ∨
    ∃ (o : Obj) (its : Array Value) (n : Nat), K.lookup a = some o ∧ o.cls = .type "list" ∧ o.dict = none ∧ o.data = .seq its n ∧ its.size ≤ sizeLine ∧ Vals vs its.toList
/-- a tuple without a dict: locked, or of the written part -/
def SqN (K : PySem.W.Frag) (H : Hp) (a : Addr) (vs : List V) : Prop := (∃ o : Obj, H a = some (.frz o (.tup vs)) ∧ o.dict = none) ∨
    ∃ (o : Obj) (its : Array Value) (n : Nat), K.lookup a = some o ∧ o.cls = .type "tuple" ∧ o.dict = none ∧ o.data = .seq its n ∧ its.size ≤ sizeLine ∧ Vals vs its.toList
theorem SqN.t {K : PySem.W.Frag} {H : Hp} {a : Addr} {vs : List V} (h : SqN K H a vs) : SqT K H a vs := by
  rcases h with ⟨o, h, _⟩ | ⟨o, its, n, h1, h2, _, h3⟩
  · exact .inl (.inr ⟨o, h⟩)
  · exact .inr ⟨o, its, n, h1, h2, h3⟩
/-- the type, no dict -/
theorem SqN.ty {X : Cx} {pins : List (Addr × Obj)} {σ : L2.St} {H : Hp} {s : Shared} {a : Addr} {vs : List V} (I : Inv X pins σ H s) (h : SqN X.K H a vs) : s.TypeIs (.ref a) "tuple" ∧ ∃ ob, s.heap.get? a = some ob ∧ ob.dict = none := by
  obtain ⟨its, _, p, _⟩ := I.tuple h.t
  refine ⟨p.typeIs, ?_⟩
  rcases h with ⟨o, h, hd⟩ | ⟨o, _, _, h1, _, hd, _⟩
  · have z := I.hok a _ h
    have z' : s.heap.get? a = some o ∧ ObjOk X.prog X.w H s.heap a (.tup vs) := z
    exact ⟨o, z'.1, hd⟩
  · exact ⟨o, I.kIn a o h1, hd⟩
theorem SqF.l {K : PySem.W.Frag} {H : Hp} {a : Addr} {vs : List V} (h : SqF K H a vs) : SqL K H a vs := by
  rcases h with ⟨o, h⟩ | h
  · exact .inl (.inr ⟨o, h⟩)
  · exact .inr h

section
variable (K : PySem.W.Frag) (fa : Nat → Option Addr)
mutual
/-- a value stands for a pure one -/
inductive Rl (io : List Addr) (H : Hp) : V → PV → Prop
  | non : Rl io H .non .non
  | bl (b : Bool) : Rl io H (.bl b) (.bl b)
  | int (i : Int) : Rl io H (.int i) (.int i)
  | str (x : Str) : Rl io H (.str x) (.str x)
  | tup {a : Addr} {vs : List V} {xs : List PV} : SqN K H a vs → Rls io H vs xs → Rl io H (.ref a) (.tup xs)
  | wtup {a : Addr} {vs : List V} {xs : List PV} : SqT K H a vs → Rls io H vs xs → Rl io H (.ref a) (.wtup xs)
  | scr {a : Addr} {vs : List V} {xs : List PV} : SqF K H a vs → Rls io H vs xs → Rl io H (.ref a) (.scr xs)
  | ref {a : Addr} {n : Nat} : io[n]? = some a → Rl io H (.ref a) (.ref n)
  | fn {a : Addr} {n : Nat} : fa n = some a → Rl io H (.ref a) (.fn n)
inductive Rls (io : List Addr) (H : Hp) : List V → List PV → Prop
  | nil : Rls io H [] []
  | cons {v : V} {x : PV} {vs : List V} {xs : List PV} : Rl io H v x → Rls io H vs xs → Rls io H (v :: vs) (x :: xs)
end
/-- the pure heap is borne -/
structure RH (io : List Addr) (H : Hp) (h : PH) : Prop where
  len : io.length = h.length
  nd : io.Nodup
  cell : ∀ (n : Nat) (xs : List PV), h[n]? = some (.lst xs) → ∃ a vs, io[n]? = some a ∧ H a = some (.lst vs) ∧ Rls K fa io H vs xs
/-- what grows: new lists; all else stands -/
structure Ext (io : List Addr) (H : Hp) (io' : List Addr) (H' : Hp) : Prop where
  more : ∃ t, io' = io ++ t ∧ ∀ p ∈ t, H p = none
  stay : ∀ a o, H a = some o → (a ∉ io ∨ ∀ xs, o ≠ .lst xs) → H' a = some o
  there : ∀ a, H' a = none → H a = none
/-- the slots -/
structure RS (io : List Addr) (H : Hp) (sg : L2.St) (s : Sl) : Prop where
  len : sg.length = s.length
  at_ : ∀ (i : Nat) (x : PV), s[i]? = some (some x) → ∃ v, sg[i]? = some (some v) ∧ Rl K fa io H v x
end

section
variable {K : PySem.W.Frag} {fa : Nat → Option Addr} {io io1 io2 : List Addr} {H H1 H2 : Hp}
theorem Ext.refl : Ext io H io H := ⟨⟨[], by simp, fun _ h => nomatch h⟩, fun _ _ h _ => h, fun _ h => h⟩
theorem Ext.trans (a : Ext io H io1 H1) (b : Ext io1 H1 io2 H2) : Ext io H io2 H2 := by
  obtain ⟨t, e1, f1⟩ := a.more
  obtain ⟨u, e2, f2⟩ := b.more
  subst e1; subst e2
  refine ⟨⟨t ++ u, by simp, fun p hp => ?_⟩, fun c o hc hn => ?_, fun c h => a.there c (b.there c h)⟩
  · rcases List.mem_append.mp hp with hp | hp
    · exact f1 p hp
    · exact a.there p (f2 p hp)
  · have h1 := a.stay c o hc hn
    refine b.stay c o h1 ?_
    rcases hn with hn | hn
    · left
      intro hm
      rcases List.mem_append.mp hm with hm | hm
      · exact hn hm
      · rw [f1 c hm] at hc; cases hc
    · exact .inr hn
theorem Ext.at_ (e : Ext io H io1 H1) {n : Nat} {a : Addr} (h : io[n]? = some a) : io1[n]? = some a := by
  obtain ⟨t, rfl, _⟩ := e.more
  have hl := (List.getElem?_eq_some_iff.mp h).1
  rw [List.getElem?_append_left hl]; exact h
theorem Ext.sqT (e : Ext io H io1 H1) {a : Addr} {vs : List V} (h : SqT K H a vs) : SqT K H1 a vs := by
  rcases h with (h | ⟨o, h⟩) | h
  · exact .inl (.inl (e.stay _ _ h (.inr fun _ z => nomatch z)))
  · exact .inl (.inr ⟨o, e.stay _ _ h (.inr fun _ z => nomatch z)⟩)
  · exact .inr h
theorem Ext.sqN (e : Ext io H io1 H1) {a : Addr} {vs : List V} (h : SqN K H a vs) : SqN K H1 a vs := by
  rcases h with ⟨o, h, hd⟩ | h
  · exact .inl ⟨o, e.stay _ _ h (.inr fun _ z => nomatch z), hd⟩
  · exact .inr h
theorem Ext.sqF (e : Ext io H io1 H1) {a : Addr} {vs : List V} (h : SqF K H a vs) : SqF K H1 a vs := by
  rcases h with ⟨o, h⟩ | h
  · exact .inl ⟨o, e.stay _ _ h (.inr fun _ z => nomatch z)⟩
  · exact .inr h
mutual
theorem Rl.mono (e : Ext io H io1 H1) : ∀ {v : V} {x : PV}, Rl K fa io H v x → Rl K fa io1 H1 v x
  | _, _, .non => .non
  | _, _, .bl b => .bl b
  | _, _, .int i => .int i
  | _, _, .str x => .str x
  | _, _, .tup h r => .tup (e.sqN h) (Rls.mono e r)
  | _, _, .wtup h r => .wtup (e.sqT h) (Rls.mono e r)
  | _, _, .scr h r => .scr (e.sqF h) (Rls.mono e r)
  | _, _, .ref h => .ref (e.at_ h)
  | _, _, .fn h => .fn h
theorem Rls.mono (e : Ext io H io1 H1) : ∀ {v : List V} {x : List PV}, Rls K fa io H v x → Rls K fa io1 H1 v x
  | _, _, .nil => .nil
  | _, _, .cons a r => .cons (Rl.mono e a) (Rls.mono e r)
end
theorem RS.mono (e : Ext io H io1 H1) {sg : L2.St} {s : Sl} (r : RS K fa io H sg s) : RS K fa io1 H1 sg s :=
  ⟨r.len, fun i x h => let ⟨v, h1, h2⟩ := r.at_ i x h; ⟨v, h1, h2.mono e⟩⟩
theorem Rls.length : ∀ {vs : List V} {xs : List PV}, Rls K fa io H vs xs → vs.length = xs.length
  | _, _, .nil => rfl
  | _, _, .cons _ r => by rw [List.length_cons, List.length_cons, Rls.length r]
theorem Rls.get : ∀ {vs : List V} {xs : List PV} {i : Nat} {x : PV}, Rls K fa io H vs xs → xs[i]? = some x → ∃ v, vs[i]? = some v ∧ Rl K fa io H v x
  | _, _, _, _, .nil, h => by simp at h
  | _, _, 0, _, .cons a _, h => by simp at h; subst h; exact ⟨_, rfl, a⟩
  | _, _, i + 1, _, .cons _ r, h => by
    obtain ⟨v, h1, h2⟩ := Rls.get (i := i) r (by simpa using h)
    exact ⟨v, by simpa using h1, h2⟩
theorem Rls.append : ∀ {vs ws : List V} {xs ys : List PV}, Rls K fa io H vs xs → Rls K fa io H ws ys → Rls K fa io H (vs ++ ws) (xs ++ ys)
  | _, _, _, _, .nil, q => q
  | _, _, _, _, .cons a r, q => .cons a (Rls.append r q)
theorem Rls.take : ∀ {vs : List V} {xs : List PV} (n : Nat), Rls K fa io H vs xs → Rls K fa io H (vs.take n) (xs.take n)
  | _, _, 0, _ => .nil
  | _, _, _ + 1, .nil => .nil
  | _, _, n + 1, .cons a r => .cons a (Rls.take n r)
theorem Rls.drop : ∀ {vs : List V} {xs : List PV} (n : Nat), Rls K fa io H vs xs → Rls K fa io H (vs.drop n) (xs.drop n)
  | _, _, 0, r => r
  | _, _, _ + 1, .nil => .nil
  | _, _, n + 1, .cons _ r => Rls.drop n r
theorem Rls.set {v : V} {x : PV} (q : Rl K fa io H v x) : ∀ {vs : List V} {xs : List PV} (n : Nat), Rls K fa io H vs xs → Rls K fa io H (vs.set n v) (xs.set n x)
  | _, _, _, .nil => .nil
  | _, _, 0, .cons _ r => .cons q r
  | _, _, n + 1, .cons a r => .cons a (Rls.set q n r)
theorem Rls.reverse : ∀ {vs : List V} {xs : List PV}, Rls K fa io H vs xs → Rls K fa io H vs.reverse xs.reverse
  | _, _, .nil => .nil
  | _, _, .cons a r => by rw [List.reverse_cons, List.reverse_cons]; exact (Rls.reverse r).append (.cons a .nil)
theorem Rls.flat : ∀ (n : Nat) {vs : List V} {xs : List PV}, Rls K fa io H vs xs → Rls K fa io H (List.replicate n vs).flatten (List.replicate n xs).flatten
  | 0, _, _, _ => .nil
  | n + 1, _, _, r => by rw [List.replicate_succ, List.replicate_succ, List.flatten_cons, List.flatten_cons]; exact r.append (Rls.flat n r)
theorem Rls.dropLast {vs : List V} {xs : List PV} (r : Rls K fa io H vs xs) : Rls K fa io H vs.dropLast xs.dropLast := by
  rw [List.dropLast_eq_take, List.dropLast_eq_take, r.length]; exact r.take _
theorem Rls.ints : ∀ {vs : List V} {ns : List Int}, Rls K fa io H vs (ns.map PV.int) → vs = ns.map V.int
  | _, [], h => by cases h; rfl
  | _, n :: ns, h => by
    cases h with
    | cons a r => cases a; rw [Rls.ints r]; rfl
theorem Rls.of_ints : ∀ (ns : List Int), Rls K fa io H (ns.map V.int) (ns.map PV.int)
  | [] => .nil
  | n :: ns => .cons (.int n) (Rls.of_ints ns)
theorem Rls.bls : ∀ {vs : List V} {bs : List Bool}, Rls K fa io H vs (bs.map PV.bl) → vs = bs.map V.bl
  | _, [], h => by cases h; rfl
  | _, b :: bs, h => by
    cases h with
    | cons a r => cases a; rw [Rls.bls r]; rfl

/-! ### the heap's changes -/
theorem RH.lt (r : RH K fa io H h) {n : Nat} {a : Addr} (e : io[n]? = some a) : n < h.length := by
  rw [← r.len]; exact (List.getElem?_eq_some_iff.mp e).1
theorem RH.addr (r : RH K fa io H h) {n : Nat} {a : Addr} (e : io[n]? = some a) : ∃ xs vs, h[n]? = some (.lst xs) ∧ H a = some (.lst vs) ∧ Rls K fa io H vs xs := by
  have hl := r.lt e
  obtain ⟨⟨xs⟩, hx⟩ : ∃ c, h[n]? = some c := ⟨h[n], List.getElem?_eq_getElem hl⟩
  obtain ⟨b, vs, e1, e2, e3⟩ := r.cell n xs hx
  rw [e] at e1; cases e1
  exact ⟨xs, vs, hx, e2, e3⟩
theorem RH.mem (r : RH K fa io H h) {a : Addr} (e : a ∈ io) : ∃ vs, H a = some (.lst vs) := by
  obtain ⟨n, hn, rfl⟩ := List.mem_iff_getElem.mp e
  obtain ⟨_, vs, _, h2, _⟩ := r.addr (List.getElem?_eq_getElem hn)
  exact ⟨vs, h2⟩
/-- a new object that is no list of ours -/
theorem ext_new {p : Addr} {o : HO} (hp : H p = none) : Ext io H io (upd H p o) := by
  refine ⟨⟨[], by simp, fun _ h => nomatch h⟩, fun a u h _ => ?_, fun a h => ?_⟩
  · rw [upd_ne (ne_of_none h hp)]; exact h
  · by_cases e : a = p
    · subst e; exact hp
    · rw [upd_ne e] at h; exact h
theorem RH.stay (r : RH K fa io H h) (e : Ext io H io H1) (k : ∀ a ∈ io, H1 a = H a) : RH K fa io H1 h :=
  ⟨r.len, r.nd, fun n xs hx => by
    obtain ⟨a, vs, e1, e2, e3⟩ := r.cell n xs hx
    exact ⟨a, vs, e1, by rw [k a (List.mem_of_getElem? e1)]; exact e2, e3.mono e⟩⟩
theorem RH.new (r : RH K fa io H h) {p : Addr} {o : HO} (hp : H p = none) : RH K fa io (upd H p o) h := by
  refine r.stay (ext_new hp) fun a ha => ?_
  obtain ⟨vs, e⟩ := r.mem ha
  rw [upd_ne (ne_of_none e hp)]
/-- a new list -/
theorem ext_lst {p : Addr} {o : HO} (hp : H p = none) : Ext io H (io ++ [p]) (upd H p o) := by
  refine ⟨⟨[p], rfl, fun q hq => ?_⟩, fun a u h _ => ?_, fun a h => ?_⟩
  · rw [List.mem_singleton] at hq; subst hq; exact hp
  · rw [upd_ne (ne_of_none h hp)]; exact h
  · by_cases e : a = p
    · subst e; exact hp
    · rw [upd_ne e] at h; exact h
theorem RH.lst (r : RH K fa io H h) {p : Addr} {vs : List V} {xs : List PV} (hp : H p = none) (q : Rls K fa io H vs xs) : RH K fa (io ++ [p]) (upd H p (.lst vs)) (h ++ [.lst xs]) := by
  have e := ext_lst (io := io) (o := .lst vs) hp
  have np : p ∉ io := fun hm => by
    obtain ⟨ws, z⟩ := r.mem hm
    rw [hp] at z; cases z
  refine ⟨by simp [r.len], ?_, fun n ys hy => ?_⟩
  · rw [List.nodup_append]
    refine ⟨r.nd, by simp, fun a ha b hb => ?_⟩
    rw [List.mem_singleton] at hb
    subst hb
    rintro rfl
    exact np ha
  · by_cases hn : n < h.length
    · rw [List.getElem?_append_left hn] at hy
      obtain ⟨a, ws, e1, e2, e3⟩ := r.cell n ys hy
      exact ⟨a, ws, e.at_ e1, by rw [upd_ne (ne_of_none e2 hp)]; exact e2, e3.mono e⟩
    · rw [List.getElem?_append_right (by omega)] at hy
      have hz : n - h.length = 0 := by
        rcases Nat.eq_zero_or_pos (n - h.length) with z | z
        · exact z
        · rw [List.getElem?_eq_none (by simp; omega)] at hy; cases hy
      rw [hz] at hy
      simp at hy
      subst hy
      refine ⟨p, vs, ?_, upd_same, q.mono e⟩
      rw [List.getElem?_append_right (by rw [r.len]; omega), r.len, hz]
      rfl
theorem Ext.sub (e : Ext io H io1 H1) {a : Addr} (h : a ∈ io) : a ∈ io1 := by
  obtain ⟨t, rfl, _⟩ := e.more
  exact List.mem_append_left _ h
/-- a list is written -/
theorem ext_write {a : Addr} {vs : List V} (ha : a ∈ io) (hv : ∃ ws, H a = some (.lst ws)) : Ext io H io (upd H a (.lst vs)) := by
  obtain ⟨ws, hv⟩ := hv
  refine ⟨⟨[], by simp, fun _ h => nomatch h⟩, fun b u h hn => ?_, fun b h => ?_⟩
  · have nb : b ≠ a := by
      rintro rfl
      rcases hn with z | z
      · exact z ha
      · rw [hv] at h; cases h; exact z ws rfl
    rw [upd_ne nb]; exact h
  · by_cases e : b = a
    · subst e; rw [upd_same] at h; cases h
    · rw [upd_ne e] at h; exact h
theorem RH.write (r : RH K fa io H h) {n : Nat} {a : Addr} {vs : List V} {xs : List PV} (ha : io[n]? = some a) (q : Rls K fa io H vs xs) : RH K fa io (upd H a (.lst vs)) (h.set n (.lst xs)) := by
  obtain ⟨_, ws, _, hw, _⟩ := r.addr ha
  have e := ext_write (vs := vs) (List.mem_of_getElem? ha) ⟨ws, hw⟩
  refine ⟨by rw [List.length_set]; exact r.len, r.nd, fun m ys hy => ?_⟩
  by_cases hm : m = n
  · subst hm
    rw [List.getElem?_set_self (r.lt ha)] at hy
    simp at hy
    subst hy
    exact ⟨a, vs, ha, upd_same, q.mono e⟩
  · rw [List.getElem?_set_ne (Ne.symm hm)] at hy
    obtain ⟨b, us, e1, e2, e3⟩ := r.cell m ys hy
    have nb : b ≠ a := fun z => by
      subst z
      obtain ⟨l1, x1⟩ := List.getElem?_eq_some_iff.mp e1
      obtain ⟨l2, x2⟩ := List.getElem?_eq_some_iff.mp ha
      exact hm ((List.getElem_inj r.nd).mp (x1.trans x2.symm))
    exact ⟨b, us, e1, by rw [upd_ne nb]; exact e2, e3.mono e⟩

/-! ### what a value is, from its pure one -/
/-- a list or a tuple that may be read -/
def Sq (K : PySem.W.Frag) (H : Hp) (a : Addr) (vs : List V) : Prop := SqL K H a vs ∨ SqT K H a vs
theorem RH.items (r : RH K fa io H h) {v : V} {x : PV} {xs : List PV} (q : Rl K fa io H v x) (e : items h x = some xs) : ∃ a vs, v = .ref a ∧ Sq K H a vs ∧ Rls K fa io H vs xs := by
  cases q with
  | tup s q => cases e; exact ⟨_, _, rfl, .inr s.t, q⟩
  | scr s q => cases e; exact ⟨_, _, rfl, .inl s.l, q⟩
  | @ref a n hn =>
    simp only [PB.items] at e
    split at e <;> cases e
    rename_i hx
    obtain ⟨b, vs, e1, e2, e3⟩ := r.cell _ _ hx
    rw [hn] at e1; cases e1
    exact ⟨_, _, rfl, .inl (.inl (.inl e2)), e3⟩
  | _ => cases e
theorem RH.list (r : RH K fa io H h) {v : V} {n : Nat} {xs : List PV} (q : Rl K fa io H v (.ref n)) (e : h[n]? = some (.lst xs)) : ∃ a vs, v = .ref a ∧ io[n]? = some a ∧ H a = some (.lst vs) ∧ Rls K fa io H vs xs := by
  cases q with
  | ref hn =>
    obtain ⟨b, vs, e1, e2, e3⟩ := r.cell _ _ e
    rw [hn] at e1; cases e1
    exact ⟨_, _, rfl, hn, e2, e3⟩
theorem toDs_cons {f : PV → Option PyData} {x : PV} {r : List PV} {ds : List PyData} (h : toDs f (x :: r) = some ds) : ∃ d e, f x = some d ∧ toDs f r = some e ∧ ds = d :: e := by
  simp only [toDs] at h
  split at h <;> cases h
  exact ⟨_, _, by assumption, by assumption, rfl⟩
/-- the data of a value -/
theorem RH.data (r : RH K fa io H h) : ∀ (n : Nat) (v : V) (x : PV) (d : PyData), Rl K fa io H v x → toD h n x = some d → Dp K H v d ∧ PyData.canLay0 d = true ∧ PyData.depth d ≤ n := by
  intro n
  induction n with
  | zero =>
    intro v x d q e
    cases q with
    | non => simp only [toD] at e; cases e; exact ⟨.non, rfl, Nat.le_refl _⟩
    | bl b => simp only [toD] at e; cases e; exact ⟨.bl b, rfl, Nat.le_refl _⟩
    | int i => simp only [toD] at e; cases e; exact ⟨.int i, rfl, Nat.le_refl _⟩
    | str x =>
      simp only [toD] at e
      split at e
      · cases e; exact ⟨.str x, by assumption, Nat.le_refl _⟩
      · cases e
    | _ => simp [toD] at e
  | succ n ih =>
    have all : ∀ (vs : List V) (xs : List PV) (ds : List PyData), Rls K fa io H vs xs → toDs (toD h n) xs = some ds → DpAll K H vs ds ∧ PyData.canLayAll0 ds = true ∧ PyData.depthAll ds ≤ n := by
      intro vs xs
      induction xs generalizing vs with
      | nil => intro ds q e; cases q; simp only [toDs] at e; cases e; exact ⟨.nil, rfl, Nat.zero_le _⟩
      | cons x xs ih2 =>
        intro ds q e
        cases q with
        | cons a q =>
          obtain ⟨d, e', h1, h2, rfl⟩ := toDs_cons e
          obtain ⟨g1, g2, g3⟩ := ih _ _ _ a h1
          obtain ⟨k1, k2, k3⟩ := ih2 _ _ q h2
          refine ⟨.cons g1 k1, ?_, ?_⟩
          · simp only [PyData.canLayAll0, Bool.and_eq_true]; exact ⟨g2, k2⟩
          · simp only [PyData.depthAll]; omega
    intro v x d q e
    cases q with
    | non => simp only [toD] at e; cases e; exact ⟨.non, rfl, Nat.zero_le _⟩
    | bl b => simp only [toD] at e; cases e; exact ⟨.bl b, rfl, Nat.zero_le _⟩
    | int i => simp only [toD] at e; cases e; exact ⟨.int i, rfl, Nat.zero_le _⟩
    | str x =>
      simp only [toD] at e
      split at e
      · cases e; exact ⟨.str x, by assumption, Nat.zero_le _⟩
      · cases e
    | @tup a vs xs s q =>
      simp only [toD] at e
      cases z : toDs (toD h n) xs with
      | none => rw [z] at e; cases e
      | some ds =>
        rw [z] at e; cases e
        obtain ⟨k1, k2, k3⟩ := all _ _ _ q z
        exact ⟨.tup s.t k1, k2, by simp only [PyData.depth]; omega⟩
    | @scr a vs xs s q =>
      simp only [toD] at e
      cases z : toDs (toD h n) xs with
      | none => rw [z] at e; cases e
      | some ds =>
        rw [z] at e; cases e
        obtain ⟨k1, k2, k3⟩ := all _ _ _ q z
        exact ⟨.lst s.l k1, k2, by simp only [PyData.depth]; omega⟩
    | @ref a m hm =>
      simp only [toD] at e
      split at e
      · rename_i xs hx
        cases z : toDs (toD h n) xs with
        | none => rw [z] at e; cases e
        | some ds =>
          rw [z] at e; cases e
          obtain ⟨b, vs, e1, e2, e3⟩ := r.cell _ _ hx
          rw [hm] at e1; cases e1
          obtain ⟨k1, k2, k3⟩ := all _ _ _ e3 z
          exact ⟨.lst (.inl (.inl e2)) k1, k2, by simp only [PyData.depth]; omega⟩
      · cases e
    | fn hf => simp [toD] at e
    | wtup _ _ => simp [toD] at e
theorem RH.eqD (r : RH K fa io H h) {v w : V} {x y : PV} {b : Bool} (q : Rl K fa io H v x) (q' : Rl K fa io H w y) (e : eqD h x y = some b) :
    ∃ d d', Dp K H v d ∧ Dp K H w d' ∧ SeqAt.shaped d = true ∧ SeqAt.shaped d' = true ∧ PyData.depth d ≤ 12 ∧ PyData.depth d' ≤ 12 ∧ toD h 12 x = some d ∧ toD h 12 y = some d' ∧ PyData.eqv d d' = b := by
  unfold PB.eqD at e
  split at e
  · rename_i d d' e1 e2
    cases e
    obtain ⟨a1, a2, a3⟩ := r.data 12 v x d q e1
    obtain ⟨b1, b2, b3⟩ := r.data 12 w y d' q' e2
    have sh : ∀ z : PyData, PyData.canLay0 z = true → PyData.depth z ≤ 12 → SeqAt.shaped z = true := fun z h1 h2 => by
      unfold SeqAt.shaped
      rw [h1, Bool.true_and]
      exact decide_eq_true (by omega)
    exact ⟨d, d', a1, b1, sh d a2 a3, sh d' b2 b3, a3, b3, e1, e2, rfl⟩
  · cases e
end
end PB

set_option Elab.async false
set_option linter.all false
set_option maxRecDepth 100000
set_option maxHeartbeats 4000000
namespace PB
open PySem PySem.Spec PyProof.Rows L2
/-! ### new tuples, known to have no dict -/
def NewT (Q : VK) (H : Hp) (vs : List V) : Prop := ∀ (p : Addr) (o : Obj), H p = none → o.dict = none → Q (.ref p) (upd H p (.frz o (.tup vs)))
theorem new_tup {P : Program} {w : World} {H : Hp} {h : Heap} {vs : List V} {its : List Value} (hz : vs.length ≤ sizeLine) (r : Vals vs its) :
    ObjOk P w H (h.push { cls := .type "tuple", data := .seq its.toArray }) h.objs.size (.frz { cls := .type "tuple", data := .seq its.toArray } (.tup vs)) := ⟨Heap.get?_push_size _ rfl, hz, its, r, IsTup.new _ _⟩
section
variable {X : Cx} {es : List Expr} {t : TA} {pos : Pos}
theorem laid_tup {pins : List (Addr × Obj)} {σ : L2.St} {H : Hp} {s : Shared} {Q : VK} {vs : List V} {its : List Value} (I : Inv X pins σ H s) (hz : vs.length ≤ sizeLine) (r : Vals vs its) (q : NewT Q H vs) :
    EP X pins σ Q (.ref s.heap.objs.size) { s with heap := s.heap.push { cls := .type "tuple", data := .seq its.toArray } } :=
  ⟨.ref s.heap.objs.size, _, I.laid (t' := s.toks) (o := .frz { cls := .type "tuple", data := .seq its.toArray } (.tup vs)) (fun b u e => Heap.get?_push_of_some _ e) (Nat.le_refl _) (new_tup hz r), rfl, q _ _ (I.hok.fresh (Nat.le_refl _)) rfl⟩
/-- a display -/
def tTupN (t : TA) : TE := fun σ H Q => t σ H fun xs H1 => xs.length ≤ sizeLine ∧ NewT Q H1 xs
theorem pe_tupN {x1} (h : PA X es t) : PE X (.Tuple es x1 pos) (tTupN t) := by
  refine ⟨fun pins s σ H Q I hq => ?_⟩
  refine wpAny_Tuple_spliced (thn (h.run pos pins s σ H _ I hq) fun us s1 ⟨xs, H1, I1, r, z, q⟩ => ⟨by rw [← r.length]; exact z, ?_⟩)
  exact laid_tup I1 z r q
/-- slices -/
def rSlN (K : PySem.W.Frag) : V → Option Int → Option Int → Hp → VK → Prop := fun x lo hi H Q => ∃ a xs, x = .ref a ∧ SqT K H a xs ∧
  (HT.sIx xs.length 0 lo = 0 ∧ HT.sIx xs.length xs.length hi = xs.length → Q (.ref a) H) ∧ (¬ (HT.sIx xs.length 0 lo = 0 ∧ HT.sIx xs.length xs.length hi = xs.length) → NewT Q H (cutV xs lo hi))
theorem sl_tupN : SlR X (rSlN X.K) := by
  intro pins s σ H x v vl vu lo hi sl Q I rx hs pl pu h
  obtain ⟨a, xs, rfl, hx, q1, q2⟩ := h
  cases rx
  obtain ⟨its, r, ht, hz⟩ := I.tuple hx
  have hlen : its.toArray.size = xs.length := by rw [List.size_toArray]; exact r.length.symm
  refine ⟨"tuple", _, PyProof.Rows.slot_tuple_getitem.lookup, ht.typeIs, ?_⟩
  by_cases hw : HT.sIx xs.length 0 lo = 0 ∧ HT.sIx xs.length xs.length hi = xs.length
  · exact getItem_tuple_whole ht hs pl pu (by rw [hlen]; exact hw) ⟨.ref a, H, I, rfl, q1 hw⟩
  · refine HT.getItem_tuple_cut ht hs pl pu (by rw [hlen]; exact hw) ?_ (by rw [hlen]; exact hz)
    rw [hlen]
    exact laid_tup I (Nat.le_trans (cutV_length xs lo hi) hz) ((r.drop (HT.sIx xs.length 0 lo)).take (HT.sIx xs.length xs.length hi - HT.sIx xs.length 0 lo)) (q2 hw)
/-- sums -/
def rCatN (K : PySem.W.Frag) : R2 := fun x y H Q => ∃ a b xs ys, x = .ref a ∧ y = .ref b ∧ SqT K H a xs ∧ SqT K H b ys ∧ xs.length + ys.length ≤ sizeLine ∧
  (xs = [] → Q (.ref b) H) ∧ (xs ≠ [] → ys = [] → Q (.ref a) H) ∧ (xs ≠ [] → ys ≠ [] → NewT Q H (xs ++ ys))
theorem op_catN : OpR X (binaryOp .Add) (rCatN X.K) := by
  intro pins s σ H x y v u Q I rx ry h
  obtain ⟨a, b, xs, ys, rfl, rfl, ha, hb, hz, q0, q1, q2⟩ := h
  cases rx
  cases ry
  obtain ⟨its, r1, p1, _⟩ := I.tuple ha
  obtain ⟨its2, r2, p2, _⟩ := I.tuple hb
  by_cases hx : xs = []
  · subst hx
    cases r1
    exact cat_tup0 p1 p2 ⟨.ref b, H, I, rfl, q0 rfl⟩
  · refine HT.cat_tup p1 p2 (fun z => hx (r1.nil_iff.mp z)) (fun z => ⟨.ref a, H, I, rfl, q1 hx (r2.nil_iff.mp z)⟩) (fun z => ?_) (by rw [← r1.length, ← r2.length]; exact hz)
    exact laid_tup I (by rw [List.length_append]; exact hz) (r1.append r2) (q2 hx (fun w => z (r2.nil_iff.mpr w)))
/-- tuple(..) -/
theorem call_tupleN : CallR X (.type "tuple") (fun xs H Q => ∃ p ys, xs = [.ref p] ∧ ((SqL X.K H p ys ∧ NewT Q H ys) ∨ (SqT X.K H p ys ∧ Q (.ref p) H))) := by
  intro pins s σ H xs us Q I r h
  obtain ⟨p, ys, rfl, h⟩ := h
  obtain ⟨u, rfl, rx⟩ := vals1 r
  cases rx
  rcases h with ⟨hq, q⟩ | ⟨hq, q⟩
  · obtain ⟨its, r', pl, hz⟩ := I.list hq
    have hlen := r'.length
    refine call_tuple_list pl.isList (fun h' kp => ?_) (by simp only [List.size_toArray] <;> omega)
    have I1 : Inv X pins σ H { s with heap := h' } := I.kept (t' := s.toks) kp
    exact laid_tup I1 hz r' q
  · obtain ⟨its, r', pl, hz⟩ := I.tuple hq
    exact call_tuple_same pl ⟨.ref p, H, I, rfl, q⟩
end
end PB

set_option Elab.async false
set_option linter.all false
set_option maxRecDepth 100000
set_option maxHeartbeats 2000000
namespace PB
open PySem PySem.Spec L2

theorem bind_ok {α β : Type} {x : Res α} {f : α → PH → Res β} {r : β} {h : PH} (e : x.bind f = .ok r h) : ∃ a h1, x = .ok a h1 ∧ f a h1 = .ok r h := by
  cases x with
  | ok a h1 => exact ⟨a, h1, rfl, e⟩
  | exc c v h1 => cases e
  | bad => cases e

section
variable (K : PySem.W.Frag) (fa : Nat → Option Addr) (cf : Nat → List PV → PH → Res PV)
/-- the readings of a code -/
def tE (c : CE) : TE := fun sg H Q => ∃ io s h r h', RS K fa io H sg s ∧ RH K fa io H h ∧ evE cf c s h = .ok r h' ∧ ∀ io' H' v, Ext io H io' H' → RH K fa io' H' h' → Rl K fa io' H' v r → Q v H'
def tA (c : CA) : TA := fun sg H Q => ∃ io s h r h', RS K fa io H sg s ∧ RH K fa io H h ∧ evA cf c s h = .ok r h' ∧ ∀ io' H' v, Ext io H io' H' → RH K fa io' H' h' → Rls K fa io' H' v r → Q v H'
def tT (c : CE) : TT := fun sg H Q => ∃ io s h b h', RS K fa io H sg s ∧ RH K fa io H h ∧ evE cf c s h = .ok (.bl b) h' ∧ ∀ io' H', Ext io H io' H' → RH K fa io' H' h' → Q b H'
/-- an optional part: an int -/
def tO (c : CO) : L2.TO := fun sg H Q => ∃ io s h r o h', RS K fa io H sg s ∧ RH K fa io H h ∧ evO cf c s h = .ok r h' ∧ optI h' r = .ok o h' ∧ ∀ io' H', Ext io H io' H' → RH K fa io' H' h' → Q o H'
/-- the slots of a target -/
def slots : CT → List Nat
  | .v i => [i]
  | .s _ _ => []
  | .nil => []
  | .cons a r => slots a ++ slots r
def tG (c : CT) : TG := fun v sg H Q => ∃ io s h x s' h', RS K fa io H sg s ∧ RH K fa io H h ∧ Rl K fa io H v x ∧ asT cf c x s h = .ok s' h' ∧
  ∀ io' H' sg', Ext io H io' H' → RH K fa io' H' h' → RS K fa io' H' sg' s' → (∀ j, j ∉ slots c → sg'[j]? = sg[j]?) → Q sg' H'
def tGs (c : CT) : TGs := fun vs sg H Q => ∃ io s h xs s' h', RS K fa io H sg s ∧ RH K fa io H h ∧ Rls K fa io H vs xs ∧ asTs cf c xs s h = .ok s' h' ∧
  ∀ io' H' sg', Ext io H io' H' → RH K fa io' H' h' → RS K fa io' H' sg' s' → (∀ j, j ∉ slots c → sg'[j]? = sg[j]?) → Q sg' H'
/-- a walk over pure items -/
def GoodJ (p : List PV × Lean_) (io : List Addr) (H : Hp) (J : It) : Prop :=
  ∀ io2 H2 h2, Ext io H io2 H2 → RH K fa io2 H2 h2 → leans p.2 h2 = true →
    (∀ (i : Nat) (y : PV), p.1[i]? = some y → J.go i H2 ∧ ∀ x H3, J.yld i H2 x H3 → Ext io2 H2 io2 H3 ∧ RH K fa io2 H3 h2 ∧ Rl K fa io2 H3 x y) ∧ J.stop p.1.length H2
def tI (c : CI) : TI := fun sg H R => ∃ io s h p h', RS K fa io H sg s ∧ RH K fa io H h ∧ evI cf c s h = .ok p h' ∧
  ∀ io' H', Ext io H io' H' → RH K fa io' H' h' → ∀ J, GoodJ K fa p io' H' J → R J H'
def fin (io : List Addr) (H : Hp) (D : Ends) (f : Fl) (h' : PH) : Prop :=
  ∀ io' H', Ext io H io' H' → RH K fa io' H' h' → match f with
    | .nx s' => ∀ sg', RS K fa io' H' sg' s' → D.nx sg' H'
    | .bk s' => ∀ sg', RS K fa io' H' sg' s' → D.bk sg' H'
    | .ct s' => ∀ sg', RS K fa io' H' sg' s' → D.ct sg' H'
    | .rt v => ∀ u, Rl K fa io' H' u v → D.rt u H'
def tS (c : CS) : TS := fun D sg H => ∃ io s h f h', RS K fa io H sg s ∧ RH K fa io H h ∧ evS cf c s h = .ok f h' ∧ fin K fa io H D f h'
def tK (c : CB) : TS := fun D sg H => ∃ io s h f h', RS K fa io H sg s ∧ RH K fa io H h ∧ evB cf c s h = .ok f h' ∧ fin K fa io H D f h'
/-- a def's promise -/
def spI (G : Nat → Option Fn) (k i : Nat) : Sp := fun vs H Q _ => ∃ io h args r h', Rls K fa io H vs args ∧ RH K fa io H h ∧ callF G k i args h = .ok r h' ∧
  ∀ io' H' v, Ext io H io' H' → RH K fa io' H' h' → Rl K fa io' H' v r → Q v H'
end

section
variable {X : Cx} {fa : Nat → Option Addr} {cf : Nat → List PV → PH → Res PV}
theorem wkE {e : Expr} {t t' : TE} (h : PE X e t) (w : ∀ sg H Q, t' sg H Q → t sg H Q) : PE X e t' := ⟨fun pins s sg H Q I q => h.run pins s sg H Q I (w _ _ _ q)⟩
theorem wkA {e : List Expr} {t t' : TA} (h : PA X e t) (w : ∀ sg H Q, t' sg H Q → t sg H Q) : PA X e t' := ⟨fun pos pins s sg H Q I q => h.run pos pins s sg H Q I (w _ _ _ q)⟩
theorem wkT {e : Expr} {t t' : TT} (h : PT X e t) (w : ∀ sg H Q, t' sg H Q → t sg H Q) : PT X e t' := ⟨fun pins s sg H Q I q => h.run pins s sg H Q I (w _ _ _ q)⟩
theorem wkW {e : Expr} {t t' : TT} (h : PW X e t) (w : ∀ sg H Q, t' sg H Q → t sg H Q) : PW X e t' := ⟨fun wh pins s sg H Q I q => h.run wh pins s sg H Q I (w _ _ _ q)⟩
theorem wkG {e : Expr} {t t' : TG} (h : PG X e t) (w : ∀ v sg H Q, t' v sg H Q → t v sg H Q) : PG X e t' := ⟨fun pins s sg H v u Q I r q => h.run pins s sg H v u Q I r (w _ _ _ _ q)⟩
theorem wkGs {e : List Expr} {t t' : TGs} (h : PGs X e t) (w : ∀ v sg H Q, t' v sg H Q → t v sg H Q) : PGs X e t' := ⟨fun pins s sg H v u Q I r q => h.run pins s sg H v u Q I r (w _ _ _ _ q)⟩
theorem wkS {e : Stmt} {t t' : TS} (h : PS X e t) (w : ∀ D sg H, t' D sg H → t D sg H) : PS X e t' := ⟨fun pins s sg H D I q => h.run pins s sg H D I (w _ _ _ q)⟩
theorem wkK {e : List Stmt} {t t' : TS} (h : PSs X e t) (w : ∀ D sg H, t' D sg H → t D sg H) : PSs X e t' := ⟨fun pins s sg H D I q => h.run pins s sg H D I (w _ _ _ q)⟩
theorem wkI {tg e : Expr} {t t' : TI} (h : PI X tg e t) (w : ∀ sg H Q, t' sg H Q → t sg H Q) : PI X tg e t' := ⟨fun pins s sg H Q I q => h.run pins s sg H Q I (w _ _ _ q)⟩
theorem wkO {e : Option Expr} {t t' : L2.TO} (h : L2.PO X e t) (w : ∀ sg H Q, t' sg H Q → t sg H Q) : L2.PO X e t' := ⟨fun pins s sg H Q I q => h.run pins s sg H Q I (w _ _ _ q)⟩

/-! ### names, constants -/
theorem e_var {i : Nat} {x : Str} {pos : Pos} (h : PE X (.Name x pos) (tVar i)) : PE X (.Name x pos) (tE X.K fa cf (.var i)) :=
  wkE h fun sg H Q ⟨io, s, hp, r, h', rs, rh, e, q⟩ => by
    simp only [evE] at e
    split at e <;> cases e
    obtain ⟨v, h1, h2⟩ := rs.at_ i _ (by assumption)
    exact ⟨v, h1, q io H v .refl rh h2⟩
/-- a value that never changes -/
def Con (K : PySem.W.Frag) (fa : Nat → Option Addr) (v : V) (x : PV) : Prop := ∀ io H, Rl K fa io H v x
theorem e_con {e : Expr} {v : V} {x : PV} (h : PE X e (tC v)) (c : Con X.K fa v x) : PE X e (tE X.K fa cf (.con x)) :=
  wkE h fun sg H Q ⟨io, s, hp, r, h', rs, rh, e, q⟩ => by
    simp only [evE] at e
    cases e
    exact q io H v .refl rh (c io H)
theorem e_int {i : Int} {j : Nat} {pos : Pos} : PE X (.Constant (.int i) j pos) (tE X.K fa cf (.con (.int i))) := e_con pe_int fun _ _ => .int i
theorem e_bl {b : Bool} {j : Nat} {pos : Pos} : PE X (.Constant (.bool b) j pos) (tE X.K fa cf (.con (.bl b))) := e_con pe_bl fun _ _ => .bl b
theorem e_non {j : Nat} {pos : Pos} : PE X (.Constant .none j pos) (tE X.K fa cf (.con .non)) := e_con pe_non fun _ _ => .non
theorem e_str {x : Str} {j : Nat} {pos : Pos} : PE X (.Constant (.str x) j pos) (tE X.K fa cf (.con (.str x))) := e_con pe_str fun _ _ => .str x

/-! ### operators -/
theorem bin2 {e1 e2 : CE} {sg : L2.St} {H : Hp} {Q : VK} {f : PV → PV → PH → Res PV} {R : V → V → Hp → VK → Prop} {io : List Addr} {s : Sl} {h : PH} {r : PV} {h' : PH}
    (rs : RS X.K fa io H sg s) (rh : RH X.K fa io H h) (e : ((evE cf e1 s h).bind fun x h1 => (evE cf e2 s h1).bind fun y h2 => f x y h2) = .ok r h')
    (q : ∀ io' H' v, Ext io H io' H' → RH X.K fa io' H' h' → Rl X.K fa io' H' v r → Q v H')
    (op : ∀ io2 H2 h2 a b x y, RH X.K fa io2 H2 h2 → Rl X.K fa io2 H2 a x → Rl X.K fa io2 H2 b y → f x y h2 = .ok r h' → (∀ io' H' v, Ext io2 H2 io' H' → RH X.K fa io' H' h' → Rl X.K fa io' H' v r → Q v H') → R a b H2 Q) :
    tE X.K fa cf e1 sg H fun x H1 => tE X.K fa cf e2 sg H1 fun y H2 => R x y H2 Q := by
  obtain ⟨x, h1, ea, e⟩ := bind_ok e
  obtain ⟨y, h2, eb, e⟩ := bind_ok e
  refine ⟨io, s, h, x, h1, rs, rh, ea, fun io1 H1 a ex1 rh1 ra => ⟨io1, s, h1, y, h2, rs.mono ex1, rh1, eb, fun io2 H2 b ex2 rh2 rb => ?_⟩⟩
  exact op io2 H2 h2 a b x y rh2 (ra.mono ex2) rb e fun io' H' v ex3 rh3 rv => q io' H' v ((ex1.trans ex2).trans ex3) rh3 rv
/-- what a rule by values must show -/
def OpOk (X : Cx) (fa : Nat → Option Addr) (f : PV → PV → PH → Res PV) (R : R2) : Prop :=
  ∀ (io : List Addr) (H : Hp) (h : PH) (a b : V) (x y r : PV) (h' : PH) (Q : VK), RH X.K fa io H h → Rl X.K fa io H a x → Rl X.K fa io H b y → f x y h = .ok r h' →
    (∀ io' H' v, Ext io H io' H' → RH X.K fa io' H' h' → Rl X.K fa io' H' v r → Q v H') → R a b H Q
theorem many_le {n : Nat} (h : n ≤ many) : n ≤ sizeLine := Nat.le_trans h (by decide)
theorem many_lt {n : Nat} (h : n < many) : n < sizeLine := Nat.lt_of_lt_of_le h (by decide)
theorem alloc_ok {io : List Addr} {H : Hp} {h : PH} {vs : List V} {xs : List PV} {r : PV} {h' : PH} {K : PySem.W.Frag} {Q : VK} (rh : RH K fa io H h) (rv : Rls K fa io H vs xs) (e : alloc xs h = .ok r h')
    (q : ∀ io' H' v, Ext io H io' H' → RH K fa io' H' h' → Rl K fa io' H' v r → Q v H') : ∀ p, H p = none → Q (.ref p) (upd H p (.lst vs)) := by
  intro p hp
  unfold alloc at e
  cases e
  refine q (io ++ [p]) _ _ (ext_lst hp) (rh.lst hp rv) (.ref ?_)
  rw [List.getElem?_append_right (by rw [rh.len]; exact Nat.le_refl _), rh.len, Nat.sub_self]
  rfl
theorem tup_ok {io : List Addr} {H : Hp} {h : PH} {vs : List V} {xs : List PV} {K : PySem.W.Frag} {Q : VK} (rh : RH K fa io H h) (rv : Rls K fa io H vs xs)
    (q : ∀ io' H' v, Ext io H io' H' → RH K fa io' H' h → Rl K fa io' H' v (.tup xs) → Q v H') : NewT Q H vs := fun p o hp hd =>
  q io _ _ (ext_new hp) (rh.new hp) (.tup (.inl ⟨o, upd_same, hd⟩) (rv.mono (ext_new hp)))

/-- all integer operators -/
def rInt (f : Int → Int → Prop) (g : Int → Int → Int) : R2 := rI f fun i j => .int (g i j)
theorem op_fdivP : OpR X (binaryOp .FloorDiv) (rI (fun _ j => j ≠ 0 ∧ j.natAbs.log2 < 9000) fun i j => .int (i.fdiv j)) := opI fun i j _ _ _ _ _ hc q =>
  PyProof.Rows.floordiv_int hc.1 q (.inl (PyProof.noPylong_of_log2 hc.2))
theorem ok_add : OpOk X fa (binop .add) (fun x y H Q => (rI0 fun i j => .int (i + j)) x y H Q ∨ rCatN X.K x y H Q ∨ rCat x y H Q) := by
  intro io H h a b x y r h' Q rh ra rb e q
  cases x <;> try (simp only [binop] at e; cases e; done)
  case int i =>
    cases y <;> try (simp only [binop] at e; cases e; done)
    case int j =>
      cases ra; cases rb
      simp only [binop] at e; cases e
      exact .inl ⟨i, j, rfl, rfl, q io H _ .refl rh (.int _)⟩
  case tup xs =>
    cases y <;> try (simp only [binop] at e; cases e; done)
    case tup ys =>
      simp only [binop] at e
      split at e <;> cases e
      rename_i hl
      cases ra with
      | @tup a vs _ sa ra =>
      cases rb with
      | @tup b ws _ sb rb =>
      refine .inr (.inl ⟨a, b, vs, ws, rfl, rfl, sa.t, sb.t, by rw [ra.length, rb.length]; exact many_le hl, fun e1 => ?_, fun e1 e2 => ?_, fun e1 e2 => ?_⟩)
      · subst e1; cases ra; exact q io H _ .refl rh (.tup sb rb)
      · subst e2; cases rb; rw [List.append_nil] at q; exact q io H _ .refl rh (.tup sa ra)
      · exact tup_ok rh (ra.append rb) q
  case ref n =>
    cases y <;> try (simp only [binop] at e; cases e; done)
    case ref m =>
      simp only [binop] at e
      split at e
      · rename_i xs ys hx hy
        by_cases hl : xs.length + ys.length ≤ many
        · rw [if_pos hl] at e
          obtain ⟨a, vs, rfl, _, ha, rv⟩ := rh.list ra hx
          obtain ⟨b, ws, rfl, _, hb, rw'⟩ := rh.list rb hy
          refine .inr (.inr ⟨a, b, vs, ws, rfl, rfl, ha, hb, by rw [rv.length, rw'.length]; exact many_le hl, ?_⟩)
          exact alloc_ok rh (rv.append rw') e q
        · rw [if_neg hl] at e; cases e
      · cases e
theorem ok_sub : OpOk X fa (binop .sub) (rI0 fun i j => .int (i - j)) := by
  intro io H h a b x y r h' Q rh ra rb e q
  cases x <;> cases y <;> simp only [binop] at e <;> cases e
  cases ra; cases rb
  exact ⟨_, _, rfl, rfl, q io H _ .refl rh (.int _)⟩
theorem ok_fdiv : OpOk X fa (binop .fdiv) (rI (fun _ j => j ≠ 0 ∧ j.natAbs.log2 < 9000) fun i j => .int (i.fdiv j)) := by
  intro io H h a b x y r h' Q rh ra rb e q
  cases x <;> cases y <;> simp only [binop] at e <;> try cases e
  split at e <;> cases e
  rename_i hc
  cases ra; cases rb
  exact ⟨_, _, rfl, rfl, hc, q io H _ .refl rh (.int _)⟩
theorem ok_mod : OpOk X fa (binop .mod) (rI (fun _ j => j ≠ 0) fun i j => .int (i.fmod j)) := by
  intro io H h a b x y r h' Q rh ra rb e q
  cases x <;> cases y <;> simp only [binop] at e <;> try cases e
  split at e <;> cases e
  rename_i hc
  cases ra; cases rb
  exact ⟨_, _, rfl, rfl, hc, q io H _ .refl rh (.int _)⟩
theorem ok_pow : OpOk X fa (binop .pow) (rI CPow fun i j => .int (i ^ j.toNat)) := by
  intro io H h a b x y r h' Q rh ra rb e q
  cases x <;> cases y <;> simp only [binop] at e <;> try cases e
  split at e <;> cases e
  rename_i hc
  cases ra; cases rb
  exact ⟨_, _, rfl, rfl, ⟨hc.1, by omega, hc.2.2⟩, q io H _ .refl rh (.int _)⟩
theorem bin_of {ba : Operator} {bo : BinO} {R : R2} {a b : Expr} {pos : Pos} {ca cb : CE} (ho : OpR X (binaryOp ba) R) (hk : OpOk X fa (binop bo) R) (ha : PE X a (tE X.K fa cf ca)) (hb : PE X b (tE X.K fa cf cb)) :
    PE X (.BinOp a ba b pos) (tE X.K fa cf (.bin bo ca cb)) :=
  wkE (pe_op ho ha hb) fun sg H Q ⟨io, s, h, r, h', rs, rh, e, q⟩ =>
    bin2 (R := R) rs rh (by simpa only [evE] using e) q fun io2 H2 h2 a b x y rh2 ra rb e2 q2 => hk io2 H2 h2 a b x y r h' Q rh2 ra rb e2 q2
variable {a b c : Expr} {pos : Pos} {ca cb cc : CE}
theorem e_add (ha : PE X a (tE X.K fa cf ca)) (hb : PE X b (tE X.K fa cf cb)) : PE X (.BinOp a .Add b pos) (tE X.K fa cf (.bin .add ca cb)) := bin_of (op_add.or (op_catN.or op_cat)) ok_add ha hb
theorem e_sub (ha : PE X a (tE X.K fa cf ca)) (hb : PE X b (tE X.K fa cf cb)) : PE X (.BinOp a .Sub b pos) (tE X.K fa cf (.bin .sub ca cb)) := bin_of op_sub ok_sub ha hb
theorem e_fdiv (ha : PE X a (tE X.K fa cf ca)) (hb : PE X b (tE X.K fa cf cb)) : PE X (.BinOp a .FloorDiv b pos) (tE X.K fa cf (.bin .fdiv ca cb)) := bin_of op_fdivP ok_fdiv ha hb
theorem e_mod (ha : PE X a (tE X.K fa cf ca)) (hb : PE X b (tE X.K fa cf cb)) : PE X (.BinOp a .Mod b pos) (tE X.K fa cf (.bin .mod ca cb)) := bin_of op_modN ok_mod ha hb
theorem e_pow (ha : PE X a (tE X.K fa cf ca)) (hb : PE X b (tE X.K fa cf cb)) : PE X (.BinOp a .Pow b pos) (tE X.K fa cf (.bin .pow ca cb)) := bin_of op_pow ok_pow ha hb
end
end PB

set_option Elab.async false
set_option linter.all false
set_option maxRecDepth 100000
set_option maxHeartbeats 2000000
namespace PB
open PySem PySem.Spec PyProof.Rows L2
/-! ### list(zip(xs, ys)) of two lists -/
theorem zl_no_len : typeLookup (.type "zip") "__len__" = pure none := by
  rw [typeLookup_type, builtinLookup_eq_fast]
  kernel_rfl
theorem zl_no_hint : typeLookup (.type "zip") "__length_hint__" = pure none := by
  rw [typeLookup_type, builtinLookup_eq_fast]
  kernel_rfl
/-- the addresses of a zip's parts -/
structure ZA where
  z : Addr
  ti : Addr
  to : Addr
  i1 : Addr
  i2 : Addr
  l1 : Addr
  l2 : Addr
def ZA.out (a : ZA) (b : Addr) : Prop := b ≠ a.z ∧ b ≠ a.to ∧ b ≠ a.i1 ∧ b ≠ a.i2
/-- a zip that has given k tuples; S: a list that it does not touch -/
structure ZS (a : ZA) (S : Addr) (xs ys : Array Value) (k : Nat) (h : Heap) : Prop where
  pr : IsPair h a.ti (.ref a.i1) (.ref a.i2)
  w1 : h.IsListIter a.i1 a.l1 k
  w2 : h.IsListIter a.i2 a.l2 k
  q1 : h.IsList a.l1 xs
  q2 : h.IsList a.l2 ys
  ot : ∃ o, h.get? a.to = some o
  st : (IsZip h a.z a.ti a.to .none ∧ ∃ u v, IsPair h a.to u v) ∨ ∃ T f oT, PySem.IsZipHeld h a.z a.ti a.to T f ∧ h.get? T = some oT ∧ T ≠ a.z ∧ T ≠ a.i1 ∧ T ≠ a.i2 ∧ T ≠ S
structure ZD (a : ZA) (S : Addr) : Prop where
  d : ZipApart a.z a.ti a.to a.i1 a.i2 a.l1 a.l2
  o : a.out S
  t : S ≠ a.ti
  s1 : S ≠ a.l1
  s2 : S ≠ a.l2
section
variable {prog : Program} {w : World} {A : Around} {E : Value → Shared → Prop} {s : Shared} {a : ZA} {S : Addr} {xs ys : Array Value} {k : Nat}
theorem ZS.there {h : Heap} (z : ZS a S xs ys k h) : ∃ o, h.get? a.z = some o ∧ o.cls = .type "zip" := by
  rcases z.st with ⟨e, _⟩ | ⟨T, f, oT, e, _⟩
  · exact ⟨_, e, rfl⟩
  · exact ⟨_, e, rfl⟩
/-- all objects but S kept -/
theorem ZS.move {h h' : Heap} (z : ZS a S xs ys k h) (D : ZD a S) (kp : ∀ b o, b ≠ S → h.get? b = some o → h'.get? b = some o) : ZS a S xs ys k h' where
  pr := kp _ _ D.t.symm z.pr
  w1 := z.w1.at fun o e => kp _ o D.o.2.2.1.symm e
  w2 := z.w2.at fun o e => kp _ o D.o.2.2.2.symm e
  q1 := z.q1.at fun o e => kp _ o D.s1.symm e
  q2 := z.q2.at fun o e => kp _ o D.s2.symm e
  ot := by obtain ⟨o, e⟩ := z.ot; exact ⟨o, kp _ _ D.o.2.1.symm e⟩
  st := by
    rcases z.st with ⟨e, u, v, f⟩ | ⟨T, f, oT, e, hT, n1, n2, n3, n4⟩
    · exact .inl ⟨kp _ _ D.o.1.symm e, u, v, kp _ _ D.o.2.1.symm f⟩
    · exact .inr ⟨T, f, oT, kp _ _ D.o.1.symm e, kp _ _ n4 hT, n1, n2, n3, n4⟩
theorem zs_step {x y : Value} {Q : Option Value → Shared → Prop} (D : ZD a S) (st : ZS a S xs ys k s.heap) (hS : S < s.heap.objs.size) (hx : xs[k]? = some x) (hy : ys[k]? = some y)
    (q : ∀ h' : Heap, ZS a S xs ys (k + 1) h' → IsPair h' s.heap.objs.size x y → (∀ b o, a.out b → s.heap.get? b = some o → h'.get? b = some o) → Q (some (.ref s.heap.objs.size)) { s with heap := h' }) :
    wpAny (model prog w) A (pyNext (.ref a.z)) Q E s := by
  have up : ∀ {c o}, s.heap.get? c = some o → s.heap.objs.size ≠ c := fun e => Nat.ne_of_gt (Heap.lt_size e)
  have m1 : s.heap.objs.size ≠ a.i1 := by obtain ⟨_, e, _⟩ := st.w1; exact up e
  have m2 : s.heap.objs.size ≠ a.i2 := by obtain ⟨_, e, _⟩ := st.w2; exact up e
  have mz : s.heap.objs.size ≠ a.z := by obtain ⟨_, e, _⟩ := st.there; exact up e
  have mS : s.heap.objs.size ≠ S := Nat.ne_of_gt hS
  rcases st.st with ⟨e, u, v, f⟩ | ⟨T, f, oT, e, hT, n1, n2, n3, n4⟩
  · refine wpAny_pyNext_zip_item D.d e st.pr f st.w1 st.w2 st.q1 st.q2 hx hy fun h' b1 b2 b3 b4 b5 b6 kp => ?_
    refine q h' ⟨kp _ _ D.d.TIz D.d.TITO D.d.TIi1 D.d.TIi2 st.pr, b3, b4, st.q1.at fun o r => kp _ o D.d.l1z D.d.l1TO D.d.l1i1 D.d.l1i2 r, st.q2.at fun o r => kp _ o D.d.l2z D.d.l2TO D.d.l2i1 D.d.l2i2 r, ⟨_, b2⟩, .inr ⟨s.heap.objs.size, false, _, b1, b5, mz, m1, m2, mS⟩⟩ b5 fun b o r g => kp b o r.1 r.2.1 r.2.2.1 r.2.2.2 g
  · obtain ⟨ob, eb⟩ := st.ot
    refine wpAny_pyNext_zip_item_held D.d e hT st.pr st.w1 st.w2 st.q1 st.q2 hx hy fun h' b1 b3 b4 b5 b6 kp => ?_
    refine q h' ⟨kp _ _ D.d.TIz D.d.TIi1 D.d.TIi2 st.pr, b3, b4, st.q1.at fun o r => kp _ o D.d.l1z D.d.l1i1 D.d.l1i2 r, st.q2.at fun o r => kp _ o D.d.l2z D.d.l2i1 D.d.l2i2 r, ⟨ob, kp _ _ D.d.TOz D.d.TOi1 D.d.TOi2 eb⟩, .inr ⟨T, true, oT, b1, kp _ _ n1 n2 n3 hT, n1, n2, n3, n4⟩⟩ b5 fun b o r g => kp b o r.1 r.2.2.1 r.2.2.2 g
theorem zs_stop {Q : Option Value → Shared → Prop} (hh : A.handled = none) (D : ZD a S) (st : ZS a S xs ys k s.heap) (he : xs[k]? = none ∨ ys[k]? = none)
    (q : ∀ h' : Heap, (∀ b o, a.out b → s.heap.get? b = some o → h'.get? b = some o) → Q none { s with heap := h' }) : wpAny (model prog w) A (pyNext (.ref a.z)) Q E s := by
  rcases st.st with ⟨e, u, v, f⟩ | ⟨T, f, oT, e, hT, _⟩
  · exact wpAny_pyNext_zip_end hh D.d e st.pr f st.w1 st.w2 st.q1 st.q2 he fun h' kp => q h' fun b o r g => kp b o r.1 r.2.1 r.2.2.1 r.2.2.2 g
  · exact wpAny_pyNext_zip_end_held hh D.d e hT st.pr st.w1 st.w2 st.q1 st.q2 he fun h' kp => q h' fun b o r g => kp b o r.1 r.2.2.1 r.2.2.2 g
/-- the tuples that were given -/
structure ZG (a : ZA) (S : Addr) (xs ys : Array Value) (h : Heap) (as : List Addr) : Prop where
  up : as.Pairwise (· < ·)
  ab : ∀ b ∈ as, S < b ∧ a.out b
  pr : ∀ (j : Nat) (b : Addr), as[j]? = some b → ∃ x y, xs[j]? = some x ∧ ys[j]? = some y ∧ IsPair h b x y
theorem ZG.lt {h : Heap} {as : List Addr} (g : ZG a S xs ys h as) {b : Addr} (hb : b ∈ as) : b < h.objs.size := by
  obtain ⟨j, hj⟩ := List.mem_iff_getElem?.mp hb
  obtain ⟨x, y, _, _, e⟩ := g.pr j b hj
  exact Heap.lt_size e
theorem zl_loop {R : Result → Shared → Prop} (hh : A.handled = none) (D : ZD a S) {n : Nat} (hn : n = min xs.size ys.size) (hz : n ≤ sizeLine) (res : Value) {h₀ : Heap}
    (hR : ∀ h' tk acc c as, (∀ b o, b ≠ S → a.out b → h₀.get? b = some o → h'.get? b = some o) → h'.get? S = some { cls := .type "list", data := .seq acc c } → as.length = n → ZG a S xs ys h' as →
      acc.toList = as.map Value.ref → R (.ok (.ret res)) { s with heap := h', toks := tk }) :
    ∀ (m i : Nat) (h : Heap) (tk c : Nat) (acc : Array Value) (as : List Addr), i + m = n → ZS a S xs ys i h → (∀ b o, b ≠ S → a.out b → h₀.get? b = some o → h.get? b = some o) →
      h.get? S = some { cls := .type "list", data := .seq acc c } → acc.toList = as.map Value.ref → as.length = i → ZG a S xs ys h as →
      codeAny (model prog w) A (.builtin "list.extend.loop" ⟨[.ref S, .ref a.z, res], []⟩) R { s with heap := h, toks := tk }
  | 0, i, h, tk, c, acc, as, hi, st, kp, hS, ha, hl, g => by
    refine codeAny_builtin F.entry_extend_loop ?_
    rw [Around.under_plainId F.plain_extend_loop _]
    show wpAny (model prog w) A.in1 (pyNext (.ref a.z) >>= _) _ _ _
    have he : xs[i]? = none ∨ ys[i]? = none := by
      rcases Nat.le_total xs.size ys.size with r | r
      · exact .inl (Array.getElem?_eq_none (by omega))
      · exact .inr (Array.getElem?_eq_none (by omega))
    refine wpAny_bind (zs_stop (s := { s with heap := h, toks := tk }) (A := A.in1) hh D st he fun h' k2 => ?_)
    refine wpAny_pure (hR h' tk acc c as (fun b o r1 r2 e => k2 b o r2 (kp b o r1 r2 e)) (k2 S _ D.o hS) (by omega) ⟨g.up, g.ab, fun j b hj => ?_⟩ ha)
    obtain ⟨x, y, e1, e2, e3⟩ := g.pr j b hj
    exact ⟨x, y, e1, e2, k2 b _ (g.ab b (List.mem_of_getElem? hj)).2 e3⟩
  | m + 1, i, h, tk, c, acc, as, hi, st, kp, hS, ha, hl, g => by
    obtain ⟨x, hx⟩ : ∃ x, xs[i]? = some x := ⟨_, Array.getElem?_eq_getElem (show i < xs.size by omega)⟩
    obtain ⟨y, hy⟩ : ∃ y, ys[i]? = some y := ⟨_, Array.getElem?_eq_getElem (show i < ys.size by omega)⟩
    have hsz : acc.size = i := by rw [← Array.length_toList, ha, List.length_map, hl]
    have hSl : S < h.objs.size := Heap.lt_size hS
    have zl : a.z < h.objs.size := by obtain ⟨_, e, _⟩ := st.there; exact Heap.lt_size e
    refine codeAny_builtin F.entry_extend_loop ?_
    rw [Around.under_plainId F.plain_extend_loop _]
    show wpAny (model prog w) A.in1 (pyNext (.ref a.z) >>= _) _ _ _
    refine wpAny_bind (zs_step (s := { s with heap := h, toks := tk }) D st hSl hx hy fun h' st' hp k2 => ?_)
    dsimp only at hp k2 ⊢
    have hS' := k2 S _ D.o hS
    have w2 : ∀ b o, b ≠ S → h'.get? b = some o → (h'.update S (Obj.mapSeq (·.push (Value.ref h.objs.size)))).get? b = some o := fun b o hb e => by
      rw [Heap.get?_update_other _ _ (Ne.symm hb)]; exact e
    have oN : a.out h.objs.size := by
      have up : ∀ {c o}, h.get? c = some o → h.objs.size ≠ c := fun e => Nat.ne_of_gt (Heap.lt_size e)
      refine ⟨Nat.ne_of_gt zl, ?_, ?_, ?_⟩
      · obtain ⟨_, e⟩ := st.ot; exact up e
      · obtain ⟨_, e, _⟩ := st.w1; exact up e
      · obtain ⟨_, e, _⟩ := st.w2; exact up e
    show wpAny (model prog w) A.in1 (updateSeq S (·.push (Value.ref h.objs.size)) >>= _) _ _ _
    refine wpAny_bind ?_
    refine wpAny_updateSeq hS' rfl (wpAny_pure ⟨plainId_quiet F.plain_extend_loop _, zl_loop hh D hn hz res hR m (i + 1) _ tk _ (acc.push (Value.ref h.objs.size)) (as ++ [h.objs.size]) (by omega) (st'.move D w2)
      (fun b o r1 r2 e => w2 b o r1 (k2 b o r2 (kp b o r1 r2 e))) (Heap.get?_update_self _ hS' rfl) (by rw [Array.toList_push, ha, List.map_append]; rfl) (by rw [List.length_append, hl]; rfl) ⟨?_, ?_, ?_⟩⟩) (by rw [hsz]; omega) (by rw [Array.size_push, hsz]; omega)
    · refine List.pairwise_append.mpr ⟨g.up, List.pairwise_singleton _ _, fun b hb d hd => ?_⟩
      rw [List.mem_singleton.mp hd]
      exact g.lt hb
    · intro b hb
      rcases List.mem_append.mp hb with hb | hb
      · exact g.ab b hb
      · rw [List.mem_singleton.mp hb]; exact ⟨hSl, oN⟩
    · intro j b hj
      rcases Nat.lt_trichotomy j as.length with r | r | r
      · rw [List.getElem?_append_left r] at hj
        obtain ⟨x', y', e1, e2, e3⟩ := g.pr j b hj
        have hb := g.ab b (List.mem_of_getElem? hj)
        exact ⟨x', y', e1, e2, w2 b _ (Nat.ne_of_gt hb.1) (k2 b _ hb.2 e3)⟩
      · have hb : h.objs.size = b := by rw [r] at hj; simpa using hj
        rw [← hb, r, hl]
        exact ⟨x, y, hx, hy, w2 _ _ (Nat.ne_of_gt hSl) hp⟩
      · rw [List.getElem?_eq_none (by rw [List.length_append, List.length_singleton]; omega)] at hj
        cases hj
theorem zl_room (st : ZS a S xs ys 0 s.heap) {Q : Bool → Shared → Prop} (q : Q true s) : wpAny (model prog w) A (Builtin.List.listLengthHint (.ref a.z)) Q E s := by
  obtain ⟨o, e, hc⟩ := st.there
  have hT : s.TypeIs (.ref a.z) "zip" := ⟨o, e, hc⟩
  unfold Builtin.List.listLengthHint
  refine wpAny_bind (wpAny_specialOf hT zl_no_len ?_)
  show wpAny (model prog w) A (specialOf (Value.ref a.z) (Str.ofString "__length_hint__") >>= _) _ _ _
  exact wpAny_bind (wpAny_specialOf hT zl_no_hint (wpAny_pure q))
theorem zl_extend {R : Result → Shared → Prop} (hh : A.handled = none) (D : ZD a S) {n : Nat} (hn : n = min xs.size ys.size) (hz : n ≤ sizeLine) (st : ZS a S xs ys 0 s.heap) (z0 : IsZip s.heap a.z a.ti a.to .none) {c0 : Nat} (hS : s.heap.get? S = some { cls := .type "list", data := .seq #[] c0 }) (res : Value)
    (hR : ∀ h' tk acc c as, (∀ b o, b ≠ S → a.out b → s.heap.get? b = some o → h'.get? b = some o) → h'.get? S = some { cls := .type "list", data := .seq acc c } → as.length = n → ZG a S xs ys h' as →
      acc.toList = as.map Value.ref → R (.ok (.ret res)) { s with heap := h', toks := tk }) :
    wpAny (model prog w) A.in1 (Builtin.List.listExtendWith (.ref S) (.ref a.z) res)
      (fun fin s' => match fin with | .done f => R (.ok f) s' | .again c' => c'.quiet = true ∧ codeAny (model prog w) A c' R s') (fun e s' => R (.error e) s') s := by
  obtain ⟨o, e, hc⟩ := st.there
  have g1 : Builtin.List.listSameRef (.ref S) (.ref a.z) = false := by simp [Builtin.List.listSameRef, D.o.1]
  have g2 : (Value.type "zip" == Value.type "list") = false := by decide
  have g3 : (Value.type "zip" == Value.type "tuple") = false := by decide
  unfold Builtin.List.listExtendWith
  refine wpAny_bind (wpAny_typeOf (T := "zip") ⟨o, e, hc⟩ ?_)
  simp only [g1, g2, g3, Bool.or_false, Bool.false_eq_true, if_false]
  have self : ∀ Q : Value → Shared → Prop, Q (.ref a.z) s → wpAny (model prog w) A.in1 (pyIter (.ref a.z)) Q (fun e s' => R (.error e) s') s := fun Q q => wpAny_pyIter_zip z0 q
  refine wpAny_bind (self _ ?_)
  refine wpAny_bind (wpAny_holding (zl_room st ?_))
  refine wpAny_ite_split (fun _ => ?_) (fun r => absurd rfl r)
  refine wpAny_bind (wpAny_rule ?_)
  refine wpAny_bind ?_
  show wpAny (model prog w) A.in1 (updateSeq S (·.push .none) >>= fun _ => updateSeq S (·.pop)) _ _ _
  refine wpAny_bind (wpAny_updateSeq hS rfl ?_)
  have u2 := Heap.get?_update_self (Obj.mapSeq (·.push Value.none)) hS rfl
  refine wpAny_updateSeq (hz := by seq_fits) u2 rfl ?_
  have u3 := Heap.get?_update_self (Obj.mapSeq (·.pop)) u2 rfl
  have kp : ∀ b o, b ≠ S → s.heap.get? b = some o → ((s.heap.update S (Obj.mapSeq (·.push Value.none))).update S (Obj.mapSeq (·.pop))).get? b = some o := fun b o hb q => by
    rw [Heap.get?_update_other _ _ (Ne.symm hb), Heap.get?_update_other _ _ (Ne.symm hb)]; exact q
  exact wpAny_pure ⟨plainId_quiet F.plain_extend_loop _, zl_loop (h₀ := s.heap) hh D hn hz res hR n 0 _ s.toks _ #[] [] (by omega) (st.move D kp) (fun b o r _ q => kp b o r q) u3 rfl rfl ⟨.nil, fun _ h => (nomatch h), fun j b h => by simp at h⟩⟩
theorem zl_init {R : Result → Shared → Prop} (hh : A.handled = none) (D : ZD a S) {n : Nat} (hn : n = min xs.size ys.size) (hz : n ≤ sizeLine) (st : ZS a S xs ys 0 s.heap) (z0 : IsZip s.heap a.z a.ti a.to .none) (hS : s.heap.get? S = some { cls := .type "list", data := .seq #[] })
    (hR : ∀ h' tk acc c as, (∀ b o, b ≠ S → a.out b → s.heap.get? b = some o → h'.get? b = some o) → h'.get? S = some { cls := .type "list", data := .seq acc c } → as.length = n → ZG a S xs ys h' as →
      acc.toList = as.map Value.ref → R (.ok (.ret .none)) { s with heap := h', toks := tk }) :
    wpAny (model prog w) A.in1 (Builtin.«list.__init__» ⟨[.ref S, .ref a.z], []⟩)
      (fun fin s' => match fin with | .done f => R (.ok f) s' | .again c' => c'.quiet = true ∧ codeAny (model prog w) A c' R s') (fun e s' => R (.error e) s') s := by
  show wpAny (model prog w) A.in1 (Builtin.List.listItems (.ref S) >>= fun old => Builtin.List.listUpdate (.ref S) (fun _ => #[]) >>= fun _ => letGo old.toList.reverse >>= fun _ => Builtin.List.listExtendWith (.ref S) (.ref a.z) .none) _ _ s
  refine wpAny_bind ?_
  unfold Builtin.List.listItems
  refine wpAny_bind (wpAny_seqItems hS rfl (wpAny_pure ?_))
  refine wpAny_bind ?_
  show wpAny (model prog w) A.in1 (updateSeq S (fun _ => #[])) _ _ s
  refine wpAny_updateSeq hS rfl ?_
  have u2 := Heap.get?_update_self (Obj.mapSeq (fun _ => (#[] : Array Value))) hS rfl
  have kp : ∀ b o, b ≠ S → s.heap.get? b = some o → (s.heap.update S (Obj.mapSeq (fun _ => (#[] : Array Value)))).get? b = some o := fun b o hb q => by
    rw [Heap.get?_update_other _ _ (Ne.symm hb)]; exact q
  refine wpAny_bind (wpAny_letGo ?_)
  exact zl_extend (s := { s with heap := _ }) hh D hn hz (st.move D kp) (kp _ _ D.o.1.symm z0) u2 .none fun h' tk acc c as k2 hS' hl g ha => hR h' tk acc c as (fun b o r1 r2 q => k2 b o r1 r2 (kp b o r1 q)) hS' hl g ha
theorem zl_call {Q : Value → Shared → Prop} (hh : A.handled = none) (d : ZipApart a.z a.ti a.to a.i1 a.i2 a.l1 a.l2) {n : Nat} (hn : n = min xs.size ys.size) (hz : n ≤ sizeLine) (z0 : IsZip s.heap a.z a.ti a.to .none) (hp : IsPair s.heap a.ti (.ref a.i1) (.ref a.i2)) {u v : Value} (ho : IsPair s.heap a.to u v)
    (w1 : s.heap.IsListIter a.i1 a.l1 0) (w2 : s.heap.IsListIter a.i2 a.l2 0) (q1 : s.heap.IsList a.l1 xs) (q2 : s.heap.IsList a.l2 ys)
    (hQ : ∀ h' tk acc c as, (∀ b o, a.out b → s.heap.get? b = some o → h'.get? b = some o) → h'.get? s.heap.objs.size = some { cls := .type "list", data := .seq acc c } → as.length = n → ZG a s.heap.objs.size xs ys h' as →
      acc.toList = as.map Value.ref → Q (.ref s.heap.objs.size) { s with heap := h', toks := tk }) :
    wpAny (model prog w) A (call (.type "list") [.ref a.z]) Q E s := by
  have up : ∀ {c o}, s.heap.get? c = some o → s.heap.objs.size ≠ c := fun e => Nat.ne_of_gt (Heap.lt_size e)
  have D : ZD a s.heap.objs.size := ⟨d, ⟨up z0, up ho, by obtain ⟨_, e, _⟩ := w1; exact up e, by obtain ⟨_, e, _⟩ := w2; exact up e⟩, up hp, by obtain ⟨_, e, _⟩ := q1; exact up e, by obtain ⟨_, e, _⟩ := q2; exact up e⟩
  have kp : ∀ b o, s.heap.get? b = some o → (s.heap.push { cls := .type "list", data := .seq #[] }).get? b = some o := fun b o e => Heap.get?_push_of_some _ e
  have st : ZS a s.heap.objs.size xs ys 0 (s.heap.push { cls := .type "list", data := .seq #[] }) := ⟨kp _ _ hp, w1.at fun o e => kp _ o e, w2.at fun o e => kp _ o e, q1.at fun o e => kp _ o e, q2.at fun o e => kp _ o e, ⟨_, kp _ _ ho⟩, .inl ⟨kp _ _ z0, u, v, kp _ _ ho⟩⟩
  have hS : (s.heap.push { cls := .type "list", data := .seq #[] }).get? s.heap.objs.size = some { cls := .type "list", data := .seq #[] } := Heap.get?_push_size _ rfl
  refine callType_codes (Q₁ := fun obj s₁ => obj = .ref s.heap.objs.size ∧ s₁ = { s with heap := s.heap.push { cls := .type "list", data := .seq #[] } }) F.called_list (F.typeCall_list_1 _) F.entry_list_init (code_list_new _ ⟨rfl, rfl⟩) fun obj s1 h1 => ?_
  obtain ⟨rfl, rfl⟩ := h1
  refine ⟨⟨_, hS, rfl⟩, F.args_list_init_2 _ _, ?_⟩
  exact zl_init (A := A.in1) (s := { s with heap := _ }) hh D hn hz st (kp _ _ z0) hS fun h' tk acc c as k2 hS' hl g ha => ⟨rfl, hQ h' tk acc c as (fun b o r q => k2 b o (fun e => up q e.symm) r (kp b o q)) hS' hl g ha⟩
end
/-! ### the rule -/
theorem Rls.of_get {K : PySem.W.Frag} {fa : Nat → Option Addr} {io : List Addr} {H : Hp} : ∀ {vs : List V} {xs : List PV}, vs.length = xs.length → (∀ (j : Nat) v x, vs[j]? = some v → xs[j]? = some x → Rl K fa io H v x) → Rls K fa io H vs xs
  | [], [], _, _ => .nil
  | [], _ :: _, h, _ => by simp at h
  | _ :: _, [], h, _ => by simp at h
  | v :: vs, x :: xs, h, g => .cons (g 0 v x rfl rfl) (Rls.of_get (by simpa using h) fun j u y h1 h2 => g (j + 1) u y (by simpa using h1) (by simpa using h2))
theorem pairs_len : ∀ (xs ys : List PV), (pairs xs ys).length = min xs.length ys.length
  | [], _ => by simp [pairs]
  | _ :: _, [] => by simp [pairs]
  | x :: r, y :: q => by rw [pairs, List.length_cons, pairs_len r q, List.length_cons, List.length_cons]; omega
theorem pairs_get : ∀ {xs ys : List PV} {j : Nat} {z : PV}, (pairs xs ys)[j]? = some z → ∃ x y, xs[j]? = some x ∧ ys[j]? = some y ∧ z = .tup [x, y]
  | [], _, _, _, h => by simp [pairs] at h
  | _ :: _, [], _, _, h => by simp [pairs] at h
  | x :: r, y :: q, 0, z, h => by simp [pairs] at h; exact ⟨x, y, rfl, rfl, h.symm⟩
  | x :: r, y :: q, j + 1, z, h => by
    simp only [pairs, List.getElem?_cons_succ] at h
    obtain ⟨u, v, h1, h2, h3⟩ := pairs_get h
    exact ⟨u, v, by simpa using h1, by simpa using h2, h3⟩
section
variable {X : Cx} {fa : Nat → Option Addr} {pins : List (Addr × Obj)} {σ : L2.St} {H H' : Hp} {s : Shared}
/-- new objects come to be known -/
theorem inv_more {h' : Heap} {t' : Nat} (I : Inv X pins σ H s) (k : ∀ b o, s.heap.get? b = some o → h'.get? b = some o) (le : ∀ b u, H b = some u → H' b = some u)
    (new : ∀ b u, H b = none → H' b = some u → s.heap.objs.size ≤ b ∧ ObjOk X.prog X.w H' h' b u) : Inv X pins σ H' { s with heap := h', toks := t' } := by
  refine I.un ⟨fun b o e _ _ _ => k b o e, fun b o e _ _ _ => ⟨o.slots, k b o e⟩, fun b o e n _ => ?_, fun b o e _ => ⟨o, k b o e⟩, fun b xs e => le b _ e, fun b o u e => le b _ e, fun b ps e => ⟨#[], by rw [Array.append_empty]; exact le b _ e⟩⟩ fun b u e => ?_
  · cases q : H' b with
    | none => rfl
    | some u => exact absurd (Heap.lt_size e) (Nat.not_lt.mpr (new b u n q).1)
  · cases q : H b with
    | none => exact (new b u q e).2
    | some v =>
      have q2 := le b v q
      rw [e] at q2; cases q2
      exact (I.hok b u q).stay (fun c o _ z => k c o z) (fun c z => le c _ z) fun c xs z => le c _ z
/-- a list of tuples is laid -/
theorem lz_laid {io : List Addr} {hp : PH} {h' : Heap} {tk : Nat} {S : Addr} {as : List Addr} {acc : Array Value} {c : Nat} {xs ys : List V} {us ws : List Value} {ps qs : List PV} {za : ZA} {Q : VK} (I : Inv X pins σ H s) (rh : RH X.K fa io H hp) (k : ∀ b o, s.heap.get? b = some o → h'.get? b = some o)
    (rx : Vals xs us) (ry : Vals ys ws) (px : Rls X.K fa io H xs ps) (py : Rls X.K fa io H ys qs) (hSz : s.heap.objs.size ≤ S) (hS : h'.get? S = some { cls := .type "list", data := .seq acc c }) (hl : as.length = min us.toArray.size ws.toArray.size) (hz : as.length ≤ sizeLine)
    (g : ZG za S us.toArray ws.toArray h' as) (ha : acc.toList = as.map Value.ref)
    (q : ∀ H2, Ext io H (io ++ [S]) H2 → RH X.K fa (io ++ [S]) H2 (hp ++ [.lst (pairs ps qs)]) → Q (.ref S) H2) : EP X pins σ Q (.ref S) { s with heap := h', toks := tk } := by
  have nd : as.Nodup := g.up.imp fun h => Nat.ne_of_lt h
  have aS : ∀ b ∈ as, S < b := fun b hb => (g.ab b hb).1
  have fr : ∀ b, s.heap.objs.size ≤ b → H b = none := fun b hb => I.hok.fresh hb
  let ob : Nat → Obj := fun j => { cls := .type "tuple", data := .seq #[us.getD j .none, ws.getD j .none] }
  let H1 : Hp := fun b => if b ∈ as then some (.frz (ob (as.idxOf b)) (.tup [xs.getD (as.idxOf b) .non, ys.getD (as.idxOf b) .non])) else H b
  have H1n : ∀ b, b ∉ as → H1 b = H b := fun b hb => if_neg hb
  have H1a : ∀ j b, as[j]? = some b → H1 b = some (.frz (ob j) (.tup [xs.getD j .non, ys.getD j .non])) := fun j b hj => by
    have hm := List.mem_of_getElem? hj
    have hi : as.idxOf b = j := by
      obtain ⟨h1, h2⟩ := List.getElem?_eq_some_iff.mp hj
      rw [← h2]; exact nd.idxOf_getElem j h1
    show (if b ∈ as then _ else _) = _
    rw [if_pos hm, hi]
  have le1 : ∀ b u, H b = some u → H1 b = some u := fun b u e => by
    rw [H1n b fun hm => ?_]
    · exact e
    · rw [fr b (Nat.le_trans hSz (Nat.le_of_lt (aS b hm)))] at e; cases e
  have S1 : H1 S = none := by
    rw [H1n S fun hm => Nat.lt_irrefl _ (aS S hm)]
    exact fr S hSz
  have e1 : Ext io H io H1 := ⟨⟨[], by simp, fun _ h => nomatch h⟩, fun b o h _ => le1 b o h, fun b h => by
    cases z : H b with
    | none => rfl
    | some u => rw [le1 b u z] at h; cases h⟩
  have rh1 : RH X.K fa io H1 hp := rh.stay e1 fun b hb => by
    obtain ⟨vs, z⟩ := rh.mem hb
    rw [z, le1 b _ z]
  have sz1 : us.toArray.size = xs.length := by rw [List.size_toArray]; exact rx.length.symm
  have sz2 : ws.toArray.size = ys.length := by rw [List.size_toArray]; exact ry.length.symm
  have at_ : ∀ j b, as[j]? = some b → ∃ x y u w, xs[j]? = some x ∧ ys[j]? = some y ∧ us[j]? = some u ∧ ws[j]? = some w ∧ RelV x u ∧ RelV y w ∧ IsPair h' b u w := fun j b hj => by
    obtain ⟨u, w, f1, f2, f3⟩ := g.pr j b hj
    have f1' : us[j]? = some u := by simpa using f1
    have f2' : ws[j]? = some w := by simpa using f2
    have l1 := (List.getElem?_eq_some_iff.mp f1').1
    have l2 := (List.getElem?_eq_some_iff.mp f2').1
    have lx := rx.length
    have ly := ry.length
    obtain ⟨x, hx⟩ : ∃ x, xs[j]? = some x := ⟨_, List.getElem?_eq_getElem (by omega)⟩
    obtain ⟨y, hy⟩ : ∃ y, ys[j]? = some y := ⟨_, List.getElem?_eq_getElem (by omega)⟩
    obtain ⟨u', hu, r1⟩ := rx.get hx
    obtain ⟨w', hw, r2⟩ := ry.get hy
    rw [f1'] at hu; cases hu
    rw [f2'] at hw; cases hw
    exact ⟨x, y, u, w, hx, hy, f1', f2', r1, r2, f3⟩
  have rl : Rls X.K fa io H1 (as.map V.ref) (pairs ps qs) := by
    refine Rls.of_get ?_ fun j v z hv hzj => ?_
    · rw [List.length_map, pairs_len, hl, sz1, sz2, px.length, py.length]
    · rw [List.getElem?_map] at hv
      obtain ⟨b, hb, rfl⟩ := Option.map_eq_some_iff.mp hv
      obtain ⟨x, y, u, w, h1, h2, h3, h4, r1, r2, h5⟩ := at_ j b hb
      obtain ⟨p, q', g1, g2, rfl⟩ := pairs_get hzj
      have ex := px.get g1
      have ey := py.get g2
      obtain ⟨x', h1', rx'⟩ := ex
      obtain ⟨y', h2', ry'⟩ := ey
      rw [h1] at h1'; cases h1'
      rw [h2] at h2'; cases h2'
      refine .tup (vs := [xs.getD j .non, ys.getD j .non]) (.inl ⟨ob j, H1a j b hb, rfl⟩) ?_
      rw [List.getD_eq_getElem?_getD, List.getD_eq_getElem?_getD, h1, h2]
      exact .cons (rx'.mono e1) (.cons (ry'.mono e1) .nil)
  have I2 : Inv X pins σ (upd H1 S (.lst (as.map V.ref))) { s with heap := h', toks := tk } := by
    refine inv_more I k (fun b u e => ?_) fun b u hn e => ?_
    · rw [upd_ne fun z => ?_]
      · exact le1 b u e
      · rw [z, fr S hSz] at e; cases e
    · by_cases hb : b = S
      · subst hb
        rw [upd_same] at e; cases e
        refine ⟨hSz, by rw [List.length_map]; exact hz, acc.toList, c, ?_, by rw [Array.toArray_toList]; exact hS⟩
        rw [ha]
        have : ∀ l : List Addr, Vals (l.map V.ref) (l.map Value.ref) := fun l => by
          induction l with
          | nil => exact .nil
          | cons d r ih => exact .cons rfl ih
        exact this as
      · rw [upd_ne hb] at e
        by_cases hm : b ∈ as
        · obtain ⟨j, hj⟩ := List.mem_iff_getElem?.mp hm
          rw [H1a j b hj] at e; cases e
          obtain ⟨x, y, u, w, h1, h2, h3, h4, r1, r2, h5⟩ := at_ j b hj
          have ho : ob j = { cls := .type "tuple", data := .seq #[u, w] } := by
            show ({ cls := .type "tuple", data := .seq #[us.getD j .none, ws.getD j .none] } : Obj) = _
            rw [List.getD_eq_getElem?_getD, List.getD_eq_getElem?_getD, h3, h4]; rfl
          refine ⟨Nat.le_trans hSz (Nat.le_of_lt (aS b hm)), ?_, ?_⟩
          · rw [ho]; exact h5
          · refine ⟨by show 2 ≤ sizeLine; decide, [u, w], ?_, _, h5, rfl, _, rfl⟩
            rw [List.getD_eq_getElem?_getD, List.getD_eq_getElem?_getD, h1, h2]
            exact .cons r1 (.cons r2 .nil)
        · rw [H1n b hm, hn] at e; cases e
  exact ⟨.ref S, _, I2, rfl, q _ (e1.trans (ext_lst S1)) (rh1.lst S1 rl)⟩
end
theorem blt_lzip {xs : List PV} {h : PH} {r : PV} {h' : PH} (e : blt .lzip xs h = .ok r h') : ∃ n m ps qs, xs = [.ref n, .ref m] ∧ h[n]? = some (.lst ps) ∧ h[m]? = some (.lst qs) ∧ r = .ref h.length ∧ h' = h ++ [.lst (pairs ps qs)] := by
  match xs, e with
  | [], e => simp [blt] at e
  | [a], e => cases a <;> simp [blt] at e
  | a :: b :: c :: l, e => cases a <;> first | (simp [blt] at e; done) | (cases b <;> simp [blt] at e)
  | [a, b], e =>
    cases a with
    | ref n =>
      cases b with
      | ref m =>
        simp only [blt] at e
        split at e
        · rename_i ps qs h1 h2
          unfold alloc at e
          cases e
          exact ⟨n, m, ps, qs, rfl, h1, h2, rfl, rfl⟩
        · cases e
      | _ => simp [blt] at e
    | _ => simp [blt] at e
theorem e_lzip {X : Cx} {fa : Nat → Option Addr} {cf : Nat → List PV → PH → Res PV} {a b : Expr} {cs : CA} {p p2 q pos : Pos} (hc : X.calm = true) (hg : Gl X "list") (hm : X.mg "list" = none) (hg2 : Gl X "zip") (hm2 : X.mg "zip" = none) (h : PA X [a, b] (tA X.K fa cf cs))
    (hs : starEach [a, b] X.env = (false, eval a X.env) :: starEach [b] X.env := by rfl) (hpl : (backTo q (starEach [b] X.env)).any (·.1) = false := by rfl) :
    PE X (.Call (.Name "list" p) [.Call (.Name "zip" p2) [a, b] [] q] [] pos) (tE X.K fa cf (.blt .lzip cs)) := by
  refine ⟨fun pins s σ H Q I ⟨io, sl, hp, r, h', rs, rh, e, k⟩ => ?_⟩
  simp only [evE] at e
  obtain ⟨xs, h1, e1, e⟩ := bind_ok e
  refine Call_ (ld_blt (u := .type "list") I hg hm (by decide +kernel) ?_)
  refine PyProof.Rows.callWith_type1 (PyProof.Rows.args_cons ?_ rfl) rfl rfl
  refine Call_ (ld_blt I hg2 hm2 PyProof.Rows.boot_zip (PyProof.Rows.callWith_type1 (thn (h.run q pins s σ H (fun vs H1 => ∃ io1, Ext io H io1 H1 ∧ RH X.K fa io1 H1 h1 ∧ Rls X.K fa io1 H1 vs xs) I ⟨io, sl, hp, xs, h1, rs, rh, e1, fun io1 H1 vs ex rh1 rv => ⟨io1, ex, rh1, rv⟩⟩) fun us s1 ⟨vs, H1, I1, r1, io1, ex, rh1, rv⟩ => ?_) hs hpl))
  obtain ⟨n, m, ps, qs, rfl, hn', hm', rfl, rfl⟩ := blt_lzip e
  cases rv with
  | cons ra rv =>
  cases rv with
  | cons rb rv =>
  cases rv
  obtain ⟨l1, x1, rfl, _, z1, px⟩ := rh1.list ra hn'
  obtain ⟨l2, x2, rfl, _, z2, py⟩ := rh1.list rb hm'
  cases r1 with
  | cons q1 r1 =>
  cases r1 with
  | cons q2 r1 =>
  cases r1
  cases q1
  cases q2
  obtain ⟨i1, v1, pl1, hz1⟩ := I1.list (.inl (.inl z1))
  obtain ⟨i2, v2, pl2, hz2⟩ := I1.list (.inl (.inl z2))
  have lt1 : l1 < s1.heap.objs.size := I1.hok.lt z1
  have lt2 : l2 < s1.heap.objs.size := I1.hok.lt z2
  refine call_zip_2 pl1.isList pl2.isList fun h2 y0 yp yo w1 w2 ysz kp => ?_
  refine PyProof.Rows.args_nil ?_
  let za : ZA := ⟨s1.heap.objs.size + 4, s1.heap.objs.size + 2, s1.heap.objs.size + 3, s1.heap.objs.size, s1.heap.objs.size + 1, l1, l2⟩
  have d : ZipApart za.z za.ti za.to za.i1 za.i2 za.l1 za.l2 := by
    have t1 : ∀ j : Nat, l1 ≠ s1.heap.objs.size + j := fun j => Nat.ne_of_lt (Nat.lt_of_lt_of_le lt1 (Nat.le_add_right _ _))
    have t2 : ∀ j : Nat, l2 ≠ s1.heap.objs.size + j := fun j => Nat.ne_of_lt (Nat.lt_of_lt_of_le lt2 (Nat.le_add_right _ _))
    have t0 : ∀ i j : Nat, i ≠ j → s1.heap.objs.size + i ≠ s1.heap.objs.size + j := fun i j h z => h (Nat.add_left_cancel z)
    exact ⟨t0 2 4 (by decide), t0 3 4 (by decide), t0 0 4 (by decide), t0 1 4 (by decide), t0 2 3 (by decide), t0 2 0 (by decide), t0 2 1 (by decide), t0 3 0 (by decide), t0 3 1 (by decide), t0 0 1 (by decide), t1 4, t1 3, t1 0, t1 1, t2 4, t2 3, t2 0, t2 1⟩
  refine zl_call (s := { s1 with heap := h2 }) (a := za) (xs := i1.toArray) (ys := i2.toArray) (I1.ok.hd hc) d rfl ?_ y0 yp yo w1 w2 (pl1.isList.at fun o e => kp _ o e) (pl2.isList.at fun o e => kp _ o e) fun h3 tk acc c as k3 hS hl g ha => ?_
  · have := v1.length
    have hz : i1.toArray.size ≤ sizeLine := by rw [List.size_toArray, ← this]; exact hz1
    exact Nat.le_trans (Nat.min_le_left _ _) hz
  · have kk : ∀ b o, s1.heap.get? b = some o → h3.get? b = some o := fun b o e => by
      have lb : b < s1.heap.objs.size := Heap.lt_size e
      have t : ∀ j : Nat, b ≠ s1.heap.objs.size + j := fun j => Nat.ne_of_lt (Nat.lt_of_lt_of_le lb (Nat.le_add_right _ _))
      exact k3 b o ⟨t 4, t 3, t 0, t 1⟩ (kp b o e)
    have hln : as.length ≤ sizeLine := by
      have := v1.length
      rw [hl]
      refine Nat.le_trans (Nat.min_le_left _ _) ?_
      rw [List.size_toArray, ← this]; exact hz1
    have hsz : s1.heap.objs.size ≤ h2.objs.size := by rw [ysz]; exact Nat.le_add_right _ _
    exact lz_laid (s := s1) (Q := Q) I1 rh1 kk v1 v2 px py hsz hS hl hln g ha fun H2 ex2 rh2 => k _ H2 _ (ex.trans ex2) rh2 (.ref (by rw [List.getElem?_append_right (by rw [rh1.len]; exact Nat.le_refl _), rh1.len, Nat.sub_self]; rfl))
end PB

set_option Elab.async false
set_option linter.all false
set_option maxRecDepth 100000
set_option maxHeartbeats 4000000
namespace PB
open PySem PySem.Spec PyProof.Rows L2
theorem tuple_mul_same (l : Addr) (items : Array Value) (n : Nat) (dd : Option Addr) (sl : Array (Option Value)) (x : Int) (u : Tok) (c0 : (decide (x < -(2 ^ 63)) || decide (x ≥ 2 ^ 63)) = false) (c1 : (items.isEmpty || x == 1) = true) :
    Meets (Builtin.«tuple.__mul__» ⟨[.ref l, .int x u], []⟩) (fun _ R s => s.heap.get? l = some { cls := .type "tuple", dict := dd, data := .seq items n, slots := sl } ∧
      R (.ok (.ret (Value.ref l))) s) :=
  .of_wp fun prog w A R s h => by
    obtain ⟨hp, g, d, tk, os⟩ := s
    obtain ⟨hl, h⟩ := h
    have f1 := AutoSeq1.idx_int
    wp_walk using wpAny_loadPart' hl
    repeat (first
      | (refine wpAny_ite_false (decide_eq_false (by rw [c0]; exact Bool.false_ne_true)) ?_; wp_walk using wpAny_loadPart' hl)
      | (refine wpAny_ite_true (decide_eq_true c1) ?_; wp_walk using wpAny_loadPart' hl))
    exact ⟨_, rfl, h⟩
theorem tuple_mul_none (l : Addr) (items : Array Value) (n : Nat) (dd : Option Addr) (sl : Array (Option Value)) (x : Int) (u : Tok) (c0 : (decide (x < -(2 ^ 63)) || decide (x ≥ 2 ^ 63)) = false) (c1 : (items.isEmpty || x == 1) = false) (c2 : (decide (x ≤ 0) || items.isEmpty) = true) :
    Meets (Builtin.«tuple.__mul__» ⟨[.ref l, .int x u], []⟩) (fun _ R s => s.heap.get? l = some { cls := .type "tuple", dict := dd, data := .seq items n, slots := sl } ∧
      R (.ok (.ret (Value.ref s.heap.objs.size))) { s with heap := s.heap.push { cls := Value.type "tuple", data := Data.seq #[] }, toks := s.toks }) :=
  .of_wp fun prog w A R s h => by
    obtain ⟨hp, g, d, tk, os⟩ := s
    obtain ⟨hl, h⟩ := h
    have f1 := AutoSeq1.idx_int
    wp_walk using wpAny_loadPart' hl
    repeat (first
      | (refine wpAny_ite_false (decide_eq_false (by rw [c0]; exact Bool.false_ne_true)) ?_; wp_walk using wpAny_loadPart' hl)
      | (refine wpAny_ite_false (decide_eq_false (by rw [c1]; exact Bool.false_ne_true)) ?_; wp_walk using wpAny_loadPart' hl)
      | (refine wpAny_ite_true (decide_eq_true c2) ?_; wp_walk using wpAny_loadPart' hl))
    exact ⟨_, rfl, h⟩

def rRepA (K : PySem.W.Frag) : R2 := fun x y H Q => ∃ l k xs, x = .ref l ∧ y = .int k ∧ SqT K H l xs ∧ -1000 ≤ k ∧ k ≤ 1000 ∧ xs.length ≤ 1000 ∧
  (xs = [] ∨ k = 1 → Q (.ref l) H) ∧ (xs ≠ [] → k ≠ 1 → NewT Q H (List.replicate k.toNat xs).flatten)
section
variable {X : Cx}
theorem repN {pins : List (Addr × Obj)} {s : Shared} {σ : L2.St} {H : Hp} {l : Addr} {k : Int} {xs : List V} {v u : Value} {Q : VK} (I : Inv X pins σ H s) (rx : RelV (.ref l) v) (ry : RelV (.int k) u) (hT : SqT X.K H l xs) (hne : xs ≠ []) (h1 : 2 ≤ k) (h2 : k ≤ 1000) (hz : xs.length ≤ 1000)
    (q : NewT Q H (List.replicate k.toNat xs).flatten) : wpAny (model X.prog X.w) X.A (binaryOp .Mult v u) (EP X pins σ Q) X.xe s := by
  cases rx
  obtain ⟨t, rfl⟩ := ry
  obtain ⟨its, r, ⟨⟨cls, dd, data, sl⟩, ho, hc, n, hd⟩, hs⟩ := I.tuple hT
  simp only at hc hd
  subst hc hd
  have hle : its.length = xs.length := r.length.symm
  have hn : its ≠ [] := fun e => hne (by
    rw [e] at hle
    exact List.eq_nil_of_length_eq_zero hle.symm)
  have hi : its.toArray.isEmpty = false := by
    cases its with
    | nil => exact absurd rfl hn
    | cons a b => rfl
  have hsz0 : its.toArray.size = xs.length := by rw [List.size_toArray, hle]
  have hm : ((its.toArray.size : Nat) : Int) * k ≤ 1000000 := by
    rw [hsz0]
    have a1 : ((xs.length : Nat) : Int) * k ≤ 1000 * k := Int.mul_le_mul_of_nonneg_right (by omega) (by omega)
    omega
  have flen : (List.replicate k.toNat its).flatten.length ≤ sizeLine := by
    rw [PyProof.Rows.lm_len_rep_flat, hle, sizeLine_eq]
    have a1 : k.toNat * xs.length ≤ 1000 * 1000 := Nat.mul_le_mul (by omega) hz
    omega
  have c0 : (decide (k < -(2 ^ 63)) || decide (k ≥ 2 ^ 63)) = false := by
    rw [decide_eq_false (by omega), decide_eq_false (by omega)] <;> rfl
  have c1 : (its.toArray.isEmpty || k == 1) = false := by
    rw [hi, Bool.false_or]
    exact beq_eq_false_iff_ne.mpr (by omega)
  have c2 : (decide (k ≤ 0) || its.toArray.isEmpty) = false := by
    rw [hi, Bool.or_false]
    exact decide_eq_false (by omega)
  have c4 : Builtin.Tuple.tupleTooMany (((its.toArray.size : Nat) : Int) * k) = false := by
    unfold Builtin.Tuple.tupleTooMany
    rw [sizeLine_eq]
    exact decide_eq_false (by omega)
  refine wpAny_binaryOp_repeat_ref (T := "tuple") (U := "int") (by decide) ⟨_, ho, rfl⟩ (fun s' => typeIs_int s' k t) noFill_tuple_mul F.fills_int_mul F.slot_int_rmul repeat_tuple F.slot_int_index.lookup
    (call_meets F.slot_int_rmul (typeIs_int s k t) F.entry_int_rmul (F.args_int_rmul_2 _ _) (int_rmul_tuple k t l its.toArray n dd sl)
      ⟨ho, rfl, ⟨_, ho, rfl⟩, call_meets F.slot_tuple_mul ⟨_, ho, rfl⟩ F.entry_tuple_mul (F.args_tuple_mul_2 _ _) (tuple_mulW l its.toArray n dd sl k t c0 c1 c2 (by omega) c4 (by rw [size_rep, List.size_toArray]; exact flen)) ⟨ho, ?_⟩⟩)
  rw [size_rep]
  exact laid_tup I (by rw [PyProof.Rows.lm_len_rep_flat, sizeLine_eq]; have a1 : k.toNat * xs.length ≤ 1000 * 1000 := Nat.mul_le_mul (by omega) hz; omega) (r.rep k.toNat) q
theorem op_repA : OpR X (binaryOp .Mult) (rRepA X.K) := by
  intro pins s σ H x y v u Q I rx ry h
  obtain ⟨l, k, xs, rfl, rfl, hT, h1, h2, hz, q1, q2⟩ := h
  by_cases hk : 2 ≤ k ∧ xs ≠ []
  · exact repN I rx ry hT hk.2 hk.1 h2 hz (q2 hk.2 (by omega))
  · cases rx
    obtain ⟨t, rfl⟩ := ry
    obtain ⟨its, r, ⟨⟨cls, dd, data, sl⟩, ho, hc, n, hd⟩, hs⟩ := I.tuple hT
    simp only at hc hd
    subst hc hd
    have hle : its.length = xs.length := r.length.symm
    have c0 : (decide (k < -(2 ^ 63)) || decide (k ≥ 2 ^ 63)) = false := by
      rw [decide_eq_false (by omega), decide_eq_false (by omega)] <;> rfl
    by_cases hsame : xs = [] ∨ k = 1
    · have c1 : (its.toArray.isEmpty || k == 1) = true := by
        rcases hsame with e | e
        · subst e
          have : its = [] := List.eq_nil_of_length_eq_zero hle
          subst this; rfl
        · subst e; simp
      refine wpAny_binaryOp_repeat_ref (T := "tuple") (U := "int") (by decide) ⟨_, ho, rfl⟩ (fun s' => typeIs_int s' k t) noFill_tuple_mul F.fills_int_mul F.slot_int_rmul repeat_tuple F.slot_int_index.lookup
        (call_meets F.slot_int_rmul (typeIs_int s k t) F.entry_int_rmul (F.args_int_rmul_2 _ _) (int_rmul_tuple k t l its.toArray n dd sl)
          ⟨ho, rfl, ⟨_, ho, rfl⟩, call_meets F.slot_tuple_mul ⟨_, ho, rfl⟩ F.entry_tuple_mul (F.args_tuple_mul_2 _ _) (tuple_mul_same l its.toArray n dd sl k t c0 c1) ⟨ho, ?_⟩⟩)
      exact ⟨.ref l, H, I, rfl, q1 hsame⟩
    · have hne : xs ≠ [] := fun e => hsame (.inl e)
      have hk1 : k ≠ 1 := fun e => hsame (.inr e)
      have hk0 : k ≤ 0 := by
        by_cases z : 2 ≤ k
        · exact absurd ⟨z, hne⟩ hk
        · omega
      have hi : its.toArray.isEmpty = false := by
        cases its with
        | nil => exact absurd (List.eq_nil_of_length_eq_zero hle.symm) hne
        | cons a b => rfl
      have c1 : (its.toArray.isEmpty || k == 1) = false := by rw [hi, Bool.false_or]; exact beq_eq_false_iff_ne.mpr hk1
      have c2 : (decide (k ≤ 0) || its.toArray.isEmpty) = true := by rw [decide_eq_true hk0]; rfl
      refine wpAny_binaryOp_repeat_ref (T := "tuple") (U := "int") (by decide) ⟨_, ho, rfl⟩ (fun s' => typeIs_int s' k t) noFill_tuple_mul F.fills_int_mul F.slot_int_rmul repeat_tuple F.slot_int_index.lookup
        (call_meets F.slot_int_rmul (typeIs_int s k t) F.entry_int_rmul (F.args_int_rmul_2 _ _) (int_rmul_tuple k t l its.toArray n dd sl)
          ⟨ho, rfl, ⟨_, ho, rfl⟩, call_meets F.slot_tuple_mul ⟨_, ho, rfl⟩ F.entry_tuple_mul (F.args_tuple_mul_2 _ _) (tuple_mul_none l its.toArray n dd sl k t c0 c1 c2) ⟨ho, ?_⟩⟩)
      have e0 : (List.replicate k.toNat xs).flatten = [] := by rw [show k.toNat = 0 by omega]; rfl
      have q := q2 hne hk1
      rw [e0] at q
      exact laid_tup (its := []) I (Nat.zero_le _) .nil q
end
end PB

set_option Elab.async false
set_option linter.all false
set_option maxRecDepth 100000
set_option maxHeartbeats 2000000
namespace PB
open PySem PySem.Spec L2
section
variable {X : Cx} {fa : Nat → Option Addr} {cf : Nat → List PV → PH → Res PV} {a b c : Expr} {pos : Pos} {ca cb cc : CE}
theorem mulOk_to {i j : Int} (h : mulOk i j = true) : CMulW i j := by
  unfold mulOk at h
  have h2 : i.natAbs.log2 + j.natAbs.log2 < 1000000 := by simpa using h
  exact h2
theorem ok_mul : OpOk X fa (binop .mul) (fun x y H Q => (rI CMulW fun i j => .int (i * j)) x y H Q ∨ rRep x y H Q ∨ rRepA X.K x y H Q) := by
  intro io H h a b x y r h' Q rh ra rb e q
  cases x <;> try (simp only [binop] at e; cases e; done)
  case int i =>
    cases y <;> try (simp only [binop] at e; cases e; done)
    case int j =>
      cases ra; cases rb
      simp only [binop] at e
      split at e <;> cases e
      rename_i hc
      exact .inl ⟨i, j, rfl, rfl, mulOk_to hc, q io H _ .refl rh (.int _)⟩
  case tup xs =>
    cases y <;> try (simp only [binop] at e; cases e; done)
    case int k =>
      simp only [binop] at e
      split at e <;> cases e
      rename_i hl
      cases rb
      cases ra with
      | @tup a vs _ sa ra =>
      refine .inr (.inr ⟨a, k, vs, rfl, rfl, sa.t, hl.1, hl.2.1, by rw [ra.length]; exact hl.2.2, fun hs => ?_, fun h1 h2 => tup_ok rh (ra.flat _) q⟩)
      refine q io H _ .refl rh (.tup sa ?_)
      rcases hs with hs | hs
      · subst hs; cases ra
        have : ∀ n : Nat, (List.replicate n ([] : List PV)).flatten = [] := fun n => by simp
        rw [this]; exact .nil
      · subst hs
        have : (List.replicate (Int.toNat 1) xs).flatten = xs := by simp [List.replicate_succ]
        rw [this]; exact ra
  case ref n =>
    cases y <;> try (simp only [binop] at e; cases e; done)
    case int k =>
      simp only [binop] at e
      split at e
      · rename_i xs hx
        by_cases hl : -1000 ≤ k ∧ k ≤ many ∧ xs.length * k.toNat ≤ many
        · rw [if_pos hl] at e
          cases rb
          obtain ⟨a, vs, rfl, _, ha, rv⟩ := rh.list ra hx
          have hm : (many : Int) = 1000000 := rfl
          refine .inr (.inl ⟨a, k, vs, rfl, rfl, ha, by omega, by omega, by rw [rv.length]; exact many_le hl.2.2, ?_⟩)
          exact alloc_ok rh (rv.flat _) e q
        · rw [if_neg hl] at e; cases e
      · cases e
theorem e_mul (ha : PE X a (tE X.K fa cf ca)) (hb : PE X b (tE X.K fa cf cb)) : PE X (.BinOp a .Mult b pos) (tE X.K fa cf (.bin .mul ca cb)) := bin_of (op_mulW.or (op_rep.or op_repA)) ok_mul ha hb

theorem un2 {e1 : CE} {sg : L2.St} {H : Hp} {Q : VK} {f : PV → PH → Res PV} {R : V → Hp → Prop} {io : List Addr} {s : Sl} {h : PH} {r : PV} {h' : PH}
    (rs : RS X.K fa io H sg s) (rh : RH X.K fa io H h) (e : ((evE cf e1 s h).bind fun x h1 => f x h1) = .ok r h')
    (q : ∀ io' H' v, Ext io H io' H' → RH X.K fa io' H' h' → Rl X.K fa io' H' v r → Q v H')
    (op : ∀ io2 H2 h2 a x, Ext io H io2 H2 → RH X.K fa io2 H2 h2 → Rl X.K fa io2 H2 a x → f x h2 = .ok r h' → (∀ io' H' v, Ext io2 H2 io' H' → RH X.K fa io' H' h' → Rl X.K fa io' H' v r → Q v H') → R a H2) :
    tE X.K fa cf e1 sg H R := by
  obtain ⟨x, h1, ea, e⟩ := bind_ok e
  exact ⟨io, s, h, x, h1, rs, rh, ea, fun io1 H1 a ex1 rh1 ra => op io1 H1 h1 a x ex1 rh1 ra e fun io' H' v ex3 rh3 rv => q io' H' v (ex1.trans ex3) rh3 rv⟩
theorem e_neg (ha : PE X a (tE X.K fa cf ca)) : PE X (.UnaryOp .USub a pos) (tE X.K fa cf (.neg ca)) :=
  wkE (pe_un un_neg ha) fun sg H Q ⟨io, s, h, r, h', rs, rh, e, q⟩ =>
    un2 (R := fun x H1 => rU (fun i => .int (-i)) x H1 Q) rs rh (by simpa only [evE] using e) q fun io2 H2 h2 a x ex rh2 ra e2 q2 => by
      cases x <;> simp only at e2 <;> cases e2
      cases ra
      exact ⟨_, rfl, q2 io2 H2 _ .refl rh2 (.int _)⟩
theorem e_not (ha : PE X a (tE X.K fa cf ca)) : PE X (.UnaryOp .Not a pos) (tE X.K fa cf (.not ca)) :=
  wkE (pe_not ha) fun sg H Q ⟨io, s, h, r, h', rs, rh, e, q⟩ =>
    un2 (R := fun x H1 => ∃ c, x = .bl c ∧ Q (.bl (!c)) H1) rs rh (by simpa only [evE] using e) q fun io2 H2 h2 a x ex rh2 ra e2 q2 => by
      cases x <;> simp only at e2 <;> cases e2
      cases ra
      exact ⟨_, rfl, q2 io2 H2 _ .refl rh2 (.bl _)⟩
theorem e_one {op} (ha : PE X a (tE X.K fa cf ca)) : PE X (.BoolOp op [a] pos) (tE X.K fa cf ca) := pe_one ha
variable {rest : List Expr}
theorem e_and (ha : PE X a (tE X.K fa cf ca)) (hb : PE X (.BoolOp .And (b :: rest) pos) (tE X.K fa cf cb)) : PE X (.BoolOp .And (a :: b :: rest) pos) (tE X.K fa cf (.and ca cb)) :=
  wkE (pe_and ha hb) fun sg H Q ⟨io, s, h, r, h', rs, rh, e, q⟩ =>
    un2 (R := fun x H1 => ∃ c, x = .bl c ∧ if c = true then tE X.K fa cf cb sg H1 Q else Q (.bl false) H1) rs rh (by simpa only [evE] using e) q fun io2 H2 h2 a x ex rh2 ra e2 q2 => by
      cases x <;> try (simp only at e2; cases e2; done)
      case bl c =>
        cases ra
        refine ⟨c, rfl, ?_⟩
        cases c with
        | true => rw [if_pos rfl]; exact ⟨io2, s, h2, r, h', rs.mono ex, rh2, e2, q2⟩
        | false => rw [if_neg Bool.false_ne_true]; simp only at e2; cases e2; exact q2 io2 H2 _ .refl rh2 (.bl _)
theorem e_or (ha : PE X a (tE X.K fa cf ca)) (hb : PE X (.BoolOp .Or (b :: rest) pos) (tE X.K fa cf cb)) : PE X (.BoolOp .Or (a :: b :: rest) pos) (tE X.K fa cf (.or ca cb)) :=
  wkE (pe_or ha hb) fun sg H Q ⟨io, s, h, r, h', rs, rh, e, q⟩ =>
    un2 (R := fun x H1 => ∃ c, x = .bl c ∧ if c = true then Q (.bl true) H1 else tE X.K fa cf cb sg H1 Q) rs rh (by simpa only [evE] using e) q fun io2 H2 h2 a x ex rh2 ra e2 q2 => by
      cases x <;> try (simp only at e2; cases e2; done)
      case bl c =>
        cases ra
        refine ⟨c, rfl, ?_⟩
        cases c with
        | false => rw [if_neg Bool.false_ne_true]; exact ⟨io2, s, h2, r, h', rs.mono ex, rh2, e2, q2⟩
        | true => rw [if_pos rfl]; simp only at e2; cases e2; exact q2 io2 H2 _ .refl rh2 (.bl _)

/-! ### tests -/
theorem t_val (ha : PE X a (tE X.K fa cf ca)) (he : ∀ whole, isTrue a X.env whole = (do let v ← whole; standAt a.pos; holding [v] (truthy v)) := by intro _; rfl) : PT X a (tT X.K fa cf ca) :=
  wkT (pt_val ha he) fun sg H Q ⟨io, s, h, r, h', rs, rh, e, q⟩ => ⟨io, s, h, .bl r, h', rs, rh, e, fun io' H' v ex rh' rv => by cases rv; exact ⟨r, rfl, q io' H' ex rh'⟩⟩
theorem t2 {e1 : CE} {sg : L2.St} {H : Hp} {Q : Bool → Hp → Prop} {f : PV → PH → Res PV} {R : Bool → Hp → Prop} {io : List Addr} {s : Sl} {h : PH} {r : Bool} {h' : PH}
    (rs : RS X.K fa io H sg s) (rh : RH X.K fa io H h) (e : ((evE cf e1 s h).bind fun x h1 => f x h1) = .ok (.bl r) h')
    (q : ∀ io' H', Ext io H io' H' → RH X.K fa io' H' h' → Q r H') (bad : ∀ x h1 v h2, f x h1 = .ok v h2 → ∃ b, x = .bl b)
    (op : ∀ io2 H2 h2 b, Ext io H io2 H2 → RH X.K fa io2 H2 h2 → f (.bl b) h2 = .ok (.bl r) h' → (∀ io' H', Ext io2 H2 io' H' → RH X.K fa io' H' h' → Q r H') → R b H2) :
    tT X.K fa cf e1 sg H R := by
  obtain ⟨x, h1, ea, e⟩ := bind_ok e
  obtain ⟨b, rfl⟩ := bad _ _ _ _ e
  exact ⟨io, s, h, b, h1, rs, rh, ea, fun io1 H1 ex1 rh1 => op io1 H1 h1 b ex1 rh1 e fun io' H' ex3 rh3 => q io' H' (ex1.trans ex3) rh3⟩
theorem t_not (ha : PT X a (tT X.K fa cf ca)) : PT X (.UnaryOp .Not a pos) (tT X.K fa cf (.not ca)) :=
  wkT (pt_not ha) fun sg H Q ⟨io, s, h, r, h', rs, rh, e, q⟩ =>
    t2 (R := fun c H1 => Q (!c) H1) rs rh (by simpa only [evE] using e) q (fun x h1 v h2 e => by cases x <;> simp only at e <;> cases e; exact ⟨_, rfl⟩) fun io2 H2 h2 b ex rh2 e2 q2 => by
      simp only at e2; cases e2
      exact q2 io2 H2 .refl rh2
theorem t_and1 (ha : PT X a (tT X.K fa cf ca)) : PW X (.BoolOp .And [a] pos) (tT X.K fa cf ca) := pw_and1 ha
theorem t_or1 (ha : PT X a (tT X.K fa cf ca)) : PW X (.BoolOp .Or [a] pos) (tT X.K fa cf ca) := pw_or1 ha
theorem t_and (ha : PT X a (tT X.K fa cf ca)) (hb : PW X (.BoolOp .And (b :: rest) pos) (tT X.K fa cf cb)) : PW X (.BoolOp .And (a :: b :: rest) pos) (tT X.K fa cf (.and ca cb)) :=
  wkW (pw_and ha hb) fun sg H Q ⟨io, s, h, r, h', rs, rh, e, q⟩ =>
    t2 (R := fun c H1 => if c = true then tT X.K fa cf cb sg H1 Q else Q false H1) rs rh (by simpa only [evE] using e) q (fun x h1 v h2 e => by cases x <;> first | exact ⟨_, rfl⟩ | (simp only at e; cases e)) fun io2 H2 h2 b ex rh2 e2 q2 => by
      cases b with
      | true => rw [if_pos rfl]; exact ⟨io2, s, h2, r, h', rs.mono ex, rh2, e2, q2⟩
      | false => rw [if_neg Bool.false_ne_true]; simp only at e2; cases e2; exact q2 io2 H2 .refl rh2
theorem t_or (ha : PT X a (tT X.K fa cf ca)) (hb : PW X (.BoolOp .Or (b :: rest) pos) (tT X.K fa cf cb)) : PW X (.BoolOp .Or (a :: b :: rest) pos) (tT X.K fa cf (.or ca cb)) :=
  wkW (pw_or ha hb) fun sg H Q ⟨io, s, h, r, h', rs, rh, e, q⟩ =>
    t2 (R := fun c H1 => if c = true then Q true H1 else tT X.K fa cf cb sg H1 Q) rs rh (by simpa only [evE] using e) q (fun x h1 v h2 e => by cases x <;> first | exact ⟨_, rfl⟩ | (simp only at e; cases e)) fun io2 H2 h2 b ex rh2 e2 q2 => by
      cases b with
      | false => rw [if_neg Bool.false_ne_true]; exact ⟨io2, s, h2, r, h', rs.mono ex, rh2, e2, q2⟩
      | true => rw [if_pos rfl]; simp only at e2; cases e2; exact q2 io2 H2 .refl rh2

/-! ### comparisons -/
theorem ok_eq : OpOk X fa (cmpop .eq) (rEqD X.K) := by
  intro io H h a b x y r h' Q rh ra rb e q
  simp only [cmpop] at e
  split at e <;> cases e
  obtain ⟨d, d', h1, h2, h3, h4, _, _, _, _, rfl⟩ := rh.eqD ra rb (by assumption)
  exact ⟨d, d', h1, h2, h3, h4, q io H _ .refl rh (.bl _)⟩
theorem ok_ne : OpOk X fa (cmpop .ne) (rNeD X.K) := by
  intro io H h a b x y r h' Q rh ra rb e q
  simp only [cmpop] at e
  split at e <;> cases e
  obtain ⟨d, d', h1, h2, h3, h4, _, _, _, _, rfl⟩ := rh.eqD ra rb (by assumption)
  exact ⟨d, d', h1, h2, h3, h4, q io H _ .refl rh (.bl _)⟩
theorem ok_lt : OpOk X fa (cmpop .lt) (rI0 fun i j => .bl (decide (i < j))) := by
  intro io H h a b x y r h' Q rh ra rb e q
  cases x <;> cases y <;> simp only [cmpop] at e <;> cases e
  cases ra; cases rb
  exact ⟨_, _, rfl, rfl, q io H _ .refl rh (.bl _)⟩
theorem ok_le : OpOk X fa (cmpop .le) (rI0 fun i j => .bl (decide (i ≤ j))) := by
  intro io H h a b x y r h' Q rh ra rb e q
  cases x <;> cases y <;> simp only [cmpop] at e <;> cases e
  cases ra; cases rb
  exact ⟨_, _, rfl, rfl, q io H _ .refl rh (.bl _)⟩
theorem ok_gt : OpOk X fa (cmpop .gt) (rI0 fun i j => .bl (decide (j < i))) := by
  intro io H h a b x y r h' Q rh ra rb e q
  cases x <;> cases y <;> simp only [cmpop] at e <;> cases e
  cases ra; cases rb
  exact ⟨_, _, rfl, rfl, q io H _ .refl rh (.bl _)⟩
theorem ok_ge : OpOk X fa (cmpop .ge) (rI0 fun i j => .bl (decide (j ≤ i))) := by
  intro io H h a b x y r h' Q rh ra rb e q
  cases x <;> cases y <;> simp only [cmpop] at e <;> cases e
  cases ra; cases rb
  exact ⟨_, _, rfl, rfl, q io H _ .refl rh (.bl _)⟩
/-- is, is not: None or a bool at the right -/
def rIsA : R2 := fun x y H Q => (y = .non ∧ Q (.bl (decide (x = .non))) H) ∨ rIsB x y H Q
def rNotA : R2 := fun x y H Q => (y = .non ∧ Q (.bl (!decide (x = .non))) H) ∨ rNotB x y H Q
theorem op_isA : OpR X (compareOp .Is) rIsA := by
  intro pins s sg H x y v u Q I rx ry h
  rcases h with h | h
  · exact op_isN pins s sg H x y v u Q I rx ry h
  · exact op_isBl pins s sg H x y v u Q I rx ry h
theorem op_notA : OpR X (compareOp .IsNot) rNotA := by
  intro pins s sg H x y v u Q I rx ry h
  rcases h with h | h
  · exact op_notN pins s sg H x y v u Q I rx ry h
  · exact op_notBl pins s sg H x y v u Q I rx ry h
theorem ok_isN : OpOk X fa (cmpop .isN) rIsA := by
  intro io H h a b x y r h' Q rh ra rb e q
  simp only [cmpop] at e
  split at e
  · cases e
    cases rb
    refine .inl ⟨rfl, q io H _ .refl rh ?_⟩
    cases ra <;> exact .bl _
  · split at e <;> cases e
    cases ra; cases rb
    exact .inr ⟨_, _, rfl, rfl, q io H _ .refl rh (.bl _)⟩
  · cases e
theorem ok_notN : OpOk X fa (cmpop .notN) rNotA := by
  intro io H h a b x y r h' Q rh ra rb e q
  simp only [cmpop] at e
  split at e
  · cases e
    cases rb
    refine .inl ⟨rfl, q io H _ .refl rh ?_⟩
    cases ra <;> exact .bl _
  · split at e <;> cases e
    cases ra; cases rb
    exact .inr ⟨_, _, rfl, rfl, q io H _ .refl rh (.bl _)⟩
  · cases e
/-- in, not in: a list or a tuple of data -/
def rInA (K : PySem.W.Frag) (neg : Bool) : R2 := fun x y H Q => ∃ d ds, Dp K H x d ∧ (Dp K H y (.list ds) ∨ Dp K H y (.tuple ds)) ∧ SeqAt.shaped d = true ∧ SeqAt.shaped (.list ds) = true ∧
  Q (.bl (if neg then !ds.any fun z => PyData.eqv z d else ds.any fun z => PyData.eqv z d)) H
theorem op_inA (hu : X.A.units + 65 < cLine) : OpR X (compareOp .In) (rInA X.K false) := by
  intro pins s σ H x y v u Q I rx ry h
  obtain ⟨d, ds, hd, he, sd, se, q⟩ := h
  obtain ⟨as, r1⟩ := Dp.reads I d x v hd rx
  rcases he with he | he
  · obtain ⟨bs, r2⟩ := Dp.reads I (.list ds) y u he ry
    exact SeqAt.in_list_reads r2 r1 (SeqAt.canLay_of_shaped se) (SeqAt.canLay_of_shaped sd) (PyProof.Rows.room_in_shaped sd hu) ⟨.bl _, H, I, rfl, q⟩
  · obtain ⟨bs, r2⟩ := Dp.reads I (.tuple ds) y u he ry
    exact SeqAt.in_tuple_reads r2 r1 (SeqAt.canLay_of_shaped se) (SeqAt.canLay_of_shaped sd) (PyProof.Rows.room_in_shaped sd hu) ⟨.bl _, H, I, rfl, q⟩
theorem op_notInA (hu : X.A.units + 65 < cLine) : OpR X (compareOp .NotIn) (rInA X.K true) := by
  intro pins s σ H x y v u Q I rx ry h
  obtain ⟨d, ds, hd, he, sd, se, q⟩ := h
  obtain ⟨as, r1⟩ := Dp.reads I d x v hd rx
  rcases he with he | he
  · obtain ⟨bs, r2⟩ := Dp.reads I (.list ds) y u he ry
    exact SeqAt.notIn_list_reads r2 r1 (SeqAt.canLay_of_shaped se) (SeqAt.canLay_of_shaped sd) (PyProof.Rows.room_in_shaped sd hu) ⟨.bl _, H, I, rfl, q⟩
  · obtain ⟨bs, r2⟩ := Dp.reads I (.tuple ds) y u he ry
    exact SeqAt.notIn_tuple_reads r2 r1 (SeqAt.canLay_of_shaped se) (SeqAt.canLay_of_shaped sd) (PyProof.Rows.room_in_shaped sd hu) ⟨.bl _, H, I, rfl, q⟩
theorem shaped_of {z : PyData} (h1 : PyData.canLay0 z = true) (h2 : PyData.depth z ≤ 12) : SeqAt.shaped z = true := by
  unfold SeqAt.shaped
  rw [h1, Bool.true_and]
  exact decide_eq_true (by omega)
theorem seq_data {io : List Addr} {H : Hp} {h : PH} {K : PySem.W.Frag} {v : V} {x : PV} {ds : List PyData} (rh : RH K fa io H h) (rv : Rl K fa io H v x) (e : seqD h x = some ds) :
    (Dp K H v (.list ds) ∨ Dp K H v (.tuple ds)) ∧ SeqAt.shaped (.list ds) = true := by
  unfold seqD at e
  split at e
  · rename_i ds' e1
    cases e
    obtain ⟨h1, h2, h3⟩ := rh.data 12 v x _ rv e1
    exact ⟨.inl h1, shaped_of h2 h3⟩
  · rename_i ds' e1
    cases e
    obtain ⟨h1, h2, h3⟩ := rh.data 12 v x _ rv e1
    exact ⟨.inr h1, shaped_of (show PyData.canLay0 (.list ds) = true from h2) (show PyData.depth (.list ds) ≤ 12 from h3)⟩
  · cases e
theorem ok_in : OpOk X fa (cmpop .isIn) (rInA X.K false) := by
  intro io H h a b x y r h' Q rh ra rb e q
  simp only [cmpop] at e
  split at e <;> cases e
  rename_i d ds e1 e2
  obtain ⟨h1, h2, h3⟩ := rh.data 12 a x d ra e1
  obtain ⟨g1, g2⟩ := seq_data rh rb e2
  exact ⟨d, ds, h1, g1, shaped_of h2 h3, g2, q io H _ .refl rh (.bl _)⟩
theorem ok_notIn : OpOk X fa (cmpop .notIn) (rInA X.K true) := by
  intro io H h a b x y r h' Q rh ra rb e q
  simp only [cmpop] at e
  split at e <;> cases e
  rename_i d ds e1 e2
  obtain ⟨h1, h2, h3⟩ := rh.data 12 a x d ra e1
  obtain ⟨g1, g2⟩ := seq_data rh rb e2
  exact ⟨d, ds, h1, g1, shaped_of h2 h3, g2, q io H _ .refl rh (.bl _)⟩
/-- a comparison of the text, its code -/
structure CmpR (X : Cx) (fa : Nat → Option Addr) (op : CmpOp) (co : CmpO) : Prop where
  to : ∃ R, OpR X (compareOp op) R ∧ OpOk X fa (cmpop co) R
  bool : ∀ x y h r h', cmpop co x y h = .ok r h' → ∃ b, r = .bl b
theorem cmp_bl (co : CmpO) : ∀ x y h r h', cmpop co x y h = .ok r h' → ∃ b, r = .bl b := by
  intro x y h r h' e
  cases co <;> simp only [cmpop] at e <;> (try (split at e <;> cases e <;> exact ⟨_, rfl⟩)) <;>
    (cases x <;> cases y <;> simp only [cmpop] at e <;> cases e <;> exact ⟨_, rfl⟩)
variable {k : Nat}
theorem c_eq (hr : Room k X.A) : CmpR X fa .Eq .eq := ⟨⟨_, op_eqD hr.units, ok_eq⟩, cmp_bl _⟩
theorem c_ne (hr : Room k X.A) : CmpR X fa .NotEq .ne := ⟨⟨_, op_neD hr.units, ok_ne⟩, cmp_bl _⟩
theorem c_lt : CmpR X fa .Lt .lt := ⟨⟨_, op_lt, ok_lt⟩, cmp_bl _⟩
theorem c_le : CmpR X fa .LtE .le := ⟨⟨_, op_le, ok_le⟩, cmp_bl _⟩
theorem c_gt : CmpR X fa .Gt .gt := ⟨⟨_, op_gt, ok_gt⟩, cmp_bl _⟩
theorem c_ge : CmpR X fa .GtE .ge := ⟨⟨_, op_ge, ok_ge⟩, cmp_bl _⟩
theorem c_isN : CmpR X fa .Is .isN := ⟨⟨_, op_isA, ok_isN⟩, cmp_bl _⟩
theorem c_notN : CmpR X fa .IsNot .notN := ⟨⟨_, op_notA, ok_notN⟩, cmp_bl _⟩
theorem c_in (hr : Room k X.A) : CmpR X fa .In .isIn := ⟨⟨_, op_inA (by have := hr.un; omega), ok_in⟩, cmp_bl _⟩
theorem c_notIn (hr : Room k X.A) : CmpR X fa .NotIn .notIn := ⟨⟨_, op_notInA (by have := hr.un; omega), ok_notIn⟩, cmp_bl _⟩
theorem e_cmp {op : CmpOp} {co : CmpO} (hc : CmpR X fa op co) (ha : PE X a (tE X.K fa cf ca)) (hb : PE X b (tE X.K fa cf cb)) (hm : behindInMarks op b = false := by rfl) : PE X (.Compare a [op] [b] pos) (tE X.K fa cf (.cmp co ca cb)) := by
  obtain ⟨⟨R, ho, hk⟩, _⟩ := hc
  exact wkE (pe_cmpR ho ha hb hm) fun sg H Q ⟨io, s, h, r, h', rs, rh, e, q⟩ =>
    bin2 (R := R) rs rh (by simpa only [evE] using e) q fun io2 H2 h2 a b x y rh2 ra rb e2 q2 => hk io2 H2 h2 a b x y r h' Q rh2 ra rb e2 q2
theorem t_cmp {op : CmpOp} {co : CmpO} (hc : CmpR X fa op co) (ha : PE X a (tE X.K fa cf ca)) (hb : PE X b (tE X.K fa cf cb)) (hm : behindInMarks op b = false := by rfl) : PT X (.Compare a [op] [b] pos) (tT X.K fa cf (.cmp co ca cb)) := by
  obtain ⟨⟨R, ho, hk⟩, _⟩ := hc
  refine wkT (pt_cmpR ho ha hb hm) fun sg H Q ⟨io, s, h, r, h', rs, rh, e, q⟩ => ?_
  refine bin2 (R := R) (Q := fun x H' => ∃ k, x = .bl k ∧ Q k H') rs rh (by simpa only [evE] using e) (fun io' H' v ex rh' rv => ?_) fun io2 H2 h2 a b x y rh2 ra rb e2 q2 => hk io2 H2 h2 a b x y _ h' _ rh2 ra rb e2 q2
  cases rv
  exact ⟨r, rfl, q io' H' ex rh'⟩
theorem chain_to {op op' : CmpO} {R R' : R2} {sg : L2.St} {H : Hp} {Q : VK} {io : List Addr} {s : Sl} {h : PH} {r : PV} {h' : PH} (hk : OpOk X fa (cmpop op) R) (hk' : OpOk X fa (cmpop op') R') (hb : ∀ x y h r h', cmpop op x y h = .ok r h' → ∃ b, r = .bl b)
    (rs : RS X.K fa io H sg s) (rh : RH X.K fa io H h) (e : evE cf (.chn op op' ca cb cc) s h = .ok r h')
    (q : ∀ io' H' v, Ext io H io' H' → RH X.K fa io' H' h' → Rl X.K fa io' H' v r → Q v H') : tChain R R' (tE X.K fa cf ca) (tE X.K fa cf cb) (tE X.K fa cf cc) sg H Q := by
  simp only [evE] at e
  obtain ⟨x, h1, ea, e⟩ := bind_ok e
  obtain ⟨y, h2, eb, e⟩ := bind_ok e
  obtain ⟨z, h3, ec, e⟩ := bind_ok e
  obtain ⟨k, rfl⟩ := hb _ _ _ _ _ ec
  refine ⟨io, s, h, x, h1, rs, rh, ea, fun io1 H1 a ex1 rh1 ra => ⟨io1, s, h1, y, h2, rs.mono ex1, rh1, eb, fun io2 H2 b ex2 rh2 rb => ?_⟩⟩
  refine hk io2 H2 h2 a b x y _ h3 _ rh2 (ra.mono ex2) rb ec fun io3 H3 v ex3 rh3 rv => ?_
  cases rv
  refine ⟨k, rfl, ?_⟩
  have ex : Ext io H io3 H3 := (ex1.trans ex2).trans ex3
  cases k with
  | false =>
    rw [if_neg Bool.false_ne_true]
    simp only at e; cases e
    exact q io3 H3 _ ex rh3 (.bl _)
  | true =>
    rw [if_pos rfl]
    simp only at e
    obtain ⟨w, h4, ed, e⟩ := bind_ok e
    exact ⟨io3, s, h3, w, h4, rs.mono ex, rh3, ed, fun io4 H4 c ex4 rh4 rc => hk' io4 H4 h4 b c y w r h' Q rh4 ((rb.mono ex3).mono ex4) rc e fun io' H' v ex5 rh5 rv => q io' H' v ((ex.trans ex4).trans ex5) rh5 rv⟩
theorem e_chn {op op' : CmpOp} {co co' : CmpO} (hc : CmpR X fa op co) (hc' : CmpR X fa op' co') (h1 : PE X a (tE X.K fa cf ca)) (h2 : PE X b (tE X.K fa cf cb)) (h3 : PE X c (tE X.K fa cf cc))
    (hm : lastMarks [op, op'] [b, c] = false := by with_unfolding_all rfl) : PE X (.Compare a [op, op'] [b, c] pos) (tE X.K fa cf (.chn co co' ca cb cc)) := by
  obtain ⟨⟨R, ho, hk⟩, hb⟩ := hc
  obtain ⟨⟨R', ho', hk'⟩, _⟩ := hc'
  exact wkE (pe_chain ho ho' h1 h2 h3 hm) fun sg H Q ⟨io, s, h, r, h', rs, rh, e, q⟩ => chain_to hk hk' hb rs rh e q
theorem t_chn {op op' : CmpOp} {co co' : CmpO} (hc : CmpR X fa op co) (hc' : CmpR X fa op' co') (h1 : PE X a (tE X.K fa cf ca)) (h2 : PE X b (tE X.K fa cf cb)) (h3 : PE X c (tE X.K fa cf cc))
    (hm : lastMarks [op, op'] [b, c] = false := by with_unfolding_all rfl) : PT X (.Compare a [op, op'] [b, c] pos) (tT X.K fa cf (.chn co co' ca cb cc)) := by
  obtain ⟨⟨R, ho, hk⟩, hb⟩ := hc
  obtain ⟨⟨R', ho', hk'⟩, _⟩ := hc'
  exact wkT (pt_chain ho ho' h1 h2 h3 hm) fun sg H Q ⟨io, s, h, r, h', rs, rh, e, q⟩ => chain_to (Q := fun x H' => ∃ k, x = .bl k ∧ Q k H') hk hk' hb rs rh e fun io' H' v ex rh' rv => by cases rv; exact ⟨r, rfl, q io' H' ex rh'⟩
theorem e_ite (hc : PT X c (tT X.K fa cf cc)) (ha : PE X a (tE X.K fa cf ca)) (hb : PE X b (tE X.K fa cf cb)) : PE X (.IfExp c a b pos) (tE X.K fa cf (.ite cc ca cb)) :=
  wkE (pe_ifExp hc ha hb) fun sg H Q ⟨io, s, h, r, h', rs, rh, e, q⟩ => by
    simp only [evE] at e
    obtain ⟨x, h1, ec, e⟩ := bind_ok e
    cases x <;> try (simp only at e; cases e; done)
    case bl k =>
      refine ⟨io, s, h, k, h1, rs, rh, ec, fun io1 H1 ex1 rh1 => ?_⟩
      cases k with
      | true => rw [if_pos rfl]; exact ⟨io1, s, h1, r, h', rs.mono ex1, rh1, e, fun io' H' v ex rh' rv => q io' H' v (ex1.trans ex) rh' rv⟩
      | false => rw [if_neg Bool.false_ne_true]; exact ⟨io1, s, h1, r, h', rs.mono ex1, rh1, e, fun io' H' v ex rh' rv => q io' H' v (ex1.trans ex) rh' rv⟩
end
end PB

set_option Elab.async false
set_option linter.all false
set_option maxRecDepth 100000
set_option maxHeartbeats 2000000
namespace PB
open PySem PySem.Spec L2
section
variable {X : Cx} {fa : Nat → Option Addr} {cf : Nat → List PV → PH → Res PV} {a b c e : Expr} {es : List Expr} {pos : Pos} {ca cb cc : CE} {cs : CA}

/-! ### arguments -/
theorem a_nil : PA X [] (tA X.K fa cf .nil) :=
  wkA pa_nil fun sg H Q ⟨io, s, h, r, h', rs, rh, e, q⟩ => by
    simp only [evA] at e; cases e
    exact q io H _ .refl rh .nil
theorem a_cons (ha : PE X e (tE X.K fa cf ca)) (hr : PA X es (tA X.K fa cf cs)) (hs : starEach (e :: es) X.env = (false, eval e X.env) :: starEach es X.env := by rfl) : PA X (e :: es) (tA X.K fa cf (.cons ca cs)) :=
  wkA (pa_cons ha hr hs) fun sg H Q ⟨io, s, h, r, h', rs, rh, e, q⟩ => by
    simp only [evA] at e
    obtain ⟨x, h1, e1, e⟩ := bind_ok e
    obtain ⟨xs, h2, e2, e⟩ := bind_ok e
    cases e
    exact ⟨io, s, h, x, h1, rs, rh, e1, fun io1 H1 v ex1 rh1 rv => ⟨io1, s, h1, xs, _, rs.mono ex1, rh1, e2, fun io2 H2 vs ex2 rh2 rvs => q io2 H2 _ (ex1.trans ex2) rh2 (.cons (rv.mono ex2) rvs)⟩⟩
theorem a_star {p : Pos} (ha : PE X e (tE X.K fa cf ca)) (hr : PA X es (tA X.K fa cf cs)) : PA X (.Starred e p :: es) (tA X.K fa cf (.star ca cs)) :=
  wkA (StX.pa_star ha hr) fun sg H Q ⟨io, s, h, r, h', rs, rh, e, q⟩ => by
    simp only [evA] at e
    obtain ⟨x, h1, e1, e⟩ := bind_ok e
    split at e
    · rename_i ys hy
      obtain ⟨xs, h2, e2, e⟩ := bind_ok e
      cases e
      refine ⟨io, s, h, x, h1, rs, rh, e1, fun io1 H1 v ex1 rh1 rv => ?_⟩
      obtain ⟨a, vs, rfl, sq, rvs⟩ := rh1.items rv hy
      exact ⟨a, vs, rfl, sq.symm, io1, s, h1, xs, _, rs.mono ex1, rh1, e2, fun io2 H2 ws ex2 rh2 rws => q io2 H2 _ (ex1.trans ex2) rh2 ((rvs.mono ex2).append rws)⟩
    · cases e
theorem e_tup {k : Nat} (h : PA X es (tA X.K fa cf cs)) : PE X (.Tuple es k pos) (tE X.K fa cf (.tup cs)) :=
  wkE (pe_tupN h) fun sg H Q ⟨io, s, h, r, h', rs, rh, e, q⟩ => by
    simp only [evE] at e
    obtain ⟨xs, h1, e1, e⟩ := bind_ok e
    split at e <;> cases e
    rename_i hl
    exact ⟨io, s, h, xs, _, rs, rh, e1, fun io1 H1 vs ex1 rh1 rv => ⟨by rw [rv.length]; exact many_le hl, tup_ok rh1 rv fun io' H' v ex2 rh2 rv2 => q io' H' v (ex1.trans ex2) rh2 rv2⟩⟩
theorem e_lst (h : PA X es (tA X.K fa cf cs)) : PE X (.List es pos) (tE X.K fa cf (.lst cs)) :=
  wkE (pe_lst h) fun sg H Q ⟨io, s, h, r, h', rs, rh, e, q⟩ => by
    simp only [evE] at e
    obtain ⟨xs, h1, e1, e⟩ := bind_ok e
    by_cases hl : xs.length ≤ many
    · rw [if_pos hl] at e
      exact ⟨io, s, h, xs, _, rs, rh, e1, fun io1 H1 vs ex1 rh1 rv => ⟨by rw [rv.length]; exact many_le hl, alloc_ok rh1 rv e fun io' H' v ex2 rh2 rv2 => q io' H' v (ex1.trans ex2) rh2 rv2⟩⟩
    · rw [if_neg hl] at e; cases e

/-! ### subscripts -/
theorem Rls.atI {K : PySem.W.Frag} {io : List Addr} {H : Hp} {vs : List V} {xs : List PV} {i : Int} {x : PV} (r : Rls K fa io H vs xs) (e : L2.atI xs i = some x) : ∃ v, L2.atI vs i = some v ∧ Rl K fa io H v x := by
  unfold L2.atI at e ⊢
  rw [r.length]
  cases z : ixN xs.length i with
  | none => rw [z] at e; cases e
  | some j =>
    rw [z] at e
    exact r.get (i := j) e
theorem ok_idx : OpOk X fa idxop (rIx X.K) := by
  intro io H h a b x y r h' Q rh ra rb e q
  unfold idxop at e
  split at e
  · rename_i xs i h1
    split at e <;> cases e
    rename_i h2
    obtain ⟨p, vs, rfl, sq, rv⟩ := rh.items ra h1
    cases rb
    obtain ⟨w, hw, rw'⟩ := rv.atI h2
    have fin := q io H w .refl rh rw'
    rcases sq with sq | sq
    · exact .inl ⟨p, vs, i, w, rfl, rfl, sq, hw, fin⟩
    · exact .inr (.inl ⟨p, vs, i, w, rfl, rfl, sq, hw, fin⟩)
  · cases e
theorem e_idx (ha : PE X a (tE X.K fa cf ca)) (hb : PE X b (tE X.K fa cf cb)) (hs : PlainIx b := by exact fun _ _ => rfl) : PE X (.Subscript a b pos) (tE X.K fa cf (.idx ca cb)) :=
  wkE (pe_ix ix_seq ha hb hs) fun sg H Q ⟨io, s, h, r, h', rs, rh, e, q⟩ =>
    bin2 (R := rIx X.K) rs rh (by simpa only [evE] using e) q fun io2 H2 h2 a b x y rh2 ra rb e2 q2 => ok_idx io2 H2 h2 a b x y r h' Q rh2 ra rb e2 q2
theorem o_none : L2.PO X none (tO X.K fa cf .none) :=
  wkO po_none fun sg H Q ⟨io, s, h, r, o, h', rs, rh, e, e2, q⟩ => by
    simp only [evO] at e; cases e
    simp only [optI] at e2; cases e2
    exact q io H .refl rh
theorem o_some (ha : PE X a (tE X.K fa cf ca)) : L2.PO X (some a) (tO X.K fa cf (.some ca)) :=
  wkO (po_some ha) fun sg H Q ⟨io, s, h, r, o, h', rs, rh, e, e2, q⟩ => by
    simp only [evO] at e
    obtain ⟨x, h1, e1, e⟩ := bind_ok e
    cases e
    cases x <;> simp only [optI] at e2 <;> cases e2
    exact ⟨io, s, h, _, _, rs, rh, e1, fun io1 H1 v ex1 rh1 rv => by cases rv; exact ⟨_, rfl, q io1 H1 ex1 rh1⟩⟩
theorem Rls.cut {K : PySem.W.Frag} {io : List Addr} {H : Hp} {vs : List V} {xs : List PV} (r : Rls K fa io H vs xs) (lo hi : Option Int) : Rls K fa io H (cutV vs lo hi) (PB.cut xs lo hi) := by
  unfold cutV PB.cut
  rw [r.length]
  exact (r.drop _).take _
theorem optI_ok {h : PH} {r : Option PV} {o : Option Int} {h' : PH} (e : optI h r = .ok o h') : h' = h := by
  cases r with
  | none => simp only [optI] at e; cases e; rfl
  | some x => cases x <;> simp only [optI] at e <;> cases e; rfl
theorem slc_ok {K : PySem.W.Frag} {io : List Addr} {H : Hp} {h : PH} {x r : PV} {v : V} {l' u' : Option Int} {h' : PH} {Q : VK} (rh3 : RH K fa io H h) (rv3 : Rl K fa io H v x) (ef : slcop x l' u' h = .ok r h')
    (q3 : ∀ io' H' v, Ext io H io' H' → RH K fa io' H' h' → Rl K fa io' H' v r → Q v H') : rSlL K v l' u' H Q ∨ rSlN K v l' u' H Q := by
  cases x <;> try (simp only [slcop] at ef; cases ef; done)
  case tup xs =>
    simp only [slcop] at ef; cases ef
    cases rv3 with
    | @tup p vs _ sq rvs =>
    refine .inr ⟨p, vs, rfl, sq.t, fun hw => ?_, fun _ => tup_ok rh3 (rvs.cut l' u') q3⟩
    refine q3 io H _ .refl rh3 (.tup sq ?_)
    have : PB.cut xs l' u' = xs := by
      unfold PB.cut
      rw [rvs.length] at hw
      rw [hw.1, hw.2]
      simp
    rw [this]; exact rvs
  case ref n =>
    simp only [slcop] at ef
    split at ef
    · rename_i xs hx
      obtain ⟨p, vs, rfl, _, hp, rvs⟩ := rh3.list rv3 hx
      exact .inl ⟨p, vs, rfl, .inl (.inl hp), alloc_ok rh3 (rvs.cut l' u') ef q3⟩
    · cases ef
variable {lo hi : Option Expr} {cl cu : CO} {p2 : Pos}
theorem e_slc (ha : PE X a (tE X.K fa cf ca)) (hl : L2.PO X lo (tO X.K fa cf cl)) (hu : L2.PO X hi (tO X.K fa cf cu)) : PE X (.Subscript a (.Slice lo hi none p2) pos) (tE X.K fa cf (.slc ca cl cu)) :=
  wkE (pe_slice (sl_list.or sl_tupN) ha hl hu) fun sg H Q ⟨io, s, h, r, h', rs, rh, e, q⟩ => by
    simp only [evE] at e
    obtain ⟨x, h1, e1, e⟩ := bind_ok e
    obtain ⟨l, h2, e2, e⟩ := bind_ok e
    obtain ⟨u, h3, e3, e⟩ := bind_ok e
    obtain ⟨l', h4, e4, e⟩ := bind_ok e
    obtain ⟨u', h5, e5, ef⟩ := bind_ok e
    have z4 := optI_ok e4
    have z5 := optI_ok e5
    subst z4; subst z5
    have e4' : optI h2 l = .ok l' h2 := by
      cases l with
      | none => simp only [optI] at e4 ⊢; cases e4; rfl
      | some x => cases x <;> simp only [optI] at e4 ⊢ <;> cases e4; rfl
    refine ⟨io, s, h, x, h1, rs, rh, e1, fun io1 H1 v ex1 rh1 rv => ⟨io1, s, h1, l, l', h2, rs.mono ex1, rh1, e2, e4', fun io2 H2 ex2 rh2 => ⟨io2, s, h2, u, u', _, rs.mono (ex1.trans ex2), rh2, e3, e5, fun io3 H3 ex3 rh3 => ?_⟩⟩⟩
    exact slc_ok rh3 (rv.mono (ex2.trans ex3)) ef fun io' H' v ex rh' rv' => q io' H' v ((ex1.trans (ex2.trans ex3)).trans ex) rh' rv'

/-! ### calls -/
variable {P : Program} {k j : Nat} {x : Str} {p : Pos} {i : Nat} {G : Nat → Option Fn}
theorem e_call (hc : C8.Cal X.prog X.w X.K X.mg X.base k x (spI X.K fa G k i) []) (hr : Room k X.A) (hg : Gl X x) (ha : PA X (e :: es) (tA X.K fa (callF G k) cs))
    (hdb : (x == ("__debug__" : Str)) = false := by decide) (he : starEach (e :: es) X.env = (false, eval e X.env) :: starEach es X.env := by rfl) (hpl : (backTo pos (starEach es X.env)).any (·.1) = false := by rfl) :
    PE X (.Call (.Name x p) (e :: es) [] pos) (tE X.K fa (callF G k) (.call i cs)) :=
  wkE (C8.pe_c hc hr (Nat.le_refl _) hg ha hdb he hpl) fun sg H Q ⟨io, s, h, r, h', rs, rh, e, q⟩ => by
    simp only [evE] at e
    obtain ⟨xs, h1, e1, e⟩ := bind_ok e
    refine ⟨io, s, h, xs, h1, rs, rh, e1, fun io1 H1 vs ex1 rh1 rv => ?_⟩
    show spI X.K fa G k i (vs ++ []) H1 Q _
    rw [List.append_nil]
    exact ⟨io1, h1, xs, r, h', rv, rh1, e, fun io' H' v ex2 rh2 rv2 => q io' H' v (ex1.trans ex2) rh2 rv2⟩
theorem e_call0 (hc : C8.Cal X.prog X.w X.K X.mg X.base k x (spI X.K fa G k i) []) (hr : Room k X.A) (hg : Gl X x) (hdb : (x == ("__debug__" : Str)) = false := by decide) :
    PE X (.Call (.Name x p) [] [] pos) (tE X.K fa (callF G k) (.call i .nil)) := by
  obtain ⟨f, fd, ps, ds, F, hm, kp, b, d⟩ := hc.ex
  refine wkE (pe_call0 F hr hg hm kp b d pass0 hdb) fun sg H Q ⟨io, s, h, r, h', rs, rh, e, q⟩ => ?_
  simp only [evE, evA] at e
  obtain ⟨xs, h1, e1, e⟩ := bind_ok e
  cases e1
  exact ⟨io, h, [], r, h', .nil, rh, e, q⟩
/-- the defs that may be held by a name: by their ids -/
structure Held' (P : Program) (w : World) (K : PySem.W.Frag) (mg : Str → Option Value) (base : Heap) (fa : Nat → Option Addr) (G : Nat → Option Fn) (k : Nat) : Prop where
  at_ : ∀ n f, fa n = some f → ∃ (fd : FuncData) (ps : List Str), FnOk P w K mg base L2.CX0 k f fd ps (spI K fa G k n) ∧ PySem.W.keepIn K (.ref f) = true ∧ Binds K fd ps []

/-! ### built-in functions -/
/-- a built-in's rule by values and its pure one -/
def BltOk (X : Cx) (fa : Nat → Option Addr) (f : Blt) (R : List V → Hp → VK → Prop) : Prop :=
  ∀ (io : List Addr) (H : Hp) (h : PH) (vs : List V) (xs : List PV) (r : PV) (h' : PH) (Q : VK), RH X.K fa io H h → Rls X.K fa io H vs xs → blt f xs h = .ok r h' →
    (∀ io' H' v, Ext io H io' H' → RH X.K fa io' H' h' → Rl X.K fa io' H' v r → Q v H') → R vs H Q
theorem blt_to {f : Blt} {R : List V → Hp → VK → Prop} (hk : BltOk X fa f R) (h : PE X e (tCB R (tA X.K fa cf cs))) : PE X e (tE X.K fa cf (.blt f cs)) :=
  wkE h fun sg H Q ⟨io, s, h, r, h', rs, rh, e, q⟩ => by
    simp only [evE] at e
    obtain ⟨xs, h1, e1, e⟩ := bind_ok e
    exact ⟨io, s, h, xs, h1, rs, rh, e1, fun io1 H1 vs ex1 rh1 rv => hk io1 H1 h1 vs xs r h' Q rh1 rv e fun io' H' v ex2 rh2 rv2 => q io' H' v (ex1.trans ex2) rh2 rv2⟩
theorem Rls.one {K : PySem.W.Frag} {io : List Addr} {H : Hp} {vs : List V} {x : PV} (r : Rls K fa io H vs [x]) : ∃ v, vs = [v] ∧ Rl K fa io H v x := by
  cases r with
  | cons a q => cases q; exact ⟨_, rfl, a⟩
theorem Rls.two {K : PySem.W.Frag} {io : List Addr} {H : Hp} {vs : List V} {x y : PV} (r : Rls K fa io H vs [x, y]) : ∃ v w, vs = [v, w] ∧ Rl K fa io H v x ∧ Rl K fa io H w y := by
  cases r with
  | cons a q =>
    obtain ⟨w, rfl, b⟩ := Rls.one q
    exact ⟨_, _, rfl, a, b⟩
theorem bk_len : BltOk X fa .len (fun xs H Q => ∃ p ys, xs = [.ref p] ∧ (SqL X.K H p ys ∨ SqT X.K H p ys) ∧ Q (.int ys.length) H) := by
  intro io H h vs xs r h' Q rh rv e q
  match xs, e with
  | [a], e =>
    simp only [blt] at e
    split at e <;> cases e
    obtain ⟨v, rfl, ra⟩ := rv.one
    obtain ⟨p, ws, rfl, sq, rw'⟩ := rh.items ra (by assumption)
    exact ⟨p, ws, rfl, sq, by rw [rw'.length]; exact q io H _ .refl rh (.int _)⟩
  | [], e => simp [blt] at e
  | _ :: _ :: _, e => simp [blt] at e
theorem bk_abs : BltOk X fa .abs (fun xs H Q => ∃ i, xs = [.int i] ∧ Q (.int (if i < 0 then -i else i)) H) := by
  intro io H h vs xs r h' Q rh rv e q
  match xs, e with
  | [a], e =>
    cases a <;> simp only [blt] at e <;> cases e
    rename_i i
    obtain ⟨v, rfl, ra⟩ := rv.one
    cases ra
    refine ⟨i, rfl, ?_⟩
    have e : (if i < 0 then -i else i) = (i.natAbs : Int) := by split <;> omega
    rw [e]
    exact q io H _ .refl rh (.int _)
  | [], e => simp [blt] at e
  | _ :: _ :: _, e => simp [blt] at e
theorem bk_min : BltOk X fa .min2 (fun xs H Q => ∃ i j, xs = [.int i, .int j] ∧ Q (.int (if j < i then j else i)) H) := by
  intro io H h vs xs r h' Q rh rv e q
  match xs, e with
  | [a, b], e =>
    cases a <;> cases b <;> simp only [blt] at e <;> cases e
    obtain ⟨v, w, rfl, ra, rb⟩ := rv.two
    cases ra; cases rb
    exact ⟨_, _, rfl, q io H _ .refl rh (.int _)⟩
  | [], e => simp [blt] at e
  | [_], e => simp [blt] at e
  | _ :: _ :: _ :: _, e => simp [blt] at e
theorem bk_max : BltOk X fa .max2 (fun xs H Q => ∃ i j, xs = [.int i, .int j] ∧ Q (.int (if j > i then j else i)) H) := by
  intro io H h vs xs r h' Q rh rv e q
  match xs, e with
  | [a, b], e =>
    cases a <;> cases b <;> simp only [blt] at e <;> cases e
    obtain ⟨v, w, rfl, ra, rb⟩ := rv.two
    cases ra; cases rb
    exact ⟨_, _, rfl, q io H _ .refl rh (.int _)⟩
  | [], e => simp [blt] at e
  | [_], e => simp [blt] at e
  | _ :: _ :: _ :: _, e => simp [blt] at e
theorem bk_gcd : BltOk X fa .gcd rGcd := by
  intro io H h vs xs r h' Q rh rv e q
  match xs, e with
  | [a, b], e =>
    cases a <;> cases b <;> simp only [blt] at e <;> cases e
    obtain ⟨v, w, rfl, ra, rb⟩ := rv.two
    cases ra; cases rb
    exact ⟨_, _, rfl, q io H _ .refl rh (.int _)⟩
  | [], e => simp [blt] at e
  | [_], e => simp [blt] at e
  | _ :: _ :: _ :: _, e => simp [blt] at e
theorem bk_tuple : BltOk X fa .tuple (fun xs H Q => ∃ p ys, xs = [.ref p] ∧ ((SqL X.K H p ys ∧ NewT Q H ys) ∨ (SqT X.K H p ys ∧ Q (.ref p) H))) := by
  intro io H h vs xs r h' Q rh rv e q
  match xs, e with
  | [a], e =>
    simp only [blt] at e
    split at e <;> cases e
    rename_i ys hy
    obtain ⟨v, rfl, ra⟩ := rv.one
    cases ra with
    | tup sq rr => cases hy; exact ⟨_, _, rfl, .inr ⟨sq.t, q io H _ .refl rh (.tup sq rr)⟩⟩
    | scr sq rr => cases hy; exact ⟨_, _, rfl, .inl ⟨sq.l, tup_ok rh rr q⟩⟩
    | @ref p n hn =>
      simp only [PB.items] at hy
      split at hy <;> cases hy
      rename_i hx
      obtain ⟨a, ws, e1, _, ha, rr⟩ := rh.list (.ref hn) hx
      cases e1
      exact ⟨_, _, rfl, .inl ⟨.inl (.inl ha), tup_ok rh rr q⟩⟩
    | _ => cases hy
  | [], e => simp [blt] at e
  | _ :: _ :: _, e => simp [blt] at e
theorem bk_list : BltOk X fa .list (fun xs H Q => ∃ p ys, xs = [.ref p] ∧ (SqL X.K H p ys ∨ SqT X.K H p ys) ∧ ∀ l, H l = none → Q (.ref l) (upd H l (.lst ys))) := by
  intro io H h vs xs r h' Q rh rv e q
  match xs, e with
  | [a], e =>
    simp only [blt] at e
    split at e
    · obtain ⟨v, rfl, ra⟩ := rv.one
      obtain ⟨p, ws, rfl, sq, rw'⟩ := rh.items ra (by assumption)
      exact ⟨p, ws, rfl, sq, alloc_ok rh rw' e q⟩
    · cases e
  | [], e => simp [blt] at e
  | _ :: _ :: _, e => simp [blt] at e
theorem bk_int : BltOk X fa .int (fun xs H Q => (∃ i, xs = [.int i] ∧ Q (.int i) H) ∨ ∃ k, xs = [.bl k] ∧ Q (.int (if k then 1 else 0)) H) := by
  intro io H h vs xs r h' Q rh rv e q
  match xs, e with
  | [a], e =>
    cases a <;> simp only [blt] at e <;> cases e
    obtain ⟨v, rfl, ra⟩ := rv.one
    cases ra
    exact .inl ⟨_, rfl, q io H _ .refl rh (.int _)⟩
  | [], e => simp [blt] at e
  | _ :: _ :: _, e => simp [blt] at e
theorem truths_all : ∀ {xs : List PV} {b : Bool}, truths (· && ·) true xs = some b → ∃ bs : List Bool, xs = bs.map PV.bl ∧ bs.all id = b
  | [], b, e => by simp only [truths] at e; cases e; exact ⟨[], rfl, rfl⟩
  | x :: r, b, e => by
    cases x <;> simp only [truths] at e <;> try cases e
    rename_i c
    split at e <;> cases e
    obtain ⟨bs, rfl, rfl⟩ := truths_all (by assumption)
    exact ⟨c :: bs, rfl, rfl⟩
theorem truths_any : ∀ {xs : List PV} {b : Bool}, truths (· || ·) false xs = some b → ∃ bs : List Bool, xs = bs.map PV.bl ∧ bs.any id = b
  | [], b, e => by simp only [truths] at e; cases e; exact ⟨[], rfl, rfl⟩
  | x :: r, b, e => by
    cases x <;> simp only [truths] at e <;> try cases e
    rename_i c
    split at e <;> cases e
    obtain ⟨bs, rfl, rfl⟩ := truths_any (by assumption)
    exact ⟨c :: bs, rfl, rfl⟩
theorem ints_of : ∀ {xs : List PV} {is : List Int}, intsOf xs = some is → xs = is.map PV.int
  | [], is, e => by simp only [intsOf] at e; cases e; rfl
  | x :: r, is, e => by
    cases x <;> simp only [intsOf] at e <;> try cases e
    split at e <;> cases e
    rename_i is' z
    rw [ints_of z]; rfl
theorem lst1 {f : Blt} {xs : List PV} {h : PH} {r : PV} {h' : PH} (hf : f = .all ∨ f = .any ∨ f = .sum ∨ f = .min1 ∨ f = .max1) (e : blt f xs h = .ok r h') : ∃ n ys, xs = [.ref n] ∧ h[n]? = some (.lst ys) := by
  match xs, e with
  | [], e => rcases hf with rfl | rfl | rfl | rfl | rfl <;> simp [blt] at e
  | _ :: _ :: _, e => rcases hf with rfl | rfl | rfl | rfl | rfl <;> simp [blt] at e
  | [a], e =>
    rcases hf with rfl | rfl | rfl | rfl | rfl <;>
    (cases a <;> simp only [blt] at e <;> try (cases e; done)
     rename_i n
     cases hx : h[n]? with
     | none => rw [hx] at e; cases e
     | some o => obtain ⟨ys⟩ := o; exact ⟨n, ys, rfl, hx⟩)
theorem bk_all : BltOk X fa .all (rAll X.K) := by
  intro io H h vs xs r h' Q rh rv e q
  obtain ⟨n, ys, rfl, hx⟩ := lst1 (.inl rfl) e
  simp only [blt, hx] at e
  split at e <;> cases e
  rename_i b hb
  obtain ⟨bs, rfl, rfl⟩ := truths_all hb
  obtain ⟨v, rfl, ra⟩ := rv.one
  obtain ⟨p, ws, rfl, _, hp, rw'⟩ := rh.list ra hx
  have := rw'.bls
  subst this
  exact ⟨p, bs, rfl, .inl (.inl hp), q io H _ .refl rh (.bl _)⟩
theorem bk_any : BltOk X fa .any (rAny X.K) := by
  intro io H h vs xs r h' Q rh rv e q
  obtain ⟨n, ys, rfl, hx⟩ := lst1 (.inr (.inl rfl)) e
  simp only [blt, hx] at e
  split at e <;> cases e
  rename_i b hb
  obtain ⟨bs, rfl, rfl⟩ := truths_any hb
  obtain ⟨v, rfl, ra⟩ := rv.one
  obtain ⟨p, ws, rfl, _, hp, rw'⟩ := rh.list ra hx
  have := rw'.bls
  subst this
  exact ⟨p, bs, rfl, .inl (.inl hp), q io H _ .refl rh (.bl _)⟩
theorem bk_sum : BltOk X fa .sum (rSum X.K) := by
  intro io H h vs xs r h' Q rh rv e q
  obtain ⟨n, ys, rfl, hx⟩ := lst1 (.inr (.inr (.inl rfl))) e
  simp only [blt, hx] at e
  split at e <;> cases e
  rename_i is hb
  have z := ints_of hb
  subst z
  obtain ⟨v, rfl, ra⟩ := rv.one
  obtain ⟨p, ws, rfl, _, hp, rw'⟩ := rh.list ra hx
  have := rw'.ints
  subst this
  exact ⟨p, is, rfl, .inl (.inl hp), q io H _ .refl rh (.int _)⟩
theorem foldl_min : ∀ (is : List Int) (i : Int), (is.foldl min i ∈ i :: is) ∧ ∀ y, y ∈ i :: is → is.foldl min i ≤ y
  | [], i => by simp
  | j :: is, i => by
    obtain ⟨h1, h2⟩ := foldl_min is (min i j)
    rw [List.foldl_cons]
    constructor
    · rcases List.mem_cons.mp h1 with h1 | h1
      · rw [h1]
        by_cases h : i ≤ j
        · rw [Int.min_eq_left h]; simp
        · rw [Int.min_eq_right (by omega)]; simp
      · simp [h1]
    · intro y hy
      have h3 := h2 (min i j) (by simp)
      rcases List.mem_cons.mp hy with rfl | hy
      · omega
      · rcases List.mem_cons.mp hy with rfl | hy
        · omega
        · exact h2 y (by simp [hy])
theorem foldl_max : ∀ (is : List Int) (i : Int), (is.foldl max i ∈ i :: is) ∧ ∀ y, y ∈ i :: is → y ≤ is.foldl max i
  | [], i => by simp
  | j :: is, i => by
    obtain ⟨h1, h2⟩ := foldl_max is (max i j)
    rw [List.foldl_cons]
    constructor
    · rcases List.mem_cons.mp h1 with h1 | h1
      · rw [h1]
        by_cases h : i ≤ j
        · rw [Int.max_eq_right h]; simp
        · rw [Int.max_eq_left (by omega)]; simp
      · simp [h1]
    · intro y hy
      have h3 := h2 (max i j) (by simp)
      rcases List.mem_cons.mp hy with rfl | hy
      · omega
      · rcases List.mem_cons.mp hy with rfl | hy
        · omega
        · exact h2 y (by simp [hy])
theorem bk_min1 : BltOk X fa .min1 (rMin X.K) := by
  intro io H h vs xs r h' Q rh rv e q
  obtain ⟨n, ys, rfl, hx⟩ := lst1 (.inr (.inr (.inr (.inl rfl)))) e
  simp only [blt, hx] at e
  split at e <;> cases e
  rename_i i is hb
  have z := ints_of hb
  subst z
  obtain ⟨v, rfl, ra⟩ := rv.one
  obtain ⟨p, ws, rfl, _, hp, rw'⟩ := rh.list ra hx
  have := rw'.ints
  subst this
  obtain ⟨f1, f2⟩ := foldl_min is i
  refine ⟨p, i :: is, rfl, .inl (.inl hp), by simp, fun m hm hle => ?_⟩
  have : m = is.foldl min i := Int.le_antisymm (hle _ f1) (f2 m hm)
  subst this
  exact q io H _ .refl rh (.int _)
theorem bk_max1 : BltOk X fa .max1 (rMax X.K) := by
  intro io H h vs xs r h' Q rh rv e q
  obtain ⟨n, ys, rfl, hx⟩ := lst1 (.inr (.inr (.inr (.inr rfl)))) e
  simp only [blt, hx] at e
  split at e <;> cases e
  rename_i i is hb
  have z := ints_of hb
  subst z
  obtain ⟨v, rfl, ra⟩ := rv.one
  obtain ⟨p, ws, rfl, _, hp, rw'⟩ := rh.list ra hx
  have := rw'.ints
  subst this
  obtain ⟨f1, f2⟩ := foldl_max is i
  refine ⟨p, i :: is, rfl, .inl (.inl hp), by simp, fun m hm hle => ?_⟩
  have : m = is.foldl max i := Int.le_antisymm (f2 m hm) (hle _ f1)
  subst this
  exact q io H _ .refl rh (.int _)
theorem e_len (hg : Gl X "len") (hm : X.mg "len" = none) (h : PA X [e] (tA X.K fa cf cs)) (he : starEach [e] X.env = (false, eval e X.env) :: starEach [] X.env := by rfl) {p : Pos} : PE X (.Call (.Name "len" p) [e] [] pos) (tE X.K fa cf (.blt .len cs)) :=
  blt_to bk_len (pe_callB call_len_seq hg hm PySem.boot_len h (he := he))
theorem e_abs (hg : Gl X "abs") (hm : X.mg "abs" = none) (h : PA X [e] (tA X.K fa cf cs)) (he : starEach [e] X.env = (false, eval e X.env) :: starEach [] X.env := by rfl) {p : Pos} : PE X (.Call (.Name "abs" p) [e] [] pos) (tE X.K fa cf (.blt .abs cs)) :=
  blt_to bk_abs (pe_callB call_abs hg hm (by decide +kernel) h (he := he))
theorem e_all (hc : X.calm = true) (hg : Gl X "all") (hm : X.mg "all" = none) (h : PA X [e] (tA X.K fa cf cs)) (he : starEach [e] X.env = (false, eval e X.env) :: starEach [] X.env := by rfl) {p : Pos} : PE X (.Call (.Name "all" p) [e] [] pos) (tE X.K fa cf (.blt .all cs)) :=
  blt_to bk_all (pe_callB (cr_all hc) hg hm (by decide +kernel) h (he := he))
theorem e_any (hc : X.calm = true) (hg : Gl X "any") (hm : X.mg "any" = none) (h : PA X [e] (tA X.K fa cf cs)) (he : starEach [e] X.env = (false, eval e X.env) :: starEach [] X.env := by rfl) {p : Pos} : PE X (.Call (.Name "any" p) [e] [] pos) (tE X.K fa cf (.blt .any cs)) :=
  blt_to bk_any (pe_callB (cr_any hc) hg hm (by decide +kernel) h (he := he))
theorem e_sum (hc : X.calm = true) (hg : Gl X "sum") (hm : X.mg "sum" = none) (h : PA X [e] (tA X.K fa cf cs)) (he : starEach [e] X.env = (false, eval e X.env) :: starEach [] X.env := by rfl) {p : Pos} : PE X (.Call (.Name "sum" p) [e] [] pos) (tE X.K fa cf (.blt .sum cs)) :=
  blt_to bk_sum (pe_callB (cr_sum hc) hg hm (by decide +kernel) h (he := he))
theorem e_min1 (hc : X.calm = true) (hg : Gl X "min") (hm : X.mg "min" = none) (h : PA X [e] (tA X.K fa cf cs)) (he : starEach [e] X.env = (false, eval e X.env) :: starEach [] X.env := by rfl) {p : Pos} : PE X (.Call (.Name "min" p) [e] [] pos) (tE X.K fa cf (.blt .min1 cs)) :=
  blt_to bk_min1 (pe_callB (cr_min hc) hg hm (by decide +kernel) h (he := he))
theorem e_max1 (hc : X.calm = true) (hg : Gl X "max") (hm : X.mg "max" = none) (h : PA X [e] (tA X.K fa cf cs)) (he : starEach [e] X.env = (false, eval e X.env) :: starEach [] X.env := by rfl) {p : Pos} : PE X (.Call (.Name "max" p) [e] [] pos) (tE X.K fa cf (.blt .max1 cs)) :=
  blt_to bk_max1 (pe_callB (cr_max hc) hg hm (by decide +kernel) h (he := he))
theorem e_min2 (hc : X.calm = true) (hg : Gl X "min") (hm : X.mg "min" = none) (h : PA X [a, b] (tA X.K fa cf cs)) (he : starEach [a, b] X.env = (false, eval a X.env) :: starEach [b] X.env := by rfl) (hpl : (backTo pos (starEach [b] X.env)).any (·.1) = false := by rfl) {p : Pos} : PE X (.Call (.Name "min" p) [a, b] [] pos) (tE X.K fa cf (.blt .min2 cs)) :=
  blt_to bk_min (pe_callB (call_min2 hc) hg hm (by decide +kernel) h (he := he) (hpl := hpl))
theorem e_max2 (hc : X.calm = true) (hg : Gl X "max") (hm : X.mg "max" = none) (h : PA X [a, b] (tA X.K fa cf cs)) (he : starEach [a, b] X.env = (false, eval a X.env) :: starEach [b] X.env := by rfl) (hpl : (backTo pos (starEach [b] X.env)).any (·.1) = false := by rfl) {p : Pos} : PE X (.Call (.Name "max" p) [a, b] [] pos) (tE X.K fa cf (.blt .max2 cs)) :=
  blt_to bk_max (pe_callB (call_max2 hc) hg hm (by decide +kernel) h (he := he) (hpl := hpl))
theorem e_gcd (hg : Gl X "gcd") (hm : X.mg "gcd" = some (.builtin "math.gcd")) (h : PA X [a, b] (tA X.K fa cf cs)) (he : starEach [a, b] X.env = (false, eval a X.env) :: starEach [b] X.env := by rfl) (hpl : (backTo pos (starEach [b] X.env)).any (·.1) = false := by rfl) {p : Pos} : PE X (.Call (.Name "gcd" p) [a, b] [] pos) (tE X.K fa cf (.blt .gcd cs)) :=
  blt_to bk_gcd (pe_callBfun cr_gcd hg hm h (he := he) (hpl := hpl))
theorem e_tuple (hg : Gl X "tuple") (hm : X.mg "tuple" = none) (h : PA X [e] (tA X.K fa cf cs)) (he : starEach [e] X.env = (false, eval e X.env) :: starEach [] X.env := by rfl) {p : Pos} : PE X (.Call (.Name "tuple" p) [e] [] pos) (tE X.K fa cf (.blt .tuple cs)) :=
  blt_to bk_tuple (pe_callTy call_tupleN hg hm (by decide +kernel) h (he := he))
theorem e_list (hg : Gl X "list") (hm : X.mg "list" = none) (h : PA X [e] (tA X.K fa cf cs)) (he : starEach [e] X.env = (false, eval e X.env) :: starEach [] X.env := by rfl) {p : Pos} : PE X (.Call (.Name "list" p) [e] [] pos) (tE X.K fa cf (.blt .list cs)) :=
  blt_to bk_list (pe_callTy call_list_of hg hm (by decide +kernel) h (he := he))
theorem e_intf (hg : Gl X "int") (hm : X.mg "int" = none) (h : PA X [e] (tA X.K fa cf cs)) (he : starEach [e] X.env = (false, eval e X.env) :: starEach [] X.env := by rfl) {p : Pos} : PE X (.Call (.Name "int" p) [e] [] pos) (tE X.K fa cf (.blt .int cs)) :=
  blt_to bk_int (pe_callTy call_int1 hg hm (by decide +kernel) h (he := he))
end
end PB

set_option Elab.async false
set_option linter.all false
set_option maxRecDepth 100000
set_option maxHeartbeats 2000000
namespace PB
open PySem PySem.Spec PyProof.Rows L2

/-! ### sources: a list or a tuple -/
def Src (K : PySem.W.Frag) (t : Bool) (H : Hp) (a : Addr) (vs : List V) : Prop := match t with | true => SqT K H a vs | false => SqL K H a vs
def SrcIt (t : Bool) (h : Heap) (it a : Addr) (i : Nat) : Prop := match t with | true => h.IsTupleIter it a i | false => h.IsListIter it a i
def SrcAt (t : Bool) (h : Heap) (a : Addr) (its : Array Value) : Prop := match t with | true => h.IsTuple a its | false => h.IsList a its
section
variable {X : Cx} {pins : List (Addr × Obj)} {sg : L2.St} {H : Hp} {s : Shared} {t : Bool} {a : Addr} {vs ws : List V}
theorem src_at (I : Inv X pins sg H s) (h : Src X.K t H a vs) : ∃ its : List Value, Vals vs its ∧ SrcAt t s.heap a its.toArray ∧ vs.length ≤ sizeLine := by
  cases t with
  | true => obtain ⟨its, r, p, z⟩ := I.tuple h; exact ⟨its, r, p, z⟩
  | false => obtain ⟨its, r, p, z⟩ := I.list h; exact ⟨its, r, p.isList, z⟩
theorem src_inj (I : Inv X pins sg H s) (h : Src X.K t H a vs) (h' : Src X.K t H a ws) : vs = ws := by
  cases t with
  | true => exact I.tuple_inj h h'
  | false => exact I.list_inj h h'
theorem src_draws {prog : Program} {w : World} {A : Around} (t : Bool) (hh : A.handled = none) (it a : Addr) (hne : a ≠ it) (its : Array Value) :
    Draws prog w A it [it, a] its.size (fun i v => its[i]? = some v) (fun i h => SrcIt t h it a i ∧ SrcAt t h a its) := by
  cases t with
  | true => exact Draws.tuple hh it a hne its
  | false => exact Draws.list hh it a hne its
def srcO (t : Bool) (a : Addr) : Obj := { cls := .type (match t with | true => "tuple_iterator" | false => "list_iterator"), data := .fields #[.ref a, .int 0 0] }
theorem src_begins (t : Bool) (a : Addr) (its : Array Value) : Begins (.ref a) (srcO t a) fun h => SrcAt t h a its := by
  cases t with
  | true => exact begins_tuple a its
  | false => exact begins_list a its
theorem src_start {h : Heap} {it : Addr} (e : h.get? it = some (srcO t a)) : SrcIt t h it a 0 := by
  cases t with
  | true => exact ⟨_, e, rfl, rfl⟩
  | false => exact ⟨_, e, rfl, rfl⟩
theorem srcIt_obj {h : Heap} {it : Addr} {i : Nat} (e : SrcIt t h it a i) : ∃ o, h.get? it = some o ∧ ∀ v, o.data ≠ .cell v := by
  cases t with
  | true => obtain ⟨o, e, _, d⟩ := e; exact ⟨o, e, fun v z => by rw [d] at z; cases z⟩
  | false => obtain ⟨o, e, _, d⟩ := e; exact ⟨o, e, fun v z => by rw [d] at z; cases z⟩
theorem srcIt_keep {h h' : Heap} {it : Addr} {i : Nat} (e : SrcIt t h it a i) (k : ∀ o, h.get? it = some o → h'.get? it = some o) : SrcIt t h' it a i := by
  cases t with
  | true => obtain ⟨o, e, c, d⟩ := e; exact ⟨o, k o e, c, d⟩
  | false => obtain ⟨o, e, c, d⟩ := e; exact ⟨o, k o e, c, d⟩
/-- a source is no record of an iterator -/
theorem src_ne {it : Addr} (I : Inv X pins sg H s) (h : Src X.K t H a vs) (f : FpOk X pins H it) : a ≠ it := by
  rintro rfl
  have key : (∃ o, X.K.lookup a = some o) → False := fun ⟨o, hk⟩ => by
    have hb : X.base.get? a = some o := I.ok.mod.kin a o hk
    rcases f.2.2.2.1 with z | z
    · exact I.ok.noex a o hb z
    · exact absurd (Nat.lt_of_lt_of_le (Heap.lt_size hb) (Nat.le_trans I.ok.bsz z)) (Nat.lt_irrefl _)
  cases t with
  | true =>
    rcases h with (h | ⟨o, h⟩) | ⟨o, its, n, hk, _⟩
    · rw [f.1] at h; cases h
    · rw [f.1] at h; cases h
    · exact key ⟨o, hk⟩
  | false =>
    rcases h with (h | ⟨o, h⟩) | ⟨o, its, n, hk, _⟩
    · rw [f.1] at h; cases h
    · rw [f.1] at h; cases h
    · exact key ⟨o, hk⟩
theorem src_lt {t : Bool} {h : Heap} {a : Addr} {its : Array Value} (e : SrcAt t h a its) : a < h.objs.size := by
  cases t with
  | true => obtain ⟨o, e, _⟩ := e; exact Heap.lt_size e
  | false => obtain ⟨o, e, _⟩ := e; exact Heap.lt_size e
end

/-! ### the walks -/
def ItS (K : PySem.W.Frag) (t : Bool) (a : Addr) : It :=
  ⟨fun i H => ∃ (xs : List V) (x : V), Src K t H a xs ∧ xs[i]? = some x, fun i H x H' => H' = H ∧ ∀ xs, Src K t H a xs → xs[i]? = some x, fun i H => ∃ xs : List V, Src K t H a xs ∧ xs.length = i⟩
def ItE (K : PySem.W.Frag) (t : Bool) (a : Addr) : It :=
  ⟨fun i H => ∃ (xs : List V) (x : V), Src K t H a xs ∧ xs[i]? = some x,
    fun i H v H' => ∃ T x, v = .ref T ∧ H T = none ∧ H' = upd H T (.tup [.int (i : Nat), x]) ∧ ∀ xs, Src K t H a xs → xs[i]? = some x, fun i H => ∃ xs : List V, Src K t H a xs ∧ xs.length = i⟩
def ItZ (K : PySem.W.Frag) (t u : Bool) (a b : Addr) : It :=
  ⟨fun i H => ∃ (xs ys : List V) (x y : V), Src K t H a xs ∧ Src K u H b ys ∧ xs[i]? = some x ∧ ys[i]? = some y,
    fun i H v H' => ∃ T x y, v = .ref T ∧ H T = none ∧ H' = upd H T (.tup [x, y]) ∧ (∀ xs, Src K t H a xs → xs[i]? = some x) ∧ ∀ ys, Src K u H b ys → ys[i]? = some y,
    fun i H => ∃ xs ys : List V, Src K t H a xs ∧ Src K u H b ys ∧ min xs.length ys.length = i⟩
theorem turn_enumS {P : Program} {w : World} {K : PySem.W.Frag} {elts : List Expr} {kk : Nat} {tpos : Pos} (t : Bool) (a e it : Addr) :
    Turn P w K (.Tuple elts kk tpos) (ItE K t a) [e, it] e (fun i h => (∃ old, IsEnum h e it (0 + ((i : Nat) : Int)) old) ∧ SrcIt t h it a i ∧ e ≠ it) where
  mem := by simp
  obj := fun i h st b hb => by
    obtain ⟨⟨old, he⟩, hit, _⟩ := st
    have e' : b = e ∨ b = it := by simpa using hb
    rcases e' with z | z
    · rw [z]; exact ⟨_, he, fun v q => nomatch q⟩
    · rw [z]; exact srcIt_obj hit
  keep := fun i h h' st k => let ⟨⟨old, he⟩, hi, hne⟩ := st; ⟨⟨old, k e (by simp) _ he⟩, srcIt_keep hi fun o q => k it (by simp) o q, hne⟩
  item := by
    intro X hP hw hK hc i pins s sg H E I hf st hg
    subst hP hw hK
    obtain ⟨⟨old, he⟩, hit, hne⟩ := st
    obtain ⟨xs, x, hq, hx⟩ := hg
    obtain ⟨its, rv, p, hz⟩ := src_at I hq
    obtain ⟨u, hu, ru⟩ := rv.get hx
    have nat : a ≠ it := src_ne I hq (hf it (by simp))
    have nae : a ≠ e := src_ne I hq (hf e (by simp))
    have hlt : i < its.toArray.size := by
      have := (List.getElem?_eq_some_iff.mp hu).1
      simpa using this
    have D := src_draws (prog := X.prog) (w := X.w) (A := X.A.in1) t (show X.A.in1.handled = none from I.ok.hd hc) it a nat its.toArray
    have W := WalksT.enumFrom (prog := X.prog) (w := X.w) (A := X.A) 0 D e hne (by simp; exact ⟨hne, fun q => nae q.symm⟩) (by simp)
    refine W.item i s _ _ hlt ⟨⟨old, he⟩, hit, p⟩ fun T vals h' tk hP hT hTt hm hk => ⟨_, rfl, W.go elts kk tpos i T { s with heap := h', toks := tk } _ _ hm fun h'' st'' hk'' => ?_⟩
    obtain ⟨tt, y, hy, rfl⟩ := hP
    have ey : y = u := by
      have h1 : its.toArray[i]? = some u := by simpa using hu
      rw [h1] at hy; cases hy; rfl
    subst ey
    obtain ⟨⟨old', he''⟩, hit'', _⟩ := st''
    have nTw : T ∉ [e, it] := W.apart i T h' hm
    have hT2 : h''.IsTuple T #[.int (0 + (i : Int)) tt, y] := hTt.at fun o q => hk'' T o nTw q
    have new : ObjOk X.prog X.w (upd H T (.tup [.int (i : Nat), x])) h'' T (.tup [.int (i : Nat), x]) := by
      obtain ⟨o, ho, hc', n, hd⟩ := hT2
      refine ⟨by show 2 ≤ sizeLine; decide, [.int (0 + (i : Int)) tt, y], .cons ⟨tt, by simp⟩ (.cons ru .nil), ⟨o, ho, hc', n, hd⟩⟩
    have I1 : Inv X pins sg (upd H T (.tup [.int (i : Nat), x])) { s with heap := h'', toks := tk } :=
      I.turnedNew (ch := [e, it]) (fun b ob hb q => hk'' b ob hb (hk b ob hb q)) hf hT new
    refine ⟨.ref T, _, I1, rfl, ⟨_, x, rfl, I.hok.fresh hT, rfl, fun ys hy => by rw [src_inj I hy hq]; exact hx⟩, ⟨⟨old', he''⟩, hit'', hne⟩, fun b hb => ?_⟩
    have hb' : b < s.heap.objs.size := by
      have e' : b = e ∨ b = it := by simpa using hb
      rcases e' with z | z
      · rw [z]; exact Heap.lt_size he
      · rw [z]; obtain ⟨o, q, _⟩ := srcIt_obj hit; exact Heap.lt_size q
    rw [upd_ne (Nat.ne_of_lt (Nat.lt_of_lt_of_le hb' hT))]
    exact (hf b hb).1
  done := by
    intro X hP hw hK hc i pins s sg H E I hf st hg
    subst hP hw hK
    obtain ⟨⟨old, he⟩, hit, hne⟩ := st
    obtain ⟨xs, hq, hx⟩ := hg
    obtain ⟨its, rv, p, hz⟩ := src_at I hq
    have nat : a ≠ it := src_ne I hq (hf it (by simp))
    have nae : a ≠ e := src_ne I hq (hf e (by simp))
    obtain ⟨f0, f1, f2, f3, f4, f5⟩ := hf it (by simp)
    have hl := rv.length
    have D := src_draws (prog := X.prog) (w := X.w) (A := X.A.in1) t (show X.A.in1.handled = none from I.ok.hd hc) it a nat its.toArray
    have ei : i = its.toArray.size := by rw [List.size_toArray]; omega
    subst ei
    exact wpAny_pyNext_enum_endD D he ⟨hit, p⟩ fun h' eb => ⟨rfl, I.turned (t' := s.toks) (fun b o hb q => eb b o hb q) f0 f1 f3 f4 f5⟩
  self := fun A i s Q E st h => let ⟨⟨_, he⟩, _⟩ := st; wpAny_pyIter_enum he h
theorem zip_sep_more {z TI TO i1 i2 a b : Addr} (S : ZipSep2 z TI TO i1 i2 [i1] [i2]) (nA : ∀ c ∈ [z, TI, TO, i1, i2], a ≠ c) (nB : ∀ c ∈ [z, TI, TO, i1, i2], b ≠ c) : ZipSep2 z TI TO i1 i2 [i1, a] [i2, b] where
  TIz := S.TIz
  TOz := S.TOz
  TITO := S.TITO
  TIi1 := S.TIi1
  mem1 := by simp
  zf1 := fun h => by
    have : z = i1 ∨ z = a := by simpa using h
    rcases this with q | q
    · exact S.zf1 (by simp [q])
    · exact nA z (by simp) q.symm
  Tf1 := fun h => by
    have : TO = i1 ∨ TO = a := by simpa using h
    rcases this with q | q
    · exact S.Tf1 (by simp [q])
    · exact nA TO (by simp) q.symm
  TIi2 := S.TIi2
  mem2 := by simp
  zf2 := fun h => by
    have : z = i2 ∨ z = b := by simpa using h
    rcases this with q | q
    · exact S.zf2 (by simp [q])
    · exact nB z (by simp) q.symm
  Tf2 := fun h => by
    have : TO = i2 ∨ TO = b := by simpa using h
    rcases this with q | q
    · exact S.Tf2 (by simp [q])
    · exact nB TO (by simp) q.symm
  sep1_2 := fun h => by
    have : i1 = i2 ∨ i1 = b := by simpa using h
    rcases this with q | q
    · exact S.sep1_2 (by simp [q])
    · exact nB i1 (by simp) q.symm
  sep2_1 := fun h => by
    have : i2 = i1 ∨ i2 = a := by simpa using h
    rcases this with q | q
    · exact S.sep2_1 (by simp [q])
    · exact nA i2 (by simp) q.symm
theorem turn_zipS {P : Program} {w : World} {K : PySem.W.Frag} {elts : List Expr} {kk : Nat} {tpos : Pos} {z TI TO i1 i2 : Addr} (t u : Bool) (a b : Addr) (S : ZipSep2 z TI TO i1 i2 [i1] [i2]) :
    Turn P w K (.Tuple elts kk tpos) (ItZ K t u a b) [z, TI, TO, i1, i2] z (fun i h => IsZip h z TI TO .none ∧ IsTupOf2 h TI (.ref i1) (.ref i2) ∧ (∃ a1 a2, IsTupOf2 h TO a1 a2) ∧ SrcIt t h i1 a i ∧ SrcIt u h i2 b i) where
  mem := by simp
  obj := fun i h st c hc => by
    obtain ⟨hz, hTI, ⟨x, y, hTO⟩, h1, h2⟩ := st
    have e' : c = z ∨ c = TI ∨ c = TO ∨ c = i1 ∨ c = i2 := by simpa using hc
    rcases e' with q | q | q | q | q
    · rw [q]; exact ⟨_, hz, fun v q => nomatch q⟩
    · rw [q]; exact ⟨_, hTI, fun v q => nomatch q⟩
    · rw [q]; exact ⟨_, hTO, fun v q => nomatch q⟩
    · rw [q]; exact srcIt_obj h1
    · rw [q]; exact srcIt_obj h2
  keep := fun i h h' st k => by
    obtain ⟨hz, hTI, ⟨x, y, hTO⟩, h1, h2⟩ := st
    exact ⟨k z (by simp) _ hz, k TI (by simp) _ hTI, ⟨x, y, k TO (by simp) _ hTO⟩, srcIt_keep h1 fun o q => k i1 (by simp) o q, srcIt_keep h2 fun o q => k i2 (by simp) o q⟩
  item := by
    intro X hP hw hK hc i pins s sg H E I hf st hg
    subst hP hw hK
    obtain ⟨hz, hTI, hTO, h1, h2⟩ := st
    obtain ⟨xs, ys, x, y, hqx, hqy, hx, hy⟩ := hg
    obtain ⟨its, rv, p, _⟩ := src_at I hqx
    obtain ⟨its2, rv2, p2, _⟩ := src_at I hqy
    obtain ⟨u1, hu, ru⟩ := rv.get hx
    obtain ⟨u2, hu2, ru2⟩ := rv2.get hy
    have nA : ∀ c ∈ [z, TI, TO, i1, i2], a ≠ c := fun c hc => src_ne I hqx (hf c hc)
    have nB : ∀ c ∈ [z, TI, TO, i1, i2], b ≠ c := fun c hc => src_ne I hqy (hf c hc)
    have D1 := src_draws (prog := X.prog) (w := X.w) (A := X.A.in1) t (show X.A.in1.handled = none from I.ok.hd hc) i1 a (nA i1 (by simp)) its.toArray
    have D2 := src_draws (prog := X.prog) (w := X.w) (A := X.A.in1) u (show X.A.in1.handled = none from I.ok.hd hc) i2 b (nB i2 (by simp)) its2.toArray
    have S2 : ZipSep2 z TI TO i1 i2 [i1, a] [i2, b] := zip_sep_more S nA nB
    have W := WalksT.zipD2 (prog := X.prog) (w := X.w) (A := X.A) S2 D1 D2
    have l1 : i < its.toArray.size := by have := (List.getElem?_eq_some_iff.mp hu).1; simpa using this
    have l2 : i < its2.toArray.size := by have := (List.getElem?_eq_some_iff.mp hu2).1; simpa using this
    refine W.item i s _ _ (by omega) ⟨hz, hTI, hTO, ⟨h1, p⟩, ⟨h2, p2⟩⟩ fun T vals h' tk hP hT hTt hm hk => ⟨_, rfl, W.go elts kk tpos i T { s with heap := h', toks := tk } _ _ hm fun h'' st'' hk'' => ?_⟩
    obtain ⟨y1, y2, e1, e2, rfl⟩ := hP
    have ey1 : y1 = u1 := by
      have q : its.toArray[i]? = some u1 := by simpa using hu
      rw [q] at e1; cases e1; rfl
    have ey2 : y2 = u2 := by
      have q : its2.toArray[i]? = some u2 := by simpa using hu2
      rw [q] at e2; cases e2; rfl
    subst ey1; subst ey2
    obtain ⟨hz'', hTI'', hTO'', ⟨h1'', _⟩, ⟨h2'', _⟩⟩ := st''
    have nTw := W.apart i T h' hm
    have hT2 : h''.IsTuple T #[y1, y2] := hTt.at fun o q => hk'' T o nTw q
    have new : ObjOk X.prog X.w (upd H T (.tup [x, y])) h'' T (.tup [x, y]) := by
      obtain ⟨o, ho, hc', n, hd⟩ := hT2
      exact ⟨by show 2 ≤ sizeLine; decide, [y1, y2], .cons ru (.cons ru2 .nil), ⟨o, ho, hc', n, hd⟩⟩
    have sub : ∀ c, c ∉ [z, TI, TO, i1, i2] → c ∉ [z, TO, i1, i2] := fun c hc hm => hc (by
      have : c = z ∨ c = TO ∨ c = i1 ∨ c = i2 := by simpa using hm
      rcases this with q | q | q | q <;> simp [q])
    have I1 : Inv X pins sg (upd H T (.tup [x, y])) { s with heap := h'', toks := tk } :=
      I.turnedNew (ch := [z, TI, TO, i1, i2]) (fun c o hb q => hk'' c o (sub c hb) (hk c o (sub c hb) q)) hf hT new
    refine ⟨.ref T, _, I1, rfl, ⟨_, x, y, rfl, I.hok.fresh hT, rfl, fun l hl => by rw [src_inj I hl hqx]; exact hx, fun l hl => by rw [src_inj I hl hqy]; exact hy⟩, ⟨hz'', hTI'', hTO'', h1'', h2''⟩, fun c hcm => ?_⟩
    have hlt : c < s.heap.objs.size := by
      obtain ⟨x0, y0, hTO⟩ := hTO
      have e' : c = z ∨ c = TI ∨ c = TO ∨ c = i1 ∨ c = i2 := by simpa using hcm
      rcases e' with q | q | q | q | q
      · rw [q]; exact Heap.lt_size hz
      · rw [q]; exact Heap.lt_size hTI
      · rw [q]; exact Heap.lt_size hTO
      · rw [q]; obtain ⟨_, q, _⟩ := srcIt_obj h1; exact Heap.lt_size q
      · rw [q]; obtain ⟨_, q, _⟩ := srcIt_obj h2; exact Heap.lt_size q
    rw [upd_ne (Nat.ne_of_lt (Nat.lt_of_lt_of_le hlt hT))]
    exact (hf c hcm).1
  done := by
    intro X hP hw hK hc i pins s sg H E I hf st hg
    subst hP hw hK
    obtain ⟨hz, hTI, hTO, h1, h2⟩ := st
    obtain ⟨xs, ys, hqx, hqy, hend⟩ := hg
    obtain ⟨its, rv, p, _⟩ := src_at I hqx
    obtain ⟨its2, rv2, p2, _⟩ := src_at I hqy
    have nA : ∀ c ∈ [z, TI, TO, i1, i2], a ≠ c := fun c hc => src_ne I hqx (hf c hc)
    have nB : ∀ c ∈ [z, TI, TO, i1, i2], b ≠ c := fun c hc => src_ne I hqy (hf c hc)
    have D1 := src_draws (prog := X.prog) (w := X.w) (A := X.A.in1) t (show X.A.in1.handled = none from I.ok.hd hc) i1 a (nA i1 (by simp)) its.toArray
    have D2 := src_draws (prog := X.prog) (w := X.w) (A := X.A.in1) u (show X.A.in1.handled = none from I.ok.hd hc) i2 b (nB i2 (by simp)) its2.toArray
    have S2 : ZipSep2 z TI TO i1 i2 [i1, a] [i2, b] := zip_sep_more S nA nB
    have W := WalksT.zipD2 (prog := X.prog) (w := X.w) (A := X.A) S2 D1 D2
    have l1 := rv.length
    have l2 := rv2.length
    have ei : i = min its.toArray.size its2.toArray.size := by rw [List.size_toArray, List.size_toArray]; omega
    subst ei
    exact W.done s _ _ ⟨hz, hTI, hTO, ⟨h1, p⟩, ⟨h2, p2⟩⟩ fun h' tk hk => ⟨rfl, I.turnedL (t' := tk) (ch := [z, TI, TO, i1, i2]) (fun c o hb q => hk c o (fun hm => hb (by
      have : c = z ∨ c = TO ∨ c = i1 ∨ c = i2 := by simpa using hm
      rcases this with q | q | q | q <;> simp [q])) q) hf⟩
  self := fun A i s Q E st h => wpAny_pyIter_zip st.1 h
end PB

set_option Elab.async false
set_option linter.all false
set_option maxRecDepth 100000
set_option maxHeartbeats 2000000
namespace PB
open PySem PySem.Spec PyProof.Rows L2

theorem meets_enumerate_newB1 {v : Value} {o : Obj} {H : Heap → Prop} (B : Begins v o H) :
    Meets (Builtin.«enumerate.__new__» ⟨[.type "enumerate", v], []⟩) (fun _ R s => H s.heap ∧
      R (.ok (.ret (.ref (s.heap.push o).objs.size))) { s with heap := (s.heap.push o).push { cls := .type "enumerate", data := .fields #[.none, .bool false, .ref s.heap.objs.size, rawInt 0, .none, .none] } }) :=
  .of_wp fun prog w A R s h => by
    obtain ⟨hp, g, d, tk, os⟩ := s; obtain ⟨h1, h⟩ := h
    have hsub := sub_enumerate
    have q1 : ∀ {A' : Around} {E : Value → Shared → Prop} {Q : Value → Shared → Prop}, Q (.ref hp.objs.size) ⟨hp.push o, g, d, tk, os⟩ → wpAny (model prog w) A' (pyIter v) Q E ⟨hp, g, d, tk, os⟩ :=
      fun q => B.iter prog w _ _ ⟨hp, g, d, tk, os⟩ _ h1 q
    wp_walk using q1
    refine wpAny_stack_any fun st => wpAny_pure ?_
    split
    · rename_i c _ _ _ _ _
      cases (c == Value.type "enumerate")
      · wp_walk using q1
        exact ⟨_, rfl, h⟩
      · wp_walk using q1
        exact ⟨_, rfl, h⟩
    · wp_walk using q1
      exact ⟨_, rfl, h⟩
theorem enum_begins1 {prog : Program} {w : World} {A : Around} {E : Value → Shared → Prop} {s : Shared} {v : Value} {o : Obj} {H : Heap → Prop} {Q : Value → Shared → Prop} (B : Begins v o H) (h1 : H s.heap)
    (h : ∀ h', IsEnum h' (s.heap.objs.size + 1) s.heap.objs.size 0 .none → h'.get? s.heap.objs.size = some o → h'.objs.size = s.heap.objs.size + 2 →
      (∀ b o, s.heap.get? b = some o → h'.get? b = some o) → Q (.ref (s.heap.objs.size + 1)) { s with heap := h' }) :
    wpAny (model prog w) A (call (.type "enumerate") [v]) Q E s := by
  refine callType_new F.called_enumerate (by decide) (F.typeCall_enumerate_1 _) (F.newCall_enumerate_1 _) (fun obj => F.args_object_init_2 obj _) F.entry_enumerate_new
    (meets_enumerate_newB1 B) ⟨h1, ?_⟩
  have hz : (s.heap.push o).objs.size = s.heap.objs.size + 1 := Heap.size_push ..
  show _ ∧ _
  rw [hz]
  have he : IsEnum ((s.heap.push o).push { cls := .type "enumerate", data := .fields #[.none, .bool false, .ref s.heap.objs.size, rawInt 0, .none, .none] }) (s.heap.objs.size + 1) s.heap.objs.size 0 .none := by
    have := Heap.get?_push_size (s.heap.push o) (o := { cls := .type "enumerate", data := .fields #[.none, .bool false, .ref s.heap.objs.size, rawInt 0, .none, .none] }) rfl
    rw [hz] at this; exact this
  refine ⟨⟨_, he, rfl⟩, h _ he (Heap.get?_push_of_some _ (Heap.get?_push_size _ B.free)) (by rw [Heap.size_push, hz]) fun b o x => Heap.get?_push_of_some _ (Heap.get?_push_of_some _ x)⟩

section
variable {X : Cx} {tg : Expr}
/-- one source, walked -/
def iSrc (K : PySem.W.Frag) (te : TE) : TI := fun sg H R => te sg H fun x H1 => ∃ a t vs, x = .ref a ∧ Src K t H1 a vs ∧ R (ItS K t a) H1
theorem pi_src {l : Expr} {tl : TE} (hl : PE X l tl) : PI X tg l (iSrc X.K tl) := by
  refine ⟨fun pins s sg H R I h => ?_⟩
  refine thn (hl.run pins s sg H _ I h) fun v s1 ⟨x, H1, I1, r1, q1⟩ => ?_
  obtain ⟨a, t, vs, e, hq, q⟩ := q1
  subst e
  cases r1
  cases t with
  | false =>
    obtain ⟨its, rv, p, hz⟩ := I1.list hq
    refine wpAny_pyIter_list p.isList ?_
    have T := turn_list (P := X.prog) (w := X.w) (K := X.K) (tg := tg) a s1.heap.objs.size
    refine ⟨s1.heap.objs.size, [s1.heap.objs.size], _, ItS X.K false a, H1, rfl, I1.kept (t' := s1.toks) fun b o e => Heap.get?_push_of_some _ e, ⟨T.mem, T.obj, T.keep, ?_, ?_, T.self⟩, ⟨_, Heap.get?_push_size _ rfl, rfl, rfl⟩, fun b hb => ?_, q⟩
    · intro X' e1 e2 e3 hc i pins s sg H E I hf st go
      exact T.item X' e1 e2 e3 hc i pins s sg H E I hf st go
    · intro X' e1 e2 e3 hc i pins s sg H E I hf st stop
      obtain ⟨xs, h1, h2⟩ := stop
      exact T.done X' e1 e2 e3 hc i pins s sg H E I hf st ⟨xs, h1, Nat.le_of_eq h2⟩
    · have e : b = s1.heap.objs.size := by simpa using hb
      subst e
      exact I1.fpOk (Nat.le_refl _) (I1.hok.fresh (Nat.le_refl _))
  | true =>
    obtain ⟨its, rv, p, hz⟩ := I1.tuple hq
    refine wpAny_pyIter_tuple (show s1.heap.IsTuple a its.toArray from p) ?_
    have T := turn_tuple (P := X.prog) (w := X.w) (K := X.K) (tg := tg) a s1.heap.objs.size
    refine ⟨s1.heap.objs.size, [s1.heap.objs.size], _, ItS X.K true a, H1, rfl, I1.kept (t' := s1.toks) fun b o e => Heap.get?_push_of_some _ e, ⟨T.mem, T.obj, T.keep, ?_, ?_, T.self⟩, ⟨_, Heap.get?_push_size _ rfl, rfl, rfl⟩, fun b hb => ?_, q⟩
    · intro X' e1 e2 e3 hc i pins s sg H E I hf st go
      exact T.item X' e1 e2 e3 hc i pins s sg H E I hf st go
    · intro X' e1 e2 e3 hc i pins s sg H E I hf st stop
      obtain ⟨xs, h1, h2⟩ := stop
      exact T.done X' e1 e2 e3 hc i pins s sg H E I hf st ⟨xs, h1, Nat.le_of_eq h2⟩
    · have e : b = s1.heap.objs.size := by simpa using hb
      subst e
      exact I1.fpOk (Nat.le_refl _) (I1.hok.fresh (Nat.le_refl _))
def iEnu (K : PySem.W.Frag) (ta : TA) : TI := fun sg H R => ta sg H fun vs H1 => ∃ a t xs, vs = [.ref a] ∧ Src K t H1 a xs ∧ R (ItE K t a) H1
theorem pi_enumS {e : Expr} {ta : TA} {p pos tpos : Pos} {elts : List Expr} {kk : Nat} (hg : Gl X "enumerate") (hm : X.mg "enumerate" = none) (ha : PA X [e] ta) (hs : starEach [e] X.env = [(false, eval e X.env)] := by rfl) :
    PI X (.Tuple elts kk tpos) (.Call (.Name "enumerate" p) [e] [] pos) (iEnu X.K ta) := by
  refine ⟨fun pins s sg H R I h => ?_⟩
  refine Call_ (ld_blt I hg hm boot_enumerate (PyProof.Rows.callWith_type1 (thn (ha.run pos pins s sg H _ I h) fun us s1 ⟨vs, H1, I1, r1, q1⟩ => ?_) hs rfl))
  obtain ⟨a, t, xs, ex, hq, q⟩ := q1
  subst ex
  cases r1 with
  | cons r rr =>
    cases rr
    cases r
    obtain ⟨its, rv, p', hz⟩ := src_at I1 hq
    refine enum_begins1 (src_begins t a its.toArray) p' fun h' he hit hsz hk => wpAny_pyIter_enum he ?_
    have I2 : Inv X pins sg H1 { s1 with heap := h' } := I1.kept (t' := s1.toks) hk
    refine ⟨s1.heap.objs.size + 1, [s1.heap.objs.size + 1, s1.heap.objs.size], _, _, H1, rfl, I2, turn_enumS t a (s1.heap.objs.size + 1) s1.heap.objs.size, ⟨⟨.none, he⟩, src_start hit, Nat.succ_ne_self _⟩, fun b hb => ?_, q⟩
    have e' : b = s1.heap.objs.size + 1 ∨ b = s1.heap.objs.size := by simpa using hb
    have hle : s1.heap.objs.size ≤ b := by
      rcases e' with z | z
      · rw [z]; exact Nat.le_add_right _ _
      · rw [z]; exact Nat.le_refl _
    exact I1.fpOk hle (I1.hok.fresh hle)
def iZp (K : PySem.W.Frag) (ta : TA) : TI := fun sg H R => ta sg H fun vs H1 => ∃ a b t u xs ys, vs = [.ref a, .ref b] ∧ Src K t H1 a xs ∧ Src K u H1 b ys ∧ R (ItZ K t u a b) H1
theorem pi_zipS {e e2 : Expr} {ta : TA} {p pos tpos : Pos} {elts : List Expr} {kk : Nat} (hg : Gl X "zip") (hm : X.mg "zip" = none) (ha : PA X [e, e2] ta)
    (hs : starEach [e, e2] X.env = (false, eval e X.env) :: starEach [e2] X.env := by rfl) (hpl : (backTo pos (starEach [e2] X.env)).any (·.1) = false := by rfl) :
    PI X (.Tuple elts kk tpos) (.Call (.Name "zip" p) [e, e2] [] pos) (iZp X.K ta) := by
  refine ⟨fun pins s sg H R I h => ?_⟩
  refine Call_ (ld_blt I hg hm PyProof.Rows.boot_zip (PyProof.Rows.callWith_type1 (thn (ha.run pos pins s sg H _ I h) fun us s1 ⟨vs, H1, I1, r1, q1⟩ => ?_) hs hpl))
  obtain ⟨a, b, t, u, xs, ys, ex, hqx, hqy, q⟩ := q1
  subst ex
  cases r1 with
  | cons r rr =>
    cases rr with
    | cons r' rr =>
      cases rr
      cases r
      cases r'
      obtain ⟨its, rv, p1, _⟩ := src_at I1 hqx
      obtain ⟨its2, rv2, p2, _⟩ := src_at I1 hqy
      refine zip_begins2 (src_begins t a its.toArray) (src_begins u b its2.toArray) p1 p2 fun h' hz hTI hTO h1 h2 hsz hk => wpAny_pyIter_zip hz ?_
      have I2 : Inv X pins sg H1 { s1 with heap := h' } := I1.kept (t' := s1.toks) hk
      have S : ZipSep2 (s1.heap.objs.size + 4) (s1.heap.objs.size + 2) (s1.heap.objs.size + 3) s1.heap.objs.size (s1.heap.objs.size + 1) [s1.heap.objs.size] [s1.heap.objs.size + 1] := zip_sep2 (fun b hb => nomatch hb) (fun b hb => nomatch hb)
      refine ⟨s1.heap.objs.size + 4, [s1.heap.objs.size + 4, s1.heap.objs.size + 2, s1.heap.objs.size + 3, s1.heap.objs.size, s1.heap.objs.size + 1], _, _, H1, rfl, I2, turn_zipS t u a b S, ⟨hz, hTI, ⟨_, _, hTO⟩, src_start h1, src_start h2⟩, fun c hcm => ?_, q⟩
      have e' : c = s1.heap.objs.size + 4 ∨ c = s1.heap.objs.size + 2 ∨ c = s1.heap.objs.size + 3 ∨ c = s1.heap.objs.size ∨ c = s1.heap.objs.size + 1 := by simpa using hcm
      have hle : s1.heap.objs.size ≤ c := by
        rcases e' with z | z | z | z | z
        · rw [z]; exact Nat.le_add_right _ _
        · rw [z]; exact Nat.le_add_right _ _
        · rw [z]; exact Nat.le_add_right _ _
        · rw [z]; exact Nat.le_refl _
        · rw [z]; exact Nat.le_add_right _ _
      exact I1.fpOk hle (I1.hok.fresh hle)
end
end PB

set_option Elab.async false
set_option linter.all false
set_option maxRecDepth 100000
set_option maxHeartbeats 2000000
namespace PB
open PySem PySem.Spec L2
section
variable {X : Cx} {fa : Nat → Option Addr} {cf : Nat → List PV → PH → Res PV} {K : PySem.W.Frag} {io : List Addr} {H : Hp} {h : PH}

/-! ### targets -/
theorem RS.set {sg : L2.St} {s : Sl} {v : V} {x : PV} (rs : RS K fa io H sg s) (rv : Rl K fa io H v x) (i : Nat) : RS K fa io H (sg.set i (some v)) (s.set i (some x)) := by
  refine ⟨by rw [List.length_set, List.length_set]; exact rs.len, fun j y hy => ?_⟩
  by_cases hj : j = i
  · subst hj
    have hlt : j < s.length := by
      have := (List.getElem?_eq_some_iff.mp hy).1
      rw [List.length_set] at this; exact this
    rw [List.getElem?_set_self hlt] at hy
    cases hy
    exact ⟨v, by rw [List.getElem?_set_self (by rw [rs.len]; exact hlt)], rv⟩
  · rw [List.getElem?_set_ne (Ne.symm hj)] at hy
    obtain ⟨w, h1, h2⟩ := rs.at_ j y hy
    exact ⟨w, by rw [List.getElem?_set_ne (Ne.symm hj)]; exact h1, h2⟩
theorem g_v {i : Nat} {x : Str} {pos : Pos} (h : PG X (.Name x pos) (gName i)) : PG X (.Name x pos) (tG X.K fa cf (.v i)) :=
  wkG h fun v sg H Q ⟨io, s, h, x, s', h', rs, rh, rv, e, q⟩ => by
    simp only [asT] at e; cases e
    exact q io H _ .refl rh (rs.set rv i) fun j hj => List.getElem?_set_ne fun z => hj (by simp [slots, z])
theorem gs_nil : PGs X [] (tGs X.K fa cf .nil) :=
  wkGs pgs_nil fun vs sg H Q ⟨io, s, h, xs, s', h', rs, rh, rv, e, q⟩ => by
    cases rv with
    | nil => simp only [asTs] at e; cases e; exact ⟨rfl, q io H _ .refl rh rs fun j _ => rfl⟩
    | cons _ _ => simp only [asTs] at e; cases e
variable {e a b c : Expr} {es : List Expr} {pos : Pos} {ct cr : CT} {ca cb cc ce : CE} {cs : CA}
theorem gs_cons (h1 : PG X e (tG X.K fa cf ct)) (h2 : PGs X es (tGs X.K fa cf cr)) (hs : (assignEach (e :: es) X.env).map (·.2) = assign e X.env :: (assignEach es X.env).map (·.2) := by rfl) : PGs X (e :: es) (tGs X.K fa cf (.cons ct cr)) :=
  wkGs (pgs_cons h1 h2 hs) fun vs sg H Q ⟨io, s, h, xs, s', h', rs, rh, rv, e, q⟩ => by
    cases rv with
    | nil => simp only [asTs] at e; cases e
    | @cons v x vs xs rx rr =>
      simp only [asTs] at e
      obtain ⟨s1, h1, e1, e⟩ := bind_ok e
      refine ⟨v, vs, rfl, io, s, h, x, s1, h1, rs, rh, rx, e1, fun io1 H1 sg1 ex1 rh1 rs1 k1 => ⟨io1, s1, h1, xs, s', h', rs1, rh1, rr.mono ex1, e, fun io2 H2 sg2 ex2 rh2 rs2 k2 => q io2 H2 sg2 (ex1.trans ex2) rh2 rs2 fun j hj => ?_⟩⟩
      simp only [slots, List.mem_append, not_or] at hj
      rw [k2 j hj.2, k1 j hj.1]
theorem pg_or {e : Expr} {t u : TG} (h1 : PG X e t) (h2 : PG X e u) : PG X e (fun v sg H Q => t v sg H Q ∨ u v sg H Q) :=
  ⟨fun pins s σ H v u' Q I r hw => hw.elim (h1.run pins s σ H v u' Q I r) (h2.run pins s σ H v u' Q I r)⟩
def tlen : CT → Nat
  | .cons _ r => tlen r + 1
  | _ => 0
theorem asTs_len : ∀ {t : CT} {xs : List PV} {s : Sl} {h : PH} {s' : Sl} {h' : PH}, asTs cf t xs s h = .ok s' h' → xs.length = tlen t
  | .nil, [], _, _, _, _, _ => rfl
  | .cons a r, x :: xs, s, h, s', h', e => by
    simp only [asTs] at e
    obtain ⟨s1, h1, e1, e⟩ := bind_ok e
    rw [List.length_cons, asTs_len e]; rfl
  | .nil, _ :: _, _, _, _, _, e => by simp only [asTs] at e; cases e
  | .cons _ _, [], _, _, _, _, e => by simp only [asTs] at e; cases e
  | .v _, [], _, _, _, _, e => by simp only [asTs] at e; cases e
  | .v _, _ :: _, _, _, _, _, e => by simp only [asTs] at e; cases e
  | .s _ _, [], _, _, _, _, e => by simp only [asTs] at e; cases e
  | .s _ _, _ :: _, _, _, _, _, e => by simp only [asTs] at e; cases e
theorem g_tup {k : Nat} (hc : X.calm = true) (h : PGs X es (tGs X.K fa cf (.cons ct cr))) (hn : (assignEach es X.env).length = tlen cr + 1 := by rfl) (hst : (assignEach es X.env).findIdx? (·.1) = none := by rfl) : PG X (.Tuple es k pos) (tG X.K fa cf (.cons ct cr)) :=
  wkG (pg_or (pg_tup hc h hn hst) (pg_lst hc h hn hst)) fun v sg H Q ⟨io, s, h, x, s', h', rs, rh, rv, e, q⟩ => by
    cases x <;> try (simp only [asT] at e; cases e; done)
    case ref n =>
      simp only [asT] at e
      split at e
      · rename_i y ys hx
        obtain ⟨p, vs, rfl, _, hp, rr⟩ := rh.list rv hx
        have e2 : asTs cf (.cons ct cr) (y :: ys) s h = .ok s' h' := by simp only [asTs]; exact e
        exact .inr ⟨p, vs, rfl, .inl (.inl hp), by rw [rr.length]; exact asTs_len e2, io, s, h, y :: ys, s', h', rs, rh, rr, e2, q⟩
      · cases e
    case tup ys =>
      have e2 : asTs cf (.cons ct cr) ys s h = .ok s' h' := by
        cases ys with
        | nil => simp only [asT] at e; cases e
        | cons y ys => simp only [asT] at e; simp only [asTs]; exact e
      cases rv with
      | @tup p vs _ sq rr => exact .inl ⟨p, vs, rfl, sq.t, by rw [rr.length]; exact asTs_len e2, io, s, h, ys, s', h', rs, rh, rr, e2, q⟩
    case wtup ys =>
      have e2 : asTs cf (.cons ct cr) ys s h = .ok s' h' := by
        cases ys with
        | nil => simp only [asT] at e; cases e
        | cons y ys => simp only [asT] at e; simp only [asTs]; exact e
      cases rv with
      | @wtup p vs _ sq rr => exact .inl ⟨p, vs, rfl, sq, by rw [rr.length]; exact asTs_len e2, io, s, h, ys, s', h', rs, rh, rr, e2, q⟩
theorem g_sub {o i : Expr} {co ci : CE} (ho : PE X o (tE X.K fa cf co)) (hi : PE X i (tE X.K fa cf ci)) (ha : ∀ v, assign (.Subscript o i pos) X.env v = (do
      let ov ← holding [v] (eval o X.env)
      let iv ← holding [v, ov] (eval i X.env)
      standAt pos
      holding [v, ov, iv] (setItem ov iv v)
      release [v, ov, iv] []) := by intro _; rfl) : PG X (.Subscript o i pos) (tG X.K fa cf (.s co ci)) :=
  wkG (pg_sub ho hi set_list ha) fun v sg H Q ⟨io, s, h, x, s', h', rs, rh, rv, e, q⟩ => by
    simp only [asT] at e
    obtain ⟨ov, h1, e1, e⟩ := bind_ok e
    obtain ⟨iv, h2, e2, e⟩ := bind_ok e
    obtain ⟨u, h3, e3, e⟩ := bind_ok e
    cases e
    refine ⟨io, s, h, ov, h1, rs, rh, e1, fun io1 H1 o' ex1 rh1 ro => ⟨io1, s, h1, iv, h2, rs.mono ex1, rh1, e2, fun io2 H2 i' ex2 rh2 ri => ?_⟩⟩
    have ro2 := ro.mono ex2
    unfold setop at e3
    split at e3
    · rename_i n i _
      cases hx : h2[n]? with
      | none => rw [hx] at e3; cases e3
      | some o =>
        obtain ⟨xs⟩ := o
        rw [hx] at e3
        simp only at e3
        cases hj : ixN xs.length i with
        | none => rw [hj] at e3; cases e3
        | some j =>
        rw [hj] at e3
        cases e3
        obtain ⟨p, vs, rfl, hp, ha, rr⟩ := rh2.list ro2 hx
        cases ri
        have rv2 := rv.mono (ex1.trans ex2)
        have exw := ext_write (vs := vs.set j v) (List.mem_of_getElem? hp) ⟨vs, ha⟩
        exact ⟨p, vs, i, j, rfl, rfl, ha, by rw [rr.length]; exact hj, q io2 _ sg ((ex1.trans ex2).trans exw) (rh2.write hp (rr.set rv2 j)) ((rs.mono (ex1.trans ex2)).mono exw) fun _ _ => rfl⟩
    · cases e3

/-! ### walks -/
theorem leans_at {l : Lean_} {n : Nat} {o : PO} (hl : leans l h = true) (hm : (n, o) ∈ l) : h[n]? = some o := by
  unfold leans at hl
  have := List.all_eq_true.mp hl _ hm
  simp only at this
  split at this
  · rename_i c hc
    rw [hc, PO.same_eq this]
  · cases this
theorem leans_app {l l' : Lean_} (hl : leans (l ++ l') h = true) : leans l h = true ∧ leans l' h = true := by
  unfold leans at hl ⊢
  rw [List.all_append, Bool.and_eq_true] at hl
  exact hl
theorem src_of {v : V} {x : PV} {xs : List PV} (rh : RH K fa io H h) (rv : Rl K fa io H v x) (e : items h x = some xs) :
    ∃ a t vs, v = .ref a ∧ Src K t H a vs ∧ ∀ io2 H2 h2, Ext io H io2 H2 → RH K fa io2 H2 h2 → leans (leanOf h x) h2 = true → ∃ vs2, Src K t H2 a vs2 ∧ Rls K fa io2 H2 vs2 xs := by
  cases rv with
  | @tup a vs _ sq rr => cases e; exact ⟨a, true, vs, rfl, sq.t, fun io2 H2 h2 ex rh2 _ => ⟨vs, ex.sqT sq.t, rr.mono ex⟩⟩
  | @scr a vs _ sq rr => cases e; exact ⟨a, false, vs, rfl, sq.l, fun io2 H2 h2 ex rh2 _ => ⟨vs, (ex.sqF sq).l, rr.mono ex⟩⟩
  | @ref a n hn =>
    simp only [PB.items] at e
    split at e <;> cases e
    rename_i hx
    obtain ⟨b, vs, e1, e2, e3⟩ := rh.cell _ _ hx
    rw [hn] at e1; cases e1
    refine ⟨a, false, vs, rfl, .inl (.inl e2), fun io2 H2 h2 ex rh2 hl => ?_⟩
    have hx2 := leans_at (n := n) (o := .lst xs) hl (by simp [leanOf, hx])
    obtain ⟨b, vs2, g1, g2, g3⟩ := rh2.cell _ _ hx2
    rw [ex.at_ hn] at g1; cases g1
    exact ⟨vs2, .inl (.inl g2), g3⟩
  | _ => cases e
theorem Rls.at' {vs : List V} {xs : List PV} {i : Nat} {y : PV} {v : V} (r : Rls K fa io H vs xs) (e : xs[i]? = some y) (e' : vs[i]? = some v) : Rl K fa io H v y := by
  obtain ⟨w, h1, h2⟩ := r.get e
  rw [e'] at h1; cases h1
  exact h2
variable {tg : Expr} {ci : CI}
theorem i_seq (ha : PE X a (tE X.K fa cf ca)) : PI X tg a (tI X.K fa cf (.seq ca)) :=
  wkI (pi_src ha) fun sg H R ⟨io, s, h, p, h', rs, rh, e, q⟩ => by
    simp only [evI] at e
    obtain ⟨x, h1, e1, e⟩ := bind_ok e
    split at e <;> cases e
    rename_i xs hx
    refine ⟨io, s, h, x, _, rs, rh, e1, fun io1 H1 v ex1 rh1 rv => ?_⟩
    obtain ⟨a, t, vs, rfl, sq, more⟩ := src_of rh1 rv hx
    refine ⟨a, t, vs, rfl, sq, q io1 H1 ex1 rh1 _ fun io2 H2 h2 ex2 rh2 hl => ?_⟩
    obtain ⟨vs2, sq2, rr⟩ := more io2 H2 h2 ex2 rh2 hl
    refine ⟨fun i y hy => ?_, vs2, sq2, rr.length⟩
    obtain ⟨w, hw, rw'⟩ := rr.get hy
    refine ⟨⟨vs2, w, sq2, hw⟩, fun x H3 hyl => ?_⟩
    obtain ⟨rfl, hh⟩ := hyl
    have := hh vs2 sq2
    rw [hw] at this; cases this
    exact ⟨.refl, rh2, rw'⟩
theorem enums_get : ∀ {xs : List PV} {k : Int} {i : Nat} {y : PV}, (enums k xs)[i]? = some y → ∃ x, xs[i]? = some x ∧ y = .wtup [.int (k + i), x]
  | [], k, i, y, e => by simp [enums] at e
  | x :: r, k, 0, y, e => by simp [enums] at e; exact ⟨x, rfl, by simp [e]⟩
  | x :: r, k, i + 1, y, e => by
    obtain ⟨z, h1, h2⟩ := enums_get (xs := r) (k := k + 1) (i := i) (by simpa [enums] using e)
    refine ⟨z, by simpa using h1, ?_⟩
    rw [h2]
    have : k + 1 + (i : Int) = k + ((i + 1 : Nat) : Int) := by omega
    rw [this]
theorem enums_len : ∀ (xs : List PV) (k : Int), (enums k xs).length = xs.length
  | [], _ => rfl
  | x :: r, k => by simp [enums, enums_len r]
theorem i_enu {p tpos : Pos} {elts : List Expr} {kk : Nat} (hg : Gl X "enumerate") (hm : X.mg "enumerate" = none) (ha : PA X [a] (tA X.K fa cf cs)) (hs : starEach [a] X.env = [(false, eval a X.env)] := by rfl) :
    PI X (.Tuple elts kk tpos) (.Call (.Name "enumerate" p) [a] [] pos) (tI X.K fa cf (.enu cs)) :=
  wkI (pi_enumS hg hm ha hs) fun sg H R ⟨io, s, h, p, h', rs, rh, e, q⟩ => by
    simp only [evI] at e
    obtain ⟨xs, h1, e1, e⟩ := bind_ok e
    split at e
    · rename_i x
      split at e <;> cases e
      rename_i ys hy
      refine ⟨io, s, h, _, _, rs, rh, e1, fun io1 H1 vs ex1 rh1 rvs => ?_⟩
      obtain ⟨v, rfl, rv⟩ := rvs.one
      obtain ⟨a, t, vs, rfl, sq, more⟩ := src_of rh1 rv hy
      refine ⟨a, t, vs, rfl, sq, q io1 H1 ex1 rh1 _ fun io2 H2 h2 ex2 rh2 hl => ?_⟩
      obtain ⟨vs2, sq2, rr⟩ := more io2 H2 h2 ex2 rh2 hl
      refine ⟨fun i y hy => ?_, vs2, sq2, by rw [enums_len]; exact rr.length⟩
      obtain ⟨z, hz, rfl⟩ := enums_get hy
      obtain ⟨w, hw, rw'⟩ := rr.get hz
      refine ⟨⟨vs2, w, sq2, hw⟩, fun x H3 hyl => ?_⟩
      obtain ⟨T, x', rfl, hT, rfl, hh⟩ := hyl
      have := hh vs2 sq2
      rw [hw] at this; cases this
      have ex := ext_new (io := io2) (o := .tup [.int (i : Nat), w]) hT
      refine ⟨ex, rh2.new hT, .wtup (.inl (.inl upd_same)) (.cons ?_ (.cons (rw'.mono ex) .nil))⟩
      have e0 : (0 : Int) + (i : Int) = (i : Int) := by omega
      rw [e0]; exact .int _
    · cases e
theorem zips_get : ∀ {xs ys : List PV} {i : Nat} {z : PV}, (zips xs ys)[i]? = some z → ∃ x y, xs[i]? = some x ∧ ys[i]? = some y ∧ z = .wtup [x, y]
  | [], ys, i, z, e => by simp [zips] at e
  | x :: r, [], i, z, e => by simp [zips] at e
  | x :: r, y :: q, 0, z, e => by simp [zips] at e; exact ⟨x, y, rfl, rfl, e.symm⟩
  | x :: r, y :: q, i + 1, z, e => by
    obtain ⟨x', y', h1, h2, h3⟩ := zips_get (xs := r) (ys := q) (i := i) (by simpa [zips] using e)
    exact ⟨x', y', by simpa using h1, by simpa using h2, h3⟩
theorem zips_len : ∀ (xs ys : List PV), (zips xs ys).length = min xs.length ys.length
  | [], ys => by simp [zips]
  | x :: r, [] => by simp [zips]
  | x :: r, y :: q => by simp only [zips, List.length_cons, zips_len r q]; omega
theorem i_zip {p tpos : Pos} {elts : List Expr} {kk : Nat} (hg : Gl X "zip") (hm : X.mg "zip" = none) (ha : PA X [a, b] (tA X.K fa cf cs))
    (hs : starEach [a, b] X.env = (false, eval a X.env) :: starEach [b] X.env := by rfl) (hpl : (backTo pos (starEach [b] X.env)).any (·.1) = false := by rfl) :
    PI X (.Tuple elts kk tpos) (.Call (.Name "zip" p) [a, b] [] pos) (tI X.K fa cf (.zip cs)) :=
  wkI (pi_zipS hg hm ha hs hpl) fun sg H R ⟨io, s, h, p, h', rs, rh, e, q⟩ => by
    simp only [evI] at e
    obtain ⟨xs, h1, e1, e⟩ := bind_ok e
    split at e
    · rename_i x y
      split at e <;> cases e
      rename_i us ws hu hw
      refine ⟨io, s, h, _, _, rs, rh, e1, fun io1 H1 vs ex1 rh1 rvs => ?_⟩
      obtain ⟨v, w, rfl, rv, rw'⟩ := rvs.two
      obtain ⟨a, t, vs, rfl, sq, more⟩ := src_of rh1 rv hu
      obtain ⟨b, u, vs', rfl, sq', more'⟩ := src_of rh1 rw' hw
      refine ⟨a, b, t, u, vs, vs', rfl, sq, sq', q io1 H1 ex1 rh1 _ fun io2 H2 h2 ex2 rh2 hl => ?_⟩
      obtain ⟨hl1, hl2⟩ := leans_app hl
      obtain ⟨vs2, sq2, rr⟩ := more io2 H2 h2 ex2 rh2 hl1
      obtain ⟨ws2, sq2', rr'⟩ := more' io2 H2 h2 ex2 rh2 hl2
      refine ⟨fun i y hy => ?_, vs2, ws2, sq2, sq2', by rw [zips_len, rr.length, rr'.length]⟩
      obtain ⟨z, z', hz, hz', rfl⟩ := zips_get hy
      obtain ⟨w, hw, rw1⟩ := rr.get hz
      obtain ⟨w', hw', rw2⟩ := rr'.get hz'
      refine ⟨⟨vs2, ws2, w, w', sq2, sq2', hw, hw'⟩, fun x H3 hyl => ?_⟩
      obtain ⟨T, x1, x2, rfl, hT, rfl, hh, hh'⟩ := hyl
      have := hh vs2 sq2
      rw [hw] at this; cases this
      have := hh' ws2 sq2'
      rw [hw'] at this; cases this
      have ex := ext_new (io := io2) (o := .tup [w, w']) hT
      exact ⟨ex, rh2.new hT, .wtup (.inl (.inl upd_same)) (.cons (rw1.mono ex) (.cons (rw2.mono ex) .nil))⟩
    · cases e
theorem range_get : ∀ {n : Nat} {a c : Int} {i : Nat} {y : PV}, (range a n c)[i]? = some y → i < n ∧ y = .int (a + (i : Nat) * c)
  | 0, a, c, i, y, e => by simp [range] at e
  | n + 1, a, c, 0, y, e => by simp [range] at e; exact ⟨by omega, by rw [← e]; simp⟩
  | n + 1, a, c, i + 1, y, e => by
    obtain ⟨h1, h2⟩ := range_get (n := n) (a := a + c) (i := i) (by simpa [range] using e)
    refine ⟨by omega, ?_⟩
    rw [h2]
    have : a + c + (i : Int) * c = a + ((i + 1 : Nat) : Int) * c := by
      have : ((i + 1 : Nat) : Int) = (i : Int) + 1 := by omega
      rw [this, Int.add_mul, Int.one_mul]
      omega
    rw [this]
theorem range_len : ∀ (n : Nat) (a c : Int), (range a n c).length = n
  | 0, _, _ => rfl
  | n + 1, a, c => by simp [range, range_len n]
theorem good_range {lo : Int} {n : Nat} : GoodJ K fa (range lo n 1, []) io H (Itr lo n) := fun io2 H2 h2 ex rh _ =>
  ⟨fun i y hy => by
    obtain ⟨h1, rfl⟩ := range_get hy
    refine ⟨h1, fun x H3 hyl => ?_⟩
    obtain ⟨rfl, rfl⟩ := hyl
    rw [Int.mul_one]
    exact ⟨.refl, rh, .int _⟩, by show n ≤ (range lo n 1).length; rw [range_len]; exact Nat.le_refl _⟩
theorem good_rangeC {lo c : Int} {n : Nat} : GoodJ K fa (range lo n c, []) io H (Itc lo c n) := fun io2 H2 h2 ex rh _ =>
  ⟨fun i y hy => by
    obtain ⟨h1, rfl⟩ := range_get hy
    refine ⟨h1, fun x H3 hyl => ?_⟩
    obtain ⟨rfl, rfl⟩ := hyl
    exact ⟨.refl, rh, .int _⟩, by show n ≤ (range lo n c).length; rw [range_len]; exact Nat.le_refl _⟩
theorem i_rng1 {p : Pos} (hg : Gl X "range") (hm : X.mg "range" = none) (ha : PA X [a] (tA X.K fa cf cs)) (hs : starEach [a] X.env = [(false, eval a X.env)] := by rfl) : PI X tg (.Call (.Name "range" p) [a] [] pos) (tI X.K fa cf (.rng1 cs)) :=
  wkI (pi_range1 hg hm ha hs) fun sg H R ⟨io, s, h, p, h', rs, rh, e, q⟩ => by
    simp only [evI] at e
    obtain ⟨xs, h1, e1, e⟩ := bind_ok e
    split at e
    · split at e <;> cases e
      rename_i b hb
      have hB : bigR = 1000000 := rfl
      refine ⟨io, s, h, _, _, rs, rh, e1, fun io1 H1 vs ex1 rh1 rvs => ?_⟩
      obtain ⟨v, rfl, rv⟩ := rvs.one
      cases rv
      exact ⟨b, rfl, by omega, by omega, q io1 H1 ex1 rh1 _ good_range⟩
    · cases e
theorem i_rng2 {p : Pos} (hg : Gl X "range") (hm : X.mg "range" = none) (ha : PA X [a, b] (tA X.K fa cf cs)) (hs : starEach [a, b] X.env = [(false, eval a X.env), (false, eval b X.env)] := by rfl) (hs2 : starEach [b] X.env = [(false, eval b X.env)] := by rfl) :
    PI X tg (.Call (.Name "range" p) [a, b] [] pos) (tI X.K fa cf (.rng2 cs)) :=
  wkI (pi_range2 hg hm ha hs hs2) fun sg H R ⟨io, s, h, p, h', rs, rh, e, q⟩ => by
    simp only [evI] at e
    obtain ⟨xs, h1, e1, e⟩ := bind_ok e
    split at e
    · split at e <;> cases e
      rename_i a b hb
      have hB : bigR = 1000000 := rfl
      refine ⟨io, s, h, _, _, rs, rh, e1, fun io1 H1 vs ex1 rh1 rvs => ?_⟩
      obtain ⟨v, w, rfl, rv, rw'⟩ := rvs.two
      cases rv; cases rw'
      exact ⟨a, b, rfl, by omega, q io1 H1 ex1 rh1 _ good_range⟩
    · cases e
theorem i_rng3 {p : Pos} (hg : Gl X "range") (hm : X.mg "range" = none) (ha : PA X [a, b, c] (tA X.K fa cf cs)) (hs : starEach [a, b, c] X.env = (false, eval a X.env) :: starEach [b, c] X.env := by rfl) (hpl : (backTo pos (starEach [b, c] X.env)).any (·.1) = false := by rfl) :
    PI X tg (.Call (.Name "range" p) [a, b, c] [] pos) (tI X.K fa cf (.rng3 cs)) :=
  wkI (pi_range3 hg hm ha hs hpl) fun sg H R ⟨io, s, h, p, h', rs, rh, e, q⟩ => by
    simp only [evI] at e
    obtain ⟨xs, h1, e1, e⟩ := bind_ok e
    split at e
    · split at e <;> cases e
      rename_i a b c hb
      have hB : bigR = 1000000 := rfl
      refine ⟨io, s, h, _, _, rs, rh, e1, fun io1 H1 vs ex1 rh1 rvs => ?_⟩
      cases rvs with
      | cons r1 rr =>
      obtain ⟨v, w, rfl, rv, rw'⟩ := rr.two
      cases r1; cases rv; cases rw'
      obtain ⟨_, _, _, _, rfl⟩ := hb
      exact ⟨a, b, -1, _, rfl, .neg (by omega) (by omega) (by omega) (by omega), q io1 H1 ex1 rh1 _ good_rangeC⟩
    · cases e
end
end PB

set_option Elab.async false
set_option linter.all false
set_option maxRecDepth 100000
set_option maxHeartbeats 2000000
namespace PB
open PySem PySem.Spec L2
section
variable {X : Cx} {fa : Nat → Option Addr} {cf : Nat → List PV → PH → Res PV} {K : PySem.W.Frag} {io io1 io2 : List Addr} {H H1 H2 : Hp} {h : PH}
/-! ### one list outside the pure heap is written -/
theorem Ext.notin (e : Ext io H io1 H1) {D : Addr} {o : HO} (n : D ∉ io) (hD : H D = some o) : D ∉ io1 := by
  obtain ⟨t, rfl, f⟩ := e.more
  intro hm
  rcases List.mem_append.mp hm with hm | hm
  · exact n hm
  · rw [f D hm] at hD; cases hD
mutual
theorem Rl.keep {D : Addr} {acc acc' : List V} (hD : H D = some (.lst acc)) : ∀ {v : V} {x : PV}, Rl K fa io H v x → Rl K fa io (upd H D (.lst acc')) v x
  | _, _, .non => .non
  | _, _, .bl b => .bl b
  | _, _, .int i => .int i
  | _, _, .str x => .str x
  | _, _, .tup h r => by
    refine .tup ?_ (Rls.keep hD r)
    rcases h with ⟨o, h, hd⟩ | h
    · exact .inl ⟨o, by rw [upd_ne (ne_of h hD (by intro z; cases z))]; exact h, hd⟩
    · exact .inr h
  | _, _, .wtup h r => by
    refine .wtup ?_ (Rls.keep hD r)
    rcases h with (h | ⟨o, h⟩) | h
    · exact .inl (.inl (by rw [upd_ne (ne_of h hD (by intro z; cases z))]; exact h))
    · exact .inl (.inr ⟨o, by rw [upd_ne (ne_of h hD (by intro z; cases z))]; exact h⟩)
    · exact .inr h
  | _, _, .scr h r => by
    refine .scr ?_ (Rls.keep hD r)
    rcases h with ⟨o, h⟩ | h
    · exact .inl ⟨o, by rw [upd_ne (ne_of h hD (by intro z; cases z))]; exact h⟩
    · exact .inr h
  | _, _, .ref h => .ref h
  | _, _, .fn h => .fn h
theorem Rls.keep {D : Addr} {acc acc' : List V} (hD : H D = some (.lst acc)) : ∀ {v : List V} {x : List PV}, Rls K fa io H v x → Rls K fa io (upd H D (.lst acc')) v x
  | _, _, .nil => .nil
  | _, _, .cons a r => .cons (Rl.keep hD a) (Rls.keep hD r)
end
mutual
theorem Rl.grow {t : List Addr} : ∀ {v : V} {x : PV}, Rl K fa io H v x → Rl K fa (io ++ t) H v x
  | _, _, .non => .non
  | _, _, .bl b => .bl b
  | _, _, .int i => .int i
  | _, _, .str x => .str x
  | _, _, .tup h r => .tup h (Rls.grow r)
  | _, _, .wtup h r => .wtup h (Rls.grow r)
  | _, _, .scr h r => .scr h (Rls.grow r)
  | _, _, .ref h => .ref (by rw [List.getElem?_append_left (List.getElem?_eq_some_iff.mp h).1]; exact h)
  | _, _, .fn h => .fn h
theorem Rls.grow {t : List Addr} : ∀ {v : List V} {x : List PV}, Rls K fa io H v x → Rls K fa (io ++ t) H v x
  | _, _, .nil => .nil
  | _, _, .cons a r => .cons (Rl.grow a) (Rls.grow r)
end
theorem RH.keep (r : RH K fa io H h) {D : Addr} {acc acc' : List V} (hD : H D = some (.lst acc)) (n : D ∉ io) : RH K fa io (upd H D (.lst acc')) h :=
  ⟨r.len, r.nd, fun m xs hx => by
    obtain ⟨a, vs, e1, e2, e3⟩ := r.cell m xs hx
    have na : a ≠ D := fun z => n (z ▸ List.mem_of_getElem? e1)
    exact ⟨a, vs, e1, by rw [upd_ne na]; exact e2, e3.keep hD⟩⟩
theorem Ext.keep (e : Ext io H io1 H1) {D : Addr} {acc : List V} (hD : H D = none) : Ext io H io1 (upd H1 D (.lst acc)) :=
  ⟨e.more, fun a o h hn => by rw [upd_ne (ne_of_none h hD)]; exact e.stay a o h hn, fun a h => by
    by_cases z : a = D
    · subst z; exact hD
    · rw [upd_ne z] at h; exact e.there a h⟩
/-- the list comes into the pure heap -/
theorem RH.adopt (r : RH K fa io H h) {D : Addr} {acc : List V} {ys : List PV} (hD : H D = some (.lst acc)) (n : D ∉ io) (rv : Rls K fa io H acc ys) : RH K fa (io ++ [D]) H (h ++ [.lst ys]) := by
  refine ⟨by simp [r.len], ?_, fun m xs hx => ?_⟩
  · rw [List.nodup_append]
    refine ⟨r.nd, by simp, fun a ha b hb => ?_⟩
    rw [List.mem_singleton] at hb
    subst hb
    rintro rfl
    exact n ha
  · by_cases hm : m < h.length
    · rw [List.getElem?_append_left hm] at hx
      obtain ⟨a, ws, e1, e2, e3⟩ := r.cell m xs hx
      exact ⟨a, ws, by rw [List.getElem?_append_left (by rw [r.len]; exact hm)]; exact e1, e2, e3.grow⟩
    · rw [List.getElem?_append_right (by omega)] at hx
      have hz : m - h.length = 0 := by
        rcases Nat.eq_zero_or_pos (m - h.length) with z | z
        · exact z
        · rw [List.getElem?_eq_none (by simp; omega)] at hx; cases hx
      rw [hz] at hx
      simp at hx
      subst hx
      refine ⟨D, acc, ?_, hD, rv.grow⟩
      rw [List.getElem?_append_right (by rw [r.len]; omega), r.len, hz]
      rfl
theorem Ext.adopt (e : Ext io H io1 H1) {D : Addr} (hD : H D = none) : Ext io H (io1 ++ [D]) H1 := by
  obtain ⟨t, rfl, f⟩ := e.more
  refine ⟨⟨t ++ [D], by simp, fun p hp => ?_⟩, e.stay, e.there⟩
  rcases List.mem_append.mp hp with hp | hp
  · exact f p hp
  · rw [List.mem_singleton] at hp; subst hp; exact hD

/-! ### the own slots -/
theorem wipe_len (s : Sl) : ∀ vs : List Nat, (PB.wipe s vs).length = s.length
  | [] => rfl
  | v :: vs => by unfold PB.wipe; rw [List.length_set, wipe_len s vs]
theorem wipe_get {s : Sl} {i : Nat} {x : PV} : ∀ {vs : List Nat}, (PB.wipe s vs)[i]? = some (some x) → s[i]? = some (some x) ∧ i ∉ vs
  | [], h => ⟨h, by simp⟩
  | v :: vs, h => by
    unfold PB.wipe at h
    by_cases hi : v = i
    · subst hi
      by_cases hv : v < (PB.wipe s vs).length
      · rw [List.getElem?_set_self hv] at h; cases h
      · rw [List.getElem?_eq_none (by simpa using hv)] at h; cases h
    · rw [List.getElem?_set_ne hi] at h
      obtain ⟨h1, h2⟩ := wipe_get h
      exact ⟨h1, by simp only [List.mem_cons, not_or]; exact ⟨fun e => hi e.symm, h2⟩⟩
theorem wipe_at {sg : L2.St} {i : Nat} : ∀ {vs : List Nat}, i ∉ vs → (L2.wipe sg vs)[i]? = sg[i]?
  | [], _ => rfl
  | v :: vs, h => by
    simp only [List.mem_cons, not_or] at h
    unfold L2.wipe
    rw [List.getElem?_set_ne (Ne.symm h.1)]
    exact wipe_at h.2
theorem wipe_in {sg : L2.St} {i : Nat} : ∀ {vs : List Nat}, i ∈ vs → i < sg.length → (L2.wipe sg vs)[i]? = some none
  | [], h, _ => by simp at h
  | v :: vs, h, hl => by
    unfold L2.wipe
    by_cases hi : v = i
    · subst hi
      rw [List.getElem?_set_self (by rw [wipe_length]; exact hl)]
    · rw [List.getElem?_set_ne hi]
      have : i ∈ vs := by
        rcases List.mem_cons.mp h with z | z
        · exact absurd z.symm hi
        · exact z
      exact wipe_in this hl
theorem wipe_same {sg sg2 : L2.St} {vs : List Nat} (hl : sg2.length = sg.length) (h : ∀ j, j ∉ vs → sg2[j]? = (L2.wipe sg vs)[j]?) : L2.wipe sg2 vs = L2.wipe sg vs := by
  apply List.ext_getElem?
  intro j
  by_cases hj : j ∈ vs
  · by_cases hlt : j < sg.length
    · rw [wipe_in hj hlt, wipe_in hj (by rw [hl]; exact hlt)]
    · rw [List.getElem?_eq_none (by rw [wipe_length]; omega), List.getElem?_eq_none (by rw [wipe_length]; omega)]
  · rw [wipe_at hj, h j hj]
theorem RS.wipe {sg : L2.St} {s : Sl} (rs : RS K fa io H sg s) (vs : List Nat) : RS K fa io H (L2.wipe sg vs) (PB.wipe s vs) :=
  ⟨by rw [wipe_length, wipe_len]; exact rs.len, fun i x h => by
    obtain ⟨h1, h2⟩ := wipe_get h
    obtain ⟨v, g1, g2⟩ := rs.at_ i x h1
    exact ⟨v, by rw [wipe_at h2]; exact g1, g2⟩⟩
mutual
theorem asT_len : ∀ {t : CT} {x : PV} {s : Sl} {h : PH} {s' : Sl} {h' : PH}, asT cf t x s h = .ok s' h' → s'.length = s.length
  | .v i, x, s, h, s', h', e => by simp only [asT] at e; cases e; exact List.length_set
  | .s o i, x, s, h, s', h', e => by
      simp only [asT] at e
      obtain ⟨_, _, _, e⟩ := bind_ok e
      obtain ⟨_, _, _, e⟩ := bind_ok e
      obtain ⟨_, _, _, e⟩ := bind_ok e
      cases e; rfl
  | .nil, x, s, h, s', h', e => by
      simp only [asT] at e
      split at e <;> cases e
      rfl
  | .cons a r, x, s, h, s', h', e => by
      simp only [asT] at e
      split at e
      · obtain ⟨s1, h1, e1, e⟩ := bind_ok e
        rw [asTs_slen e, asT_len e1]
      · obtain ⟨s1, h1, e1, e⟩ := bind_ok e
        rw [asTs_slen e, asT_len e1]
      · split at e
        · obtain ⟨s1, h1, e1, e⟩ := bind_ok e
          rw [asTs_slen e, asT_len e1]
        · cases e
      · cases e
theorem asTs_slen : ∀ {t : CT} {xs : List PV} {s : Sl} {h : PH} {s' : Sl} {h' : PH}, asTs cf t xs s h = .ok s' h' → s'.length = s.length
  | .v i, xs, s, h, s', h', e => by cases xs <;> simp only [asTs] at e <;> cases e
  | .s o i, xs, s, h, s', h', e => by cases xs <;> simp only [asTs] at e <;> cases e
  | .nil, xs, s, h, s', h', e => by cases xs <;> simp only [asTs] at e <;> cases e; rfl
  | .cons a r, xs, s, h, s', h', e => by
      cases xs with
      | nil => simp only [asTs] at e; cases e
      | cons x xs =>
        simp only [asTs] at e
        obtain ⟨s1, h1, e1, e⟩ := bind_ok e
        rw [asTs_slen e, asT_len e1]
end
end
end PB

set_option Elab.async false
set_option linter.all false
set_option maxRecDepth 100000
set_option maxHeartbeats 2000000
namespace PB
open PySem PySem.Spec L2
section
variable {X : Cx} {fa : Nat → Option Addr} {cf : Nat → List PV → PH → Res PV} {K : PySem.W.Frag} {io io1 io2 : List Addr} {H H1 H2 : Hp} {h : PH}
/-- a comprehension's condition -/
def tW (K : PySem.W.Frag) (fa : Nat → Option Addr) (cf : Nat → List PV → PH → Res PV) (c : CO) : TT := fun sg H Q => ∃ io s h t h' b, RS K fa io H sg s ∧ RH K fa io H h ∧ evO cf c s h = .ok t h' ∧ (t = none ∧ b = true ∨ t = some (.bl b)) ∧
  ∀ io' H', Ext io H io' H' → RH K fa io' H' h' → Q b H'
theorem wkPTs {e : List Expr} {t t' : TT} (h : PTs X e t) (w : ∀ sg H Q, t' sg H Q → t sg H Q) : PTs X e t' := ⟨fun pins s sg H Q I q => h.run pins s sg H Q I (w _ _ _ q)⟩
theorem w_nil : PTs X [] (tW X.K fa cf .none) := wkPTs pts_nil fun sg H Q ⟨io, s, h, t, h', b, rs, rh, e, hb, q⟩ => by
  simp only [evO] at e; cases e
  rcases hb with ⟨_, rfl⟩ | hb
  · exact q io H .refl rh
  · cases hb
theorem w_one {c : Expr} {cc : CE} (hc : PT X c (tT X.K fa cf cc)) : PTs X [c] (tW X.K fa cf (.some cc)) := wkPTs (pts_one hc) fun sg H Q ⟨io, s, h, t, h', b, rs, rh, e, hb, q⟩ => by
  simp only [evO] at e
  obtain ⟨x, h1, e1, e⟩ := bind_ok e
  cases e
  rcases hb with ⟨z, _⟩ | hb
  · cases z
  · cases hb; exact ⟨io, s, h, b, _, rs, rh, e1, q⟩
theorem compL_items {f : PV → PH → Res (Option PV)} {l : Lean_} : ∀ {xs : List PV} {h : PH} {ys : List PV} {h' : PH}, compL f l xs h = .ok ys h' → ys.length ≤ xs.length
  | [], h, ys, h', e => by simp only [compL] at e; split at e <;> cases e; simp
  | x :: r, h, ys, h', e => by
    simp only [compL] at e
    split at e
    · obtain ⟨y, h1, e1, e⟩ := bind_ok e
      obtain ⟨zs, h2, e2, e⟩ := bind_ok e
      have := compL_items e2
      cases e
      cases y <;> simp <;> omega
    · cases e
theorem comp_to {ce : CE} {own : List Nat} {ct : CT} {ci : CI} {co : CO} (hsub : ∀ j, j ∈ slots ct → j ∈ own) (sg : L2.St) (H : Hp) (Q : VK)
    (w : tE K fa cf (.comp ce own ct ci co) sg H Q) : tLc (tI K fa cf ci) (tG K fa cf ct) (tW K fa cf co) (tE K fa cf ce) own sg H Q := by
  obtain ⟨io, s, h, r, h', rs, rh, e, q⟩ := w
  simp only [evE] at e
  obtain ⟨p, h1, e1, e⟩ := bind_ok e
  by_cases hlen : p.1.length ≤ many
  case neg => rw [if_neg hlen] at e; cases e
  rw [if_pos hlen] at e
  obtain ⟨ys, h2, e2, e⟩ := bind_ok e
  refine ⟨io, s, h, p, h1, rs, rh, e1, fun io1 H1 ex1 rh1 J gd D hD => ?_⟩
  generalize hF : (fun (x : PV) (h2 : PH) => (asT cf ct x (PB.wipe s own) h2).bind fun s3 h3 => (evO cf co s3 h3).bind fun t h4 =>
        match t with
        | some (.bl false) => .ok none h4
        | some (.bl true) => (evE cf ce s3 h4).bind fun y h5 => .ok (some y) h5
        | none => (evE cf ce s3 h4).bind fun y h5 => .ok (some y) h5
        | _ => .bad) = F at e2
  have nD : D ∉ io1 := fun hm => by obtain ⟨vs, hv⟩ := rh1.mem hm; rw [hD] at hv; cases hv
  refine ⟨fun i m Hc => m = p.1.length - i ∧ i ≤ p.1.length ∧ ∃ ioc hc acc ys0 zs, Ext io1 H1 ioc Hc ∧ D ∉ ioc ∧ RH K fa ioc Hc hc ∧ Hc D = some (.lst acc) ∧ Rls K fa ioc Hc acc ys0 ∧
      compL F p.2 (p.1.drop i) hc = .ok zs h2 ∧ ys = ys0 ++ zs ∧ acc.length ≤ i,
    ⟨p.1.length, by simp, Nat.zero_le _, io1, h1, [], [], ys, Ext.refl.keep hD, nD, rh1.new hD, upd_same, .nil, by simpa using e2, rfl, Nat.zero_le _⟩, ?_⟩
  rintro i m Hc ⟨rfl, hi, ioc, hc, acc, ys0, zs, exc, nc, rhc, hDc, rac, ec, hys, hal⟩
  cases hd : p.1.drop i with
  | nil =>
    rw [hd] at ec
    simp only [compL] at ec
    by_cases hl : leans p.2 hc = true
    case neg => rw [if_neg hl] at ec; cases ec
    rw [if_pos hl] at ec
    have hgd := (gd ioc Hc hc exc rhc hl).2
    obtain ⟨rfl, rfl⟩ : zs = [] ∧ hc = h2 := by cases ec; exact ⟨rfl, rfl⟩
    have hli : i = p.1.length := by
      have := congrArg List.length hd
      simp at this; omega
    subst hli
    refine .inl ⟨hgd, ?_⟩
    unfold alloc at e
    cases e
    rw [List.append_nil] at hys
    subst hys
    exact q (ioc ++ [D]) Hc (.ref D) (ex1.trans (exc.adopt hD)) (rhc.adopt hDc nc rac) (.ref (by rw [List.getElem?_append_right (by rw [rhc.len]; exact Nat.le_refl _), rhc.len, Nat.sub_self]; rfl))
  | cons x rest =>
    have hx : p.1[i]? = some x := by
      have := congrArg (·[0]?) hd
      simpa using this
    have hrest : p.1.drop (i + 1) = rest := by
      have := congrArg (·.drop 1) hd
      simpa [List.drop_drop, Nat.add_comm] using this
    have hlt : i < p.1.length := (List.getElem?_eq_some_iff.mp hx).1
    rw [hd] at ec
    simp only [compL] at ec
    by_cases hl : leans p.2 hc = true
    case neg => rw [if_neg hl] at ec; cases ec
    rw [if_pos hl] at ec
    obtain ⟨y, h3, e3, ec⟩ := bind_ok ec
    obtain ⟨zs', h4, e4, ec⟩ := bind_ok ec
    obtain ⟨hgo, hyl⟩ := (gd ioc Hc hc exc rhc hl).1 i x hx
    have hz : zs = (match (generalizing := false) y with | some y => y :: zs' | none => zs') ∧ h4 = h2 := by cases ec; exact ⟨rfl, rfl⟩
    obtain ⟨hz, rfl⟩ := hz
    refine .inr ⟨hgo, _, fun H' w => ⟨p.1.length - (i + 1), by omega, w⟩, fun v H3 hy => ?_⟩
    obtain ⟨ex3, rh3, rv3⟩ := hyl v H3 hy
    have hD3 : H3 D = some (.lst acc) := ex3.stay _ _ hDc (.inl nc)
    rw [← hF] at e3
    simp only at e3
    obtain ⟨s3, h5, e5, e3⟩ := bind_ok e3
    obtain ⟨t, h6, e6, e3⟩ := bind_ok e3
    have rs3 := ((rs.mono ex1).mono (exc.trans ex3)).wipe own
    refine ⟨ioc, PB.wipe s own, hc, x, s3, h5, rs3, rh3, rv3, e5, fun io4 H4 sg4 ex4 rh4 rs4 kp => ?_⟩
    refine ⟨wipe_same (by rw [rs4.len, asT_len e5, wipe_len, rs.len]) fun j hj => kp j fun hm => hj (hsub j hm), ?_⟩
    have nD4 : D ∉ io4 := ex4.notin nc hD3
    have hD4 : H4 D = some (.lst acc) := ex4.stay _ _ hD3 (.inl nc)
    have key : ∀ b, (b = true → ∃ yy hh, evE cf ce s3 h6 = .ok yy hh ∧ y = some yy ∧ hh = h3) → (b = false → y = none ∧ h6 = h3) → ∀ io' H', Ext io4 H4 io' H' → RH K fa io' H' h6 →
        (if b = true then tE K fa cf ce sg4 H' fun y H4 => ∃ acc, H4 D = some (.lst acc) ∧ acc.length < sizeLine ∧ (p.1.length - (i + 1) = p.1.length - (i + 1) ∧ i + 1 ≤ p.1.length ∧ ∃ ioc hc acc' ys0 zs, Ext io1 H1 ioc (upd H4 D (.lst (acc ++ [y]))) ∧ D ∉ ioc ∧ RH K fa ioc (upd H4 D (.lst (acc ++ [y]))) hc ∧ (upd H4 D (.lst (acc ++ [y]))) D = some (.lst acc') ∧ Rls K fa ioc (upd H4 D (.lst (acc ++ [y]))) acc' ys0 ∧
      compL F p.2 (p.1.drop (i + 1)) hc = .ok zs h4 ∧ ys = ys0 ++ zs ∧ acc'.length ≤ i + 1) else (p.1.length - (i + 1) = p.1.length - (i + 1) ∧ i + 1 ≤ p.1.length ∧ ∃ ioc hc acc ys0 zs, Ext io1 H1 ioc H' ∧ D ∉ ioc ∧ RH K fa ioc H' hc ∧ H' D = some (.lst acc) ∧ Rls K fa ioc H' acc ys0 ∧
      compL F p.2 (p.1.drop (i + 1)) hc = .ok zs h4 ∧ ys = ys0 ++ zs ∧ acc.length ≤ i + 1)) := by
      intro b ht hf io' H' ex' rh'
      have n' : D ∉ io' := ex'.notin nD4 hD4
      have hD' : H' D = some (.lst acc) := ex'.stay _ _ hD4 (.inl nD4)
      have exT := ((exc.trans ex3).trans ex4).trans ex'
      cases b with
      | false =>
        obtain ⟨rfl, rfl⟩ := hf rfl
        simp only [Bool.false_eq_true, if_false]
        exact ⟨trivial, hlt, io', h6, acc, ys0, zs, exT, n', rh', hD', rac.mono ((ex3.trans ex4).trans ex'), by rw [hrest, e4, hz], hys, by omega⟩
      | true =>
        obtain ⟨yy, hh, ey, rfl, rfl⟩ := ht rfl
        simp only [if_true]
        refine ⟨io', s3, h6, yy, hh, rs4.mono ex', rh', ey, fun io5 H5 v5 ex5 rh5 rv5 => ?_⟩
        have n5 := ex5.notin n' hD'
        have hD5 : H5 D = some (.lst acc) := ex5.stay _ _ hD' (.inl n')
        refine ⟨acc, hD5, many_lt (Nat.lt_of_le_of_lt hal (Nat.lt_of_lt_of_le hlt hlen)), trivial, hlt, io5, hh, acc ++ [v5], ys0 ++ [yy], zs', (exT.trans ex5).keep hD, n5, rh5.keep hD5 n5, upd_same, ?_, by rw [hrest, e4], ?_, by simp; omega⟩
        · exact (((rac.mono ((ex3.trans ex4).trans ex')).mono ex5).keep hD5).append (.cons (rv5.keep hD5) .nil)
        · rw [hys, hz]; simp
    cases ht : t with
    | none =>
      subst ht
      simp only at e3
      obtain ⟨yy, h7, e7, e3⟩ := bind_ok e3
      cases e3
      exact ⟨io4, s3, h5, none, h6, true, rs4, rh4, e6, .inl ⟨rfl, rfl⟩, key true (fun _ => ⟨yy, _, e7, rfl, rfl⟩) fun z => nomatch z⟩
    | some tv =>
      subst ht
      cases tv <;> try (simp only at e3; cases e3; done)
      case bl b =>
        cases b with
        | false =>
          simp only at e3; cases e3
          exact ⟨io4, s3, h5, _, _, false, rs4, rh4, e6, .inr rfl, key false (fun z => nomatch z) fun _ => ⟨rfl, rfl⟩⟩
        | true =>
          simp only at e3
          obtain ⟨yy, h7, e7, e3⟩ := bind_ok e3
          cases e3
          exact ⟨io4, s3, h5, _, h6, true, rs4, rh4, e6, .inr rfl, key true (fun _ => ⟨yy, _, e7, rfl, rfl⟩) fun z => nomatch z⟩
variable {elt tg iter : Expr} {ifs : List Expr} {scope : Scope} {pos spos : Pos} {ce : CE} {ct : CT} {ci : CI} {co : CO}
theorem e_comp (own : List (Str × Nat)) (hc : X.calm = true) (hN : X.N.Nodup) (hi : PI X tg iter (tI X.K fa cf ci)) (ok : BlkOk X.N X.env.scope scope own)
    (hg : ∀ (s : Shared) (H : Hp) (C : Addr) (cl : List (Str × Addr)) (fp : List Addr), PG (X.blk s H scope (compEnvC scope cl C X.env) fp) tg (tG X.K fa cf ct))
    (ht : ∀ (s : Shared) (H : Hp) (C : Addr) (cl : List (Str × Addr)) (fp : List Addr), PTs (X.blk s H scope (compEnvC scope cl C X.env) fp) ifs (tW X.K fa cf co))
    (he : ∀ (s : Shared) (H : Hp) (C : Addr) (cl : List (Str × Addr)) (fp : List Addr), PE (X.blk s H scope (compEnvC scope cl C X.env) fp) elt (tE X.K fa cf ce))
    (hsub : ∀ j, j ∈ slots ct → j ∈ own.map (·.2) := by decide) (hs : ∀ x, foldedSetIterable iter X.env x = pure x := by intro _; rfl) :
    PE X (.ListComp elt [⟨tg, iter, ifs, 0⟩] scope pos) (tE X.K fa cf (.comp ce (own.map (·.2)) ct ci co)) :=
  wkE (pe_lc hc hN hi ok hg ht he hs) (comp_to hsub)
theorem s_setComp {i : Nat} {y : Str} {py : Pos} (own : List (Str × Nat)) (hc : X.calm = true) (hN : X.N.Nodup) (hy : X.N[i]? = some y) (hyl : X.env.scope.names.lookup y = some .local) (hi : PI X tg iter (tI X.K fa cf ci)) (ok : BlkOk X.N X.env.scope scope own)
    (hg : ∀ (s : Shared) (H : Hp) (C : Addr) (cl : List (Str × Addr)) (fp : List Addr), PG (X.blk s H scope (compEnvC scope cl C X.env) fp) tg (tG X.K fa cf ct))
    (ht : ∀ (s : Shared) (H : Hp) (C : Addr) (cl : List (Str × Addr)) (fp : List Addr), PTs (X.blk s H scope (compEnvC scope cl C X.env) fp) ifs (tW X.K fa cf co))
    (he : ∀ (s : Shared) (H : Hp) (C : Addr) (cl : List (Str × Addr)) (fp : List Addr), PE (X.blk s H scope (compEnvC scope cl C X.env) fp) elt (tE X.K fa cf ce))
    (hsw : swapsWith (.ListComp elt [⟨tg, iter, ifs, 0⟩] scope pos) (some (.Name y py)) spos.line X.env = pure true := by rfl)
    (hsub : ∀ j, j ∈ slots ct → j ∈ own.map (·.2) := by decide) (hs : ∀ x, foldedSetIterable iter X.env x = pure x := by intro _; rfl) :
    PS X (.Assign [.Name y py] (.ListComp elt [⟨tg, iter, ifs, 0⟩] scope pos) spos) (tS X.K fa cf (.asg (.v i) (.comp ce (own.map (·.2)) ct ci co))) :=
  wkS (ps_setLc hc hN hy hyl hsw hi ok hg ht he hs) fun D sg H ⟨io, s, h, f, h', rs, rh, e, q⟩ => by
    simp only [evS] at e
    obtain ⟨x, h1, e1, e⟩ := bind_ok e
    obtain ⟨s2, h2, e2, e⟩ := bind_ok e
    cases e
    simp only [asT] at e2
    cases e2
    exact comp_to (K := X.K) hsub sg H _ ⟨io, s, h, x, _, rs, rh, e1, fun io1 H1 v ex1 rh1 rv => q io1 H1 ex1 rh1 _ ((rs.mono ex1).set rv i)⟩
end
end PB

set_option Elab.async false
set_option linter.all false
set_option maxRecDepth 100000
set_option maxHeartbeats 2000000
namespace PB
open PySem PySem.Spec L2
section
variable {X : Cx} {fa : Nat → Option Addr} {cf : Nat → List PV → PH → Res PV} {K : PySem.W.Frag} {io io1 io2 : List Addr} {H H1 H2 : Hp} {h : PH}
  {a b c e tg : Expr} {es : List Expr} {st : Stmt} {sts sts' : List Stmt} {pos : Pos} {ca cb cc ce : CE} {cs : CA} {ct : CT} {st1 : CS} {b1 b2 : CB}
theorem fin.ext {D : Ends} {f : Fl} {h' : PH} (q : fin K fa io H D f h') (ex : Ext io H io1 H1) : fin K fa io1 H1 D f h' := fun io' H' ex' rh' => q io' H' (ex.trans ex') rh'
/-! ### blocks -/
theorem k_nil : PSs X [] (tK X.K fa cf .nil) := wkK pss_nil fun D sg H ⟨io, s, h, f, h', rs, rh, e, q⟩ => by
  simp only [evB] at e; cases e
  exact q io H .refl rh sg rs
theorem k_cons (h1 : PS X st (tS X.K fa cf st1)) (h2 : PSs X sts (tK X.K fa cf b1)) : PSs X (st :: sts) (tK X.K fa cf (.cons st1 b1)) := wkK (pss_cons h1 h2) fun D sg H ⟨io, s, h, f, h', rs, rh, e, q⟩ => by
  simp only [evB] at e
  obtain ⟨f1, h1, e1, e⟩ := bind_ok e
  refine ⟨io, s, h, f1, h1, rs, rh, e1, fun io1 H1 ex1 rh1 => ?_⟩
  cases f1 with
  | nx s2 => exact fun sg' rs' => ⟨io1, s2, h1, f, h', rs', rh1, e, q.ext ex1⟩
  | rt v => cases e; exact q io1 H1 ex1 rh1
  | bk s2 => cases e; exact q io1 H1 ex1 rh1
  | ct s2 => cases e; exact q io1 H1 ex1 rh1
/-! ### statements -/
theorem s_pass : PS X (.Pass pos) (tS X.K fa cf .pass) := wkS ps_pass fun D sg H ⟨io, s, h, f, h', rs, rh, e, q⟩ => by
  simp only [evS] at e; cases e
  exact q io H .refl rh sg rs
theorem s_doc {x j pos'} : PS X (.Expr (.Constant (.str x) j pos) pos') (tS X.K fa cf .pass) := wkS ps_doc fun D sg H ⟨io, s, h, f, h', rs, rh, e, q⟩ => by
  simp only [evS] at e; cases e
  exact q io H .refl rh sg rs
theorem s_brk : PS X (.Break pos) (tS X.K fa cf .brk) := wkS ps_break fun D sg H ⟨io, s, h, f, h', rs, rh, e, q⟩ => by
  simp only [evS] at e; cases e
  exact q io H .refl rh sg rs
theorem s_cnt : PS X (.Continue pos) (tS X.K fa cf .cnt) := wkS ps_continue fun D sg H ⟨io, s, h, f, h', rs, rh, e, q⟩ => by
  simp only [evS] at e; cases e
  exact q io H .refl rh sg rs
theorem s_expr (he : PE X e (tE X.K fa cf ce)) (hs : swapsWith e none pos.line X.env = pure false := by rfl) : PS X (.Expr e pos) (tS X.K fa cf (.expr ce)) := wkS (ps_expr he hs) fun D sg H ⟨io, s, h, f, h', rs, rh, e, q⟩ => by
  simp only [evS] at e
  obtain ⟨x, h1, e1, e⟩ := bind_ok e
  cases e
  exact ⟨io, s, h, x, _, rs, rh, e1, fun io1 H1 v ex1 rh1 rv => q io1 H1 ex1 rh1 sg (rs.mono ex1)⟩
theorem s_ret (he : PE X e (tE X.K fa cf ce)) : PS X (.Return (some e) pos) (tS X.K fa cf (.ret ce)) := wkS (ps_ret he) fun D sg H ⟨io, s, h, f, h', rs, rh, e, q⟩ => by
  simp only [evS] at e
  obtain ⟨x, h1, e1, e⟩ := bind_ok e
  cases e
  exact ⟨io, s, h, x, _, rs, rh, e1, fun io1 H1 v ex1 rh1 rv => q io1 H1 ex1 rh1 v rv⟩
theorem s_retN : PS X (.Return none pos) (tS X.K fa cf .retN) := wkS ps_retN fun D sg H ⟨io, s, h, f, h', rs, rh, e, q⟩ => by
  simp only [evS] at e; cases e
  exact q io H .refl rh .non .non
/-- a raise that the run never comes to -/
theorem s_raise {c : Nat} {es : CA} : PS X st (tS X.K fa cf (.raise c es)) := wkS ps_never fun D sg H ⟨io, s, h, f, h', rs, rh, e, q⟩ => by
  simp only [evS] at e
  obtain ⟨x, h1, e1, e⟩ := bind_ok e
  cases e
theorem s_set {i : Nat} {x : Str} {pos' : Pos} (hN : X.N.Nodup) (hi : X.N[i]? = some x) (hx : Loc X.env.scope x) (he : PE X e (tE X.K fa cf ce)) (hs : swapsWith e (some (.Name x pos')) pos.line X.env = pure false := by rfl)
    (hf : X.fn x = true ∨ X.env.scope.names.lookup x = some .local := by first | exact .inl rfl | exact .inr rfl | assumption) :
    PS X (.Assign [.Name x pos'] e pos) (tS X.K fa cf (.asg (.v i) ce)) := wkS (ps_set hN hi hx he hs hf) fun D sg H ⟨io, s, h, f, h', rs, rh, e, q⟩ => by
  simp only [evS] at e
  obtain ⟨x, h1, e1, e⟩ := bind_ok e
  obtain ⟨s2, h2, e2, e⟩ := bind_ok e
  cases e
  simp only [asT] at e2
  cases e2
  exact ⟨io, s, h, x, _, rs, rh, e1, fun io1 H1 v ex1 rh1 rv => q io1 H1 ex1 rh1 _ ((rs.mono ex1).set rv i)⟩
theorem s_asg (he : PE X e (tE X.K fa cf ce)) (hg : PG X tg (tG X.K fa cf ct)) (hs : swapsWithSole [tg] e pos.line X.env = pure false := by rfl) (hw : swappedStores [tg] e X.env = pure none := by rfl)
    (h1 : (assignEach [tg] X.env).map (·.2) = [assign tg X.env] := by rfl) : PS X (.Assign [tg] e pos) (tS X.K fa cf (.asg ct ce)) := wkS (ps_asg he hg hs hw h1) fun D sg H ⟨io, s, h, f, h', rs, rh, e, q⟩ => by
  simp only [evS] at e
  obtain ⟨x, h1, e1, e⟩ := bind_ok e
  obtain ⟨s2, h2, e2, e⟩ := bind_ok e
  cases e
  refine ⟨io, s, h, x, _, rs, rh, e1, fun io1 H1 v ex1 rh1 rv => ⟨io1, s, h1, x, s2, _, rs.mono ex1, rh1, rv, e2, fun io2 H2 sg2 ex2 rh2 rs2 _ => q io2 H2 (ex1.trans ex2) rh2 sg2 rs2⟩⟩
theorem s_par2 {i j : Nat} {x y : Str} {px py pt : Pos} {kt k2 pt2} (hc : X.calm = true) (hN : X.N.Nodup) (hi : X.N[i]? = some x) (hj : X.N[j]? = some y) (hij : i ≠ j)
    (hx : X.env.scope.names.lookup x = some .local) (hy : X.env.scope.names.lookup y = some .local) (ha : PA X [a, b] (tA X.K fa cf cs))
    (hw : swappedStores [.Tuple [.Name x px, .Name y py] kt pt] (.Tuple [a, b] k2 pt2) X.env = pure (some [x, y]) := by rfl)
    (hs : swapsWithSole [.Tuple [.Name x px, .Name y py] kt pt] (.Tuple [a, b] k2 pt2) pos.line X.env = pure false := by rfl) :
    PS X (.Assign [.Tuple [.Name x px, .Name y py] kt pt] (.Tuple [a, b] k2 pt2) pos) (tS X.K fa cf (.par [i, j] cs)) := wkS (ps_par hc hN hi hj hij hx hy ha hw hs) fun D sg H ⟨io, s, h, f, h', rs, rh, e, q⟩ => by
  simp only [evS] at e
  obtain ⟨xs, h1, e1, e⟩ := bind_ok e
  cases hs2 : setAll [i, j] xs s with
  | none => rw [hs2] at e; cases e
  | some s2 =>
    rw [hs2] at e
    cases e
    refine ⟨io, s, h, xs, _, rs, rh, e1, fun io1 H1 vs ex1 rh1 rvs => ?_⟩
    cases rvs with
    | nil => simp [setAll] at hs2
    | cons r1 rvs =>
    cases rvs with
    | nil => simp [setAll] at hs2
    | cons r2 rvs =>
    cases rvs with
    | cons _ _ => simp [setAll] at hs2
    | nil =>
    simp only [setAll, Option.some.injEq] at hs2
    subst hs2
    exact ⟨_, _, rfl, q io1 H1 ex1 rh1 _ (((rs.mono ex1).set r1 i).set r2 j)⟩
theorem s_par3 {i j l : Nat} {x y z : Str} {px py pz pt : Pos} {kt k2 pt2} (hc : X.calm = true) (hN : X.N.Nodup) (hi : X.N[i]? = some x) (hj : X.N[j]? = some y) (hl : X.N[l]? = some z) (hij : i ≠ j) (hil : i ≠ l) (hjl : j ≠ l)
    (hx : X.env.scope.names.lookup x = some .local) (hy : X.env.scope.names.lookup y = some .local) (hz : X.env.scope.names.lookup z = some .local) (ha : PA X [a, b, c] (tA X.K fa cf cs))
    (hw : swappedStores [.Tuple [.Name x px, .Name y py, .Name z pz] kt pt] (.Tuple [a, b, c] k2 pt2) X.env = pure (some [x, y, z]) := by rfl)
    (hs : swapsWithSole [.Tuple [.Name x px, .Name y py, .Name z pz] kt pt] (.Tuple [a, b, c] k2 pt2) pos.line X.env = pure false := by rfl) :
    PS X (.Assign [.Tuple [.Name x px, .Name y py, .Name z pz] kt pt] (.Tuple [a, b, c] k2 pt2) pos) (tS X.K fa cf (.par [i, j, l] cs)) := wkS (ps_par3 hc hN hi hj hl hij hil hjl hx hy hz ha hw hs) fun D sg H ⟨io, s, h, f, h', rs, rh, e, q⟩ => by
  simp only [evS] at e
  obtain ⟨xs, h1, e1, e⟩ := bind_ok e
  cases hs2 : setAll [i, j, l] xs s with
  | none => rw [hs2] at e; cases e
  | some s2 =>
    rw [hs2] at e
    cases e
    refine ⟨io, s, h, xs, _, rs, rh, e1, fun io1 H1 vs ex1 rh1 rvs => ?_⟩
    cases rvs with
    | nil => simp [setAll] at hs2
    | cons r1 rvs =>
    cases rvs with
    | nil => simp [setAll] at hs2
    | cons r2 rvs =>
    cases rvs with
    | nil => simp [setAll] at hs2
    | cons r3 rvs =>
    cases rvs with
    | cons _ _ => simp [setAll] at hs2
    | nil =>
    simp only [setAll, Option.some.injEq] at hs2
    subst hs2
    exact ⟨_, _, _, rfl, q io1 H1 ex1 rh1 _ ((((rs.mono ex1).set r1 i).set r2 j).set r3 l)⟩
theorem aug_of {i : Nat} {x : Str} {pos' : Pos} {op : Operator} {bo : BinO} {g : Int → Int → Int} (hp : PIp X op (ipI g)) (hb : ∀ i j h, binop bo (.int i) (.int j) h = .ok (.int (g i j)) h)
    (hN : X.N.Nodup) (hi : X.N[i]? = some x) (hx : Loc X.env.scope x) (he : PE X e (tE X.K fa cf ce)) (hf : X.fn x = true ∨ X.env.scope.names.lookup x = some .local) :
    PS X (.AugAssign (.Name x pos') op e pos) (tS X.K fa cf (.aug i bo ce)) := wkS (ps_aug hN hi hx he hp hf) fun D sg H ⟨io, s, h, f, h', rs, rh, e, q⟩ => by
  simp only [evS] at e
  cases hx : s[i]? with
  | none => rw [hx] at e; cases e
  | some ox =>
  cases ox with
  | none => rw [hx] at e; cases e
  | some x =>
    rw [hx] at e
    obtain ⟨y, h1, e1, e⟩ := bind_ok e
    split at e
    · rename_i hn
      obtain ⟨hn1, hn2⟩ := hn
      cases x <;> try (simp [isNum] at hn1; done)
      cases y <;> try (simp [isNum] at hn2; done)
      rename_i m n
      rw [hb] at e
      simp only [Res.bind] at e
      cases e
      obtain ⟨v, g1, g2⟩ := rs.at_ i _ hx
      cases g2
      refine ⟨_, g1, io, s, h, _, _, rs, rh, e1, fun io1 H1 v ex1 rh1 rv => ?_⟩
      cases rv
      exact ⟨_, _, rfl, rfl, q io1 H1 ex1 rh1 _ ((rs.mono ex1).set (.int _) i)⟩
    · cases e
theorem s_iadd {i : Nat} {x : Str} {pos' : Pos} (hN : X.N.Nodup) (hi : X.N[i]? = some x) (hx : Loc X.env.scope x) (he : PE X e (tE X.K fa cf ce)) (hf : X.fn x = true ∨ X.env.scope.names.lookup x = some .local := by first | exact .inl rfl | exact .inr rfl | assumption) :
    PS X (.AugAssign (.Name x pos') .Add e pos) (tS X.K fa cf (.aug i .add ce)) := aug_of ip_add (fun i j h => rfl) hN hi hx he hf
theorem s_isub {i : Nat} {x : Str} {pos' : Pos} (hN : X.N.Nodup) (hi : X.N[i]? = some x) (hx : Loc X.env.scope x) (he : PE X e (tE X.K fa cf ce)) (hf : X.fn x = true ∨ X.env.scope.names.lookup x = some .local := by first | exact .inl rfl | exact .inr rfl | assumption) :
    PS X (.AugAssign (.Name x pos') .Sub e pos) (tS X.K fa cf (.aug i .sub ce)) := aug_of ip_sub (fun i j h => rfl) hN hi hx he hf
theorem s_if (hc : PT X c (tT X.K fa cf cc)) (ha : PSs X sts (tK X.K fa cf b1)) (hb : PSs X sts' (tK X.K fa cf b2)) : PS X (.If c sts sts' pos) (tS X.K fa cf (.ifs cc b1 b2)) := wkS (ps_if hc ha hb) fun D sg H ⟨io, s, h, f, h', rs, rh, e, q⟩ => by
  simp only [evS] at e
  obtain ⟨x, h1, e1, e⟩ := bind_ok e
  cases x <;> try (cases e; done)
  rename_i bb
  refine ⟨io, s, h, bb, h1, rs, rh, e1, fun io1 H1 ex1 rh1 => ?_⟩
  cases bb with
  | true => exact ⟨io1, s, h1, f, h', rs.mono ex1, rh1, e, q.ext ex1⟩
  | false => exact ⟨io1, s, h1, f, h', rs.mono ex1, rh1, e, q.ext ex1⟩
theorem s_while (hp : PassesOwn (model X.prog X.w) X.A X.env X.xe) (hc : PT X c (tT X.K fa cf cc)) (hb : PSs X sts (tK X.K fa cf b1)) : PS X (.While c sts [] pos) (tS X.K fa cf (.whl cc b1)) := wkS (ps_while hp hc hb) fun D sg H ⟨io, s, h, f, h', rs, rh, e, q⟩ => by
  simp only [evS] at e
  generalize fuel = n at e
  refine ⟨fun m sg1 H1 => ∃ io1 s1 h1, Ext io H io1 H1 ∧ RS X.K fa io1 H1 sg1 s1 ∧ RH X.K fa io1 H1 h1 ∧ whL (evE cf cc) (evB cf b1) m s1 h1 = .ok f h', ⟨n, io, s, h, .refl, rs, rh, e⟩, ?_⟩
  rintro m sg1 H1 ⟨io1, s1, h1, ex1, rs1, rh1, e⟩
  cases m with
  | zero => simp only [whL] at e; cases e
  | succ m =>
    simp only [whL] at e
    obtain ⟨x, h2, e2, e⟩ := bind_ok e
    cases x <;> try (cases e; done)
    rename_i bb
    refine ⟨io1, s1, h1, bb, h2, rs1, rh1, e2, fun io2 H2 ex2 rh2 => ?_⟩
    cases bb with
    | false =>
      cases e
      exact q io2 H2 (ex1.trans ex2) rh2 sg1 (rs1.mono ex2)
    | true =>
      simp only [if_true]
      obtain ⟨f2, h3, e3, e⟩ := bind_ok e
      refine ⟨_, fun sg' H' w => ⟨m, Nat.lt_succ_self m, w⟩, io2, s1, h2, f2, h3, rs1.mono ex2, rh2, e3, fun io3 H3 ex3 rh3 => ?_⟩
      have exT := (ex1.trans ex2).trans ex3
      cases f2 with
      | nx s2 => exact fun sg' rs' => ⟨io3, s2, h3, exT, rs', rh3, e⟩
      | ct s2 => exact fun sg' rs' => ⟨io3, s2, h3, exT, rs', rh3, e⟩
      | bk s2 => cases e; exact q io3 H3 exT rh3
      | rt v => cases e; exact q io3 H3 exT rh3
theorem s_for {ci : CI} (hp : PassesOwn (model X.prog X.w) X.A X.env X.xe) (hc : X.calm = true) (hi : PI X tg e (tI X.K fa cf ci)) (hg : PG X tg (tG X.K fa cf ct)) (hb : PSs X sts (tK X.K fa cf b1))
    (hs : ∀ x, foldedSetIterable e X.env x = pure x := by intro _; rfl) : PS X (.For tg e sts [] pos) (tS X.K fa cf (.for_ ct ci b1)) := wkS (ps_for hp hc hi hg hb hs) fun D sg H ⟨io, s, h, f, h', rs, rh, e, q⟩ => by
  simp only [evS] at e
  obtain ⟨p, h1, e1, e⟩ := bind_ok e
  refine ⟨io, s, h, p, h1, rs, rh, e1, fun io1 H1 ex1 rh1 J gd => ?_⟩
  refine ⟨fun i m sg2 H2 => m = p.1.length - i ∧ i ≤ p.1.length ∧ ∃ io2 s2 h2, Ext io1 H1 io2 H2 ∧ RS X.K fa io2 H2 sg2 s2 ∧ RH X.K fa io2 H2 h2 ∧ frL (asT cf ct) (evB cf b1) p.2 (p.1.drop i) s2 h2 = .ok f h',
    ⟨p.1.length, by simp, Nat.zero_le _, io1, s, h1, .refl, rs.mono ex1, rh1, by simpa using e⟩, ?_⟩
  rintro i m sg2 H2 ⟨rfl, hi, io2, s2, h2, ex2, rs2, rh2, e⟩
  cases hd : p.1.drop i with
  | nil =>
    rw [hd] at e
    simp only [frL] at e
    by_cases hl : leans p.2 h2 = true
    case neg => rw [if_neg hl] at e; cases e
    rw [if_pos hl] at e
    have hgd := (gd io2 H2 h2 ex2 rh2 hl).2
    have hli : i = p.1.length := by
      have := congrArg List.length hd
      simp at this; omega
    subst hli
    cases e
    exact .inl ⟨hgd, q io2 H2 (ex1.trans ex2) rh2 sg2 rs2⟩
  | cons x rest =>
    have hx : p.1[i]? = some x := by
      have := congrArg (·[0]?) hd
      simpa using this
    have hrest : p.1.drop (i + 1) = rest := by
      have := congrArg (·.drop 1) hd
      simpa [List.drop_drop, Nat.add_comm] using this
    have hlt : i < p.1.length := (List.getElem?_eq_some_iff.mp hx).1
    rw [hd] at e
    simp only [frL] at e
    by_cases hl : leans p.2 h2 = true
    case neg => rw [if_neg hl] at e; cases e
    rw [if_pos hl] at e
    obtain ⟨s3, h3, e3, e⟩ := bind_ok e
    obtain ⟨f4, h4, e4, e⟩ := bind_ok e
    obtain ⟨hgo, hyl⟩ := (gd io2 H2 h2 ex2 rh2 hl).1 i x hx
    refine .inr ⟨hgo, _, fun sg' H' w => ⟨p.1.length - (i + 1), by omega, w⟩, fun v H3 hy => ?_⟩
    obtain ⟨ex3, rh3, rv3⟩ := hyl v H3 hy
    refine ⟨io2, s2, h2, x, s3, h3, rs2.mono ex3, rh3, rv3, e3, fun io4 H4 sg4 ex4 rh4 rs4 _ => ⟨io4, s3, h3, f4, h4, rs4, rh4, e4, fun io5 H5 ex5 rh5 => ?_⟩⟩
    have exT := ((ex2.trans ex3).trans ex4).trans ex5
    cases f4 with
    | nx s5 => exact fun sg' rs' => ⟨rfl, hlt, io5, s5, h4, exT, rs', rh5, by rw [hrest]; exact e⟩
    | ct s5 => exact fun sg' rs' => ⟨rfl, hlt, io5, s5, h4, exT, rs', rh5, by rw [hrest]; exact e⟩
    | bk s5 => cases e; exact q io5 H5 (ex1.trans exT) rh5
    | rt v => cases e; exact q io5 H5 (ex1.trans exT) rh5
end
end PB

set_option Elab.async false
set_option linter.all false
set_option maxRecDepth 100000
set_option maxHeartbeats 2000000
namespace PB
open PySem PySem.Spec PyProof.Rows L2 HT
section
variable {prog : Program} {w : World} {A : Around} {E : Value → Shared → Prop} {s : Shared}
theorem sliceApplied_rev {sl : Addr} {vs : Value} {n : Nat} {Q : Int × Int × Nat → Shared → Prop} (hs : s.heap.IsSliceOf sl .none .none vs) (ps : IsPart vs (some (-1)))
    (h : Q ((n : Int) - 1, -1, n) s) : wpAny (model prog w) A (Builtin.Slice.sliceApplied (.ref sl) (pure (n : Int))) Q E s := by
  obtain ⟨os, hos, hcs, hds⟩ := id hs
  unfold Builtin.Slice.sliceApplied Builtin.Slice.sliceFields
  refine wpAny_bind (wpAny_bind (wpAny_field hos hds (x := .none) rfl (wpAny_bind (wpAny_field hos hds (x := .none) rfl (wpAny_bind (wpAny_field hos hds (x := vs) rfl (wpAny_pure ?_)))))))
  refine wpAny_bind (slicePart_ ps ?_)
  show wpAny _ _ (if ((-1 : Int) == 0) = true then _ else _) _ _ s
  rw [if_neg (by decide)]
  refine wpAny_bind (slicePart_none (wpAny_bind (slicePart_none (wpAny_bind (wpAny_pure ?_)))))
  have e1 : Builtin.Slice.sliceAdjust none none (-1) (n : Int) = ((n : Int) - 1, -1) := rfl
  have e2 : Builtin.Slice.slicePlaces ((n : Int) - 1) (-1) (-1) = n := by
    unfold Builtin.Slice.slicePlaces
    have h1 : ¬ ((-1 : Int) > 0) := by omega
    have h2 : (- -1 : Int) = 1 := rfl
    simp only [h1, if_false, h2, Int.ediv_one]
    split <;> omega
  show wpAny _ _ (match Builtin.Slice.sliceAdjust none none (-1) (n : Int) with | (lo, hi) => pure (lo, (-1 : Int), Builtin.Slice.slicePlaces lo hi (-1))) _ _ s
  rw [e1]
  show wpAny _ _ (pure ((n : Int) - 1, (-1 : Int), Builtin.Slice.slicePlaces ((n : Int) - 1) (-1) (-1))) _ _ s
  rw [e2]
  exact wpAny_pure h
theorem pick_rev (xs : Array Value) : ((List.range xs.size).filterMap fun (k : Nat) => xs[(((xs.size : Int) - 1) + (k : Int) * (-1)).toNat]?).toArray = xs.toList.reverse.toArray := by
  have h := PySem.W.krv_all xs
  have e : (List.range xs.size).filterMap (fun (k : Nat) => xs[(((xs.size : Int) - 1) + (k : Int) * (-1)).toNat]?) = ((List.range xs.size).map (fun k => xs.size - 1 - k)).filterMap (xs[·]?) := by
    rw [List.filterMap_map]
    have key : ∀ l : List Nat, (∀ k ∈ l, k < xs.size) → l.filterMap (fun (k : Nat) => xs[(((xs.size : Int) - 1) + (k : Int) * (-1)).toNat]?) = l.filterMap ((fun x => xs[x]?) ∘ fun k => xs.size - 1 - k) := by
      intro l
      induction l with
      | nil => intro _; rfl
      | cons k l ih =>
        intro hl
        have hk := hl k (by simp)
        have e : (((xs.size : Int) - 1) + (k : Int) * (-1)).toNat = xs.size - 1 - k := by omega
        rw [List.filterMap_cons, List.filterMap_cons, ih fun j hj => hl j (by simp [hj]), e]; rfl
    exact key _ fun k hk => List.mem_range.mp hk
  rw [e, PySem.W.krv_range, List.filterMap_reverse, h]
theorem getItem_tuple_rev {t sl : Addr} {items : Array Value} {vs : Value} {Q : Value → Shared → Prop} (ht : IsTup s.heap t items) (hs : s.heap.IsSliceOf sl .none .none vs) (ps : IsPart vs (some (-1)))
    (h : Q (.ref s.heap.objs.size) { s with heap := s.heap.push { cls := .type "tuple", data := .seq items.toList.reverse.toArray } })
    (hsz : items.size ≤ sizeLine) : wpAny (model prog w) A (getItem (.ref t) (.ref sl)) Q E s := by
  have htake : sizeOk (.seq items.toList.reverse.toArray) := by
    show items.toList.reverse.toArray.size ≤ sizeLine
    simpa using hsz
  obtain ⟨os, hos, hcs, hds⟩ := id hs
  have hTs : s.TypeIs (.ref sl) "slice" := ⟨os, hos, hcs⟩
  unfold getItem
  try with_reducible refine wpAny_holding ?_
  first | refine wpAny_bind (wpAny_pure ?_) | skip
  refine wpAny_bind (wpAny_sequenceKey ht.typeIs (by decide) ?_)
  refine wpAny_bind (wpAny_callSpecial?_slot (name := Str.ofString "__getitem__") ht.typeIs PyProof.Rows.slot_tuple_getitem
    (wpAny_call_entry PyProof.Rows.slot_tuple_getitem ht.typeIs PyProof.Rows.entry_tuple_getitem ?_ (PyProof.Rows.args_tuple_getitem _ _)))
  show wpAny _ _ (Builtin.Tuple.tupleItemsOf (.ref t) >>= _) _ _ s
  refine wpAny_bind (tupleItemsOf_ ht ?_)
  refine wpAny_bind (wpAny_typeOf hTs ?_)
  rw [if_pos (by decide)]
  refine wpAny_bind (sliceApplied_rev hs ps ?_)
  have hno : ¬ ((((items.size : Int) - 1) == 0 && (-1 : Int) == 1 && items.size == items.size) = true) := by
    intro q
    rw [Bool.and_eq_true, Bool.and_eq_true] at q
    exact absurd q.1.2 (by decide)
  show wpAny _ _ (if (((items.size : Int) - 1) == 0 && (-1 : Int) == 1 && items.size == items.size) = true then _ else _) _ _ s
  rw [if_neg hno, pick_rev]
  first
    | exact wpAny_bind (m := Builtin.Tuple.tupleExact _) (wpAny_newObj_type (wpAny_pure ⟨_, rfl, wpAny_pure h⟩) htake)
    | exact wpAny_bind (m := Builtin.Tuple.tupleExact _) (wpAny_newObj_type (wpAny_bind (wpAny_pure (wpAny_pure ⟨_, rfl, wpAny_pure h⟩))) htake)
    | exact wpAny_bind (wpAny_bind (m := Builtin.Tuple.tupleExact _) (wpAny_newObj_type (wpAny_pure (wpAny_pure ⟨_, rfl, wpAny_pure h⟩)) htake))
    | exact wpAny_bind (wpAny_bind (m := Builtin.Tuple.tupleExact _) (wpAny_newObj_type (wpAny_pure ⟨_, rfl, wpAny_pure h⟩) htake))
end
section
variable {X : Cx} {fa : Nat → Option Addr} {cf : Nat → List PV → PH → Res PV}
def tRevA (K : PySem.W.Frag) (te : TE) : TE := fun σ H Q => te σ H fun x H1 => ∃ a xs, x = .ref a ∧ ((SqL K H1 a xs ∧ ∀ p, H1 p = none → Q (.ref p) (upd H1 p (.lst xs.reverse))) ∨ (SqT K H1 a xs ∧ NewT Q H1 xs.reverse))
theorem pe_revA {e : Expr} {te : TE} {k : Nat} {p1 p2 p3 pos : Pos} (he : PE X e te) : PE X (.Subscript e (.Slice none none (some (.UnaryOp .USub (.Constant (.int 1) k p1) p2)) p3) pos) (tRevA X.K te) := by
  refine ⟨fun pins s σ H Q I h => ?_⟩
  refine Subscript_ (thn (he.run pins s σ H _ I h) fun v s1 ⟨x, H1, I1, r1, q1⟩ => ?_)
  obtain ⟨a, xs, ex, q1⟩ := q1
  subst ex
  cases r1
  have hst : L2.PO X (some (.UnaryOp .USub (.Constant (.int 1) k p1) p2)) (tPart (tUn (rU fun i => .int (-i)) (tC (.int 1)))) := po_some (pe_un un_neg pe_int)
  refine wpAny_Slice (thn (po_none.run pins s1 σ H1 (fun o H2 => o = none ∧ H2 = H1) I1 ⟨rfl, rfl⟩) fun vl s2 ⟨l, H2, I2, pl, el, e2⟩ => ?_)
  subst el e2
  refine thn (po_none.run pins s2 σ H2 (fun o H3 => o = none ∧ H3 = H2) I2 ⟨rfl, rfl⟩) fun vu s3 ⟨u, H3, I3, pu, eu, e3⟩ => ?_
  subst eu e3
  refine thn (hst.run pins s3 σ H3 (fun o H4 => o = some (-1) ∧ H4 = H3) I3 ⟨1, rfl, -1, rfl, rfl, rfl⟩) fun vs s4 ⟨o, H4, I4, ps, eo, e4⟩ => ?_
  subst eo e4
  have I5 : Inv X pins σ H4 { s4 with heap := s4.heap.push { cls := .type "slice", data := .fields #[vl, vu, vs] } } := I4.kept (t' := s4.toks) fun b ob q => Heap.get?_push_of_some _ q
  show wpAny (model X.prog X.w) X.A (subscriptTail e (.Slice none none (some (.UnaryOp .USub (.Constant (.int 1) k p1) p2)) p3) (.ref a) (.ref s4.heap.objs.size)) (EP X pins σ Q) X.xe { s4 with heap := s4.heap.push { cls := .type "slice", data := .fields #[vl, vu, vs] } }
  rcases q1 with ⟨hx, q⟩ | ⟨hx, q⟩
  · obtain ⟨its, r, ht, hz⟩ := I5.list hx
    have hlen := r.length
    refine tail_any (ops := [.ref a, .ref s4.heap.objs.size]) ht.isList.typeIs (PySem.slot_list_getitem.lookup) ?_ (by with_unfolding_all rfl)
    refine wpAny_getItem_list_slice ht.isList (Heap.IsSliceOf.new _ vl vu vs) pl pu ps (by decide) ?_ (by rw [List.size_toArray]; omega)
    rw [PySem.W.krv_pick]
    refine ⟨.ref _, _, I5.laid (t' := s4.toks) (o := .lst xs.reverse) (fun b ob q => Heap.get?_push_of_some _ q) (Nat.le_refl _) ?_, rfl, q _ (I5.hok.fresh (Nat.le_refl _))⟩
    exact ⟨by rw [List.length_reverse]; exact hz, _, 0, r.reverse, Heap.get?_push_size _ rfl⟩
  · obtain ⟨its, r, ht, hz⟩ := I5.tuple hx
    have hlen := r.length
    cases pl
    cases pu
    refine tail_any (ops := [.ref a, .ref s4.heap.objs.size]) ht.typeIs (PyProof.Rows.slot_tuple_getitem.lookup) ?_ (by with_unfolding_all rfl)
    refine getItem_tuple_rev ht (Heap.IsSliceOf.new _ .none .none vs) ps ?_ (by rw [List.size_toArray]; omega)
    exact laid_tup I5 (by rw [List.length_reverse]; exact hz) r.reverse q
theorem e_rev {e : Expr} {ce : CE} {k : Nat} {p1 p2 p3 pos : Pos} (he : PE X e (tE X.K fa cf ce)) : PE X (.Subscript e (.Slice none none (some (.UnaryOp .USub (.Constant (.int 1) k p1) p2)) p3) pos) (tE X.K fa cf (.rev ce)) :=
  wkE (pe_revA he) fun sg H Q ⟨io, s, h, r, h', rs, rh, e, q⟩ => by
    simp only [evE] at e
    obtain ⟨x, h1, e1, e⟩ := bind_ok e
    refine ⟨io, s, h, x, h1, rs, rh, e1, fun io1 H1 v ex1 rh1 rv => ?_⟩
    unfold revop at e
    split at e
    · rename_i xs
      cases e
      cases rv with
      | @tup a vs _ sq rr => exact ⟨a, vs, rfl, .inr ⟨sq.t, tup_ok rh1 rr.reverse fun io' H' v ex2 rh2 rv2 => q io' H' v (ex1.trans ex2) rh2 rv2⟩⟩
    · rename_i n
      split at e
      · rename_i xs hx
        obtain ⟨a, vs, rfl, _, ha, rr⟩ := rh1.list rv hx
        exact ⟨a, vs, rfl, .inl ⟨.inl (.inl ha), alloc_ok rh1 rr.reverse e fun io' H' v ex2 rh2 rv2 => q io' H' v (ex1.trans ex2) rh2 rv2⟩⟩
      · cases e
    · cases e
end
end PB

set_option Elab.async false
set_option linter.all false
set_option maxRecDepth 100000
set_option maxHeartbeats 2000000
namespace PB
open PySem PySem.Spec PyProof.Rows L2 HT
theorem seconds_range {α : Type} : ∀ (xs : List α), (List.range ((xs.length + 1) / 2)).filterMap (fun k => xs[2 * k]?) = seconds xs
  | [] => by simp [seconds]
  | [x] => by simp [seconds, List.range_succ]
  | x :: y :: r => by
    have e : ((x :: y :: r).length + 1) / 2 = (r.length + 1) / 2 + 1 := by simp only [List.length_cons]; omega
    rw [e, List.range_succ_eq_map, List.filterMap_cons, List.filterMap_map]
    have ih := seconds_range r
    show x :: _ = x :: seconds r
    rw [← ih]
    refine congrArg (x :: ·) ?_
    have key : ∀ l : List Nat, l.filterMap ((fun k => (x :: y :: r)[2 * k]?) ∘ Nat.succ) = l.filterMap (fun k => r[2 * k]?) := by
      intro l
      induction l with
      | nil => rfl
      | cons k l ih =>
        have e2 : 2 * Nat.succ k = 2 * k + 1 + 1 := by omega
        rw [List.filterMap_cons, List.filterMap_cons, ih]
        simp only [Function.comp, e2, List.getElem?_cons_succ]
    exact key _
theorem seconds_length {α : Type} : ∀ (xs : List α), (seconds xs).length = (xs.length + 1) / 2
  | [] => by simp [seconds]
  | [x] => by simp [seconds]
  | x :: y :: r => by simp only [seconds, List.length_cons, seconds_length r]; omega
theorem seconds_mem {α : Type} : ∀ (xs : List α), ∀ x ∈ seconds xs, x ∈ xs
  | [], x, h => by simp [seconds] at h
  | [y], x, h => by simpa [seconds] using h
  | a :: b :: r, x, h => by
    simp only [seconds, List.mem_cons] at h
    rcases h with h | h
    · simp [h]
    · simp [seconds_mem r x h]
theorem pick_two (xs : Array Value) (k : Nat) : ((List.range ((xs.size - k + 1) / 2)).filterMap fun (j : Nat) => xs[((k : Int) + (j : Int) * 2).toNat]?).toArray = (seconds (xs.toList.drop k)).toArray := by
  have h := seconds_range (xs.toList.drop k)
  rw [List.length_drop, Array.length_toList] at h
  rw [← h]
  congr 1
  have key : ∀ l : List Nat, l.filterMap (fun (j : Nat) => xs[((k : Int) + (j : Int) * 2).toNat]?) = l.filterMap (fun j => (xs.toList.drop k)[2 * j]?) := by
    intro l
    induction l with
    | nil => rfl
    | cons j l ih =>
      have e : ((k : Int) + (j : Int) * 2).toNat = k + 2 * j := by omega
      rw [List.filterMap_cons, List.filterMap_cons, ih, e, List.getElem?_drop, Array.getElem?_toList]
  exact key _
theorem Vals.drop' {xs : List V} {vs : List Value} (h : Vals xs vs) : ∀ k, Vals (xs.drop k) (vs.drop k) := by
  induction h with
  | nil => intro k; cases k <;> exact .nil
  | cons a r ih =>
    intro k
    cases k with
    | zero => exact .cons a r
    | succ k => exact ih k
theorem Vals.seconds' : ∀ {xs : List V} {vs : List Value}, Vals xs vs → Vals (seconds xs) (seconds vs)
  | _, _, .nil => .nil
  | _, _, .cons a .nil => .cons a .nil
  | _, _, .cons a (.cons b r) => .cons a (Vals.seconds' r)
section
variable {prog : Program} {w : World} {A : Around} {E : Value → Shared → Prop} {s : Shared}
theorem sliceApplied_two {sl : Addr} {vl vs : Value} {lo : Option Int} {n : Nat} {Q : Int × Int × Nat → Shared → Prop} (hs : s.heap.IsSliceOf sl vl .none vs) (pl : IsPart vl lo) (ps : IsPart vs (some 2)) (h0 : 0 ≤ lo.getD 0)
    (h : Q (((min (lo.getD 0).toNat n : Nat) : Int), 2, (n - min (lo.getD 0).toNat n + 1) / 2) s) : wpAny (model prog w) A (Builtin.Slice.sliceApplied (.ref sl) (pure (n : Int))) Q E s := by
  obtain ⟨os, hos, hcs, hds⟩ := id hs
  unfold Builtin.Slice.sliceApplied Builtin.Slice.sliceFields
  refine wpAny_bind (wpAny_bind (wpAny_field hos hds (x := vl) rfl (wpAny_bind (wpAny_field hos hds (x := .none) rfl (wpAny_bind (wpAny_field hos hds (x := vs) rfl (wpAny_pure ?_)))))))
  refine wpAny_bind (slicePart_ ps ?_)
  show wpAny _ _ (if ((2 : Int) == 0) = true then _ else _) _ _ s
  rw [if_neg (by decide)]
  refine wpAny_bind (slicePart_ pl (wpAny_bind (slicePart_none (wpAny_bind (wpAny_pure ?_)))))
  have e1 : Builtin.Slice.sliceAdjust lo none 2 (n : Int) = (((min (lo.getD 0).toNat n : Nat) : Int), (n : Int)) := by
    unfold Builtin.Slice.sliceAdjust
    cases lo with
    | none =>
      show ((0 : Int), (n : Int)) = _
      have : (Option.getD (none : Option Int) 0).toNat = 0 := rfl
      rw [this, Nat.zero_min]; rfl
    | some v =>
      have h0' : 0 ≤ v := h0
      have hn : ¬ v < 0 := by omega
      have h2 : ¬ ((2 : Int) < 0) := by omega
      simp only [h2, hn, if_false, Option.getD_some, Prod.mk.injEq, and_true]
      omega
  have e2 : Builtin.Slice.slicePlaces ((min (lo.getD 0).toNat n : Nat) : Int) (n : Int) 2 = (n - min (lo.getD 0).toNat n + 1) / 2 := by
    unfold Builtin.Slice.slicePlaces
    have h1 : (2 : Int) > 0 := by omega
    simp only [h1, if_true]
    split <;> omega
  show wpAny _ _ (match Builtin.Slice.sliceAdjust lo none 2 (n : Int) with | (lo, hi) => pure (lo, (2 : Int), Builtin.Slice.slicePlaces lo hi 2)) _ _ s
  rw [e1]
  show wpAny _ _ (pure (((min (lo.getD 0).toNat n : Nat) : Int), (2 : Int), Builtin.Slice.slicePlaces ((min (lo.getD 0).toNat n : Nat) : Int) (n : Int) 2)) _ _ s
  rw [e2]
  exact wpAny_pure h
theorem getItem_tuple_two {t sl : Addr} {items : Array Value} {vl vs : Value} {lo : Option Int} {Q : Value → Shared → Prop} (ht : IsTup s.heap t items) (hs : s.heap.IsSliceOf sl vl .none vs) (pl : IsPart vl lo) (ps : IsPart vs (some 2)) (h0 : 0 ≤ lo.getD 0)
    (h : Q (.ref s.heap.objs.size) { s with heap := s.heap.push { cls := .type "tuple", data := .seq (seconds (items.toList.drop (lo.getD 0).toNat)).toArray } })
    (hsz : items.size ≤ sizeLine) : wpAny (model prog w) A (getItem (.ref t) (.ref sl)) Q E s := by
  have htake : sizeOk (.seq (seconds (items.toList.drop (lo.getD 0).toNat)).toArray) := by
    show (seconds (items.toList.drop (lo.getD 0).toNat)).toArray.size ≤ sizeLine
    rw [List.size_toArray, seconds_length, List.length_drop, Array.length_toList]
    omega
  obtain ⟨os, hos, hcs, hds⟩ := id hs
  have hTs : s.TypeIs (.ref sl) "slice" := ⟨os, hos, hcs⟩
  unfold getItem
  try with_reducible refine wpAny_holding ?_
  first | refine wpAny_bind (wpAny_pure ?_) | skip
  refine wpAny_bind (wpAny_sequenceKey ht.typeIs (by decide) ?_)
  refine wpAny_bind (wpAny_callSpecial?_slot (name := Str.ofString "__getitem__") ht.typeIs PyProof.Rows.slot_tuple_getitem
    (wpAny_call_entry PyProof.Rows.slot_tuple_getitem ht.typeIs PyProof.Rows.entry_tuple_getitem ?_ (PyProof.Rows.args_tuple_getitem _ _)))
  show wpAny _ _ (Builtin.Tuple.tupleItemsOf (.ref t) >>= _) _ _ s
  refine wpAny_bind (tupleItemsOf_ ht ?_)
  refine wpAny_bind (wpAny_typeOf hTs ?_)
  rw [if_pos (by decide)]
  refine wpAny_bind (sliceApplied_two hs pl ps h0 ?_)
  have hno : ¬ ((((min (lo.getD 0).toNat items.size : Nat) : Int) == 0 && (2 : Int) == 1 && (items.size - min (lo.getD 0).toNat items.size + 1) / 2 == items.size) = true) := by
    intro q
    rw [Bool.and_eq_true, Bool.and_eq_true] at q
    exact absurd q.1.2 (by decide)
  show wpAny _ _ (if (((min (lo.getD 0).toNat items.size : Nat) : Int) == 0 && (2 : Int) == 1 && (items.size - min (lo.getD 0).toNat items.size + 1) / 2 == items.size) = true then _ else _) _ _ s
  rw [if_neg hno, pick_two]
  have hd : items.toList.drop (min (lo.getD 0).toNat items.size) = items.toList.drop (lo.getD 0).toNat := by
    rcases Nat.le_total (lo.getD 0).toNat items.size with z | z
    · rw [Nat.min_eq_left z]
    · rw [Nat.min_eq_right z, List.drop_eq_nil_of_le (by rw [Array.length_toList]; omega), List.drop_eq_nil_of_le (by rw [Array.length_toList]; omega)]
  rw [hd]
  first
    | exact wpAny_bind (m := Builtin.Tuple.tupleExact _) (wpAny_newObj_type (wpAny_pure ⟨_, rfl, wpAny_pure h⟩) htake)
    | exact wpAny_bind (m := Builtin.Tuple.tupleExact _) (wpAny_newObj_type (wpAny_bind (wpAny_pure (wpAny_pure ⟨_, rfl, wpAny_pure h⟩))) htake)
    | exact wpAny_bind (wpAny_bind (m := Builtin.Tuple.tupleExact _) (wpAny_newObj_type (wpAny_pure (wpAny_pure ⟨_, rfl, wpAny_pure h⟩)) htake))
    | exact wpAny_bind (wpAny_bind (m := Builtin.Tuple.tupleExact _) (wpAny_newObj_type (wpAny_pure ⟨_, rfl, wpAny_pure h⟩) htake))
end
section
variable {X : Cx} {fa : Nat → Option Addr} {cf : Nat → List PV → PH → Res PV}
def tTwoA (K : PySem.W.Frag) (te : TE) (tl : L2.TO) : TE := fun σ H Q => te σ H fun x H1 => tl σ H1 fun l H2 => 0 ≤ l.getD 0 ∧ ∃ a xs, x = .ref a ∧ SqT K H2 a xs ∧ NewT Q H2 (seconds (xs.drop (l.getD 0).toNat))
theorem pe_twoA {e : Expr} {lo : Option Expr} {te : TE} {tl : L2.TO} {k : Nat} {p1 p3 pos : Pos} (he : PE X e te) (hl : L2.PO X lo tl) : PE X (.Subscript e (.Slice lo none (some (.Constant (.int 2) k p1)) p3) pos) (tTwoA X.K te tl) := by
  refine ⟨fun pins s σ H Q I h => ?_⟩
  refine Subscript_ (thn (he.run pins s σ H _ I h) fun v s1 ⟨x, H1, I1, r1, q1⟩ => ?_)
  have hst : L2.PO X (some (.Constant (.int 2) k p1)) (tPart (tC (.int 2))) := po_some pe_int
  refine wpAny_Slice (thn (hl.run pins s1 σ H1 _ I1 q1) fun vl s2 ⟨l, H2, I2, pl, q2⟩ => ?_)
  obtain ⟨h0, a, xs, ex, hx, q⟩ := q2
  subst ex
  cases r1
  refine thn (po_none.run pins s2 σ H2 (fun o H3 => o = none ∧ H3 = H2) I2 ⟨rfl, rfl⟩) fun vu s3 ⟨u, H3, I3, pu, eu, e3⟩ => ?_
  subst eu e3
  refine thn (hst.run pins s3 σ H3 (fun o H4 => o = some 2 ∧ H4 = H3) I3 ⟨2, rfl, rfl, rfl⟩) fun vs s4 ⟨o, H4, I4, ps, eo, e4⟩ => ?_
  subst eo e4
  have I5 : Inv X pins σ H4 { s4 with heap := s4.heap.push { cls := .type "slice", data := .fields #[vl, vu, vs] } } := I4.kept (t' := s4.toks) fun b ob q => Heap.get?_push_of_some _ q
  show wpAny (model X.prog X.w) X.A (subscriptTail e (.Slice lo none (some (.Constant (.int 2) k p1)) p3) (.ref a) (.ref s4.heap.objs.size)) (EP X pins σ Q) X.xe { s4 with heap := s4.heap.push { cls := .type "slice", data := .fields #[vl, vu, vs] } }
  obtain ⟨its, r, ht, hz⟩ := I5.tuple hx
  have hlen := r.length
  cases pu
  refine tail_any (ops := [.ref a, .ref s4.heap.objs.size]) ht.typeIs (PyProof.Rows.slot_tuple_getitem.lookup) ?_ (by with_unfolding_all rfl)
  refine getItem_tuple_two ht (Heap.IsSliceOf.new _ vl .none vs) pl ps h0 ?_ (by rw [List.size_toArray]; omega)
  refine laid_tup I5 ?_ (Vals.seconds' (Vals.drop' r _)) q
  rw [seconds_length, List.length_drop]; omega
theorem Rls.seconds {K : PySem.W.Frag} {io : List Addr} {H : Hp} : ∀ {vs : List V} {xs : List PV}, Rls K fa io H vs xs → Rls K fa io H (PB.seconds vs) (PB.seconds xs)
  | _, _, .nil => .nil
  | _, _, .cons a .nil => .cons a .nil
  | _, _, .cons a (.cons b r) => .cons a (Rls.seconds r)
theorem e_two {e : Expr} {lo : Option Expr} {ce : CE} {cl : CO} {k : Nat} {p1 p3 pos : Pos} (he : PE X e (tE X.K fa cf ce)) (hl : L2.PO X lo (tO X.K fa cf cl)) : PE X (.Subscript e (.Slice lo none (some (.Constant (.int 2) k p1)) p3) pos) (tE X.K fa cf (.two ce cl)) :=
  wkE (pe_twoA he hl) fun sg H Q ⟨io, s, h, r, h', rs, rh, e, q⟩ => by
    simp only [evE] at e
    obtain ⟨x, h1, e1, e⟩ := bind_ok e
    obtain ⟨l, h2, e2, e⟩ := bind_ok e
    obtain ⟨l', h4, e4, ef⟩ := bind_ok e
    have z4 := optI_ok e4
    subst z4
    clear e
    refine ⟨io, s, h, x, h1, rs, rh, e1, fun io1 H1 v ex1 rh1 rv => ⟨io1, s, h1, l, l', _, rs.mono ex1, rh1, e2, e4, fun io2 H2 ex2 rh2 => ?_⟩⟩
    unfold twoop at ef
    split at ef
    · rename_i xs
      by_cases h0 : 0 ≤ l'.getD 0
      · rw [if_pos h0] at ef
        cases ef
        cases rv with
        | @tup a vs _ sq rr =>
        exact ⟨h0, a, vs, rfl, ex2.sqT sq.t, tup_ok rh2 (((rr.mono ex2).drop _).seconds) fun io' H' v ex3 rh3 rv3 => q io' H' v ((ex1.trans ex2).trans ex3) rh3 rv3⟩
      · rw [if_neg h0] at ef; cases ef
    · cases ef
end
end PB

set_option Elab.async false
set_option linter.all false
set_option maxRecDepth 100000
set_option maxHeartbeats 2000000
namespace PB
open PySem PySem.Spec L2
section
variable {X : Cx} {fa : Nat → Option Addr} {cf : Nat → List PV → PH → Res PV} {e o a b : Expr} {es : List Expr} {ce co : CE} {cs : CA} {pos p apos cpos : Pos} {T id : String} {name : Str}
/-! ### isinstance -/
theorem kindOf_ty {io : List Addr} {H : Hp} {h : PH} {v : V} {x : PV} {k : Nat} (rh : RH X.K fa io H h) (rv : Rl X.K fa io H v x) (e : kindOf h x = some k) :
    ∃ T, (T, k) ∈ [("NoneType", 0), ("bool", 1), ("int", 2), ("str", 3), ("tuple", 4), ("list", 5)] ∧ TyX X.K H v (.type T) := by
  cases rv with
  | non => simp only [kindOf] at e; cases e; exact ⟨"NoneType", by simp, .base .non⟩
  | bl b => simp only [kindOf] at e; cases e; exact ⟨"bool", by simp, .base (.bl b)⟩
  | int i => simp only [kindOf] at e; cases e; exact ⟨"int", by simp, .base (.int i)⟩
  | str x => simp only [kindOf] at e; cases e; exact ⟨"str", by simp, .base (.str x)⟩
  | tup sq r =>
    simp only [kindOf] at e; cases e
    refine ⟨"tuple", by simp, ?_⟩
    rcases sq with ⟨o, h, _⟩ | ⟨o, its, n, h1, h2, _⟩
    · exact .fTuple h
    · exact .kTuple h1 h2
  | wtup _ _ => simp only [kindOf] at e; cases e
  | scr _ _ => simp only [kindOf] at e; cases e
  | fn _ => simp only [kindOf] at e; cases e
  | @ref a n hn =>
    simp only [kindOf] at e
    split at e <;> cases e
    rename_i hx
    obtain ⟨b, vs, e1, e2, _⟩ := rh.cell _ _ hx
    rw [hn] at e1; cases e1
    exact ⟨"list", by simp, .base (.lst e2)⟩
/-- the class that is asked for, and the answer by kind -/
def isiB (f : Blt) : List String := match f with
  | .isInt => ["int"] | .isBool => ["bool"] | .isTup => ["tuple"] | .isStr => ["str"] | .isList => ["list"] | _ => []
def isiAns (f : Blt) (k : Nat) : Bool := match f with
  | .isInt => k == 2 || k == 1 | .isBool => k == 1 | .isTup => k == 4 | .isStr => k == 3 | .isList => k == 5 | _ => false
theorem kitB_int : ∀ q ∈ [("NoneType", 0), ("bool", 1), ("int", 2), ("str", 3), ("tuple", 4), ("list", 5)], kitB q.1 "int" = some (isiAns .isInt q.2) := by decide +kernel
theorem kitB_bool : ∀ q ∈ [("NoneType", 0), ("bool", 1), ("int", 2), ("str", 3), ("tuple", 4), ("list", 5)], kitB q.1 "bool" = some (isiAns .isBool q.2) := by decide +kernel
theorem kitB_tup : ∀ q ∈ [("NoneType", 0), ("bool", 1), ("int", 2), ("str", 3), ("tuple", 4), ("list", 5)], kitB q.1 "tuple" = some (isiAns .isTup q.2) := by decide +kernel
theorem kitB_str : ∀ q ∈ [("NoneType", 0), ("bool", 1), ("int", 2), ("str", 3), ("tuple", 4), ("list", 5)], kitB q.1 "str" = some (isiAns .isStr q.2) := by decide +kernel
theorem kitB_list : ∀ q ∈ [("NoneType", 0), ("bool", 1), ("int", 2), ("str", 3), ("tuple", 4), ("list", 5)], kitB q.1 "list" = some (isiAns .isList q.2) := by decide +kernel
theorem isi_of {f : Blt} {c : Str} {C : String} {p2 : Pos} (hB : ∀ q ∈ [("NoneType", 0), ("bool", 1), ("int", 2), ("str", 3), ("tuple", 4), ("list", 5)], kitB q.1 C = some (isiAns f q.2))
    (hf : ∀ x h, blt f [x] h = match kindOf h x with | some k => .ok (.bl (isiAns f k)) h | none => .bad)
    (hg : Gl X "isinstance") (hm : X.mg "isinstance" = none) (hg2 : Gl X c) (hm2 : X.mg c = none) (hv : bootBuiltins c = some (.type C)) (hn : c ≠ "__name__") (hd : (c == ("__debug__" : Str)) = false)
    (h : PE X e (tE X.K fa cf ce)) (hs1 : starEach [e, .Name c p2] X.env = (false, eval e X.env) :: starEach [.Name c p2] X.env) (hs2 : starEach [.Name c p2] X.env = (false, eval (.Name c p2) X.env) :: starEach [] X.env) (hpl : (backTo pos (starEach [.Name c p2] X.env)).any (·.1) = false) :
    PE X (.Call (.Name "isinstance" p) [e, .Name c p2] [] pos) (tE X.K fa cf (.blt f (.cons ce .nil))) :=
  wkE (pe_callB call_isi hg hm PyProof.Rows.boot_isinstance (pa_cons h (pa_cons (pe_bltn (v := .ty C) hg2 hm2 hv rfl hn hd) pa_nil hs2) hs1) (he := hs1) (hpl := hpl)) fun sg H Q ⟨io, s, h, r, h', rs, rh, e, q⟩ => by
    simp only [evE] at e
    obtain ⟨xs, h1, e1, e⟩ := bind_ok e
    simp only [evA] at e1
    obtain ⟨x, h2, e2, e1⟩ := bind_ok e1
    cases e1
    refine ⟨io, s, h, x, h1, rs, rh, e2, fun io1 H1 v ex1 rh1 rv => ?_⟩
    rw [hf] at e
    cases hk : kindOf h1 x with
    | none => rw [hk] at e; cases e
    | some k =>
      rw [hk] at e
      cases e
      obtain ⟨T, hT, ty⟩ := kindOf_ty rh1 rv hk
      exact ⟨v, .ty C, .type T, .type C, isiAns f k, rfl, .ty C, ty, kit_ty (hB _ hT), q io1 H1 _ ex1 rh1 (.bl _)⟩
theorem e_isInt {p2 : Pos} (hg : Gl X "isinstance") (hm : X.mg "isinstance" = none) (hg2 : Gl X "int") (hm2 : X.mg "int" = none) (h : PE X e (tE X.K fa cf ce)) (hs1 : starEach [e, .Name "int" p2] X.env = (false, eval e X.env) :: starEach [.Name "int" p2] X.env := by rfl) (hs2 : starEach [.Name "int" p2] X.env = (false, eval (.Name "int" p2) X.env) :: starEach [] X.env := by rfl) (hpl : (backTo pos (starEach [.Name "int" p2] X.env)).any (·.1) = false := by rfl) :
    PE X (.Call (.Name "isinstance" p) [e, .Name "int" p2] [] pos) (tE X.K fa cf (.blt .isInt (.cons ce .nil))) := isi_of kitB_int (fun _ _ => rfl) hg hm hg2 hm2 (by decide +kernel) (by decide) (by decide) h hs1 hs2 hpl
theorem e_isBool {p2 : Pos} (hg : Gl X "isinstance") (hm : X.mg "isinstance" = none) (hg2 : Gl X "bool") (hm2 : X.mg "bool" = none) (h : PE X e (tE X.K fa cf ce)) (hs1 : starEach [e, .Name "bool" p2] X.env = (false, eval e X.env) :: starEach [.Name "bool" p2] X.env := by rfl) (hs2 : starEach [.Name "bool" p2] X.env = (false, eval (.Name "bool" p2) X.env) :: starEach [] X.env := by rfl) (hpl : (backTo pos (starEach [.Name "bool" p2] X.env)).any (·.1) = false := by rfl) :
    PE X (.Call (.Name "isinstance" p) [e, .Name "bool" p2] [] pos) (tE X.K fa cf (.blt .isBool (.cons ce .nil))) := isi_of kitB_bool (fun _ _ => rfl) hg hm hg2 hm2 (by decide +kernel) (by decide) (by decide) h hs1 hs2 hpl
theorem e_isTup {p2 : Pos} (hg : Gl X "isinstance") (hm : X.mg "isinstance" = none) (hg2 : Gl X "tuple") (hm2 : X.mg "tuple" = none) (h : PE X e (tE X.K fa cf ce)) (hs1 : starEach [e, .Name "tuple" p2] X.env = (false, eval e X.env) :: starEach [.Name "tuple" p2] X.env := by rfl) (hs2 : starEach [.Name "tuple" p2] X.env = (false, eval (.Name "tuple" p2) X.env) :: starEach [] X.env := by rfl) (hpl : (backTo pos (starEach [.Name "tuple" p2] X.env)).any (·.1) = false := by rfl) :
    PE X (.Call (.Name "isinstance" p) [e, .Name "tuple" p2] [] pos) (tE X.K fa cf (.blt .isTup (.cons ce .nil))) := isi_of kitB_tup (fun _ _ => rfl) hg hm hg2 hm2 (by decide +kernel) (by decide) (by decide) h hs1 hs2 hpl
theorem e_isStr {p2 : Pos} (hg : Gl X "isinstance") (hm : X.mg "isinstance" = none) (hg2 : Gl X "str") (hm2 : X.mg "str" = none) (h : PE X e (tE X.K fa cf ce)) (hs1 : starEach [e, .Name "str" p2] X.env = (false, eval e X.env) :: starEach [.Name "str" p2] X.env := by rfl) (hs2 : starEach [.Name "str" p2] X.env = (false, eval (.Name "str" p2) X.env) :: starEach [] X.env := by rfl) (hpl : (backTo pos (starEach [.Name "str" p2] X.env)).any (·.1) = false := by rfl) :
    PE X (.Call (.Name "isinstance" p) [e, .Name "str" p2] [] pos) (tE X.K fa cf (.blt .isStr (.cons ce .nil))) := isi_of kitB_str (fun _ _ => rfl) hg hm hg2 hm2 (by decide +kernel) (by decide) (by decide) h hs1 hs2 hpl
theorem e_isList {p2 : Pos} (hg : Gl X "isinstance") (hm : X.mg "isinstance" = none) (hg2 : Gl X "list") (hm2 : X.mg "list" = none) (h : PE X e (tE X.K fa cf ce)) (hs1 : starEach [e, .Name "list" p2] X.env = (false, eval e X.env) :: starEach [.Name "list" p2] X.env := by rfl) (hs2 : starEach [.Name "list" p2] X.env = (false, eval (.Name "list" p2) X.env) :: starEach [] X.env := by rfl) (hpl : (backTo pos (starEach [.Name "list" p2] X.env)).any (·.1) = false := by rfl) :
    PE X (.Call (.Name "isinstance" p) [e, .Name "list" p2] [] pos) (tE X.K fa cf (.blt .isList (.cons ce .nil))) := isi_of kitB_list (fun _ _ => rfl) hg hm hg2 hm2 (by decide +kernel) (by decide) (by decide) h hs1 hs2 hpl
theorem kitTL {K : PySem.W.Frag} : ∀ q ∈ [("NoneType", 0), ("bool", 1), ("int", 2), ("str", 3), ("tuple", 4), ("list", 5)], PySem.W.kitAny K (.type q.1) [.type "tuple", .type "list"] = some (q.2 == 4 || q.2 == 5) := by
  intro q hq
  have h1 := kitB_tup q hq
  have h2 := kitB_list q hq
  refine kitAny_cons (kit_ty h1) (fun z => kitAny_cons (b := isiAns .isList q.2) (kit_ty h2) (fun z2 => ?_) (fun z2 => ?_)) fun z => ?_
  · simp only [isiAns] at z z2
    rw [z, z2]; exact kitAny_nil
  · simp only [isiAns] at z2; rw [z2, Bool.or_true]
  · simp only [isiAns] at z; rw [z, Bool.true_or]
theorem e_isTL {k : Nat} {p2 p3 tpos : Pos} (hg : Gl X "isinstance") (hm : X.mg "isinstance" = none) (hg2 : Gl X "tuple") (hm2 : X.mg "tuple" = none) (hg3 : Gl X "list") (hm3 : X.mg "list" = none) (h : PE X e (tE X.K fa cf ce))
    (hs1 : starEach [e, .Tuple [.Name "tuple" p2, .Name "list" p3] k tpos] X.env = (false, eval e X.env) :: starEach [.Tuple [.Name "tuple" p2, .Name "list" p3] k tpos] X.env := by rfl)
    (hs2 : starEach [.Tuple [.Name "tuple" p2, .Name "list" p3] k tpos] X.env = (false, eval (.Tuple [.Name "tuple" p2, .Name "list" p3] k tpos) X.env) :: starEach [] X.env := by rfl)
    (hs3 : starEach [.Name "tuple" p2, .Name "list" p3] X.env = (false, eval (.Name "tuple" p2) X.env) :: starEach [.Name "list" p3] X.env := by rfl) (hs4 : starEach [.Name "list" p3] X.env = (false, eval (.Name "list" p3) X.env) :: starEach [] X.env := by rfl)
    (hpl : (backTo pos (starEach [.Tuple [.Name "tuple" p2, .Name "list" p3] k tpos] X.env)).any (·.1) = false := by rfl) :
    PE X (.Call (.Name "isinstance" p) [e, .Tuple [.Name "tuple" p2, .Name "list" p3] k tpos] [] pos) (tE X.K fa cf (.blt .isTL (.cons ce .nil))) :=
  wkE (pe_callB call_isiT hg hm PyProof.Rows.boot_isinstance (pa_cons h (pa_cons (pe_tup (pa_cons (pe_bltn (v := .ty "tuple") hg2 hm2 (by decide +kernel) rfl) (pa_cons (pe_bltn (v := .ty "list") hg3 hm3 (by decide +kernel) rfl) pa_nil hs4) hs3)) pa_nil hs2) hs1) (he := hs1) (hpl := hpl)) fun sg H Q ⟨io, s, h, r, h', rs, rh, e, q⟩ => by
    simp only [evE] at e
    obtain ⟨xs, h1, e1, e⟩ := bind_ok e
    simp only [evA] at e1
    obtain ⟨x, h2, e2, e1⟩ := bind_ok e1
    cases e1
    refine ⟨io, s, h, x, h1, rs, rh, e2, fun io1 H1 v ex1 rh1 rv => ?_⟩
    simp only [blt] at e
    cases hk : kindOf h1 x with
    | none => rw [hk] at e; cases e
    | some k =>
      rw [hk] at e
      cases e
      refine ⟨by decide, fun tp hp => ?_⟩
      have ex2 := ext_new (io := io1) (o := .tup [.ty "tuple", .ty "list"]) hp
      obtain ⟨T, hT, ty⟩ := kindOf_ty (rh1.new hp) (rv.mono ex2) hk
      exact ⟨v, tp, [.ty "tuple", .ty "list"], .type T, [.type "tuple", .type "list"], _, rfl, upd_same, .cons (.ty _) (.cons (.ty _) .nil), ty, kitTL _ hT, q io1 _ _ (ex1.trans ex2) (rh1.new hp) (.bl _)⟩

/-! ### methods of lists -/
def rCountD (K : PySem.W.Frag) : V → List V → Hp → VK → Prop := fun x xs H Q => ∃ (a : Addr) (y : V) (d : PyData) (ds : List PyData), x = V.ref a ∧ xs = [y] ∧ Dp K H (V.ref a) (.list ds) ∧ Dp K H y d ∧
  SeqAt.shaped (.list ds) = true ∧ SeqAt.shaped d = true ∧ Q (.int ((ds.countP fun z => PyData.eqv z d : Nat) : Int)) H
theorem mt_countD (hu : X.A.units + 65 < cLine) : MtR X "list.count" (rCountD X.K) := by
  intro pins s σ H x xs v us Q I rx rxs h
  obtain ⟨a, y, d, ds, rfl, rfl, hl, hy, sl, sd, q⟩ := h
  cases rx
  cases rxs with
  | cons ry rt =>
    rename_i uy ut
    cases rt
    obtain ⟨bs, r1⟩ := Dp.reads I d y uy hy ry
    have hxs : PyData.canLayAll0 ds = true := SeqAt.canLay_of_shaped sl
    have hroom : X.A.units + 1 + min (PyData.depthAll ds) d.depth < cLine := PyProof.Rows.room_in_shaped sd hu
    cases hl with
    | lst hs ha =>
      obtain ⟨its, rv, ⟨⟨cls, dd, data, sls⟩, n, ho, hc, hdn, hdt⟩, hlen⟩ := I.list hs
      simp only at hc hdt
      subst hc hdt
      obtain ⟨as, h4⟩ := Dp.readsAll I ds _ its ha rv
      have hmap : its.map (SeqAt.readOf s.heap) = ds := SeqAt.readsAll_map ds its as hxs h4
      refine call_meets PySem.F.slot_list_count ⟨_, ho, rfl⟩ PySem.F.entry_list_count (PySem.F.args_list_count_2 _ _)
        (SeqAt.list_countAt a its.toArray n dd sls uy (fun u => PyData.eqv (SeqAt.readOf s.heap u) d)) ⟨ho, SeqAt.items_eqAt (vs := its.toArray) (show ReadsAll s.heap its.toArray.toList ds as from h4) r1 hxs (SeqAt.canLay_of_shaped sd) hroom, ?_⟩
      have e1 : its.toArray.toList.countP (fun u => PyData.eqv (SeqAt.readOf s.heap u) d) = ds.countP fun z => PyData.eqv z d := by
        rw [← hmap, List.countP_map]
        rfl
      rw [e1]
      exact ⟨.int _, H, I.tok _, ⟨_, rfl⟩, q⟩
/-- a method's rule by values and its pure one -/
def MthOk (X : Cx) (fa : Nat → Option Addr) (m : Mth) (R : V → List V → Hp → VK → Prop) : Prop :=
  ∀ (io : List Addr) (H : Hp) (h : PH) (v : V) (vs : List V) (x : PV) (xs : List PV) (r : PV) (h' : PH) (Q : VK), RH X.K fa io H h → Rl X.K fa io H v x → Rls X.K fa io H vs xs → mth m x xs h = .ok r h' →
    (∀ io' H' v, Ext io H io' H' → RH X.K fa io' H' h' → Rl X.K fa io' H' v r → Q v H') → R v vs H Q
theorem mth_lst {m : Mth} {x : PV} {xs : List PV} {h : PH} {r : PV} {h' : PH} (hm : m ≠ .count) (hm2 : m ≠ .index) (e : mth m x xs h = .ok r h') : (∃ n, x = .ref n) ∨ ∃ ys, x = .scr ys := by
  unfold mth at e
  split at e <;> (first | (cases e; done) | exact .inl ⟨_, rfl⟩ | (exact absurd rfl hm) | (exact absurd rfl hm2))
theorem mk_append : MthOk X fa .append rAppend := by
  intro io H h v vs x xs r h' Q rh rv rvs e q
  unfold mth at e
  split at e <;> try (cases e; done)
  all_goals rename_i hm; (try (cases hm; done))
  split at e
  · rename_i xs hx
    split at e <;> cases e
    rename_i hl
    obtain ⟨y, rfl, ry⟩ := rvs.one
    obtain ⟨a, ws, rfl, ha, hH, rr⟩ := rh.list rv hx
    exact ⟨a, ws, y, rfl, rfl, hH, many_lt (by rw [rr.length]; exact hl), q io _ .non (ext_write (List.mem_of_getElem? ha) ⟨_, hH⟩) (rh.write ha (rr.append (.cons ry .nil))) .non⟩
  · cases e
theorem mk_extend : MthOk X fa .extend rExtend := by
  intro io H h v vs x xs r h' Q rh rv rvs e q
  unfold mth at e
  split at e <;> try (cases e; done)
  all_goals rename_i hm; (try (cases hm; done))
  split at e
  · rename_i xs ys hx hy
    split at e <;> cases e
    rename_i hl
    obtain ⟨y, rfl, ry⟩ := rvs.one
    obtain ⟨a, ws, rfl, ha, hH, rr⟩ := rh.list rv hx
    obtain ⟨b, zs, rfl, hb, hB, rz⟩ := rh.list ry hy
    exact ⟨a, b, ws, zs, rfl, rfl, hH, hB, by rw [rr.length, rz.length]; exact many_le (Nat.le_of_lt hl), q io _ .non (ext_write (List.mem_of_getElem? ha) ⟨_, hH⟩) (rh.write ha (rr.append rz)) .non⟩
  · cases e
theorem mk_pop : MthOk X fa .pop rPop := by
  intro io H h v vs x xs r h' Q rh rv rvs e q
  unfold mth at e
  split at e <;> try (cases e; done)
  all_goals rename_i hm; (try (cases hm; done))
  split at e
  · rename_i xs hx
    split at e <;> cases e
    rename_i y hl
    cases rvs
    obtain ⟨a, ws, rfl, ha, hH, rr⟩ := rh.list rv hx
    have hl2 : xs[xs.length - 1]? = some r := by rw [← List.getLast?_eq_getElem?]; exact hl
    obtain ⟨w, hw, rw'⟩ := rr.get hl2
    refine ⟨a, ws, w, rfl, rfl, hH, by rw [rr.length]; exact hw, q io _ w (ext_write (List.mem_of_getElem? ha) ⟨_, hH⟩) (rh.write ha rr.dropLast) (rw'.mono (ext_write (List.mem_of_getElem? ha) ⟨_, hH⟩))⟩
  · cases e
theorem mk_popAt : MthOk X fa .pop0 rPopAt := by
  intro io H h v vs x xs r h' Q rh rv rvs e q
  unfold mth at e
  split at e <;> try (cases e; done)
  all_goals rename_i hm; (try (cases hm; done))
  split at e
  · rename_i y ys hx
    split at e <;> cases e
    rename_i hl
    subst hl
    obtain ⟨z, rfl, rz⟩ := rvs.one
    cases rz
    obtain ⟨a, ws, rfl, ha, hH, rr⟩ := rh.list rv hx
    cases rr with
    | @cons w _ ws _ rw' rr =>
    refine ⟨a, w :: ws, 0, 0, w, rfl, rfl, hH, by decide, by decide, ?_, rfl, q io _ w (ext_write (List.mem_of_getElem? ha) ⟨_, hH⟩) (rh.write ha rr) (rw'.mono (ext_write (List.mem_of_getElem? ha) ⟨_, hH⟩))⟩
    unfold seqIndex?
    simp
  · cases e
/-! count and index, of lists and tuples -/
def rCountT (K : PySem.W.Frag) : V → List V → Hp → VK → Prop := fun x xs H Q => ∃ (a : Addr) (y : V) (d : PyData) (ds : List PyData), x = V.ref a ∧ xs = [y] ∧ Dp K H (V.ref a) (.tuple ds) ∧ Dp K H y d ∧
  SeqAt.shaped (.tuple ds) = true ∧ SeqAt.shaped d = true ∧ Q (.int ((ds.countP fun z => PyData.eqv z d : Nat) : Int)) H
def rIndexT (K : PySem.W.Frag) : V → List V → Hp → VK → Prop := fun x xs H Q => ∃ (a : Addr) (y : V) (d : PyData) (ds : List PyData) (j : Nat) (z : PyData), x = V.ref a ∧ xs = [y] ∧ Dp K H (V.ref a) (.tuple ds) ∧ Dp K H y d ∧
  SeqAt.shaped (.tuple ds) = true ∧ SeqAt.shaped d = true ∧ ds[j]? = some z ∧ PyData.eqv z d = true ∧ (∀ (m : Nat) (z' : PyData), m < j → ds[m]? = some z' → PyData.eqv z' d = false) ∧ Q (.int (j : Nat)) H
theorem canLay_tup {ds : List PyData} (h : SeqAt.shaped (.tuple ds) = true) : PyData.canLayAll0 ds = true := by
  have := SeqAt.canLay_of_shaped h
  simpa only [PyData.canLay0] using this
theorem mt_countT (hu : X.A.units + 65 < cLine) : MtR X "tuple.count" (rCountT X.K) := by
  intro pins s σ H x xs v us Q I rx rxs h
  obtain ⟨a, y, d, ds, rfl, rfl, hl, hy, sl, sd, q⟩ := h
  cases rx
  cases rxs with
  | cons ry rt =>
    rename_i uy ut
    cases rt
    obtain ⟨bs, r1⟩ := Dp.reads I d y uy hy ry
    have hxs : PyData.canLayAll0 ds = true := canLay_tup sl
    have hroom : X.A.units + 1 + min (PyData.depthAll ds) d.depth < cLine := PyProof.Rows.room_in_shaped sd hu
    cases hl with
    | tup hs ha =>
      obtain ⟨its, rv, ⟨⟨cls, dd, data, sls⟩, ho, hc, n, hdt⟩, hlen⟩ := I.tuple hs
      simp only at hc hdt
      subst hc hdt
      obtain ⟨as, h4⟩ := Dp.readsAll I ds _ its ha rv
      have hmap : its.map (SeqAt.readOf s.heap) = ds := SeqAt.readsAll_map ds its as hxs h4
      refine call_meets PySem.F.slot_tuple_count ⟨_, ho, rfl⟩ PySem.F.entry_tuple_count (PySem.F.args_tuple_count_2 _ _)
        (SeqAt.tuple_countAt a its.toArray n dd sls uy (fun u => PyData.eqv (SeqAt.readOf s.heap u) d)) ⟨ho, SeqAt.items_eqAt (vs := its.toArray) (show ReadsAll s.heap its.toArray.toList ds as from h4) r1 hxs (SeqAt.canLay_of_shaped sd) hroom, ?_⟩
      have e1 : its.toArray.toList.countP (fun u => PyData.eqv (SeqAt.readOf s.heap u) d) = ds.countP fun z => PyData.eqv z d := by
        rw [← hmap, List.countP_map]
        rfl
      rw [e1]
      exact ⟨.int _, H, I.tok _, ⟨_, rfl⟩, q⟩
theorem mt_indexT (hu : X.A.units + 65 < cLine) : MtR X "tuple.index" (rIndexT X.K) := by
  intro pins s σ H x xs v us Q I rx rxs h
  obtain ⟨a, y, d, ds, j, z, rfl, rfl, hl, hy, sl, sd, hz, hzj, hno, q⟩ := h
  cases rx
  cases rxs with
  | cons ry rt =>
    rename_i uy ut
    cases rt
    obtain ⟨bs, r1⟩ := Dp.reads I d y uy hy ry
    have hxs : PyData.canLayAll0 ds = true := canLay_tup sl
    have hroom : X.A.units + 1 + min (PyData.depthAll ds) d.depth < cLine := PyProof.Rows.room_in_shaped sd hu
    cases hl with
    | tup hs ha =>
      obtain ⟨its, rv, ⟨⟨cls, dd, data, sls⟩, ho, hc, n, hdt⟩, hlen⟩ := I.tuple hs
      simp only at hc hdt
      subst hc hdt
      obtain ⟨as, h4⟩ := Dp.readsAll I ds _ its ha rv
      have hn : its.length = ds.length := SeqAt.ReadsAll.length ds its as h4
      have hmap : its.map (SeqAt.readOf s.heap) = ds := SeqAt.readsAll_map ds its as hxs h4
      obtain ⟨hjd, _⟩ := List.getElem?_eq_some_iff.mp hz
      have hjl : j < its.length := by omega
      have hj : j < its.toArray.size := by simpa using hjl
      have at_ : ∀ (m : Nat) (hm : m < its.toArray.size) (z' : PyData), ds[m]? = some z' → SeqAt.readOf s.heap its.toArray[m] = z' := by
        intro m hm z' hz'
        have hml : m < its.length := by simpa using hm
        rw [← hmap, List.getElem?_map, List.getElem?_eq_getElem hml] at hz'
        have e1 : SeqAt.readOf s.heap its[m] = z' := Option.some.inj (show some (SeqAt.readOf s.heap its[m]) = some z' from hz')
        simpa using e1
      refine call_meets PySem.F.slot_tuple_index ⟨_, ho, rfl⟩ PySem.F.entry_tuple_index (PySem.F.args_tuple_index_2 _ _)
        (_root_.TI.tuple_indexAt a its.toArray n dd sls uy (fun u => PyData.eqv (SeqAt.readOf s.heap u) d) j hj ?_ ?_) ⟨ho, SeqAt.items_eqAt (vs := its.toArray) (show ReadsAll s.heap its.toArray.toList ds as from h4) r1 hxs (SeqAt.canLay_of_shaped sd) hroom, ?_⟩
      · show PyData.eqv (SeqAt.readOf s.heap its.toArray[j]) d = true
        rw [at_ j hj z hz]
        exact hzj
      · intro m hm hmj
        have hmd : m < ds.length := by omega
        have hz' : ds[m]? = some ds[m] := List.getElem?_eq_getElem hmd
        show PyData.eqv (SeqAt.readOf s.heap its.toArray[m]) d = false
        rw [at_ m hm _ hz']
        exact hno m _ hmj hz'
      · exact ⟨.int (j : Nat), H, I.tok _, ⟨_, rfl⟩, q⟩
theorem seqD_tup {h : PH} {xs : List PV} {ds : List PyData} (e : seqD h (.tup xs) = some ds) : toD h 12 (.tup xs) = some (.tuple ds) := by
  unfold seqD at e
  split at e <;> cases e
  · rename_i z; simp [toD] at z
  · assumption
theorem seqD_lst {h : PH} {x : PV} {ds : List PyData} (hx : (∃ n, x = .ref n) ∨ ∃ ys, x = .scr ys) (e : seqD h x = some ds) : toD h 12 x = some (.list ds) := by
  unfold seqD at e
  split at e <;> cases e
  · assumption
  · rename_i z
    rcases hx with ⟨n, rfl⟩ | ⟨ys, rfl⟩
    · simp only [toD] at z
      split at z
      · cases q : toDs (toD h 11) _ with
        | none => rw [q] at z; cases z
        | some _ => rw [q] at z; cases z
      · cases z
    · simp [toD] at z
theorem seqD_kind {h : PH} {x : PV} {ds : List PyData} (e : seqD h x = some ds) : ((∃ n, x = .ref n) ∨ ∃ ys, x = .scr ys) ∨ ∃ ys, x = .tup ys := by
  cases x with
  | ref n => exact .inl (.inl ⟨n, rfl⟩)
  | scr ys => exact .inl (.inr ⟨ys, rfl⟩)
  | tup ys => exact .inr ⟨ys, rfl⟩
  | str z => by_cases c : PyData.canLay0 (.str z) = true <;> simp [seqD, toD, c] at e
  | _ => simp [seqD, toD] at e
/-- a method of lists and of tuples: its rules by values and its pure one -/
structure MthOk2 (X : Cx) (fa : Nat → Option Addr) (m : Mth) (RL RT : V → List V → Hp → VK → Prop) : Prop where
  kind : ∀ x xs h r h', mth m x xs h = .ok r h' → ((∃ n, x = .ref n) ∨ ∃ ys, x = .scr ys) ∨ ∃ ys, x = .tup ys
  lst : ∀ (io : List Addr) (H : Hp) (h : PH) (v : V) (vs : List V) (x : PV) (xs : List PV) (r : PV) (h' : PH) (Q : VK), ((∃ n, x = .ref n) ∨ ∃ ys, x = .scr ys) → RH X.K fa io H h → Rl X.K fa io H v x → Rls X.K fa io H vs xs → mth m x xs h = .ok r h' →
    (∀ io' H' v, Ext io H io' H' → RH X.K fa io' H' h' → Rl X.K fa io' H' v r → Q v H') → RL v vs H Q
  tup : ∀ (io : List Addr) (H : Hp) (h : PH) (v : V) (vs : List V) (ys xs : List PV) (r : PV) (h' : PH) (Q : VK), RH X.K fa io H h → Rl X.K fa io H v (.tup ys) → Rls X.K fa io H vs xs → mth m (.tup ys) xs h = .ok r h' →
    (∀ io' H' v, Ext io H io' H' → RH X.K fa io' H' h' → Rl X.K fa io' H' v r → Q v H') → RT v vs H Q
theorem mk_count : MthOk2 X fa .count (rCountD X.K) (rCountT X.K) := by
  refine ⟨fun x xs h r h' e => ?_, fun io H h v vs x xs r h' Q hx rh rv rvs e q => ?_, fun io H h v vs x xs r h' Q rh rv rvs e q => ?_⟩
  all_goals
    unfold mth at e
    split at e <;> try (cases e; done)
    all_goals rename_i hm; (try (cases hm; done))
    split at e <;> cases e
    rename_i ds d e1 e2
  · exact seqD_kind e1
  · obtain ⟨y, rfl, ry⟩ := rvs.one
    obtain ⟨h1, h2, h3⟩ := rh.data 12 _ _ _ ry e2
    obtain ⟨g1, g2, g3⟩ := rh.data 12 _ _ _ rv (seqD_lst hx e1)
    cases g1 with
    | lst sq ha => exact ⟨_, y, d, ds, rfl, rfl, .lst sq ha, h1, shaped_of g2 g3, shaped_of h2 h3, q io H _ .refl rh (.int _)⟩
  · obtain ⟨y, rfl, ry⟩ := rvs.one
    obtain ⟨h1, h2, h3⟩ := rh.data 12 _ _ _ ry e2
    obtain ⟨g1, g2, g3⟩ := rh.data 12 _ _ _ rv (seqD_tup e1)
    cases g1 with
    | tup sq ha => exact ⟨_, y, d, ds, rfl, rfl, .tup sq ha, h1, shaped_of g2 g3, shaped_of h2 h3, q io H _ .refl rh (.int _)⟩
theorem mk_index : MthOk2 X fa .index (rIndexD X.K) (rIndexT X.K) := by
  refine ⟨fun x xs h r h' e => ?_, fun io H h v vs x xs r h' Q hx rh rv rvs e q => ?_, fun io H h v vs x xs r h' Q rh rv rvs e q => ?_⟩
  all_goals
    unfold mth at e
    split at e <;> try (cases e; done)
    all_goals rename_i hm; (try (cases hm; done))
    split at e
    case h_2 => cases e
    rename_i ds d e1 e2
    split at e <;> cases e
    rename_i j hj
  · exact seqD_kind e1
  · obtain ⟨y, rfl, ry⟩ := rvs.one
    obtain ⟨h1, h2, h3⟩ := rh.data 12 _ _ _ ry e2
    obtain ⟨g1, g2, g3⟩ := rh.data 12 _ _ _ rv (seqD_lst hx e1)
    obtain ⟨hlt, hz, hno⟩ := List.findIdx?_eq_some_iff_getElem.mp hj
    cases g1 with
    | lst sq ha => exact ⟨_, y, d, ds, j, ds[j], rfl, rfl, .lst sq ha, h1, shaped_of g2 g3, shaped_of h2 h3, List.getElem?_eq_getElem hlt, hz, fun m z hm hz => by
        have hml : m < ds.length := by omega
        rw [List.getElem?_eq_getElem hml] at hz
        cases hz
        simpa using hno m hm, q io H _ .refl rh (.int _)⟩
  · obtain ⟨y, rfl, ry⟩ := rvs.one
    obtain ⟨h1, h2, h3⟩ := rh.data 12 _ _ _ ry e2
    obtain ⟨g1, g2, g3⟩ := rh.data 12 _ _ _ rv (seqD_tup e1)
    obtain ⟨hlt, hz, hno⟩ := List.findIdx?_eq_some_iff_getElem.mp hj
    cases g1 with
    | tup sq ha => exact ⟨_, y, d, ds, j, ds[j], rfl, rfl, .tup sq ha, h1, shaped_of g2 g3, shaped_of h2 h3, List.getElem?_eq_getElem hlt, hz, fun m z hm hz => by
        have hml : m < ds.length := by omega
        rw [List.getElem?_eq_getElem hml] at hz
        cases hz
        simpa using hno m hm, q io H _ .refl rh (.int _)⟩
def tBM2 (K : PySem.W.Frag) (RL RT : V → List V → Hp → VK → Prop) (to : TE) (t : TA) : TE := fun σ H Q => to σ H fun x H1 => (tyV K "list" x H1 ∧ t σ H1 fun xs H2 => RL x xs H2 Q) ∨ ((∃ a vs, x = .ref a ∧ SqN K H1 a vs) ∧ t σ H1 fun xs H2 => RT x xs H2 Q)
theorem pe_bm2 {idL idT : String} {to : TE} {t : TA} {RL RT : V → List V → Hp → VK → Prop} (slotL : Slot "list" name idL) (slotT : Slot "tuple" name idT) (htyL : typeOf (.builtin idL) = pure (.type "method_descriptor")) (htyT : typeOf (.builtin idT) = pure (.type "method_descriptor"))
    (hmL : MtR X idL RL) (hmT : MtR X idT RT) (ho : PE X o to) (ha : PA X (e :: es) t)
    (hbase : attributeBase o name X.env (eval o X.env) = eval o X.env := by rfl)
    (hfew : ((backTo cpos (starEach (e :: es) X.env)).all (fun x => !x.1) && (backToKw cpos (keywordEach [] X.env)).all (fun x => x.1.isSome)
      && decide ((e :: es).length + ([] : List Keyword).length + (if ([] : List Keyword).isEmpty then 0 else 1) < 30)) = true := by rfl)
    (hline : (apos.endLine == cpos.line) = true := by rfl) (hs : starEach (e :: es) X.env = (false, eval e X.env) :: starEach es X.env := by rfl) (hplain : (backTo cpos (starEach es X.env)).any (·.1) = false := by rfl) :
    PE X (.Call (.Attribute o name apos) (e :: es) [] cpos) (tBM2 X.K RL RT to t) := by
  refine ⟨fun pins s σ H Q I h => ?_⟩
  refine wpAny_Call_method_late hbase hfew hline rfl (thn (ho.run pins s σ H _ I h) fun v s1 ⟨x, H1, I1, r1, q1⟩ => ?_)
  rcases q1 with ⟨ty, q1⟩ | ⟨⟨a, vs, rfl, ty⟩, q1⟩
  · obtain ⟨h1, h2⟩ := tyV_is I1 r1 ty
    refine ⟨"list", idL, PySem.F.plainAttrs_list, slotL, htyL, h1, h2, ?_⟩
    have hA := ha.run cpos pins s1 σ H1 _ I1 q1
    rw [hs] at hA ⊢
    refine Calls.callWith_builtin (by show (false || (backTo cpos (starEach es X.env)).any (·.1)) = false; rw [hplain] <;> rfl) (Calls.evalArgs_plain ?_)
    exact thn hA fun us s2 ⟨vs, H2, I2, r2, q2⟩ => hmL pins s2 σ H2 x vs v us Q I2 r1 r2 q2
  · cases r1
    obtain ⟨h1, ob, h2, h3⟩ := SqN.ty I1 ty
    refine ⟨"tuple", idT, PySem.F.plainAttrs_tuple, slotT, htyT, h1, fun b hb => by cases hb; exact ⟨ob, h2, h3⟩, ?_⟩
    have hA := ha.run cpos pins s1 σ H1 _ I1 q1
    rw [hs] at hA ⊢
    refine Calls.callWith_builtin (by show (false || (backTo cpos (starEach es X.env)).any (·.1)) = false; rw [hplain] <;> rfl) (Calls.evalArgs_plain ?_)
    exact thn hA fun us s2 ⟨vs, H2, I2, r2, q2⟩ => hmT pins s2 σ H2 (.ref a) vs (.ref a) us Q I2 (by first | rfl | exact .ref _) r2 q2
theorem mth_to2 {m : Mth} {RL RT : V → List V → Hp → VK → Prop} (hk : MthOk2 X fa m RL RT)
    (h : PE X e (tBM2 X.K RL RT (tE X.K fa cf co) (tA X.K fa cf cs))) : PE X e (tE X.K fa cf (.mth m co cs)) :=
  wkE h fun sg H Q ⟨io, s, h, r, h', rs, rh, e, q⟩ => by
    simp only [evE] at e
    obtain ⟨x, h1, e1, e⟩ := bind_ok e
    obtain ⟨xs, h2, e2, e⟩ := bind_ok e
    refine ⟨io, s, h, x, h1, rs, rh, e1, fun io1 H1 v ex1 rh1 rv => ?_⟩
    rcases hk.kind _ _ _ _ _ e with hx | ⟨ys, rfl⟩
    · have ty : tyV X.K "list" v H1 := by
        rcases hx with ⟨n, rfl⟩ | ⟨ys, rfl⟩
        · cases rv with
          | ref hn =>
            obtain ⟨xs', vs', _, hH, _⟩ := rh1.addr hn
            exact .inl ⟨rfl, vs', .inl (.inl hH)⟩
        · cases rv with
          | scr sq rr => exact .inl ⟨rfl, _, sq.l⟩
      exact .inl ⟨ty, io1, s, h1, xs, h2, rs.mono ex1, rh1, e2, fun io2 H2 vs ex2 rh2 rvs => hk.lst io2 H2 h2 v vs x xs r h' Q hx rh2 (rv.mono ex2) rvs e fun io' H' v ex3 rh3 rv3 => q io' H' v ((ex1.trans ex2).trans ex3) rh3 rv3⟩
    · have ty : ∃ a vs, v = .ref a ∧ SqN X.K H1 a vs := by
        cases rv with
        | tup sq rr => exact ⟨_, _, rfl, sq⟩
      exact .inr ⟨ty, io1, s, h1, xs, h2, rs.mono ex1, rh1, e2, fun io2 H2 vs ex2 rh2 rvs => hk.tup io2 H2 h2 v vs ys xs r h' Q rh2 (rv.mono ex2) rvs e fun io' H' v ex3 rh3 rv3 => q io' H' v ((ex1.trans ex2).trans ex3) rh3 rv3⟩
/-- the receiver of a list's method -/
theorem mth_to0 {m : Mth} {R : V → List V → Hp → VK → Prop} (hk : MthOk X fa m R) (hl : ∀ x h r h', mth m x [] h = .ok r h' → ∃ n xs, x = .ref n ∧ h[n]? = some (.lst xs))
    (h : PE X e (tBM0 X.K "list" R (tE X.K fa cf co))) : PE X e (tE X.K fa cf (.mth m co .nil)) :=
  wkE h fun sg H Q ⟨io, s, h, r, h', rs, rh, e, q⟩ => by
    simp only [evE] at e
    obtain ⟨x, h1, e1, e⟩ := bind_ok e
    obtain ⟨xs, h2, e2, e⟩ := bind_ok e
    simp only [evA] at e2
    cases e2
    refine ⟨io, s, h, x, h1, rs, rh, e1, fun io1 H1 v ex1 rh1 rv => ?_⟩
    obtain ⟨n, ys, rfl, hx⟩ := hl _ _ _ _ e
    obtain ⟨a, ws, rfl, ha, hH, rr⟩ := rh1.list rv hx
    exact ⟨.inl ⟨rfl, ws, .inl (.inl hH)⟩, hk io1 H1 h1 _ [] _ [] r h' Q rh1 rv .nil e fun io' H' v ex2 rh2 rv2 => q io' H' v (ex1.trans ex2) rh2 rv2⟩
/-- .. whatever the arguments do to the heap, it stays a list -/
theorem mth_to {m : Mth} {R : V → List V → Hp → VK → Prop} (hk : MthOk X fa m R) (hl : ∀ x xs h r h', mth m x xs h = .ok r h' → (∃ n, x = .ref n) ∨ ∃ ys, x = .scr ys)
    (h : PE X e (tBM X.K "list" R (tE X.K fa cf co) (tA X.K fa cf cs))) : PE X e (tE X.K fa cf (.mth m co cs)) :=
  wkE h fun sg H Q ⟨io, s, h, r, h', rs, rh, e, q⟩ => by
    simp only [evE] at e
    obtain ⟨x, h1, e1, e⟩ := bind_ok e
    obtain ⟨xs, h2, e2, e⟩ := bind_ok e
    refine ⟨io, s, h, x, h1, rs, rh, e1, fun io1 H1 v ex1 rh1 rv => ?_⟩
    have ty : tyV X.K "list" v H1 := by
      rcases hl _ _ _ _ _ e with ⟨n, rfl⟩ | ⟨ys, rfl⟩
      · cases rv with
        | ref hn =>
          obtain ⟨xs', vs', _, hH, _⟩ := rh1.addr hn
          exact .inl ⟨rfl, vs', .inl (.inl hH)⟩
      · cases rv with
        | scr sq rr => exact .inl ⟨rfl, _, sq.l⟩
    exact ⟨ty, io1, s, h1, xs, h2, rs.mono ex1, rh1, e2, fun io2 H2 vs ex2 rh2 rvs => hk io2 H2 h2 v vs x xs r h' Q rh2 (rv.mono ex2) rvs e fun io' H' v ex3 rh3 rv3 => q io' H' v ((ex1.trans ex2).trans ex3) rh3 rv3⟩
theorem e_append (ho : PE X o (tE X.K fa cf co)) (ha : PA X [a] (tA X.K fa cf cs))
    (hbase : attributeBase o "append" X.env (eval o X.env) = eval o X.env := by rfl)
    (hfew : ((backTo cpos (starEach [a] X.env)).all (fun x => !x.1) && (backToKw cpos (keywordEach [] X.env)).all (fun x => x.1.isSome)
      && decide (([a] : List Expr).length + ([] : List Keyword).length + (if ([] : List Keyword).isEmpty then 0 else 1) < 30)) = true := by rfl)
    (hline : (apos.endLine == cpos.line) = true := by rfl) (hs : starEach [a] X.env = (false, eval a X.env) :: starEach [] X.env := by rfl) :
    PE X (.Call (.Attribute o "append" apos) [a] [] cpos) (tE X.K fa cf (.mth .append co cs)) := mth_to mk_append (fun _ _ _ _ _ => mth_lst (fun z => nomatch z) (fun z => nomatch z)) (pe_bm PySem.F.plainAttrs_list PySem.F.slot_list_append PySem.F.type_list_append mt_append ho ha hbase hfew hline hs)
theorem e_extend (ho : PE X o (tE X.K fa cf co)) (ha : PA X [a] (tA X.K fa cf cs))
    (hbase : attributeBase o "extend" X.env (eval o X.env) = eval o X.env := by rfl)
    (hfew : ((backTo cpos (starEach [a] X.env)).all (fun x => !x.1) && (backToKw cpos (keywordEach [] X.env)).all (fun x => x.1.isSome)
      && decide (([a] : List Expr).length + ([] : List Keyword).length + (if ([] : List Keyword).isEmpty then 0 else 1) < 30)) = true := by rfl)
    (hline : (apos.endLine == cpos.line) = true := by rfl) (hs : starEach [a] X.env = (false, eval a X.env) :: starEach [] X.env := by rfl) :
    PE X (.Call (.Attribute o "extend" apos) [a] [] cpos) (tE X.K fa cf (.mth .extend co cs)) := mth_to mk_extend (fun _ _ _ _ _ => mth_lst (fun z => nomatch z) (fun z => nomatch z)) (pe_bm PySem.F.plainAttrs_list PySem.F.slot_list_extend PySem.F.type_list_extend mt_extend ho ha hbase hfew hline hs)
theorem e_popAt (ho : PE X o (tE X.K fa cf co)) (ha : PA X [a] (tA X.K fa cf cs))
    (hbase : attributeBase o "pop" X.env (eval o X.env) = eval o X.env := by rfl)
    (hfew : ((backTo cpos (starEach [a] X.env)).all (fun x => !x.1) && (backToKw cpos (keywordEach [] X.env)).all (fun x => x.1.isSome)
      && decide (([a] : List Expr).length + ([] : List Keyword).length + (if ([] : List Keyword).isEmpty then 0 else 1) < 30)) = true := by rfl)
    (hline : (apos.endLine == cpos.line) = true := by rfl) (hs : starEach [a] X.env = (false, eval a X.env) :: starEach [] X.env := by rfl) :
    PE X (.Call (.Attribute o "pop" apos) [a] [] cpos) (tE X.K fa cf (.mth .pop0 co cs)) := mth_to mk_popAt (fun _ _ _ _ _ => mth_lst (fun z => nomatch z) (fun z => nomatch z)) (pe_bm PySem.F.plainAttrs_list PySem.F.slot_list_pop PySem.F.type_list_pop mt_popAt ho ha hbase hfew hline hs)
theorem e_pop (ho : PE X o (tE X.K fa cf co)) (hbase : attributeBase o "pop" X.env (eval o X.env) = eval o X.env := by rfl) (hline : (apos.endLine == cpos.line) = true := by rfl) :
    PE X (.Call (.Attribute o "pop" apos) [] [] cpos) (tE X.K fa cf (.mth .pop co .nil)) := mth_to0 mk_pop (fun x h r h' e => by
      unfold mth at e
      split at e <;> try (cases e; done)
      all_goals rename_i hm; (try (cases hm; done))
      split at e
      · exact ⟨_, _, rfl, by assumption⟩
      · cases e) (pe_bm0 PySem.F.plainAttrs_list PySem.F.slot_list_pop PySem.F.type_list_pop mt_pop ho hbase hline)
theorem e_count (hr : Room k X.A) (ho : PE X o (tE X.K fa cf co)) (ha : PA X [a] (tA X.K fa cf cs))
    (hbase : attributeBase o "count" X.env (eval o X.env) = eval o X.env := by rfl)
    (hfew : ((backTo cpos (starEach [a] X.env)).all (fun x => !x.1) && (backToKw cpos (keywordEach [] X.env)).all (fun x => x.1.isSome)
      && decide (([a] : List Expr).length + ([] : List Keyword).length + (if ([] : List Keyword).isEmpty then 0 else 1) < 30)) = true := by rfl)
    (hline : (apos.endLine == cpos.line) = true := by rfl) (hs : starEach [a] X.env = (false, eval a X.env) :: starEach [] X.env := by rfl) :
    PE X (.Call (.Attribute o "count" apos) [a] [] cpos) (tE X.K fa cf (.mth .count co cs)) := mth_to2 mk_count (pe_bm2 PySem.F.slot_list_count PySem.F.slot_tuple_count PySem.F.type_list_count PySem.F.type_tuple_count (mt_countD (by have := hr.un; omega)) (mt_countT (by have := hr.un; omega)) ho ha hbase hfew hline hs)
theorem e_index (hr : Room k X.A) (ho : PE X o (tE X.K fa cf co)) (ha : PA X [a] (tA X.K fa cf cs))
    (hbase : attributeBase o "index" X.env (eval o X.env) = eval o X.env := by rfl)
    (hfew : ((backTo cpos (starEach [a] X.env)).all (fun x => !x.1) && (backToKw cpos (keywordEach [] X.env)).all (fun x => x.1.isSome)
      && decide (([a] : List Expr).length + ([] : List Keyword).length + (if ([] : List Keyword).isEmpty then 0 else 1) < 30)) = true := by rfl)
    (hline : (apos.endLine == cpos.line) = true := by rfl) (hs : starEach [a] X.env = (false, eval a X.env) :: starEach [] X.env := by rfl) :
    PE X (.Call (.Attribute o "index" apos) [a] [] cpos) (tE X.K fa cf (.mth .index co cs)) := mth_to2 mk_index (pe_bm2 PySem.F.slot_list_index PySem.F.slot_tuple_index PySem.F.type_list_index PySem.F.type_tuple_index (mt_indexD (by have := hr.un; omega)) (mt_indexT (by have := hr.un; omega)) ho ha hbase hfew hline hs)
/-- a local name that holds a def -/
theorem e_callv {i k : Nat} {G : Nat → Option Fn} {x : Str} (hh : Held' X.prog X.w X.K X.mg X.base fa G k) (hr : Room k X.A) (hN : X.N[i]? = some x) (hv : Vis X.env.scope x) (ha : PA X (e :: es) (tA X.K fa (callF G k) cs))
    (hdb : (x == ("__debug__" : Str)) = false := by decide) (hcd : (x == ("__classdict__" : Str)) = false := by decide)
    (he : starEach (e :: es) X.env = (false, eval e X.env) :: starEach es X.env := by rfl) (hpl : (backTo pos (starEach es X.env)).any (·.1) = false := by rfl) :
    PE X (.Call (.Name x p) (e :: es) [] pos) (tE X.K fa (callF G k) (.callv i cs)) := ⟨fun pins s sg H Q I ⟨io, sl, h, r, h', rs, rh, e, q⟩ => by
  simp only [evE] at e
  split at e
  · rename_i n hn
    obtain ⟨xs, h1, e1, e⟩ := bind_ok e
    obtain ⟨v, hv1, hv2⟩ := rs.at_ i _ hn
    cases hv2 with
    | @fn f n hf =>
    obtain ⟨fd, ps, F, hk, hb⟩ := hh.at_ n f hf
    refine (pe_callL (i := i) (f := f) (dvs := []) (E := fun _ _ _ => False) F hr hN hv hk hb .nil (fun _ _ _ _ _ _ _ z => z.elim) ha hdb hcd he hpl).run pins s sg H Q I ⟨hv1, io, sl, h, xs, h1, rs, rh, e1, fun io1 H1 vs ex1 rh1 rv => ?_⟩
    show spI X.K fa G k n (vs ++ []) H1 Q _
    rw [List.append_nil]
    exact ⟨io1, h1, xs, r, h', rv, rh1, e, fun io' H' v ex2 rh2 rv2 => q io' H' v (ex1.trans ex2) rh2 rv2⟩
  · cases e⟩
end
end PB

set_option Elab.async false
set_option linter.all false
set_option maxRecDepth 100000
set_option maxHeartbeats 2000000
namespace PB
open PySem PySem.Spec L2
section
variable {K : PySem.W.Frag} {fa : Nat → Option Addr} {io io1 io2 : List Addr} {H H1 H2 : Hp} {h h1 : PH}
/-! ### what a call leaves -/
mutual
theorem Rl.low : ∀ {v : V} {x : PV}, Rl K fa io H v x → PV.low io.length x = true
  | _, _, .non => by simp [PV.low]
  | _, _, .bl _ => by simp [PV.low]
  | _, _, .int _ => by simp [PV.low]
  | _, _, .str _ => by simp [PV.low]
  | _, _, .tup _ r => by simp only [PV.low]; exact Rls.low r
  | _, _, .wtup _ r => by simp only [PV.low]; exact Rls.low r
  | _, _, .scr _ r => by simp only [PV.low]; exact Rls.low r
  | _, _, .ref e => by simp only [PV.low, decide_eq_true_eq]; exact (List.getElem?_eq_some_iff.mp e).1
  | _, _, .fn _ => by simp [PV.low]
theorem Rls.low : ∀ {v : List V} {x : List PV}, Rls K fa io H v x → PV.lows io.length x = true
  | _, _, .nil => by simp [PV.lows]
  | _, _, .cons a r => by simp only [PV.lows, Bool.and_eq_true]; exact ⟨Rl.low a, Rls.low r⟩
end
mutual
theorem Rl.trim {t : List Addr} : ∀ {v : V} {x : PV}, Rl K fa (io ++ t) H v x → PV.low io.length x = true → Rl K fa io H v x
  | _, _, .non, _ => .non
  | _, _, .bl b, _ => .bl b
  | _, _, .int i, _ => .int i
  | _, _, .str s, _ => .str s
  | _, _, .tup h r, l => .tup h (Rls.trim r (by simpa only [PV.low] using l))
  | _, _, .wtup h r, l => .wtup h (Rls.trim r (by simpa only [PV.low] using l))
  | _, _, .scr h r, l => .scr h (Rls.trim r (by simpa only [PV.low] using l))
  | _, _, .ref e, l => by
    simp only [PV.low, decide_eq_true_eq] at l
    rw [List.getElem?_append_left l] at e
    exact .ref e
  | _, _, .fn e, _ => .fn e
theorem Rls.trim {t : List Addr} : ∀ {v : List V} {x : List PV}, Rls K fa (io ++ t) H v x → PV.lows io.length x = true → Rls K fa io H v x
  | _, _, .nil, _ => .nil
  | _, _, .cons a r, l => by
    simp only [PV.lows, Bool.and_eq_true] at l
    exact .cons (Rl.trim a l.1) (Rls.trim r l.2)
end
theorem POs.same_eq : ∀ {a b : PH}, POs.same a b = true → a = b
  | [], [], _ => rfl
  | [], _ :: _, h => by simp [POs.same] at h
  | _ :: _, [], h => by simp [POs.same] at h
  | a :: r, b :: q, h => by
    simp only [POs.same, Bool.and_eq_true] at h
    rw [PO.same_eq h.1, POs.same_eq h.2]
theorem RH.keeps {v : V} {x : PV} (rh : RH K fa io H h) (ex : Ext io H io1 H1) (rh1 : RH K fa io1 H1 h1) (rv : Rl K fa io1 H1 v x) :
    ∃ io2, Ext io H io2 H1 ∧ RH K fa io2 H1 (keepP h h1 x) ∧ Rl K fa io2 H1 v x := by
  unfold keepP
  split
  · rename_i hc
    obtain ⟨hx, hc⟩ := hc
    obtain ⟨t, rfl, _⟩ := ex.more
    have hlen := rh.len
    have hlen1 := rh1.len
    rw [List.length_append] at hlen1
    refine ⟨io, ⟨⟨[], by simp, fun _ z => nomatch z⟩, ex.stay, ex.there⟩, ⟨?_, ?_, ?_⟩, rv.trim (by rw [hlen]; exact hx)⟩
    · rw [List.length_take]; omega
    · exact rh1.nd.sublist (List.sublist_append_left _ _)
    · intro m xs hm
      have hlt : m < h.length := by
        have := (List.getElem?_eq_some_iff.mp hm).1
        rw [List.length_take] at this; omega
      have hm1 : h1[m]? = some (.lst xs) := by rw [List.getElem?_take_of_lt hlt] at hm; exact hm
      obtain ⟨a, vs, e1, e2, e3⟩ := rh1.cell m xs hm1
      have e1' : io[m]? = some a := by rw [List.getElem?_append_left (by rw [hlen]; exact hlt)] at e1; exact e1
      refine ⟨a, vs, e1', e2, e3.trim ?_⟩
      rcases hc with hc | hc
      · have he := POs.same_eq hc
        rw [he] at hm
        obtain ⟨b, ws, _, _, g3⟩ := rh.cell m xs hm
        exact g3.low
      · have := List.all_eq_true.mp hc _ (List.mem_of_getElem? hm)
        rw [hlen]
        simpa only [PO.low] using this
  · exact ⟨io1, ex, rh1, rv⟩
theorem rs_start {N : List Str} {vs : List V} {args : List PV} (r : Rls K fa io H vs args) : RS K fa io H (L2.start N vs) (startP N.length args) := by
  have hl := r.length
  refine ⟨by unfold L2.start startP; simp [hl], fun i x hx => ?_⟩
  unfold startP at hx
  by_cases hi : i < args.length
  · rw [List.getElem?_append_left (by simpa using hi), List.getElem?_map] at hx
    cases ha : args[i]? with
    | none => rw [ha] at hx; cases hx
    | some y =>
      rw [ha] at hx
      cases hx
      obtain ⟨v, hv, rv⟩ := r.get ha
      refine ⟨v, ?_, rv⟩
      unfold L2.start
      rw [List.getElem?_append_left (by simp; omega), List.getElem?_map, hv]
      rfl
  · rw [List.getElem?_append_right (by simpa using hi), List.getElem?_replicate] at hx
    split at hx <;> cases hx
end
section
variable {P : Program} {w : World} {K : PySem.W.Frag} {mg : Str → Option Value} {base : Heap} {fa : Nat → Option Addr} {G : Nat → Option Fn} {x : Str} {st : Stmt} {f : Addr} {fd : FuncData} {N ps : List Str} {i k : Nat} {body : CB}
theorem cal_zero (F : C8.Def K mg x st f fd) (b : Binds K fd ps []) : C8.Cal P w K mg base 0 x (spI K fa G 0 i) [] :=
  ⟨f, fd, ps, [], ⟨fun vs H Q E z => (by obtain ⟨_, _, _, _, _, _, _, e, _⟩ := z; unfold callF at e; cases e), fun A outer s H args us vs Q E _ _ _ _ z => (by obtain ⟨_, _, _, _, _, _, _, e, _⟩ := z; unfold callF at e; cases e)⟩, F.mgf, F.kp, b, .nil⟩
theorem fn_succ (F : C8.Fun K x x st f fd) (S : FnScope N ps (C8.fnScope st)) (hG : G i = some ⟨ps.length, N.length, body⟩)
    (hbody : ∀ (cdv : Value) (A : Around) (outer : List Env) (s : Shared) (H : Hp) (E : XK), Room k (A.deeper (PyProof.Rows.envOfC x (C8.fnScope st) s.heap.objs.size f cdv)) →
      PSs (cxOf CX0 P w K mg base N x (C8.fnScope st) f cdv A outer s H E).nox (C8.fnBody st) (tK K fa (callF G k) body)) : FnOk P w K mg base CX0 (k + 1) f fd ps (spI K fa G (k + 1) i) :=
  C8.fn0 F S (fun vs H Q E ⟨io, h, args, r, h', rv, rh, e, _⟩ => by
      unfold callF at e
      rw [hG] at e
      simp only at e
      split at e
      · rename_i hl; rw [rv.length]; exact hl
      · cases e) fun cdv A outer s H vs Q E hr ⟨io, h, args, r, h', rv, rh, e, q⟩ => by
    refine ⟨_, hbody cdv A outer s H E hr, ?_⟩
    unfold callF at e
    rw [hG] at e
    simp only at e
    split at e
    · rename_i hl
      obtain ⟨fl, h1, e1, e⟩ := bind_ok e
      refine ⟨io, _, h, fl, h1, rs_start rv, rh, e1, fun io1 H1 ex1 rh1 => ?_⟩
      cases fl with
      | nx s' =>
        intro sg' _
        simp only [outF] at e
        cases e
        obtain ⟨io2, ex2, rh2, rv2⟩ := rh.keeps ex1 rh1 .non
        exact q io2 H1 .non ex2 rh2 rv2
      | rt v =>
        intro u ru
        simp only [outF] at e
        cases e
        obtain ⟨io2, ex2, rh2, rv2⟩ := rh.keeps ex1 rh1 ru
        exact q io2 H1 u ex2 rh2 rv2
      | bk s' => simp only [outF] at e; cases e
      | ct s' => simp only [outF] at e; cases e
    · cases e
theorem cal_succ (F : C8.Def K mg x st f fd) (b : Binds K fd ps []) (S : FnScope N ps (C8.fnScope st)) (hG : G i = some ⟨ps.length, N.length, body⟩)
    (hbody : ∀ (cdv : Value) (A : Around) (outer : List Env) (s : Shared) (H : Hp) (E : XK), Room k (A.deeper (PyProof.Rows.envOfC x (C8.fnScope st) s.heap.objs.size f cdv)) →
      PSs (cxOf CX0 P w K mg base N x (C8.fnScope st) f cdv A outer s H E).nox (C8.fnBody st) (tK K fa (callF G k) body)) : C8.Cal P w K mg base (k + 1) x (spI K fa G (k + 1) i) [] :=
  ⟨f, fd, ps, [], fn_succ F.fn S hG hbody, F.mgf, F.kp, b, .nil⟩
/-- a def of the module that takes its parameters by place -/
structure Has (K : PySem.W.Frag) (mg : Str → Option Value) (x : Str) (st : Stmt) (ps : List Str) : Prop where
  ex : ∃ f fd, C8.Def K mg x st f fd ∧ ∀ us : List Value, us.length = ps.length → bindArgs fd ⟨us, []⟩ = pure (ps.zip us)
theorem has_mk {h : Heap} {oc : Value} {od an : Option Addr} {osl : Array (Option Value)} {kV doc pm cdv ct : Value} (KX : K.In h) (G : h.Ns mainGlobals mg) (a : PySem.W.nsIn K mainGlobals x = some (some (.ref f)))
    (l : K.lookup f = some ⟨oc, od, .func (PySem.W.fnOf x x (C8.fnArgs st) (C8.fnBody st) (C8.fnScope st) .none kV doc pm an cdv ct), osl⟩) (c : PySem.W.codeIn K cdv x = true) (k : PySem.W.keepIn K (.ref f) = true)
    (b : ∀ (kV doc pm : Value) (an : Option Addr) (cdv ct : Value) (us : List Value), us.length = ps.length → bindArgs (PySem.W.fnOf x x (C8.fnArgs st) (C8.fnBody st) (C8.fnScope st) .none kV doc pm an cdv ct) ⟨us, []⟩ = pure (ps.zip us)) : Has K mg x st ps :=
  ⟨f, _, ⟨⟨oc, od, .none, kV, doc, pm, an, cdv, ct, osl, rfl, l, c⟩, PySem.W.mg_of KX G a, k⟩, b kV doc pm an cdv ct⟩
theorem Has.zero (h : Has K mg x st ps) : C8.Cal P w K mg base 0 x (spI K fa G 0 i) [] := by
  obtain ⟨f, fd, F, b⟩ := h.ex
  exact cal_zero F (.all b)
theorem Has.succ (h : Has K mg x st ps) (S : FnScope N ps (C8.fnScope st)) (hG : G i = some ⟨ps.length, N.length, body⟩)
    (hbody : ∀ (f : Addr) (cdv : Value) (A : Around) (outer : List Env) (s : Shared) (H : Hp) (E : XK), Room k (A.deeper (PyProof.Rows.envOfC x (C8.fnScope st) s.heap.objs.size f cdv)) →
      PSs (cxOf CX0 P w K mg base N x (C8.fnScope st) f cdv A outer s H E).nox (C8.fnBody st) (tK K fa (callF G k) body)) : C8.Cal P w K mg base (k + 1) x (spI K fa G (k + 1) i) [] := by
  obtain ⟨f, fd, F, b⟩ := h.ex
  exact cal_succ F (.all b) S hG (hbody f)
/-! ### the module's constants -/
def GC (mg : Str → Option Value) (K : PySem.W.Frag) (fa : Nat → Option Addr) (x : Str) (c : PV) : Prop := ∃ u v, mg x = some u ∧ RelV v u ∧ Con K fa v c
theorem GC.int {i : Int} {t : Tok} (h : mg x = some (.int i t)) : GC mg K fa x (.int i) := ⟨_, .int i, h, ⟨t, rfl⟩, fun _ _ => .int i⟩
theorem GC.str {y : Str} {t : Tok} (h : mg x = some (.str y t)) : GC mg K fa x (.str y) := ⟨_, .str y, h, ⟨t, rfl⟩, fun _ _ => .str y⟩
/-- a value of the written part -/
def KC (K : PySem.W.Frag) (fa : Nat → Option Addr) (u : Value) (c : PV) : Prop := ∃ v, RelV v u ∧ Con K fa v c
inductive KCs (K : PySem.W.Frag) (fa : Nat → Option Addr) : List Value → List PV → Prop
  | nil : KCs K fa [] []
  | cons {u us c cs} : KC K fa u c → KCs K fa us cs → KCs K fa (u :: us) (c :: cs)
theorem KC.int {i : Int} {t : Tok} : KC K fa (.int i t) (.int i) := ⟨.int i, ⟨t, rfl⟩, fun _ _ => .int i⟩
theorem KC.str {i : Str} {t : Tok} : KC K fa (.str i t) (.str i) := ⟨.str i, ⟨t, rfl⟩, fun _ _ => .str i⟩
theorem KC.bl {b : Bool} : KC K fa (.bool b) (.bl b) := ⟨.bl b, rfl, fun _ _ => .bl b⟩
theorem KC.non : KC K fa .none .non := ⟨.non, rfl, fun _ _ => .non⟩
theorem KCs.vals : ∀ {us : List Value} {cs : List PV}, KCs K fa us cs → ∃ vs, Vals vs us ∧ ∀ io H, Rls K fa io H vs cs
  | _, _, .nil => ⟨[], .nil, fun _ _ => .nil⟩
  | _, _, .cons ⟨v, r, c⟩ t => by
    obtain ⟨vs, h1, h2⟩ := KCs.vals t
    exact ⟨v :: vs, .cons r h1, fun io H => .cons (c io H) (h2 io H)⟩
theorem KCs.length : ∀ {us : List Value} {cs : List PV}, KCs K fa us cs → us.length = cs.length
  | _, _, .nil => rfl
  | _, _, .cons _ t => by rw [List.length_cons, List.length_cons, KCs.length t]
theorem KC.tup {a : Addr} {us : List Value} {n : Nat} {sl : Array (Option Value)} {cs : List PV} (h : K.lookup a = some ⟨.type "tuple", none, .seq us.toArray n, sl⟩) (hc : KCs K fa us cs) (hz : cs.length ≤ 1000 := by decide) : KC K fa (.ref a) (.tup cs) := by
  obtain ⟨vs, h1, h2⟩ := hc.vals
  refine ⟨.ref a, rfl, fun io H => .tup (.inr ⟨_, us.toArray, n, h, rfl, rfl, rfl, ?_, h1⟩) (h2 io H)⟩
  rw [List.size_toArray, hc.length]
  exact Nat.le_trans hz (by decide)
theorem KC.gc {u : Value} {c : PV} (h : mg x = some u) (k : KC K fa u c) : GC mg K fa x c := by
  obtain ⟨v, r, q⟩ := k
  exact ⟨u, v, h, r, q⟩
theorem KC.fn {f : Addr} {n : Nat} (h : fa n = some f) : KC K fa (.ref f) (.fn n) := ⟨.ref f, rfl, fun _ _ => .fn h⟩
end
section
variable {X : Cx} {fa : Nat → Option Addr} {cf : Nat → List PV → PH → Res PV} {x : Str} {pos : Pos} {c : PV}
theorem e_gc (h : GC X.mg X.K fa x c) (hg : Gl X x) (hd : (x == ("__debug__" : Str)) = false := by decide) : PE X (.Name x pos) (tE X.K fa cf (.con c)) := by
  obtain ⟨u, v, hm, r, q⟩ := h
  exact e_con (pe_glob hg hm r hd) q
end
/-! ### defs as values -/
section
variable {K : PySem.W.Frag} {mg : Str → Option Value} {h : Heap} {l : List (Nat × Str)} {n : Nat} {x : Str} {f : Addr}
/-- where the defs that stand as values lie -/
def fvs (K : PySem.W.Frag) (l : List (Nat × Str)) (n : Nat) : Option Addr := match l.lookup n with
  | some x => match PySem.W.nsIn K mainGlobals x with
    | some (some (.ref f)) => some f
    | _ => none
  | none => none
/-- the promise of a def, where defs stand as values -/
abbrev spV (K : PySem.W.Frag) (l : List (Nat × Str)) (G : Nat → Option Fn) (k i : Nat) : Sp := spI K (fvs K l) G k i
theorem fvs_of (hl : l.lookup n = some x) (a : PySem.W.nsIn K mainGlobals x = some (some (.ref f))) : fvs K l n = some f := by
  unfold fvs
  rw [hl]
  simp only
  rw [a]
theorem GC.fnv (KX : K.In h) (G : h.Ns mainGlobals mg) (a : PySem.W.nsIn K mainGlobals x = some (some (.ref f))) (hl : l.lookup n = some x) : GC mg K (fvs K l) x (.fn n) :=
  ⟨.ref f, .ref f, PySem.W.mg_of KX G a, rfl, fun _ _ => .fn (fvs_of hl a)⟩
theorem fvs_r (KX : K.In h) (G : h.Ns mainGlobals mg) (n : Nat) (f : Addr) (e : fvs K l n = some f) : ∃ x, l.lookup n = some x ∧ mg x = some (.ref f) := by
  unfold fvs at e
  split at e
  · rename_i x hx
    split at e
    · rename_i g hg
      cases e
      exact ⟨x, hx, PySem.W.mg_of KX G hg⟩
    · cases e
  · cases e
theorem lookup_cons {a : Nat} {y : Str} (e : ((a, y) :: l).lookup n = some x) : (n = a ∧ x = y) ∨ l.lookup n = some x := by
  rw [List.lookup_cons] at e
  split at e
  · rename_i hb
    cases e
    exact .inl ⟨by simpa using hb, rfl⟩
  · exact .inr e
theorem heldOf {P : Program} {w : World} {base : Heap} {k : Nat} {sp : Sp} (c : C8.Cal P w K mg base k x sp []) (hm : mg x = some (.ref f)) :
    ∃ (fd : FuncData) (ps : List Str), FnOk P w K mg base L2.CX0 k f fd ps sp ∧ PySem.W.keepIn K (.ref f) = true ∧ Binds K fd ps [] := by
  obtain ⟨g, fd, ps, ds, F, hg, hk, hb, hv⟩ := c.ex
  rw [hm] at hg
  cases hg
  cases hv
  exact ⟨fd, ps, F, hk, hb⟩
end
/-! ### the law -/
section
variable {K : PySem.W.Frag} {fa : Nat → Option Addr} {H : Hp}
theorem rls_ints {io : List Addr} : ∀ ns : List Int, Rls K fa io H (ns.map V.int) (ns.map PV.int)
  | [] => .nil
  | n :: r => .cons (.int n) (rls_ints r)
/-- the promise of the law, from what its code answers -/
theorem law_sp {G : Nat → Option Fn} {k i : Nat} {a : Addr} {ns : List Int} (hO : Only H) (hS : SqL K H a (ns.map V.int)) (h : ∃ h', callF G k i [.scr (ns.map PV.int)] [] = .ok (.bl true) h') (E : XK) :
    spI K fa G k i [.ref a] H (fun v _ => v = .bl true) E := by
  obtain ⟨h', e⟩ := h
  refine ⟨[], [], [.scr (ns.map PV.int)], .bl true, h', .cons (.scr ?_ (rls_ints ns)) .nil, ⟨rfl, List.nodup_nil, fun n xs hx => by simp at hx⟩, e, fun io' H' v _ _ rv => by cases rv; rfl⟩
  rcases hS with (z | z) | z
  · rcases hO a with q | ⟨o, xs, q⟩
    · rw [q] at z; cases z
    · rw [q] at z; cases z
  · exact .inl z
  · exact .inr z
end
end PB

set_option Elab.async false
set_option linter.all false
set_option maxRecDepth 100000
namespace PB
open PySem
section
variable {cf : Nat → List PV → PH → Res PV} {s : Sl} {h : PH}
@[simp] theorem bind_ok' {α β : Type} {a : α} {f : α → PH → Res β} : (Res.ok a h).bind f = f a h := by rw [Res.bind]
@[simp] theorem bind_exc {α β : Type} {c : Nat} {v : PV} {f : α → PH → Res β} : (Res.exc c v h).bind f = .exc c v h := by rw [Res.bind]
@[simp] theorem bind_bad {α β : Type} {f : α → PH → Res β} : (Res.bad : Res α).bind f = .bad := by rw [Res.bind]
@[simp] theorem bind_ite {α β : Type} {p : Prop} [Decidable p] {x y : Res α} {f : α → PH → Res β} : (if p then x else y).bind f = if p then x.bind f else y.bind f := by split <;> rfl
def PV.ifB {α : Type} (x : PV) (a b : Res α) : Res α := match x with | .bl true => a | .bl false => b | _ => .bad
@[simp] theorem ifB_bl {α : Type} {p : Bool} {a b : Res α} : (PV.bl p).ifB a b = if p = true then a else b := by cases p <;> rfl
theorem evE_var {i : Nat} : evE cf (.var i) s h = match s[i]? with | some (some v) => .ok v h | _ => .bad := by first | (rw [evE]; done) | (rw [evE]; rfl)
@[simp] theorem evE_v0 {v : PV} {s : Sl} : evE cf (.var 0) (some v :: s) h = .ok v h := by first | (rw [evE]; done) | (rw [evE]; rfl)
@[simp] theorem evE_vs {i : Nat} {o : Option PV} {s : Sl} : evE cf (.var (i + 1)) (o :: s) h = evE cf (.var i) s h := by rw [evE, evE]; rfl
@[simp] theorem evE_con {v : PV} : evE cf (.con v) s h = .ok v h := by first | (rw [evE]; done) | (rw [evE]; rfl)
@[simp] theorem evE_bin {op : BinO} {a b : CE} : evE cf (.bin op a b) s h = (evE cf a s h).bind fun x h1 => (evE cf b s h1).bind fun y h2 => binop op x y h2 := by first | (rw [evE]; done) | (rw [evE]; rfl)
@[simp] theorem evE_neg {a : CE} : evE cf (.neg a) s h = (evE cf a s h).bind fun x h1 => match x with | .int i => .ok (.int (-i)) h1 | _ => .bad := by first | (rw [evE]; done) | (rw [evE]; rfl)
@[simp] theorem evE_not {a : CE} : evE cf (.not a) s h = (evE cf a s h).bind fun x h1 => match x with | .bl b => .ok (.bl (!b)) h1 | _ => .bad := by first | (rw [evE]; done) | (rw [evE]; rfl)
@[simp] theorem evE_and {a b : CE} : evE cf (.and a b) s h = (evE cf a s h).bind fun x h1 => x.ifB (evE cf b s h1) (.ok (.bl false) h1) := by first | (rw [evE]; done) | (rw [evE]; rfl) | (rw [evE]; congr 1; funext x h1; cases x <;> first | rfl | (rename_i p; cases p <;> rfl))
@[simp] theorem evE_or {a b : CE} : evE cf (.or a b) s h = (evE cf a s h).bind fun x h1 => x.ifB (.ok (.bl true) h1) (evE cf b s h1) := by first | (rw [evE]; done) | (rw [evE]; rfl) | (rw [evE]; congr 1; funext x h1; cases x <;> first | rfl | (rename_i p; cases p <;> rfl))
@[simp] theorem evE_cmp {op : CmpO} {a b : CE} : evE cf (.cmp op a b) s h = (evE cf a s h).bind fun x h1 => (evE cf b s h1).bind fun y h2 => cmpop op x y h2 := by first | (rw [evE]; done) | (rw [evE]; rfl)
@[simp] theorem evE_chn {op op' : CmpO} {a b c : CE} : evE cf (.chn op op' a b c) s h = (evE cf a s h).bind fun x h1 => (evE cf b s h1).bind fun y h2 => (cmpop op x y h2).bind fun r h3 =>
      r.ifB ((evE cf c s h3).bind fun z h4 => cmpop op' y z h4) (.ok (.bl false) h3) := by first | (rw [evE]; done) | (rw [evE]; rfl) | (rw [evE]; congr 1; funext x h1; cases x <;> first | rfl | (rename_i p; cases p <;> rfl))
@[simp] theorem evE_ite {c a b : CE} : evE cf (.ite c a b) s h = (evE cf c s h).bind fun x h1 => x.ifB (evE cf a s h1) (evE cf b s h1) := by first | (rw [evE]; done) | (rw [evE]; rfl) | (rw [evE]; congr 1; funext x h1; cases x <;> first | rfl | (rename_i p; cases p <;> rfl))
@[simp] theorem evE_tup {es : CA} : evE cf (.tup es) s h = (evA cf es s h).bind fun xs h1 => if xs.length ≤ many then .ok (.tup xs) h1 else .bad := by first | (rw [evE]; done) | (rw [evE]; rfl)
@[simp] theorem evE_lst {es : CA} : evE cf (.lst es) s h = (evA cf es s h).bind fun xs h1 => if xs.length ≤ many then alloc xs h1 else .bad := by first | (rw [evE]; done) | (rw [evE]; rfl)
@[simp] theorem evE_idx {a b : CE} : evE cf (.idx a b) s h = (evE cf a s h).bind fun x h1 => (evE cf b s h1).bind fun y h2 => idxop x y h2 := by first | (rw [evE]; done) | (rw [evE]; rfl)
@[simp] theorem evE_two {a : CE} {k : CO} : evE cf (.two a k) s h = (evE cf a s h).bind fun x h1 => (evO cf k s h1).bind fun l h2 => (optI h2 l).bind fun l h3 => twoop x l h3 := by first | (rw [evE]; done) | (rw [evE]; rfl)
@[simp] theorem evE_slc {a : CE} {lo hi : CO} : evE cf (.slc a lo hi) s h = (evE cf a s h).bind fun x h1 => (evO cf lo s h1).bind fun l h2 => (evO cf hi s h2).bind fun u h3 =>
      (optI h3 l).bind fun l h3 => (optI h3 u).bind fun u h3 => slcop x l u h3 := by first | (rw [evE]; done) | (rw [evE]; rfl)
@[simp] theorem evE_rev {a : CE} : evE cf (.rev a) s h = (evE cf a s h).bind fun x h1 => revop x h1 := by first | (rw [evE]; done) | (rw [evE]; rfl)
@[simp] theorem evE_call {f : Nat} {es : CA} : evE cf (.call f es) s h = (evA cf es s h).bind fun xs h1 => cf f xs h1 := by first | (rw [evE]; done) | (rw [evE]; rfl)
@[simp] theorem evE_callv {i : Nat} {es : CA} : evE cf (.callv i es) s h = match s[i]? with | some (some (.fn f)) => (evA cf es s h).bind fun xs h1 => cf f xs h1 | _ => .bad := by first | (rw [evE]; done) | (rw [evE]; rfl)
@[simp] theorem evE_blt {b : Blt} {es : CA} : evE cf (.blt b es) s h = (evA cf es s h).bind fun xs h1 => blt b xs h1 := by first | (rw [evE]; done) | (rw [evE]; rfl)
@[simp] theorem evE_mth {m : Mth} {o : CE} {es : CA} : evE cf (.mth m o es) s h = (evE cf o s h).bind fun x h1 => (evA cf es s h1).bind fun xs h2 => mth m x xs h2 := by first | (rw [evE]; done) | (rw [evE]; rfl)
/-- one turn of a comprehension -/
def compF (cf : Nat → List PV → PH → Res PV) (e : CE) (own : List Nat) (tg : CT) (c : CO) (s : Sl) (x : PV) (h2 : PH) : Res (Option PV) :=
  (asT cf tg x (wipe s own) h2).bind fun s3 h3 => (evO cf c s3 h3).bind fun t h4 =>
        match t with
        | some (.bl false) => .ok none h4
        | some (.bl true) => (evE cf e s3 h4).bind fun y h5 => .ok (some y) h5
        | none => (evE cf e s3 h4).bind fun y h5 => .ok (some y) h5
        | _ => .bad
@[simp] theorem evE_comp {e : CE} {own : List Nat} {tg : CT} {it : CI} {c : CO} : evE cf (.comp e own tg it c) s h = (evI cf it s h).bind fun p h1 => if p.1.length ≤ many then
      (compL (compF cf e own tg c s) p.2 p.1 h1).bind (fun ys h2 => alloc ys h2) else .bad := by first | (rw [evE]; done) | (rw [evE]; rfl)
@[simp] theorem evA_nil : evA cf .nil s h = .ok [] h := by first | (rw [evA]; done) | (rw [evA]; rfl)
@[simp] theorem evA_cons {e : CE} {r : CA} : evA cf (.cons e r) s h = (evE cf e s h).bind fun x h1 => (evA cf r s h1).bind fun xs h2 => .ok (x :: xs) h2 := by first | (rw [evA]; done) | (rw [evA]; rfl)
@[simp] theorem evA_star {e : CE} {r : CA} : evA cf (.star e r) s h = (evE cf e s h).bind fun x h1 => match items h1 x with
    | some ys => (evA cf r s h1).bind fun xs h2 => .ok (ys ++ xs) h2
    | none => .bad := by first | (rw [evA]; done) | (rw [evA]; rfl)
@[simp] theorem evO_none : evO cf .none s h = .ok none h := by first | (rw [evO]; done) | (rw [evO]; rfl)
@[simp] theorem evO_some {e : CE} : evO cf (.some e) s h = (evE cf e s h).bind fun x h1 => .ok (some x) h1 := by first | (rw [evO]; done) | (rw [evO]; rfl)
@[simp] theorem evI_seq {e : CE} : evI cf (.seq e) s h = (evE cf e s h).bind fun x h1 => match items h1 x with | some xs => .ok (xs, leanOf h1 x) h1 | none => .bad := by first | (rw [evI]; done) | (rw [evI]; rfl)
@[simp] theorem evI_rng1 {es : CA} : evI cf (.rng1 es) s h = (evA cf es s h).bind fun xs h1 => match xs with
    | [.int b] => if -bigR ≤ b ∧ b ≤ bigR then .ok (range 0 b.toNat 1, []) h1 else .bad
    | _ => .bad := by first | (rw [evI]; done) | (rw [evI]; rfl)
@[simp] theorem evI_rng2 {es : CA} : evI cf (.rng2 es) s h = (evA cf es s h).bind fun xs h1 => match xs with
    | [.int a, .int b] => if -bigR ≤ a ∧ a ≤ bigR ∧ -bigR ≤ b ∧ b ≤ bigR then .ok (range a (b - a).toNat 1, []) h1 else .bad
    | _ => .bad := by first | (rw [evI]; done) | (rw [evI]; rfl)
@[simp] theorem evI_rng3 {es : CA} : evI cf (.rng3 es) s h = (evA cf es s h).bind fun xs h1 => match xs with
    | [.int a, .int b, .int c] => if -bigR ≤ a ∧ a ≤ bigR ∧ -bigR ≤ b ∧ b ≤ bigR ∧ c = -1 then .ok (range a (a - b).toNat (-1), []) h1 else .bad
    | _ => .bad := by first | (rw [evI]; done) | (rw [evI]; rfl)
@[simp] theorem evI_enu {es : CA} : evI cf (.enu es) s h = (evA cf es s h).bind fun xs h1 => match xs with
    | [x] => match items h1 x with | some ys => .ok (enums 0 ys, leanOf h1 x) h1 | none => .bad
    | _ => .bad := by first | (rw [evI]; done) | (rw [evI]; rfl)
@[simp] theorem evI_zip {es : CA} : evI cf (.zip es) s h = (evA cf es s h).bind fun xs h1 => match xs with
    | [x, y] => match items h1 x, items h1 y with
      | some us, some ws => .ok (zips us ws, leanOf h1 x ++ leanOf h1 y) h1
      | _, _ => .bad
    | _ => .bad := by first | (rw [evI]; done) | (rw [evI]; rfl)
@[simp] theorem asT_v {i : Nat} {x : PV} : asT cf (.v i) x s h = .ok (s.set i (some x)) h := by first | (rw [asT]; done) | (rw [asT]; rfl)
@[simp] theorem asT_s {o i : CE} {x : PV} : asT cf (.s o i) x s h = (evE cf o s h).bind fun ov h1 => (evE cf i s h1).bind fun iv h2 => (setop ov iv x h2).bind fun _ h3 => .ok s h3 := by first | (rw [asT]; done) | (rw [asT]; rfl)
@[simp] theorem asT_wcons {a r : CT} {x : PV} {xs : List PV} : asT cf (.cons a r) (.wtup (x :: xs)) s h = (asT cf a x s h).bind fun s1 h1 => asTs cf r xs s1 h1 := by first | (rw [asT]; done) | (rw [asT]; rfl)
@[simp] theorem asT_rcons {a r : CT} {n : Nat} {x : PV} {xs : List PV} (hx : h[n]? = some (.lst (x :: xs))) : asT cf (.cons a r) (.ref n) s h = (asT cf a x s h).bind fun s1 h1 => asTs cf r xs s1 h1 := by first | (rw [asT, hx]; done) | (rw [asT, hx]; rfl) | (rw [asT]; simp only [hx])
@[simp] theorem asT_cons {a r : CT} {x : PV} {xs : List PV} : asT cf (.cons a r) (.tup (x :: xs)) s h = (asT cf a x s h).bind fun s1 h1 => asTs cf r xs s1 h1 := by first | (rw [asT]; done) | (rw [asT]; rfl)
@[simp] theorem asTs_cons {a r : CT} {x : PV} {xs : List PV} : asTs cf (.cons a r) (x :: xs) s h = (asT cf a x s h).bind fun s1 h1 => asTs cf r xs s1 h1 := by first | (rw [asTs]; done) | (rw [asTs]; rfl)
@[simp] theorem asTs_nil : asTs cf .nil [] s h = .ok s h := by first | (rw [asTs]; done) | (rw [asTs]; rfl)
@[simp] theorem evS_asg {t : CT} {e : CE} : evS cf (.asg t e) s h = (evE cf e s h).bind fun x h1 => (asT cf t x s h1).bind fun s2 h2 => .ok (.nx s2) h2 := by first | (rw [evS]; done) | (rw [evS]; rfl)
@[simp] theorem evS_par {is : List Nat} {es : CA} : evS cf (.par is es) s h = (evA cf es s h).bind fun xs h1 => match setAll is xs s with | some s2 => .ok (.nx s2) h1 | none => .bad := by first | (rw [evS]; done) | (rw [evS]; rfl)
@[simp] theorem evS_aug {i : Nat} {op : BinO} {e : CE} : evS cf (.aug i op e) s h = match s[i]? with
    | some (some x) => (evE cf e s h).bind fun y h1 => if isNum x = true ∧ isNum y = true then
        (binop op x y h1).bind fun z h2 => .ok (.nx (s.set i (some z))) h2 else .bad
    | _ => .bad := by first | (rw [evS]; done) | (rw [evS]; rfl)
@[simp] theorem evS_expr {e : CE} : evS cf (.expr e) s h = (evE cf e s h).bind fun _ h1 => .ok (.nx s) h1 := by first | (rw [evS]; done) | (rw [evS]; rfl)
@[simp] theorem evS_ret {e : CE} : evS cf (.ret e) s h = (evE cf e s h).bind fun x h1 => .ok (.rt x) h1 := by first | (rw [evS]; done) | (rw [evS]; rfl)
@[simp] theorem evS_retN : evS cf .retN s h = .ok (.rt .non) h := by first | (rw [evS]; done) | (rw [evS]; rfl)
@[simp] theorem evS_ifs {c : CE} {a b : CB} : evS cf (.ifs c a b) s h = (evE cf c s h).bind fun x h1 => x.ifB (evB cf a s h1) (evB cf b s h1) := by first | (rw [evS]; done) | (rw [evS]; rfl) | (rw [evS]; congr 1; funext x h1; cases x <;> first | rfl | (rename_i p; cases p <;> rfl))
@[simp] theorem evS_whl {c : CE} {b : CB} : evS cf (.whl c b) s h = whL (evE cf c) (evB cf b) fuel s h := by first | (rw [evS]; done) | (rw [evS]; rfl)
@[simp] theorem evS_for {t : CT} {it : CI} {b : CB} : evS cf (.for_ t it b) s h = (evI cf it s h).bind fun p h1 => frL (asT cf t) (evB cf b) p.2 p.1 s h1 := by first | (rw [evS]; done) | (rw [evS]; rfl)
@[simp] theorem evS_brk : evS cf .brk s h = .ok (.bk s) h := by first | (rw [evS]; done) | (rw [evS]; rfl)
@[simp] theorem evS_cnt : evS cf .cnt s h = .ok (.ct s) h := by first | (rw [evS]; done) | (rw [evS]; rfl)
@[simp] theorem evS_pass : evS cf .pass s h = .ok (.nx s) h := by first | (rw [evS]; done) | (rw [evS]; rfl)
@[simp] theorem evS_raise {c : Nat} {es : CA} : evS cf (.raise c es) s h = (evA cf es s h).bind fun xs h1 => .exc c (.tup xs) h1 := by first | (rw [evS]; done) | (rw [evS]; rfl)
@[simp] theorem evB_nil : evB cf .nil s h = .ok (.nx s) h := by first | (rw [evB]; done) | (rw [evB]; rfl)
@[simp] theorem evB_cons {st : CS} {r : CB} : evB cf (.cons st r) s h = (evS cf st s h).bind fun f h1 => match f with
    | .nx s2 => evB cf r s2 h1
    | f => .ok f h1 := by first | (rw [evB]; done) | (rw [evB]; rfl)
theorem callF_eq {G : Nat → Option Fn} {k i : Nat} {args : List PV} {f : Fn} (hG : G i = some f) (hl : args.length = f.np) :
    callF G (k + 1) i args h = (evB (callF G k) f.body (startP f.ns args) h).bind (outF h) := by
  rw [callF, hG]
  simp only
  rw [if_pos hl]
end
end PB

set_option Elab.async false
set_option linter.all false
set_option maxRecDepth 100000
set_option maxHeartbeats 4000000
namespace PB
open PySem PySem.Spec L2
def c_is_int : CB := (.cons (.ret (.and (.blt .isInt (.cons (.var 0) .nil)) (.not (.blt .isBool (.cons (.var 0) .nil))))) .nil)
def f_is_int : Fn := ⟨1, 1, c_is_int⟩
def c_is_from : CB := (.cons (.ret (.and (.call 0 (.cons (.var 0) .nil)) (.chn .le .le (.var 1) (.var 0) (.var 2)))) .nil)
def f_is_from : Fn := ⟨3, 3, c_is_from⟩
def c_is_ratio : CB := (.cons (.ifs (.or (.not (.blt .isTup (.cons (.var 0) .nil))) (.or (.cmp .ne (.blt .len (.cons (.var 0) .nil)) (.con (.int 2))) (.or (.not (.call 0 (.cons (.idx (.var 0) (.con (.int 0))) .nil))) (.not (.call 0 (.cons (.idx (.var 0) (.con (.int 1))) .nil)))))) (.cons (.ret (.con (.bl false))) .nil) .nil) (.cons (.ret (.and (.cmp .gt (.idx (.var 0) (.con (.int 1))) (.con (.int 0))) (.cmp .eq (.blt .gcd (.cons (.idx (.var 0) (.con (.int 0))) (.cons (.idx (.var 0) (.con (.int 1))) .nil))) (.con (.int 1))))) .nil))
def f_is_ratio : Fn := ⟨1, 1, c_is_ratio⟩
def c_made : CB := (.cons (.asg (.v 2) (.blt .gcd (.cons (.var 0) (.cons (.var 1) .nil)))) (.cons (.ifs (.cmp .lt (.var 1) (.con (.int 0))) (.cons (.asg (.v 2) (.neg (.var 2))) .nil) .nil) (.cons (.ret (.tup (.cons (.bin .fdiv (.var 0) (.var 2)) (.cons (.bin .fdiv (.var 1) (.var 2)) .nil)))) .nil)))
def f_made : Fn := ⟨2, 3, c_made⟩
def c_plus : CB := (.cons (.ret (.call 2 (.cons (.bin .add (.bin .mul (.idx (.var 0) (.con (.int 0))) (.idx (.var 1) (.con (.int 1)))) (.bin .mul (.idx (.var 1) (.con (.int 0))) (.idx (.var 0) (.con (.int 1))))) (.cons (.bin .mul (.idx (.var 0) (.con (.int 1))) (.idx (.var 1) (.con (.int 1)))) .nil)))) .nil)
def f_plus : Fn := ⟨2, 2, c_plus⟩
def c_less : CB := (.cons (.ret (.call 2 (.cons (.bin .sub (.bin .mul (.idx (.var 0) (.con (.int 0))) (.idx (.var 1) (.con (.int 1)))) (.bin .mul (.idx (.var 1) (.con (.int 0))) (.idx (.var 0) (.con (.int 1))))) (.cons (.bin .mul (.idx (.var 0) (.con (.int 1))) (.idx (.var 1) (.con (.int 1)))) .nil)))) .nil)
def f_less : Fn := ⟨2, 2, c_less⟩
def c_times : CB := (.cons (.ret (.call 2 (.cons (.bin .mul (.idx (.var 0) (.con (.int 0))) (.idx (.var 1) (.con (.int 0)))) (.cons (.bin .mul (.idx (.var 0) (.con (.int 1))) (.idx (.var 1) (.con (.int 1)))) .nil)))) .nil)
def f_times : Fn := ⟨2, 2, c_times⟩
def c_over : CB := (.cons (.ret (.call 2 (.cons (.bin .mul (.idx (.var 0) (.con (.int 0))) (.idx (.var 1) (.con (.int 1)))) (.cons (.bin .mul (.idx (.var 0) (.con (.int 1))) (.idx (.var 1) (.con (.int 0)))) .nil)))) .nil)
def f_over : Fn := ⟨2, 2, c_over⟩
def c_negative : CB := (.cons (.ret (.tup (.cons (.neg (.idx (.var 0) (.con (.int 0)))) (.cons (.idx (.var 0) (.con (.int 1))) .nil)))) .nil)
def f_negative : Fn := ⟨1, 1, c_negative⟩
def c_is_below : CB := (.cons (.ret (.cmp .lt (.bin .mul (.idx (.var 0) (.con (.int 0))) (.idx (.var 1) (.con (.int 1)))) (.bin .mul (.idx (.var 1) (.con (.int 0))) (.idx (.var 0) (.con (.int 1)))))) .nil)
def f_is_below : Fn := ⟨2, 2, c_is_below⟩
def c_between : CB := (.cons (.ret (.call 4 (.cons (.var 0) (.cons (.call 5 (.cons (.var 2) (.cons (.call 31 (.cons (.var 1) (.cons (.var 0) .nil))) .nil))) .nil)))) .nil)
def f_between : Fn := ⟨3, 3, c_between⟩
def c_are_ratios : CB := (.cons (.ret (.and (.blt .isTup (.cons (.var 0) .nil)) (.and (.cmp .eq (.blt .len (.cons (.var 0) .nil)) (.var 1)) (.blt .all (.cons (.comp (.call 1 (.cons (.var 2) .nil)) [2] (.v 2) (.seq (.var 0)) .none) .nil))))) .nil)
def f_are_ratios : Fn := ⟨2, 3, c_are_ratios⟩
def c_is_poly : CB := (.cons (.ifs (.or (.not (.blt .isTup (.cons (.var 0) .nil))) (.or (.cmp .gt (.blt .len (.cons (.var 0) .nil)) (.bin .add (.con (.int 12)) (.con (.int 1)))) (.not (.blt .all (.cons (.comp (.call 1 (.cons (.var 1) .nil)) [1] (.v 1) (.seq (.var 0)) .none) .nil))))) (.cons (.ret (.con (.bl false))) .nil) .nil) (.cons (.ret (.or (.cmp .eq (.var 0) (.tup .nil)) (.cmp .ne (.idx (.var 0) (.neg (.con (.int 1)))) (.con (.tup [(.int 0), (.int 1)]))))) .nil))
def f_is_poly : Fn := ⟨1, 2, c_is_poly⟩
def c_need_poly : CB := (.cons (.ifs (.not (.call 3 (.cons (.var 0) .nil))) (.cons (.raise 0 .nil) .nil) .nil) .nil)
def f_need_poly : Fn := ⟨1, 1, c_need_poly⟩
def c_trimmed : CB := (.cons (.asg (.v 1) (.blt .len (.cons (.var 0) .nil))) (.cons (.whl (.and (.cmp .gt (.var 1) (.con (.int 0))) (.cmp .eq (.idx (.var 0) (.bin .sub (.var 1) (.con (.int 1)))) (.con (.tup [(.int 0), (.int 1)])))) (.cons (.aug 1 .sub (.con (.int 1))) .nil)) (.cons (.ret (.blt .tuple (.cons (.slc (.var 0) .none (.some (.var 1))) .nil))) .nil)))
def f_trimmed : Fn := ⟨1, 2, c_trimmed⟩
def c_p_plus : CB := (.cons (.asg (.v 2) (.blt .max2 (.cons (.blt .len (.cons (.var 0) .nil)) (.cons (.blt .len (.cons (.var 1) .nil)) .nil)))) (.cons (.asg (.v 3) (.lst (.star (.var 0) (.star (.bin .mul (.lst (.cons (.con (.tup [(.int 0), (.int 1)])) .nil)) (.bin .sub (.var 2) (.blt .len (.cons (.var 0) .nil)))) .nil)))) (.cons (.asg (.v 4) (.lst (.star (.var 1) (.star (.bin .mul (.lst (.cons (.con (.tup [(.int 0), (.int 1)])) .nil)) (.bin .sub (.var 2) (.blt .len (.cons (.var 1) .nil)))) .nil)))) (.cons (.ret (.call 9 (.cons (.comp (.call 4 (.cons (.var 5) (.cons (.var 6) .nil))) [5, 6] (.cons (.v 5) (.cons (.v 6) .nil)) (.zip (.cons (.var 3) (.cons (.var 4) .nil))) .none) .nil))) .nil))))
def f_p_plus : Fn := ⟨2, 7, c_p_plus⟩
def c_p_scaled : CB := (.cons (.ret (.call 9 (.cons (.comp (.call 5 (.cons (.var 2) (.cons (.var 1) .nil))) [2] (.v 2) (.seq (.var 0)) .none) .nil))) .nil)
def f_p_scaled : Fn := ⟨2, 3, c_p_scaled⟩
def c_p_times : CB := (.cons (.ifs (.or (.cmp .eq (.var 0) (.tup .nil)) (.cmp .eq (.var 1) (.tup .nil))) (.cons (.ret (.tup .nil)) .nil) .nil) (.cons (.asg (.v 2) (.bin .mul (.lst (.cons (.con (.tup [(.int 0), (.int 1)])) .nil)) (.bin .sub (.bin .add (.blt .len (.cons (.var 0) .nil)) (.blt .len (.cons (.var 1) .nil))) (.con (.int 1))))) (.cons (.for_ (.cons (.v 3) (.cons (.v 4) .nil)) (.enu (.cons (.var 0) .nil)) (.cons (.for_ (.cons (.v 5) (.cons (.v 6) .nil)) (.enu (.cons (.var 1) .nil)) (.cons (.asg (.s (.var 2) (.bin .add (.var 3) (.var 5))) (.call 4 (.cons (.idx (.var 2) (.bin .add (.var 3) (.var 5))) (.cons (.call 5 (.cons (.var 4) (.cons (.var 6) .nil))) .nil)))) .nil)) .nil)) (.cons (.ret (.blt .tuple (.cons (.var 2) .nil))) .nil))))
def f_p_times : Fn := ⟨2, 7, c_p_times⟩
def c_choose : CB := (.cons (.asg (.v 2) (.con (.int 1))) (.cons (.for_ (.v 3) (.rng1 (.cons (.var 1) .nil)) (.cons (.asg (.v 2) (.bin .fdiv (.bin .mul (.var 2) (.bin .sub (.var 0) (.var 3))) (.bin .add (.var 3) (.con (.int 1))))) .nil)) (.cons (.ret (.var 2)) .nil)))
def f_choose : Fn := ⟨2, 4, c_choose⟩
def c_need_degree : CB := (.cons (.ifs (.or (.not (.call 75 (.cons (.var 1) (.cons (.con (.int 0)) (.cons (.con (.int 8)) .nil))))) (.cmp .gt (.blt .len (.cons (.var 0) .nil)) (.bin .add (.var 1) (.con (.int 1))))) (.cons (.raise 0 .nil) .nil) .nil) .nil)
def f_need_degree : Fn := ⟨2, 2, c_need_degree⟩
def c_symmetric : CB := (.cons (.asg (.v 1) (.lst (.cons (.con (.tup [(.int 1), (.int 1)])) .nil))) (.cons (.for_ (.v 2) (.seq (.var 0)) (.cons (.asg (.v 3) (.lst (.star (.var 1) (.cons (.con (.tup [(.int 0), (.int 1)])) .nil)))) (.cons (.for_ (.v 4) (.rng1 (.cons (.blt .len (.cons (.var 1) .nil)) .nil)) (.cons (.asg (.s (.var 3) (.bin .add (.var 4) (.con (.int 1)))) (.call 4 (.cons (.idx (.var 3) (.bin .add (.var 4) (.con (.int 1)))) (.cons (.call 5 (.cons (.idx (.var 1) (.var 4)) (.cons (.var 2) .nil))) .nil)))) .nil)) (.cons (.asg (.v 1) (.var 3)) .nil)))) (.cons (.ret (.var 1)) .nil)))
def f_symmetric : Fn := ⟨1, 5, c_symmetric⟩
def c_blossom_of : CB := (.cons (.par [2, 3] (.cons (.con (.tup [(.int 0), (.int 1)])) (.cons (.call 77 (.cons (.var 1) .nil)) .nil))) (.cons (.for_ (.cons (.v 4) (.cons (.v 5) .nil)) (.enu (.cons (.var 0) .nil)) (.cons (.asg (.v 2) (.call 4 (.cons (.var 2) (.cons (.call 5 (.cons (.var 5) (.cons (.call 5 (.cons (.idx (.var 3) (.var 4)) (.cons (.call 2 (.cons (.con (.int 1)) (.cons (.call 76 (.cons (.blt .len (.cons (.var 1) .nil)) (.cons (.var 4) .nil))) .nil))) .nil))) .nil))) .nil)))) .nil)) (.cons (.ret (.var 2)) .nil)))
def f_blossom_of : Fn := ⟨2, 6, c_blossom_of⟩
def c_faults_of : CB := (.cons (.ifs (.or (.not (.blt .isTup (.cons (.var 1) .nil))) (.not (.chn .le .le (.bin .add (.var 0) (.con (.int 2))) (.blt .len (.cons (.var 1) .nil)) (.con (.int 16))))) (.cons (.ret (.lst (.cons (.con .non) .nil))) .nil) .nil) (.cons (.for_ (.cons (.v 2) (.cons (.v 3) .nil)) (.enu (.cons (.var 1) .nil)) (.cons (.ifs (.or (.not (.call 1 (.cons (.var 3) .nil))) (.and (.cmp .gt (.var 2) (.con (.int 0))) (.call 49 (.cons (.var 3) (.cons (.idx (.var 1) (.bin .sub (.var 2) (.con (.int 1)))) .nil))))) (.cons (.ret (.lst (.cons (.var 2) .nil))) .nil) .nil) (.cons (.ifs (.and (.cmp .gt (.var 2) (.var 0)) (.cmp .eq (.idx (.var 1) (.bin .sub (.bin .sub (.var 2) (.var 0)) (.con (.int 1)))) (.var 3))) (.cons (.ret (.lst (.cons (.var 2) .nil))) .nil) .nil) .nil))) (.cons (.ret (.lst .nil)) .nil)))
def f_faults_of : Fn := ⟨2, 4, c_faults_of⟩
def c_need_knots : CB := (.cons (.asg (.v 2) (.call 145 (.cons (.var 0) (.cons (.var 1) .nil)))) (.cons (.ifs (.cmp .ne (.var 2) (.lst .nil)) (.cons (.raise 0 .nil) .nil) .nil) .nil))
def f_need_knots : Fn := ⟨2, 3, c_need_knots⟩
def c_basis_poly : CB := (.cons (.ifs (.cmp .eq (.var 0) (.con (.int 0))) (.cons (.ret (.ite (.cmp .eq (.var 2) (.var 3)) (.tup (.cons (.con (.tup [(.int 1), (.int 1)])) .nil)) (.tup .nil))) .nil) .nil) (.cons (.asg (.v 4) (.tup .nil)) (.cons (.par [5, 6] (.cons (.idx (.var 1) (.var 2)) (.cons (.idx (.var 1) (.bin .add (.var 2) (.var 0))) .nil))) (.cons (.ifs (.cmp .ne (.var 5) (.var 6)) (.cons (.asg (.v 7) (.call 32 (.cons (.con (.tup [(.int 1), (.int 1)])) (.cons (.call 31 (.cons (.var 6) (.cons (.var 5) .nil))) .nil)))) (.cons (.asg (.v 4) (.call 13 (.cons (.tup (.cons (.call 5 (.cons (.call 52 (.cons (.var 5) .nil)) (.cons (.var 7) .nil))) (.cons (.var 7) .nil))) (.cons (.call 155 (.cons (.bin .sub (.var 0) (.con (.int 1))) (.cons (.var 1) (.cons (.var 2) (.cons (.var 3) .nil))))) .nil)))) .nil)) .nil) (.cons (.par [5, 6] (.cons (.idx (.var 1) (.bin .add (.var 2) (.con (.int 1)))) (.cons (.idx (.var 1) (.bin .add (.bin .add (.var 2) (.var 0)) (.con (.int 1)))) .nil))) (.cons (.ifs (.cmp .ne (.var 5) (.var 6)) (.cons (.asg (.v 7) (.call 32 (.cons (.con (.tup [(.int 1), (.int 1)])) (.cons (.call 31 (.cons (.var 6) (.cons (.var 5) .nil))) .nil)))) (.cons (.asg (.v 8) (.tup (.cons (.call 5 (.cons (.var 6) (.cons (.var 7) .nil))) (.cons (.call 52 (.cons (.var 7) .nil)) .nil)))) (.cons (.asg (.v 4) (.call 10 (.cons (.var 4) (.cons (.call 13 (.cons (.var 8) (.cons (.call 155 (.cons (.bin .sub (.var 0) (.con (.int 1))) (.cons (.var 1) (.cons (.bin .add (.var 2) (.con (.int 1))) (.cons (.var 3) .nil))))) .nil))) .nil)))) .nil))) .nil) (.cons (.ret (.var 4)) .nil)))))))
def f_basis_poly : Fn := ⟨4, 9, c_basis_poly⟩
def c_need_spline : CB := (.cons (.ifs (.or (.not (.blt .isTup (.cons (.var 0) .nil))) (.cmp .ne (.blt .len (.cons (.var 0) .nil)) (.con (.int 3)))) (.cons (.raise 0 .nil) .nil) .nil) (.cons (.asg (.cons (.v 1) (.cons (.v 2) (.cons (.v 3) .nil))) (.var 0)) (.cons (.ifs (.not (.call 75 (.cons (.var 1) (.cons (.con (.int 0)) (.cons (.con (.int 4)) .nil))))) (.cons (.raise 0 .nil) .nil) .nil) (.cons (.ifs (.or (.cmp .ne (.call 145 (.cons (.var 1) (.cons (.var 2) .nil))) (.lst .nil)) (.cmp .lt (.blt .len (.cons (.var 2) .nil)) (.bin .add (.bin .mul (.con (.int 2)) (.var 1)) (.con (.int 2))))) (.cons (.raise 0 .nil) .nil) .nil) (.cons (.ifs (.or (.cmp .ne (.idx (.var 2) (.con (.int 0))) (.idx (.var 2) (.var 1))) (.cmp .ne (.idx (.var 2) (.neg (.con (.int 1)))) (.idx (.var 2) (.bin .sub (.neg (.var 1)) (.con (.int 1)))))) (.cons (.raise 0 .nil) .nil) .nil) (.cons (.ifs (.not (.call 50 (.cons (.var 3) (.cons (.bin .sub (.bin .sub (.blt .len (.cons (.var 2) .nil)) (.var 1)) (.con (.int 1))) .nil)))) (.cons (.raise 0 .nil) .nil) .nil) .nil))))))
def f_need_spline : Fn := ⟨1, 4, c_need_spline⟩
def c_is_inner : CB := (.cons (.ret (.and (.call 1 (.cons (.var 1) .nil)) (.and (.call 49 (.cons (.idx (.idx (.var 0) (.con (.int 1))) (.con (.int 0))) (.cons (.var 1) .nil))) (.call 49 (.cons (.var 1) (.cons (.idx (.idx (.var 0) (.con (.int 1))) (.neg (.con (.int 1)))) .nil)))))) .nil)
def f_is_inner : Fn := ⟨2, 2, c_is_inner⟩
def c_need_inner : CB := (.cons (.ifs (.not (.call 175 (.cons (.var 0) (.cons (.var 1) .nil)))) (.cons (.raise 0 .nil) .nil) .nil) .nil)
def f_need_inner : Fn := ⟨2, 2, c_need_inner⟩
def c_span_of : CB := (.cons (.asg (.v 2) (.con (.int 0))) (.cons (.for_ (.v 3) (.rng1 (.cons (.bin .sub (.blt .len (.cons (.var 0) .nil)) (.con (.int 1))) .nil)) (.cons (.ifs (.and (.cmp .ne (.idx (.var 0) (.var 3)) (.idx (.var 0) (.bin .add (.var 3) (.con (.int 1))))) (.not (.call 49 (.cons (.var 1) (.cons (.idx (.var 0) (.var 3)) .nil))))) (.cons (.asg (.v 2) (.var 3)) .nil) .nil) .nil)) (.cons (.ret (.var 2)) .nil)))
def f_span_of : Fn := ⟨2, 4, c_span_of⟩
def c_pieces_of : CB := (.cons (.asg (.cons (.v 3) (.cons (.v 4) (.cons (.v 5) .nil))) (.var 0)) (.cons (.asg (.v 1) (.lst .nil)) (.cons (.for_ (.v 2) (.rng1 (.cons (.bin .sub (.blt .len (.cons (.var 4) .nil)) (.con (.int 1))) .nil)) (.cons (.ifs (.cmp .ne (.idx (.var 4) (.var 2)) (.idx (.var 4) (.bin .add (.var 2) (.con (.int 1))))) (.cons (.asg (.v 6) (.tup .nil)) (.cons (.for_ (.v 7) (.rng2 (.cons (.bin .sub (.var 2) (.var 3)) (.cons (.bin .add (.var 2) (.con (.int 1))) .nil))) (.cons (.asg (.v 6) (.call 10 (.cons (.var 6) (.cons (.call 33 (.cons (.call 155 (.cons (.var 3) (.cons (.var 4) (.cons (.var 7) (.cons (.var 2) .nil))))) (.cons (.idx (.var 5) (.var 7)) .nil))) .nil)))) .nil)) (.cons (.expr (.mth .append (.var 1) (.cons (.tup (.cons (.tup (.cons (.idx (.var 4) (.var 2)) (.cons (.idx (.var 4) (.bin .add (.var 2) (.con (.int 1)))) .nil))) (.cons (.var 6) .nil))) .nil))) .nil))) .nil) .nil)) (.cons (.ret (.blt .tuple (.cons (.var 1) .nil))) .nil))))
def f_pieces_of : Fn := ⟨1, 8, c_pieces_of⟩
def c_spline_pieces : CB := (.cons (.expr (.call 165 (.cons (.var 0) .nil))) (.cons (.ret (.call 166 (.cons (.var 0) .nil))) .nil))
def f_spline_pieces : Fn := ⟨1, 1, c_spline_pieces⟩
def c_with_knot : CB := (.cons (.asg (.cons (.v 3) (.cons (.v 4) (.cons (.v 5) .nil))) (.var 0)) (.cons (.par [6, 7] (.cons (.call 163 (.cons (.var 4) (.cons (.var 1) .nil))) (.cons (.lst .nil) .nil))) (.cons (.for_ (.v 2) (.rng1 (.cons (.bin .add (.blt .len (.cons (.var 5) .nil)) (.con (.int 1))) .nil)) (.cons (.ifs (.cmp .le (.var 2) (.bin .sub (.var 6) (.var 3))) (.cons (.expr (.mth .append (.var 7) (.cons (.idx (.var 5) (.var 2)) .nil))) .nil) (.cons (.ifs (.cmp .gt (.var 2) (.var 6)) (.cons (.expr (.mth .append (.var 7) (.cons (.idx (.var 5) (.bin .sub (.var 2) (.con (.int 1)))) .nil))) .nil) (.cons (.asg (.v 8) (.call 32 (.cons (.call 31 (.cons (.var 1) (.cons (.idx (.var 4) (.var 2)) .nil))) (.cons (.call 31 (.cons (.idx (.var 4) (.bin .add (.var 2) (.var 3))) (.cons (.idx (.var 4) (.var 2)) .nil))) .nil)))) (.cons (.expr (.mth .append (.var 7) (.cons (.call 100 (.cons (.idx (.var 5) (.bin .sub (.var 2) (.con (.int 1)))) (.cons (.idx (.var 5) (.var 2)) (.cons (.var 8) .nil)))) .nil))) .nil))) .nil)) .nil)) (.cons (.ret (.tup (.cons (.var 3) (.cons (.tup (.star (.slc (.var 4) .none (.some (.bin .add (.var 6) (.con (.int 1))))) (.cons (.var 1) (.star (.slc (.var 4) (.some (.bin .add (.var 6) (.con (.int 1)))) .none) .nil)))) (.cons (.blt .tuple (.cons (.var 7) .nil)) .nil))))) .nil))))
def f_with_knot : Fn := ⟨2, 9, c_with_knot⟩
def c_inserted : CB := (.cons (.expr (.call 165 (.cons (.var 0) .nil))) (.cons (.expr (.call 177 (.cons (.var 0) (.cons (.var 1) .nil)))) (.cons (.asg (.cons (.v 2) (.cons (.v 3) (.cons (.v 4) .nil))) (.var 0)) (.cons (.ifs (.cmp .gt (.mth .count (.var 3) (.cons (.var 1) .nil)) (.var 2)) (.cons (.raise 0 .nil) .nil) .nil) (.cons (.ifs (.cmp .eq (.blt .len (.cons (.var 3) .nil)) (.con (.int 16))) (.cons (.raise 0 .nil) .nil) .nil) (.cons (.ret (.call 176 (.cons (.var 0) (.cons (.var 1) .nil)))) .nil))))))
def f_inserted : Fn := ⟨2, 5, c_inserted⟩
def c_missing : CB := (.cons (.par [3, 4] (.cons (.blt .list (.cons (.var 0) .nil)) (.cons (.lst .nil) .nil))) (.cons (.for_ (.v 2) (.seq (.var 1)) (.cons (.ifs (.and (.cmp .ne (.var 3) (.lst .nil)) (.cmp .eq (.idx (.var 3) (.con (.int 0))) (.var 2))) (.cons (.expr (.mth .pop0 (.var 3) (.cons (.con (.int 0)) .nil))) .nil) (.cons (.expr (.mth .append (.var 4) (.cons (.var 2) .nil))) .nil)) .nil)) (.cons (.ret (.ite (.cmp .eq (.var 3) (.lst .nil)) (.var 4) (.con .non))) .nil)))
def f_missing : Fn := ⟨2, 5, c_missing⟩
def c_refined : CB := (.cons (.expr (.call 165 (.cons (.var 0) .nil))) (.cons (.expr (.call 148 (.cons (.idx (.var 0) (.con (.int 0))) (.cons (.var 1) .nil)))) (.cons (.asg (.v 2) (.call 181 (.cons (.idx (.var 0) (.con (.int 1))) (.cons (.var 1) .nil)))) (.cons (.ifs (.or (.cmp .isN (.var 2) (.con .non)) (.not (.blt .all (.cons (.comp (.and (.call 49 (.cons (.idx (.idx (.var 0) (.con (.int 1))) (.con (.int 0))) (.cons (.var 4) .nil))) (.call 49 (.cons (.var 4) (.cons (.idx (.idx (.var 0) (.con (.int 1))) (.neg (.con (.int 1)))) .nil)))) [4] (.v 4) (.seq (.var 2)) .none) .nil)))) (.cons (.raise 0 .nil) .nil) .nil) (.cons (.asg (.v 3) (.var 0)) (.cons (.for_ (.v 4) (.seq (.var 2)) (.cons (.asg (.v 3) (.call 176 (.cons (.var 3) (.cons (.var 4) .nil)))) .nil)) (.cons (.ret (.var 3)) .nil)))))))
def f_refined : Fn := ⟨2, 5, c_refined⟩
def c_is_interval : CB := (.cons (.ifs (.or (.not (.blt .isTup (.cons (.var 0) .nil))) (.or (.cmp .ne (.blt .len (.cons (.var 0) .nil)) (.con (.int 2))) (.or (.not (.call 1 (.cons (.idx (.var 0) (.con (.int 0))) .nil))) (.not (.call 1 (.cons (.idx (.var 0) (.con (.int 1))) .nil)))))) (.cons (.ret (.con (.bl false))) .nil) .nil) (.cons (.ret (.call 49 (.cons (.idx (.var 0) (.con (.int 0))) (.cons (.idx (.var 0) (.con (.int 1))) .nil)))) .nil))
def f_is_interval : Fn := ⟨1, 1, c_is_interval⟩
def c_need_interval : CB := (.cons (.ifs (.not (.call 84 (.cons (.var 0) .nil))) (.cons (.raise 0 .nil) .nil) .nil) .nil)
def f_need_interval : Fn := ⟨1, 1, c_need_interval⟩
def c_control_row : CB := (.cons (.asg (.cons (.v 3) (.cons (.v 4) .nil)) (.var 2)) (.cons (.ret (.blt .tuple (.cons (.comp (.call 78 (.cons (.var 0) (.cons (.bin .add (.bin .mul (.lst (.cons (.var 3) .nil)) (.bin .sub (.var 1) (.var 5))) (.bin .mul (.lst (.cons (.var 4) .nil)) (.var 5))) .nil))) [5] (.v 5) (.rng1 (.cons (.bin .add (.var 1) (.con (.int 1))) .nil)) .none) .nil))) .nil))
def f_control_row : Fn := ⟨3, 6, c_control_row⟩
def c_row_of : CB := (.cons (.expr (.call 8 (.cons (.var 0) .nil))) (.cons (.expr (.call 79 (.cons (.var 0) (.cons (.var 1) .nil)))) (.cons (.expr (.call 88 (.cons (.var 2) .nil))) (.cons (.ret (.call 87 (.cons (.var 0) (.cons (.var 1) (.cons (.var 2) .nil))))) .nil))))
def f_row_of : Fn := ⟨3, 3, c_row_of⟩
def c__law_taken : CB := (.cons (.ifs (.cmp .gt (.idx (.var 0) (.con (.int 3))) (.con (.int 0))) (.cons (.asg (.v 3) (.bin .mod (.blt .int (.cons (.idx (.var 0) (.con (.int 3))) .nil)) (.var 1))) (.cons (.asg (.s (.var 0) (.con (.int 3))) (.bin .fdiv (.idx (.var 0) (.con (.int 3))) (.var 1))) (.cons (.ret (.var 3)) .nil))) .nil) (.cons (.asg (.s (.var 0) (.con (.int 1))) (.bin .add (.idx (.var 0) (.con (.int 1))) (.con (.int 1)))) (.cons (.ifs (.cmp .gt (.idx (.var 0) (.con (.int 1))) (.blt .len (.cons (.idx (.var 0) (.con (.int 0))) .nil))) (.cons (.asg (.s (.var 0) (.con (.int 2))) (.bin .mod (.blt .int (.cons (.bin .add (.bin .mul (.idx (.var 0) (.con (.int 2))) (.con (.int 48271))) (.con (.int 11))) .nil)) (.con (.int 2147483647)))) (.cons (.ret (.bin .mod (.blt .int (.cons (.bin .fdiv (.idx (.var 0) (.con (.int 2))) (.con (.int 7))) .nil)) (.var 1))) .nil)) .nil) (.cons (.asg (.v 2) (.idx (.idx (.var 0) (.con (.int 0))) (.bin .sub (.idx (.var 0) (.con (.int 1))) (.con (.int 1))))) (.cons (.asg (.s (.var 0) (.con (.int 2))) (.bin .mod (.blt .int (.cons (.bin .add (.bin .add (.bin .mul (.idx (.var 0) (.con (.int 2))) (.con (.int 48271))) (.var 2)) (.con (.int 11))) .nil)) (.con (.int 2147483647)))) (.cons (.ifs (.cmp .ge (.var 2) (.bin .pow (.con (.int 10)) (.con (.int 18)))) (.cons (.asg (.s (.var 0) (.con (.int 3))) (.bin .fdiv (.var 2) (.var 1))) .nil) .nil) (.cons (.ret (.bin .mod (.blt .int (.cons (.var 2) .nil)) (.var 1))) .nil)))))))
def f__law_taken : Fn := ⟨2, 4, c__law_taken⟩
def c__law_pick : CB := (.cons (.ret (.idx (.var 1) (.call 14 (.cons (.var 0) (.cons (.blt .len (.cons (.var 1) .nil)) .nil))))) .nil)
def f__law_pick : Fn := ⟨2, 2, c__law_pick⟩
def c__law_made : CB := (.cons (.par [3, 4] (.cons (.blt .abs (.cons (.var 0) .nil)) (.cons (.blt .abs (.cons (.var 1) .nil)) .nil))) (.cons (.for_ (.v 2) (.rng1 (.cons (.con (.int 10000)) .nil)) (.cons (.ifs (.cmp .eq (.var 4) (.con (.int 0))) (.cons .brk .nil) .nil) (.cons (.par [3, 4] (.cons (.var 4) (.cons (.bin .mod (.var 3) (.var 4)) .nil))) .nil))) (.cons (.asg (.v 3) (.ite (.cmp .lt (.var 1) (.con (.int 0))) (.bin .sub (.con (.int 0)) (.var 3)) (.var 3))) (.cons (.ret (.tup (.cons (.bin .fdiv (.var 0) (.var 3)) (.cons (.bin .fdiv (.var 1) (.var 3)) .nil)))) .nil))))
def f__law_made : Fn := ⟨2, 5, c__law_made⟩
def c__law_plus : CB := (.cons (.ret (.call 16 (.cons (.bin .add (.bin .mul (.idx (.var 0) (.con (.int 0))) (.idx (.var 1) (.con (.int 1)))) (.bin .mul (.idx (.var 1) (.con (.int 0))) (.idx (.var 0) (.con (.int 1))))) (.cons (.bin .mul (.idx (.var 0) (.con (.int 1))) (.idx (.var 1) (.con (.int 1)))) .nil)))) .nil)
def f__law_plus : Fn := ⟨2, 2, c__law_plus⟩
def c__law_minus : CB := (.cons (.ret (.call 16 (.cons (.bin .sub (.bin .mul (.idx (.var 0) (.con (.int 0))) (.idx (.var 1) (.con (.int 1)))) (.bin .mul (.idx (.var 1) (.con (.int 0))) (.idx (.var 0) (.con (.int 1))))) (.cons (.bin .mul (.idx (.var 0) (.con (.int 1))) (.idx (.var 1) (.con (.int 1)))) .nil)))) .nil)
def f__law_minus : Fn := ⟨2, 2, c__law_minus⟩
def c__law_times : CB := (.cons (.ret (.call 16 (.cons (.bin .mul (.idx (.var 0) (.con (.int 0))) (.idx (.var 1) (.con (.int 0)))) (.cons (.bin .mul (.idx (.var 0) (.con (.int 1))) (.idx (.var 1) (.con (.int 1)))) .nil)))) .nil)
def f__law_times : Fn := ⟨2, 2, c__law_times⟩
def c__law_over : CB := (.cons (.ret (.call 16 (.cons (.bin .mul (.idx (.var 0) (.con (.int 0))) (.idx (.var 1) (.con (.int 1)))) (.cons (.bin .mul (.idx (.var 0) (.con (.int 1))) (.idx (.var 1) (.con (.int 0)))) .nil)))) .nil)
def f__law_over : Fn := ⟨2, 2, c__law_over⟩
def c__law_below : CB := (.cons (.ret (.cmp .lt (.bin .mul (.idx (.var 0) (.con (.int 0))) (.idx (.var 1) (.con (.int 1)))) (.bin .mul (.idx (.var 1) (.con (.int 0))) (.idx (.var 0) (.con (.int 1)))))) .nil)
def f__law_below : Fn := ⟨2, 2, c__law_below⟩
def c__law_sum : CB := (.cons (.asg (.v 1) (.tup (.cons (.con (.int 0)) (.cons (.con (.int 1)) .nil)))) (.cons (.for_ (.v 2) (.seq (.var 0)) (.cons (.asg (.v 1) (.call 20 (.cons (.var 1) (.cons (.var 2) .nil)))) .nil)) (.cons (.ret (.var 1)) .nil)))
def f__law_sum : Fn := ⟨1, 3, c__law_sum⟩
def c__law_draw : CB := (.cons (.asg (.v 1) (.call 17 (.cons (.var 0) (.cons (.lst (.cons (.con (.int 1)) (.cons (.con (.int 1)) (.cons (.con (.int 2)) (.cons (.con (.int 3)) (.cons (.con (.int 4)) .nil)))))) .nil)))) (.cons (.ret (.call 16 (.cons (.bin .sub (.call 14 (.cons (.var 0) (.cons (.con (.int 13)) .nil))) (.con (.int 6))) (.cons (.var 1) .nil)))) .nil))
def f__law_draw : Fn := ⟨1, 2, c__law_draw⟩
def c__law_middle : CB := (.cons (.ret (.call 20 (.cons (.var 0) (.cons (.call 21 (.cons (.var 2) (.cons (.call 43 (.cons (.var 1) (.cons (.var 0) .nil))) .nil))) .nil)))) .nil)
def f__law_middle : Fn := ⟨3, 3, c__law_middle⟩
def c__law_once : CB := (.cons (.asg (.v 1) (.lst .nil)) (.cons (.for_ (.v 2) (.seq (.var 0)) (.cons (.asg (.v 1) (.bin .add (.var 1) (.ite (.cmp .notIn (.var 2) (.var 1)) (.lst (.cons (.var 2) .nil)) (.lst .nil)))) .nil)) (.cons (.ret (.var 1)) .nil)))
def f__law_once : Fn := ⟨1, 3, c__law_once⟩
def c__law_sorted : CB := (.cons (.asg (.v 1) (.lst .nil)) (.cons (.for_ (.v 2) (.seq (.var 0)) (.cons (.asg (.v 3) (.con (.int 0))) (.cons (.whl (.and (.cmp .lt (.var 3) (.blt .len (.cons (.var 1) .nil))) (.not (.call 58 (.cons (.var 2) (.cons (.idx (.var 1) (.var 3)) .nil))))) (.cons (.asg (.v 3) (.bin .add (.var 3) (.con (.int 1)))) .nil)) (.cons (.asg (.v 1) (.bin .add (.bin .add (.slc (.var 1) .none (.some (.var 3))) (.lst (.cons (.var 2) .nil))) (.slc (.var 1) (.some (.var 3)) .none))) .nil)))) (.cons (.ret (.var 1)) .nil)))
def f__law_sorted : Fn := ⟨1, 4, c__law_sorted⟩
def c__law_basis : CB := (.cons (.ifs (.cmp .eq (.var 0) (.con (.int 0))) (.cons (.ret (.ite (.and (.not (.call 58 (.cons (.var 3) (.cons (.idx (.var 1) (.var 2)) .nil)))) (.call 58 (.cons (.var 3) (.cons (.idx (.var 1) (.bin .add (.var 2) (.con (.int 1)))) .nil)))) (.tup (.cons (.con (.int 1)) (.cons (.con (.int 1)) .nil))) (.tup (.cons (.con (.int 0)) (.cons (.con (.int 1)) .nil))))) .nil) .nil) (.cons (.asg (.v 4) (.tup (.cons (.con (.int 0)) (.cons (.con (.int 1)) .nil)))) (.cons (.ifs (.cmp .ne (.idx (.var 1) (.var 2)) (.idx (.var 1) (.bin .add (.var 2) (.var 0)))) (.cons (.asg (.v 5) (.call 69 (.cons (.call 43 (.cons (.var 3) (.cons (.idx (.var 1) (.var 2)) .nil))) (.cons (.call 43 (.cons (.idx (.var 1) (.bin .add (.var 2) (.var 0))) (.cons (.idx (.var 1) (.var 2)) .nil))) .nil)))) (.cons (.asg (.v 4) (.call 21 (.cons (.var 5) (.cons (.call 151 (.cons (.bin .sub (.var 0) (.con (.int 1))) (.cons (.var 1) (.cons (.var 2) (.cons (.var 3) .nil))))) .nil)))) .nil)) .nil) (.cons (.ifs (.cmp .ne (.idx (.var 1) (.bin .add (.var 2) (.con (.int 1)))) (.idx (.var 1) (.bin .add (.bin .add (.var 2) (.var 0)) (.con (.int 1))))) (.cons (.asg (.v 5) (.call 43 (.cons (.idx (.var 1) (.bin .add (.bin .add (.var 2) (.var 0)) (.con (.int 1)))) (.cons (.idx (.var 1) (.bin .add (.var 2) (.con (.int 1)))) .nil)))) (.cons (.asg (.v 5) (.call 69 (.cons (.call 43 (.cons (.idx (.var 1) (.bin .add (.bin .add (.var 2) (.var 0)) (.con (.int 1)))) (.cons (.var 3) .nil))) (.cons (.var 5) .nil)))) (.cons (.asg (.v 4) (.call 20 (.cons (.var 4) (.cons (.call 21 (.cons (.var 5) (.cons (.call 151 (.cons (.bin .sub (.var 0) (.con (.int 1))) (.cons (.var 1) (.cons (.bin .add (.var 2) (.con (.int 1))) (.cons (.var 3) .nil))))) .nil))) .nil)))) .nil))) .nil) (.cons (.ret (.var 4)) .nil)))))
def f__law_basis : Fn := ⟨4, 6, c__law_basis⟩
def c__law_spline : CB := (.cons (.par [4, 5] (.cons (.call 14 (.cons (.var 0) (.cons (.bin .add (.var 1) (.con (.int 1))) .nil))) (.cons (.call 19 (.cons (.var 0) .nil)) .nil))) (.cons (.par [6, 3] (.cons (.var 5) (.cons (.bin .mul (.lst (.cons (.var 5) .nil)) (.bin .add (.var 4) (.con (.int 1)))) .nil))) (.cons (.for_ (.v 2) (.rng1 (.cons (.call 14 (.cons (.var 0) (.cons (.con (.int 4)) .nil))) .nil)) (.cons (.asg (.v 6) (.call 20 (.cons (.var 6) (.cons (.call 16 (.cons (.bin .add (.con (.int 1)) (.call 14 (.cons (.var 0) (.cons (.con (.int 4)) .nil)))) (.cons (.call 17 (.cons (.var 0) (.cons (.lst (.cons (.con (.int 1)) (.cons (.con (.int 2)) (.cons (.con (.int 3)) .nil)))) .nil))) .nil))) .nil)))) (.cons (.asg (.v 3) (.bin .add (.var 3) (.bin .mul (.lst (.cons (.var 6) .nil)) (.bin .add (.con (.int 1)) (.ite (.cmp .eq (.call 14 (.cons (.var 0) (.cons (.con (.int 3)) .nil))) (.con (.int 0))) (.call 14 (.cons (.var 0) (.cons (.bin .add (.var 4) (.con (.int 1))) .nil))) (.con (.int 0))))))) .nil))) (.cons (.asg (.v 3) (.bin .add (.var 3) (.bin .mul (.lst (.cons (.call 20 (.cons (.var 6) (.cons (.tup (.cons (.bin .add (.con (.int 1)) (.call 14 (.cons (.var 0) (.cons (.con (.int 3)) .nil)))) (.cons (.con (.int 1)) .nil))) .nil))) .nil)) (.bin .add (.var 4) (.con (.int 1)))))) (.cons (.asg (.v 3) (.ite (.cmp .gt (.blt .len (.cons (.var 3) .nil)) (.con (.int 16))) (.blt .tuple (.cons (.bin .add (.slc (.var 3) .none (.some (.bin .sub (.con (.int 15)) (.var 4)))) (.slc (.var 3) (.some (.bin .sub (.neg (.var 4)) (.con (.int 1)))) .none)) .nil)) (.blt .tuple (.cons (.var 3) .nil)))) (.cons (.ret (.tup (.cons (.var 4) (.cons (.var 3) (.cons (.blt .tuple (.cons (.comp (.call 19 (.cons (.var 0) .nil)) [7] (.v 7) (.rng1 (.cons (.bin .sub (.bin .sub (.blt .len (.cons (.var 3) .nil)) (.var 4)) (.con (.int 1))) .nil)) .none) .nil)) .nil))))) .nil))))))
def f__law_spline : Fn := ⟨2, 8, c__law_spline⟩
def c__law_spline_at : CB := (.cons (.asg (.cons (.v 2) (.cons (.v 3) (.cons (.v 4) .nil))) (.var 0)) (.cons (.ifs (.cmp .eq (.var 1) (.idx (.var 3) (.neg (.con (.int 1))))) (.cons (.ret (.idx (.var 4) (.neg (.con (.int 1))))) .nil) .nil) (.cons (.ret (.call 68 (.cons (.comp (.call 21 (.cons (.idx (.var 4) (.var 5)) (.cons (.call 151 (.cons (.var 2) (.cons (.var 3) (.cons (.var 5) (.cons (.var 1) .nil))))) .nil))) [5] (.v 5) (.rng1 (.cons (.blt .len (.cons (.var 4) .nil)) .nil)) .none) .nil))) .nil)))
def f__law_spline_at : Fn := ⟨2, 6, c__law_spline_at⟩
def c__law_within : CB := (.cons (.par [2, 3] (.cons (.idx (.idx (.var 1) (.con (.int 1))) (.con (.int 0))) (.cons (.idx (.idx (.var 1) (.con (.int 1))) (.neg (.con (.int 1)))) .nil))) (.cons (.ifs (.cmp .eq (.call 14 (.cons (.var 0) (.cons (.con (.int 3)) .nil))) (.con (.int 0))) (.cons (.ret (.call 17 (.cons (.var 0) (.cons (.idx (.var 1) (.con (.int 1))) .nil)))) .nil) .nil) (.cons (.ret (.call 80 (.cons (.var 2) (.cons (.var 3) (.cons (.call 16 (.cons (.call 14 (.cons (.var 0) (.cons (.con (.int 13)) .nil))) (.cons (.con (.int 12)) .nil))) .nil))))) .nil)))
def f__law_within : Fn := ⟨2, 4, c__law_within⟩
def c__law_same : CB := (.cons (.ifs (.cmp .ne (.tup (.cons (.idx (.idx (.var 0) (.con (.int 1))) (.con (.int 0))) (.cons (.idx (.idx (.var 0) (.con (.int 1))) (.neg (.con (.int 1)))) .nil))) (.tup (.cons (.idx (.idx (.var 1) (.con (.int 1))) (.con (.int 0))) (.cons (.idx (.idx (.var 1) (.con (.int 1))) (.neg (.con (.int 1)))) .nil)))) (.cons (.ret (.con (.bl false))) .nil) .nil) (.cons (.asg (.v 2) (.call 127 (.cons (.call 150 (.cons (.bin .add (.idx (.var 0) (.con (.int 1))) (.idx (.var 1) (.con (.int 1)))) .nil)) .nil))) (.cons (.for_ (.v 3) (.rng2 (.cons (.con (.int 1)) (.cons (.blt .len (.cons (.var 2) .nil)) .nil))) (.cons (.asg (.v 4) (.bin .add (.blt .max2 (.cons (.idx (.var 0) (.con (.int 0))) (.cons (.idx (.var 1) (.con (.int 0))) .nil))) (.con (.int 1)))) (.cons (.for_ (.v 5) (.rng1 (.cons (.var 4) .nil)) (.cons (.asg (.v 6) (.call 80 (.cons (.idx (.var 2) (.bin .sub (.var 3) (.con (.int 1)))) (.cons (.idx (.var 2) (.var 3)) (.cons (.tup (.cons (.var 5) (.cons (.var 4) .nil))) .nil))))) (.cons (.ifs (.cmp .ne (.call 168 (.cons (.var 0) (.cons (.var 6) .nil))) (.call 168 (.cons (.var 1) (.cons (.var 6) .nil)))) (.cons (.ret (.con (.bl false))) .nil) .nil) .nil))) .nil))) (.cons (.ret (.cmp .eq (.idx (.idx (.var 0) (.con (.int 2))) (.neg (.con (.int 1)))) (.idx (.idx (.var 1) (.con (.int 2))) (.neg (.con (.int 1)))))) .nil))))
def f__law_same : Fn := ⟨2, 7, c__law_same⟩
def c__law_fits_spline : CB := (.cons (.asg (.cons (.v 1) (.cons (.v 2) (.cons (.v 3) .nil))) (.var 0)) (.cons (.ifs (.or (.not (.blt .isTup (.cons (.var 0) .nil))) (.or (.not (.blt .isTup (.cons (.var 2) .nil))) (.not (.blt .isTup (.cons (.var 3) .nil))))) (.cons (.ret (.con (.bl false))) .nil) .nil) (.cons (.ifs (.or (.cmp .ne (.blt .len (.cons (.var 3) .nil)) (.bin .sub (.bin .sub (.blt .len (.cons (.var 2) .nil)) (.var 1)) (.con (.int 1)))) (.cmp .ne (.blt .list (.cons (.var 2) .nil)) (.call 150 (.cons (.var 2) .nil)))) (.cons (.ret (.con (.bl false))) .nil) .nil) (.cons (.ret (.and (.cmp .eq (.idx (.var 2) (.con (.int 0))) (.idx (.var 2) (.var 1))) (.cmp .eq (.idx (.var 2) (.neg (.con (.int 1)))) (.idx (.var 2) (.bin .sub (.bin .sub (.blt .len (.cons (.var 2) .nil)) (.con (.int 1))) (.var 1)))))) .nil))))
def f__law_fits_spline : Fn := ⟨1, 4, c__law_fits_spline⟩
def c_law_27 : CB := (.cons (.asg (.v 1) (.lst (.cons (.var 0) (.cons (.con (.int 0)) (.cons (.con (.int 4131)) (.cons (.con (.int 0)) .nil)))))) (.cons (.asg (.v 2) (.call 171 (.cons (.var 1) (.cons (.con (.int 3)) .nil)))) (.cons (.asg (.cons (.v 14) (.cons (.v 15) (.cons (.v 16) .nil))) (.var 2)) (.cons (.asg (.v 3) (.lst .nil)) (.cons (.for_ (.v 4) (.rng1 (.cons (.call 14 (.cons (.var 1) (.cons (.con (.int 4)) .nil))) .nil)) (.cons (.asg (.v 8) (.call 172 (.cons (.var 1) (.cons (.var 2) .nil)))) (.cons (.asg (.v 17) (.bin .add (.var 15) (.blt .tuple (.cons (.var 3) .nil)))) (.cons (.ifs (.and (.cmp .notIn (.var 8) (.lst (.cons (.idx (.var 15) (.con (.int 0))) (.cons (.idx (.var 15) (.neg (.con (.int 1)))) .nil)))) (.and (.cmp .le (.mth .count (.var 17) (.cons (.var 8) .nil)) (.var 14)) (.cmp .lt (.blt .len (.cons (.var 17) .nil)) (.con (.int 16))))) (.cons (.expr (.mth .append (.var 3) (.cons (.var 8) .nil))) .nil) .nil) .nil)))) (.cons (.asg (.v 5) (.blt .tuple (.cons (.call 150 (.cons (.bin .add (.var 15) (.blt .tuple (.cons (.var 3) .nil))) .nil)) .nil))) (.cons (.asg (.v 6) (.call 182 (.cons (.var 2) (.cons (.var 5) .nil)))) (.cons (.ifs (.or (.not (.call 180 (.cons (.var 6) .nil))) (.or (.cmp .ne (.idx (.var 6) (.con (.int 1))) (.var 5)) (.not (.call 179 (.cons (.var 6) (.cons (.var 2) .nil)))))) (.cons (.ret (.con (.bl false))) .nil) .nil) (.cons (.asg (.v 7) (.var 2)) (.cons (.for_ (.v 8) (.seq (.var 3)) (.cons (.asg (.v 7) (.call 178 (.cons (.var 7) (.cons (.var 8) .nil)))) .nil)) (.cons (.ifs (.cmp .ne (.var 7) (.var 6)) (.cons (.ret (.con (.bl false))) .nil) .nil) (.cons (.asg (.v 9) (.call 127 (.cons (.var 15) .nil))) (.cons (.ifs (.cmp .gt (.bin .mul (.blt .len (.cons (.var 9) .nil)) (.bin .add (.var 14) (.con (.int 1)))) (.con (.int 16))) (.cons (.ret (.con (.bl true))) .nil) .nil) (.cons (.asg (.v 10) (.lst .nil)) (.cons (.for_ (.v 11) (.seq (.var 9)) (.cons (.asg (.v 10) (.bin .add (.var 10) (.bin .mul (.lst (.cons (.var 11) .nil)) (.bin .add (.var 14) (.con (.int 1)))))) .nil)) (.cons (.asg (.v 7) (.call 182 (.cons (.var 2) (.cons (.blt .tuple (.cons (.var 10) .nil)) .nil)))) (.cons (.asg (.v 12) (.call 170 (.cons (.var 2) .nil))) (.cons (.for_ (.v 13) (.rng1 (.cons (.blt .len (.cons (.var 12) .nil)) .nil)) (.cons (.asg (.v 18) (.bin .mul (.var 13) (.bin .add (.var 14) (.con (.int 1))))) (.cons (.ifs (.cmp .ne (.slc (.idx (.var 7) (.con (.int 2))) (.some (.var 18)) (.some (.bin .add (.bin .add (.var 18) (.var 14)) (.con (.int 1))))) (.call 95 (.cons (.idx (.idx (.var 12) (.var 13)) (.con (.int 1))) (.cons (.var 14) (.cons (.idx (.idx (.var 12) (.var 13)) (.con (.int 0))) .nil))))) (.cons (.ret (.con (.bl false))) .nil) .nil) .nil))) (.cons (.ret (.cmp .eq (.blt .len (.cons (.idx (.var 7) (.con (.int 2))) .nil)) (.bin .mul (.blt .len (.cons (.var 12) .nil)) (.bin .add (.var 14) (.con (.int 1)))))) .nil)))))))))))))))))))
def f_law_27 : Fn := ⟨1, 19, c_law_27⟩
def tab : List (Nat × Fn) := [(0, f_is_int), (1, f_is_ratio), (2, f_made), (3, f_is_poly), (4, f_plus), (5, f_times), (8, f_need_poly), (9, f_trimmed), (10, f_p_plus), (13, f_p_times), (14, f__law_taken), (16, f__law_made), (17, f__law_pick), (19, f__law_draw), (20, f__law_plus), (21, f__law_times), (31, f_less), (32, f_over), (33, f_p_scaled), (43, f__law_minus), (49, f_is_below), (50, f_are_ratios), (52, f_negative), (58, f__law_below), (68, f__law_sum), (69, f__law_over), (75, f_is_from), (76, f_choose), (77, f_symmetric), (78, f_blossom_of), (79, f_need_degree), (80, f__law_middle), (84, f_is_interval), (87, f_control_row), (88, f_need_interval), (95, f_row_of), (100, f_between), (127, f__law_once), (145, f_faults_of), (148, f_need_knots), (150, f__law_sorted), (151, f__law_basis), (155, f_basis_poly), (163, f_span_of), (165, f_need_spline), (166, f_pieces_of), (168, f__law_spline_at), (170, f_spline_pieces), (171, f__law_spline), (172, f__law_within), (175, f_is_inner), (176, f_with_knot), (177, f_need_inner), (178, f_inserted), (179, f__law_same), (180, f__law_fits_spline), (181, f_missing), (182, f_refined), (183, f_law_27)]
def G (n : Nat) : Option Fn := tab.lookup n
theorem G_is_int : G 0 = some f_is_int := rfl
theorem G_is_ratio : G 1 = some f_is_ratio := rfl
theorem G_made : G 2 = some f_made := rfl
theorem G_is_poly : G 3 = some f_is_poly := rfl
theorem G_plus : G 4 = some f_plus := rfl
theorem G_times : G 5 = some f_times := rfl
theorem G_need_poly : G 8 = some f_need_poly := rfl
theorem G_trimmed : G 9 = some f_trimmed := rfl
theorem G_p_plus : G 10 = some f_p_plus := rfl
theorem G_p_times : G 13 = some f_p_times := rfl
theorem G__law_taken : G 14 = some f__law_taken := rfl
theorem G__law_made : G 16 = some f__law_made := rfl
theorem G__law_pick : G 17 = some f__law_pick := rfl
theorem G__law_draw : G 19 = some f__law_draw := rfl
theorem G__law_plus : G 20 = some f__law_plus := rfl
theorem G__law_times : G 21 = some f__law_times := rfl
theorem G_less : G 31 = some f_less := rfl
theorem G_over : G 32 = some f_over := rfl
theorem G_p_scaled : G 33 = some f_p_scaled := rfl
theorem G__law_minus : G 43 = some f__law_minus := rfl
theorem G_is_below : G 49 = some f_is_below := rfl
theorem G_are_ratios : G 50 = some f_are_ratios := rfl
theorem G_negative : G 52 = some f_negative := rfl
theorem G__law_below : G 58 = some f__law_below := rfl
theorem G__law_sum : G 68 = some f__law_sum := rfl
theorem G__law_over : G 69 = some f__law_over := rfl
theorem G_is_from : G 75 = some f_is_from := rfl
theorem G_choose : G 76 = some f_choose := rfl
theorem G_symmetric : G 77 = some f_symmetric := rfl
theorem G_blossom_of : G 78 = some f_blossom_of := rfl
theorem G_need_degree : G 79 = some f_need_degree := rfl
theorem G__law_middle : G 80 = some f__law_middle := rfl
theorem G_is_interval : G 84 = some f_is_interval := rfl
theorem G_control_row : G 87 = some f_control_row := rfl
theorem G_need_interval : G 88 = some f_need_interval := rfl
theorem G_row_of : G 95 = some f_row_of := rfl
theorem G_between : G 100 = some f_between := rfl
theorem G__law_once : G 127 = some f__law_once := rfl
theorem G_faults_of : G 145 = some f_faults_of := rfl
theorem G_need_knots : G 148 = some f_need_knots := rfl
theorem G__law_sorted : G 150 = some f__law_sorted := rfl
theorem G__law_basis : G 151 = some f__law_basis := rfl
theorem G_basis_poly : G 155 = some f_basis_poly := rfl
theorem G_span_of : G 163 = some f_span_of := rfl
theorem G_need_spline : G 165 = some f_need_spline := rfl
theorem G_pieces_of : G 166 = some f_pieces_of := rfl
theorem G__law_spline_at : G 168 = some f__law_spline_at := rfl
theorem G_spline_pieces : G 170 = some f_spline_pieces := rfl
theorem G__law_spline : G 171 = some f__law_spline := rfl
theorem G__law_within : G 172 = some f__law_within := rfl
theorem G_is_inner : G 175 = some f_is_inner := rfl
theorem G_with_knot : G 176 = some f_with_knot := rfl
theorem G_need_inner : G 177 = some f_need_inner := rfl
theorem G_inserted : G 178 = some f_inserted := rfl
theorem G__law_same : G 179 = some f__law_same := rfl
theorem G__law_fits_spline : G 180 = some f__law_fits_spline := rfl
theorem G_missing : G 181 = some f_missing := rfl
theorem G_refined : G 182 = some f_refined := rfl
theorem G_law_27 : G 183 = some f_law_27 := rfl
end PB

set_option Elab.async false
set_option linter.all false
set_option maxRecDepth 100000
set_option maxHeartbeats 1000000
namespace PB
open PySem
/-! ### fractions -/
/-- a number of the text -/
def fr (q : Rat) : PV := .tup [.int q.num, .int q.den]
/-- its size -/
def Bd (n : Nat) (q : Rat) : Prop := q.num.natAbs < 2 ^ n ∧ q.den < 2 ^ n
theorem log2_lt {n k : Nat} (h : n < 2 ^ k) (hk : 0 < k) : n.log2 < k := by
  by_cases h0 : n = 0
  · subst h0; simpa using hk
  · exact (Nat.log2_lt h0).mpr h
theorem mulOk_of {a b : Int} {m n : Nat} (ha : a.natAbs < 2 ^ m) (hb : b.natAbs < 2 ^ n) (h : m + n < 900000) : mulOk a b = true := by
  unfold mulOk
  rw [decide_eq_true_eq]
  have h1 := log2_lt (k := m + 1) (Nat.lt_of_lt_of_le ha (Nat.pow_le_pow_right (by decide) (by omega))) (by omega)
  have h2 := log2_lt (k := n + 1) (Nat.lt_of_lt_of_le hb (Nat.pow_le_pow_right (by decide) (by omega))) (by omega)
  omega
theorem pow_pow {m n : Nat} : 2 ^ m * 2 ^ n = 2 ^ (m + n) := (Nat.pow_add 2 m n).symm
theorem lt_mul {a b x y : Nat} (h1 : a < x) (h2 : b < y) : a * b < x * y := Nat.mul_lt_mul'' h1 h2
theorem natAbs_mul_lt {a b : Int} {m n : Nat} (ha : a.natAbs < 2 ^ m) (hb : b.natAbs < 2 ^ n) : (a * b).natAbs < 2 ^ (m + n) := by
  rw [Int.natAbs_mul, ← pow_pow]
  exact lt_mul ha hb
theorem natAbs_add_lt {a b : Int} {n : Nat} (ha : a.natAbs < 2 ^ n) (hb : b.natAbs < 2 ^ n) : (a + b).natAbs < 2 ^ (n + 1) := by
  have : (a + b).natAbs ≤ a.natAbs + b.natAbs := Int.natAbs_add_le a b
  rw [Nat.pow_succ]; omega
theorem den_lt {q : Rat} {n : Nat} (h : Bd n q) : ((q.den : Nat) : Int).natAbs < 2 ^ n := by simpa using h.2
theorem Bd.mono {m n : Nat} {q : Rat} (h : Bd m q) (hk : m ≤ n) : Bd n q :=
  ⟨Nat.lt_of_lt_of_le h.1 (Nat.pow_le_pow_right (by decide) hk), Nat.lt_of_lt_of_le h.2 (Nat.pow_le_pow_right (by decide) hk)⟩
theorem divInt_num_le (a b : Int) : (Rat.divInt a b).num.natAbs ≤ a.natAbs := by
  rw [Rat.num_divInt, Int.natAbs_ediv_of_dvd, Int.natAbs_mul]
  · refine Nat.le_trans (Nat.div_le_self _ _) ?_
    have : b.sign.natAbs ≤ 1 := by rcases Int.lt_trichotomy b 0 with h | h | h <;> simp [Int.sign_eq_neg_one_of_neg, Int.sign_eq_one_of_pos, *]
    calc b.sign.natAbs * a.natAbs ≤ 1 * a.natAbs := Nat.mul_le_mul_right _ this
      _ = a.natAbs := Nat.one_mul _
  · exact Int.dvd_mul_of_dvd_right (Int.gcd_dvd_right b a)
theorem divInt_den_le {a b : Int} (hb : b ≠ 0) : (Rat.divInt a b).den ≤ b.natAbs := by
  rw [Rat.den_divInt, if_neg hb]
  exact Nat.div_le_self _ _
theorem bd_divInt {a b : Int} {n : Nat} (hb : b ≠ 0) (h1 : a.natAbs < 2 ^ n) (h2 : b.natAbs < 2 ^ n) : Bd n (Rat.divInt a b) :=
  ⟨Nat.lt_of_le_of_lt (divInt_num_le a b) h1, Nat.lt_of_le_of_lt (divInt_den_le hb) h2⟩
/-- what made(top, low) computes -/
theorem made_eq {a b : Int} (hb : b ≠ 0) : Int.fdiv a (if b < 0 then -(Int.gcd a b : Int) else (Int.gcd a b : Int)) = (Rat.divInt a b).num ∧
    Int.fdiv b (if b < 0 then -(Int.gcd a b : Int) else (Int.gcd a b : Int)) = ((Rat.divInt a b).den : Int) := by
  have hg : (Int.gcd a b : Int) ≠ 0 := by
    intro h
    have := Int.gcd_eq_zero_iff.mp (by exact_mod_cast h)
    exact hb this.2
  have hc : Int.gcd b a = Int.gcd a b := Int.gcd_comm b a
  rw [Rat.num_divInt, Rat.den_divInt, if_neg hb, hc]
  have d1 : (Int.gcd a b : Int) ∣ a := Int.gcd_dvd_left a b
  have d2 : (Int.gcd a b : Int) ∣ b := Int.gcd_dvd_right a b
  obtain ⟨x, hx⟩ := d1
  obtain ⟨y, hy⟩ := d2
  generalize hgg : (Int.gcd a b : Int) = g at *
  have hgp : 0 < g := by
    have : 0 ≤ g := by rw [← hgg]; exact Int.natCast_nonneg _
    omega
  have hgn : Int.gcd a b = g.toNat := by omega
  by_cases hn : b < 0
  · rw [if_pos hn, Int.sign_eq_neg_one_of_neg hn]
    have hy0 : y < 0 := by
      rcases Int.lt_or_le y 0 with h | h
      · exact h
      · have := Int.mul_nonneg (Int.le_of_lt hgp) h
        omega
    refine ⟨?_, ?_⟩
    · rw [hx]
      rw [Int.fdiv_eq_ediv_of_dvd ⟨-x, by rw [Int.neg_mul_neg]⟩]
      have e1 : g * x = -g * -x := by rw [Int.neg_mul_neg]
      have e2 : -1 * (g * x) = g * -x := by rw [Int.mul_neg]; omega
      rw [e2, Int.mul_ediv_cancel_left _ hg, e1, Int.mul_ediv_cancel_left _ (by omega)]
    · rw [hgn]
      have e3 : b.natAbs / g.toNat = y.natAbs := by
        rw [hy, Int.natAbs_mul]
        have : g.natAbs = g.toNat := by omega
        rw [this]
        exact Nat.mul_div_cancel_left _ (by omega)
      rw [e3, hy, Int.fdiv_eq_ediv_of_dvd ⟨-y, by rw [Int.neg_mul_neg]⟩]
      have e1 : g * y = -g * -y := by rw [Int.neg_mul_neg]
      rw [e1, Int.mul_ediv_cancel_left _ (by omega)]
      omega
  · have hp : 0 < b := by omega
    rw [if_neg hn, Int.sign_eq_one_of_pos hp, Int.one_mul]
    have hy0 : 0 < y := by
      rcases Int.lt_or_le 0 y with h | h
      · exact h
      · have := Int.mul_nonpos_of_nonneg_of_nonpos (Int.le_of_lt hgp) h
        omega
    refine ⟨?_, ?_⟩
    · rw [Int.fdiv_eq_ediv_of_dvd ⟨x, hx⟩]
    · rw [hgn]
      have e3 : b.natAbs / g.toNat = y.natAbs := by
        rw [hy, Int.natAbs_mul]
        have : g.natAbs = g.toNat := by omega
        rw [this]
        exact Nat.mul_div_cancel_left _ (by omega)
      rw [e3, hy, Int.fdiv_eq_ediv_of_dvd ⟨y, rfl⟩, Int.mul_ediv_cancel_left _ hg]
      omega
theorem keepP_self {h : PH} {v : PV} (hv : PV.low h.length v = true) : keepP h h v = h := by
  unfold keepP
  split
  · rw [List.take_length]
  · rfl
theorem POs.same_rfl : ∀ h : PH, POs.same h h = true
  | [] => rfl
  | a :: r => by simp [POs.same, PO.same_rfl, POs.same_rfl r]
theorem keepP_app {h t : PH} {v : PV} (hv : PV.low h.length v = true) : keepP h (h ++ t) v = h := by
  unfold keepP
  rw [List.take_left, if_pos ⟨hv, .inl (POs.same_rfl h)⟩]
@[simp] theorem low_fr {n : Nat} {q : Rat} : PV.low n (fr q) = true := by simp [fr, PV.low, PV.lows]
end PB
set_option Elab.async false
set_option linter.all false
set_option maxRecDepth 100000
set_option maxHeartbeats 1000000
set_option exponentiation.threshold 100000
namespace PB
open PySem
section
variable {k : Nat} {h : PH}
theorem atI_nn {α : Type} {xs : List α} {i : Int} (hi : 0 ≤ i) : L2.atI xs i = xs[i.toNat]? := by
  unfold L2.atI L2.ixN
  rw [if_pos hi]
  by_cases h : i < xs.length
  · rw [if_pos h]; rfl
  · rw [if_neg h, List.getElem?_eq_none (by omega)]; rfl
@[simp] theorem atI_0 {α : Type} (x : α) (r : List α) : L2.atI (x :: r) 0 = some x := by rw [atI_nn (by decide)]; rfl
@[simp] theorem atI_1 {α : Type} (x y : α) (r : List α) : L2.atI (x :: y :: r) 1 = some y := by rw [atI_nn (by decide)]; rfl
@[simp] theorem atI_2 {α : Type} (x y z : α) (r : List α) : L2.atI (x :: y :: z :: r) 2 = some z := by rw [atI_nn (by decide)]; rfl
@[simp] theorem atI_3 {α : Type} (x y z u : α) (r : List α) : L2.atI (x :: y :: z :: u :: r) 3 = some u := by rw [atI_nn (by decide)]; rfl
@[simp] theorem idx_fr0 {q : Rat} : idxop (fr q) (.int 0) h = .ok (.int q.num) h := by simp [idxop, fr, items]
@[simp] theorem idx_fr1 {q : Rat} : idxop (fr q) (.int 1) h = .ok (.int q.den) h := by simp [idxop, fr, items]
@[simp] theorem startP_1 {n : Nat} {a : PV} : startP (n + 1) [a] = some a :: List.replicate n none := by simp [startP]
@[simp] theorem startP_2 {n : Nat} {a b : PV} : startP (n + 2) [a, b] = some a :: some b :: List.replicate n none := by simp [startP]
@[simp] theorem startP_3 {n : Nat} {a b c : PV} : startP (n + 3) [a, b, c] = some a :: some b :: some c :: List.replicate n none := by simp [startP]
@[simp] theorem startP_4 {n : Nat} {a b c d : PV} : startP (n + 4) [a, b, c, d] = some a :: some b :: some c :: some d :: List.replicate n none := by simp [startP]
@[simp] theorem outF_rt {h1 : PH} {v : PV} : outF h (.rt v) h1 = .ok v (keepP h h1 v) := rfl
@[simp] theorem outF_nx {h1 : PH} {s : Sl} : outF h (.nx s) h1 = .ok .non (keepP h h1 .non) := rfl
@[simp] theorem keep_fr {q : Rat} : keepP h h (fr q) = h := keepP_self low_fr
@[simp] theorem keep_int {i : Int} : keepP h h (.int i) = h := keepP_self (by simp [PV.low])
@[simp] theorem keep_bl {b : Bool} : keepP h h (.bl b) = h := keepP_self (by simp [PV.low])
@[simp] theorem keep_non : keepP h h .non = h := keepP_self (by simp [PV.low])
theorem made_ok {a b : Int} (hb : b ≠ 0) (hz : b.natAbs < 2 ^ 8000) : callF G (k + 1) 2 [.int a, .int b] h = .ok (fr (Rat.divInt a b)) h := by
  rw [callF_eq (f := f_made) rfl rfl]
  have hl : (Int.gcd a b).log2 < 9000 := by
    have h1 : Int.gcd a b ≤ b.natAbs := Nat.gcd_le_right _ (by omega)
    have h2 : Int.gcd a b < 2 ^ 8999 := Nat.lt_of_le_of_lt h1 (Nat.lt_trans hz (Nat.pow_lt_pow_right (by decide) (by decide)))
    have := log2_lt h2 (by decide)
    omega
  obtain ⟨e1, e2⟩ := made_eq (a := a) hb
  have hgg : (a.natAbs.gcd b.natAbs : Int) = (Int.gcd a b : Int) := rfl
  have hk : keepP h h (PV.tup [PV.int (Rat.divInt a b).num, PV.int (Rat.divInt a b).den]) = h := keep_fr
  by_cases hn : b < 0
  · rw [if_pos hn] at e1 e2
    simp only [f_made, c_made]
    simp [blt, cmpop, hn, binop, hgg, hb, hl, e1, e2, many, fr, hk, List.replicate]
  · rw [if_neg hn] at e1 e2
    simp only [f_made, c_made]
    simp [blt, cmpop, hn, binop, hgg, hb, hl, e1, e2, many, fr, hk, List.replicate]
/-- sizes -/
theorem bd_add {m n : Nat} {x y : Rat} (hx : Bd m x) (hy : Bd n y) : Bd (m + n + 1) (x + y) ∧ (x.num * y.den + y.num * x.den).natAbs < 2 ^ (m + n + 1) ∧ ((x.den : Int) * y.den).natAbs < 2 ^ (m + n) := by
  have h1 := natAbs_mul_lt hx.1 (den_lt hy)
  have h2 := natAbs_mul_lt hy.1 (den_lt hx)
  rw [Nat.add_comm n m] at h2
  have h3 := natAbs_add_lt h1 h2
  have h4 := natAbs_mul_lt (den_lt hx) (den_lt hy)
  refine ⟨?_, h3, h4⟩
  have e : x + y = Rat.divInt (x.num * y.den + y.num * x.den) (x.den * y.den) := by
    rw [← Rat.divInt_add_divInt _ _ (by exact_mod_cast x.den_nz) (by exact_mod_cast y.den_nz), Rat.num_divInt_den, Rat.num_divInt_den]
  rw [e]
  refine bd_divInt ?_ h3 (Nat.lt_trans h4 (Nat.pow_lt_pow_right (by decide) (by omega)))
  exact_mod_cast Nat.mul_ne_zero x.den_nz y.den_nz
theorem add_eq (x y : Rat) : Rat.divInt (x.num * y.den + y.num * x.den) (x.den * y.den) = x + y := by
  rw [← Rat.divInt_add_divInt _ _ (by exact_mod_cast x.den_nz) (by exact_mod_cast y.den_nz), Rat.num_divInt_den, Rat.num_divInt_den]
theorem mul_eq (x y : Rat) : Rat.divInt (x.num * y.num) (x.den * y.den) = x * y := by
  rw [← Rat.divInt_mul_divInt, Rat.num_divInt_den, Rat.num_divInt_den]
theorem den_mul_ne (x y : Rat) : ((x.den : Int) * y.den) ≠ 0 := by exact_mod_cast Nat.mul_ne_zero x.den_nz y.den_nz
theorem bd_mul {m n : Nat} {x y : Rat} (hx : Bd m x) (hy : Bd n y) : Bd (m + n) (x * y) := by
  rw [← mul_eq]
  exact bd_divInt (den_mul_ne x y) (natAbs_mul_lt hx.1 hy.1) (natAbs_mul_lt (den_lt hx) (den_lt hy))
theorem bd_neg {n : Nat} {x : Rat} (hx : Bd n x) : Bd n (-x) := ⟨by simpa using hx.1, by simpa using hx.2⟩
theorem plus_ok {m n : Nat} {x y : Rat} (hx : Bd m x) (hy : Bd n y) (hz : m + n < 8000) : callF G (k + 2) 4 [fr x, fr y] h = .ok (fr (x + y)) h := by
  rw [callF_eq (f := f_plus) rfl rfl]
  obtain ⟨_, h2, h3⟩ := bd_add hx hy
  have m1 := mulOk_of hx.1 (den_lt hy) (by omega)
  have m2 := mulOk_of hy.1 (den_lt hx) (by omega)
  have m3 := mulOk_of (den_lt hx) (den_lt hy) (by omega)
  have hd := made_ok (k := k) (h := h) (a := x.num * y.den + y.num * x.den) (den_mul_ne x y) (Nat.lt_trans h3 (Nat.pow_lt_pow_right (by decide) hz))
  rw [add_eq] at hd
  simp only [f_plus, c_plus]
  simp [binop, m1, m2, m3, hd]
theorem times_ok {m n : Nat} {x y : Rat} (hx : Bd m x) (hy : Bd n y) (hz : m + n < 8000) : callF G (k + 2) 5 [fr x, fr y] h = .ok (fr (x * y)) h := by
  rw [callF_eq (f := f_times) rfl rfl]
  have m1 := mulOk_of hx.1 hy.1 (by omega)
  have m3 := mulOk_of (den_lt hx) (den_lt hy) (by omega)
  have hd := made_ok (k := k) (h := h) (a := x.num * y.num) (den_mul_ne x y) (Nat.lt_trans (natAbs_mul_lt (den_lt hx) (den_lt hy)) (Nat.pow_lt_pow_right (by decide) hz))
  rw [mul_eq] at hd
  simp only [f_times, c_times]
  simp [binop, m1, m3, hd]
end
end PB
set_option Elab.async false
set_option linter.all false
set_option maxRecDepth 100000
set_option maxHeartbeats 1000000
set_option exponentiation.threshold 100000
namespace PB
open PySem
section
variable {k : Nat} {h : PH}
@[simp] theorem leans_nil : leans [] h = true := rfl
theorem frL_cons {g : PV → Sl → PH → Res Sl} {b : Sl → PH → Res Fl} {l : Lean_} {x : PV} {r : List PV} {s : Sl} (hl : leans l h = true) : frL g b l (x :: r) s h = (g x s h).bind fun s1 h1 => (b s1 h1).bind fun f h2 => match f with
      | .nx s2 => frL g b l r s2 h2
      | .ct s2 => frL g b l r s2 h2
      | .bk s2 => .ok (.nx s2) h2
      | .rt v => .ok (.rt v) h2 := by first | (rw [frL, if_pos hl]; done) | (rw [frL, if_pos hl]; rfl)
theorem frL_nil {g : PV → Sl → PH → Res Sl} {b : Sl → PH → Res Fl} {l : Lean_} {s : Sl} (hl : leans l h = true) : frL g b l [] s h = .ok (.nx s) h := by rw [frL, if_pos hl]
theorem range_succ {a c : Int} {n : Nat} : range a (n + 1) c = .int a :: range (a + c) n c := rfl
/-- Euclid's loop -/
def eBody : CB := (.cons (.ifs (.cmp .eq (.var 4) (.con (.int 0))) (.cons .brk .nil) .nil) (.cons (.par [3, 4] (.cons (.var 4) (.cons (.bin .mod (.var 3) (.var 4)) .nil))) .nil))
theorem eqD_int {i j : Int} : eqD h (.int i) (.int j) = some (i == j) := rfl
theorem eStep0 {cf : Nat → List PV → PH → Res PV} {p q t : Option PV} {a : Int} : evB cf eBody [p, q, t, some (.int a), some (.int 0)] h = .ok (.bk [p, q, t, some (.int a), some (.int 0)]) h := by
  simp [eBody, cmpop, eqD_int]
theorem eStep1 {cf : Nat → List PV → PH → Res PV} {p q t : Option PV} {a b : Int} (hb : b ≠ 0) : evB cf eBody [p, q, t, some (.int a), some (.int b)] h = .ok (.nx [p, q, t, some (.int b), some (.int (a.fmod b))]) h := by
  simp [eBody, cmpop, eqD_int, hb, binop, setAll]
theorem eLoop {cf : Nat → List PV → PH → Res PV} {p q : Option PV} : ∀ (m n : Nat) (i : Int) (t : Option PV) (a b : Nat), b < 2 ^ m → 2 * m + 1 ≤ n →
    ∃ t', frL (asT cf (.v 2)) (evB cf eBody) [] (range i n 1) [p, q, t, some (.int a), some (.int b)] h = .ok (.nx [p, q, t', some (.int (Nat.gcd a b : Nat)), some (.int 0)]) h := by
  intro m
  induction m with
  | zero =>
    intro n i t a b hb hn
    obtain rfl : b = 0 := by omega
    obtain ⟨n, rfl⟩ : ∃ n', n = n' + 1 := ⟨n - 1, by omega⟩
    refine ⟨some (.int i), ?_⟩
    rw [range_succ, frL_cons rfl]
    simp [eStep0]
  | succ m ih =>
    intro n i t a b hb hn
    obtain ⟨n, rfl⟩ : ∃ n', n = n' + 2 := ⟨n - 2, by omega⟩
    by_cases h0 : b = 0
    · subst h0
      refine ⟨some (.int i), ?_⟩
      rw [range_succ, frL_cons rfl]
      simp [eStep0]
    · have hb0 : (b : Int) ≠ 0 := by omega
      have e1 : Int.fmod (a : Int) (b : Int) = ((a % b : Nat) : Int) := by rw [Int.fmod_eq_emod_of_nonneg _ (by omega)]; rfl
      have hlt : a % b < b := Nat.mod_lt _ (by omega)
      by_cases h1 : a % b = 0
      · refine ⟨some (.int (i + 1)), ?_⟩
        rw [range_succ, frL_cons rfl]
        simp only [asT_v, bind_ok', List.set_cons_succ, List.set_cons_zero, eStep1 hb0]
        rw [range_succ, frL_cons rfl]
        rw [e1, h1]
        have hg : Nat.gcd a b = b := by rw [Nat.gcd_comm, Nat.gcd_rec, h1, Nat.gcd_zero_left]
        simp [eStep0, hg]
      · have hc0 : ((a % b : Nat) : Int) ≠ 0 := by omega
        have e2 : Int.fmod (b : Int) ((a % b : Nat) : Int) = ((b % (a % b) : Nat) : Int) := by rw [Int.fmod_eq_emod_of_nonneg _ (by omega)]; rfl
        have hlt2 : b % (a % b) < a % b := Nat.mod_lt _ (by omega)
        have hsub : b % (a % b) + a % b ≤ b := by
          have := Nat.mod_add_div b (a % b)
          have h3 : 1 ≤ b / (a % b) := (Nat.one_le_div_iff (by omega)).mpr (by omega)
          have h4 : a % b ≤ (a % b) * (b / (a % b)) := Nat.le_mul_of_pos_right _ h3
          omega
        have hpow : 2 ^ (m + 1) = 2 ^ m * 2 := Nat.pow_succ 2 m
        obtain ⟨t', ht⟩ := ih n (i + 1 + 1) (some (.int (i + 1))) (a % b) (b % (a % b)) (by omega) (by omega)
        refine ⟨t', ?_⟩
        rw [range_succ, frL_cons rfl]
        simp only [asT_v, bind_ok', List.set_cons_succ, List.set_cons_zero, eStep1 hb0]
        rw [range_succ, frL_cons rfl, e1]
        simp only [asT_v, bind_ok', List.set_cons_succ, List.set_cons_zero, eStep1 hc0]
        rw [e2, ht]
        have hg : Nat.gcd (a % b) (b % (a % b)) = Nat.gcd a b := by rw [Nat.gcd_comm (a % b), ← Nat.gcd_rec, Nat.gcd_comm a b, Nat.gcd_rec b a]
        rw [hg]
theorem lmade_ok {a b : Int} (hb : b ≠ 0) (hz : b.natAbs < 2 ^ 4900) : callF G (k + 1) 16 [.int a, .int b] h = .ok (fr (Rat.divInt a b)) h := by
  rw [callF_eq (f := f__law_made) rfl rfl]
  have hl : (Int.gcd a b).log2 < 9000 := by
    have h1 : Int.gcd a b ≤ b.natAbs := Nat.gcd_le_right _ (by omega)
    have h2 : Int.gcd a b < 2 ^ 8999 := Nat.lt_of_le_of_lt h1 (Nat.lt_trans hz (Nat.pow_lt_pow_right (by decide) (by decide)))
    have := log2_lt h2 (by decide)
    omega
  obtain ⟨e1, e2⟩ := made_eq (a := a) hb
  have hgg : (a.natAbs.gcd b.natAbs : Int) = (Int.gcd a b : Int) := rfl
  have hk : keepP h h (PV.tup [PV.int (Rat.divInt a b).num, PV.int (Rat.divInt a b).den]) = h := keep_fr
  obtain ⟨t, ht⟩ := eLoop (h := h) (cf := callF G k) (p := some (.int a)) (q := some (.int b)) 4900 10000 0 none a.natAbs b.natAbs hz (by decide)
  rw [hgg] at ht
  simp only [f__law_made, c__law_made]
  by_cases hn : b < 0
  · rw [if_pos hn] at e1 e2
    have e3 : 0 - (Int.gcd a b : Int) = -(Int.gcd a b : Int) := by omega
    simp [blt, setAll, bigR, List.replicate]
    rw [show (.cons (.ifs (.cmp .eq (.var 4) (.con (.int 0))) (.cons .brk .nil) .nil) (.cons (.par [3, 4] (.cons (.var 4) (.cons (.bin .mod (.var 3) (.var 4)) .nil))) .nil) : CB) = eBody from rfl, ht]
    simp [cmpop, hn, binop, hb, hl, e1, e2, e3, many, fr, hk]
  · rw [if_neg hn] at e1 e2
    simp [blt, setAll, bigR, List.replicate]
    rw [show (.cons (.ifs (.cmp .eq (.var 4) (.con (.int 0))) (.cons .brk .nil) .nil) (.cons (.par [3, 4] (.cons (.var 4) (.cons (.bin .mod (.var 3) (.var 4)) .nil))) .nil) : CB) = eBody from rfl, ht]
    simp [cmpop, hn, binop, hb, hl, e1, e2, many, fr, hk]
end
end PB
set_option Elab.async false
set_option linter.all false
set_option maxRecDepth 100000
set_option maxHeartbeats 1000000
set_option exponentiation.threshold 100000
namespace PB
open PySem
section
variable {k : Nat} {h t : PH} {o : PO}
theorem keepP_len {h h1 : PH} {v : PV} (e : h1.length = h.length) : keepP h h1 v = h1 := by
  unfold keepP
  split
  · rw [← e, List.take_length]
  · rfl
/-- the law's row -/
def Row (o : PO) : Prop := ∃ (ns : List Int) (p s b : Int), o = .lst [.scr (ns.map PV.int), .int p, .int s, .int b] ∧ ns.length ≤ 1000 ∧ 0 ≤ p ∧ 0 ≤ s ∧ s < 2147483647
theorem fmod_bd {a m : Int} (hm : 0 < m) : 0 ≤ a.fmod m ∧ a.fmod m < m := ⟨Int.fmod_nonneg_of_pos a hm, Int.fmod_lt_of_pos a hm⟩
theorem taken_ok {m : Int} (hm : 0 < m) (hz : m ≤ 1000000) (hr : Row o) : ∃ r o', 0 ≤ r ∧ r < m ∧ Row o' ∧ callF G (k + 1) 14 [.ref 0, .int m] (o :: t) = .ok (.int r) (o' :: t) := by
  obtain ⟨ns, p, s, b, rfl, hns, hp, hs0, hs1⟩ := hr
  have hm0 : m ≠ 0 := by omega
  have hl : m.natAbs.log2 < 9000 := by
    have : m.natAbs < 2 ^ 20 := by omega
    have := log2_lt this (by decide)
    omega
  have hmul : mulOk s 48271 = true := mulOk_of (m := 31) (n := 16) (by omega) (by decide) (by decide)
  by_cases hb : 0 < b
  · refine ⟨b.fmod m, .lst [.scr (ns.map PV.int), .int p, .int s, .int (b.fdiv m)], (fmod_bd hm).1, (fmod_bd hm).2, ⟨ns, p, s, _, rfl, hns, hp, hs0, hs1⟩, ?_⟩
    rw [callF_eq (f := f__law_taken) rfl rfl]
    simp only [f__law_taken, c__law_taken]
    simp [idxop, items, cmpop, hb, blt, binop, hm0, hl, setop, L2.ixN, keepP_len]
  · by_cases hlen : (ns.length : Int) < p + 1
    · refine ⟨((s * 48271 + 11).fmod 2147483647 |>.fdiv 7).fmod m, .lst [.scr (ns.map PV.int), .int (p + 1), .int ((s * 48271 + 11).fmod 2147483647), .int b], (fmod_bd hm).1, (fmod_bd hm).2, ⟨ns, p + 1, _, b, rfl, hns, by omega, (fmod_bd (by decide)).1, (fmod_bd (by decide)).2⟩, ?_⟩
      rw [callF_eq (f := f__law_taken) rfl rfl]
      have h7 : (7 : Nat).log2 < 9000 := by decide
      simp only [f__law_taken, c__law_taken]
      simp [idxop, items, cmpop, hb, blt, binop, hm0, hl, setop, L2.ixN, keepP_len, hlen, hmul, h7]
    · obtain ⟨c, hc⟩ : ∃ c, ns[p.toNat]? = some c := ⟨ns[p.toNat]'(by omega), List.getElem?_eq_getElem (by omega)⟩
      have hat : L2.atI (ns.map PV.int) p = some (.int c) := by rw [atI_nn hp, List.getElem?_map, hc]; rfl
      have h10 : (0 : Int) ≤ 18 ∧ (18 : Int) ≤ 1000 ∧ (10 : Int).natAbs < 2 ^ 64 := by decide
      refine ⟨c.fmod m, .lst [.scr (ns.map PV.int), .int (p + 1), .int ((s * 48271 + c + 11).fmod 2147483647), .int (if (10 : Int) ^ 18 ≤ c then c.fdiv m else b)], (fmod_bd hm).1, (fmod_bd hm).2, ⟨ns, p + 1, _, _, rfl, hns, by omega, (fmod_bd (by decide)).1, (fmod_bd (by decide)).2⟩, ?_⟩
      rw [callF_eq (f := f__law_taken) rfl rfl]
      simp only [f__law_taken, c__law_taken]
      by_cases hbig : (10 : Int) ^ 18 ≤ c
      · simp [idxop, items, cmpop, hb, blt, binop, hm0, hl, setop, L2.ixN, keepP_len, hlen, hmul, hat]
        simp at hbig
        simp [hbig, idxop, items, hm0, hl, keepP_len]
      · simp [idxop, items, cmpop, hb, blt, binop, hm0, hl, setop, L2.ixN, keepP_len, hlen, hmul, hat]
        simp at hbig
        have : ¬ (1000000000000000000 : Int) ≤ c := by omega
        simp [this, keepP_len]
end
end PB
set_option Elab.async false
set_option linter.all false
set_option maxRecDepth 100000
set_option maxHeartbeats 1000000
set_option exponentiation.threshold 100000
namespace PB
open PySem
section
variable {k : Nat} {h t : PH} {o : PO}
/-! ### comparisons of plain values -/
mutual
/-- None, ints, tuples of such, not deeper than n -/
def plain : Nat → PV → Bool
  | _, .non => true
  | _, .int _ => true
  | n + 1, .tup xs => plains n xs
  | _, _ => false
def plains : Nat → List PV → Bool
  | _, [] => true
  | n, x :: r => plain n x && plains n r
end
mutual
def dat : PV → PyData
  | .int i => .int i
  | .tup xs => .tuple (dats xs)
  | _ => .none
def dats : List PV → List PyData
  | [] => []
  | x :: r => dat x :: dats r
end
mutual
theorem toD_plain : ∀ (n : Nat) (x : PV), plain n x = true → toD h n x = some (dat x)
  | n, .non, _ => by cases n <;> simp [toD, dat]
  | n, .int i, _ => by cases n <;> simp [toD, dat]
  | n + 1, .tup xs, p => by
    simp only [plain] at p
    simp only [toD, toDs_plain n xs p, dat, Option.map_some]
  | 0, .tup xs, p => by simp [plain] at p
  | n, .bl _, p => by cases n <;> simp [plain] at p
  | n, .str _, p => by cases n <;> simp [plain] at p
  | n, .scr _, p => by cases n <;> simp [plain] at p
  | n, .ref _, p => by cases n <;> simp [plain] at p
  | n, .fn _, p => by cases n <;> simp [plain] at p
theorem toDs_plain : ∀ (n : Nat) (xs : List PV), plains n xs = true → toDs (toD h n) xs = some (dats xs)
  | _, [], _ => by simp [toDs, dats]
  | n, x :: r, p => by
    simp only [plains, Bool.and_eq_true] at p
    simp only [toDs, toD_plain n x p.1, toDs_plain n r p.2, dats]
end
mutual
theorem eqv_dat : ∀ (m n : Nat) (x y : PV), plain m x = true → plain n y = true → PyData.eqv (dat x) (dat y) = PV.same x y
  | m, n, .non, .non, _, _ => by simp [dat, PyData.eqv, PV.same]
  | m, n, .non, .int j, _, _ => by simp [dat, PyData.eqv, PV.same]
  | m, n, .non, .tup ys, _, _ => by simp [dat, PyData.eqv, PV.same]
  | m, n, .int i, .non, _, _ => by simp [dat, PyData.eqv, PV.same]
  | m, n, .int i, .int j, _, _ => by simp [dat, PyData.eqv, PV.same]
  | m, n, .int i, .tup ys, _, _ => by simp [dat, PyData.eqv, PV.same]
  | m, n, .tup xs, .non, _, _ => by simp [dat, PyData.eqv, PV.same]
  | m, n, .tup xs, .int j, _, _ => by simp [dat, PyData.eqv, PV.same]
  | m + 1, n + 1, .tup xs, .tup ys, p, q => by
    simp only [plain] at p q
    simp only [dat, PyData.eqv, PV.same, eqvAll_dat m n xs ys p q]
  | 0, _, .tup xs, .tup ys, p, _ => by simp [plain] at p
  | _, 0, .tup xs, .tup ys, _, q => by simp [plain] at q
  | m, n, .bl _, y, p, _ => by cases m <;> simp [plain] at p
  | m, n, .str _, y, p, _ => by cases m <;> simp [plain] at p
  | m, n, .scr _, y, p, _ => by cases m <;> simp [plain] at p
  | m, n, .ref _, y, p, _ => by cases m <;> simp [plain] at p
  | m, n, .fn _, y, p, _ => by cases m <;> simp [plain] at p
  | m, n, x, .bl _, _, q => by cases n <;> simp [plain] at q
  | m, n, x, .str _, _, q => by cases n <;> simp [plain] at q
  | m, n, x, .scr _, _, q => by cases n <;> simp [plain] at q
  | m, n, x, .ref _, _, q => by cases n <;> simp [plain] at q
  | m, n, x, .fn _, _, q => by cases n <;> simp [plain] at q
theorem eqvAll_dat : ∀ (m n : Nat) (x y : List PV), plains m x = true → plains n y = true → PyData.eqvAll (dats x) (dats y) = PV.sames x y
  | m, n, [], [], _, _ => by simp [dats, PyData.eqvAll, PV.sames]
  | m, n, [], _ :: _, _, _ => by simp [dats, PyData.eqvAll, PV.sames]
  | m, n, _ :: _, [], _, _ => by simp [dats, PyData.eqvAll, PV.sames]
  | m, n, x :: r, y :: q, p, p' => by
    simp only [plains, Bool.and_eq_true] at p p'
    simp only [dats, PyData.eqvAll, PV.sames, eqv_dat m n x y p.1 p'.1, eqvAll_dat m n r q p.2 p'.2]
end
instance : DecidableEq PV := fun a b => if h : PV.same a b = true then .isTrue (PV.same_eq h) else .isFalse fun e => h (e ▸ PV.same_rfl a)
theorem same_dec (a b : PV) : PV.same a b = decide (a = b) := by
  by_cases h : a = b
  · subst h; simp [PV.same_rfl]
  · rw [decide_eq_false h]
    cases hs : PV.same a b
    · rfl
    · exact absurd (PV.same_eq hs) h
theorem sames_dec (a b : List PV) : PV.sames a b = decide (a = b) := by
  by_cases h : a = b
  · subst h; simp [PV.sames_rfl]
  · rw [decide_eq_false h]
    cases hs : PV.sames a b
    · rfl
    · exact absurd (PV.sames_eq hs) h
theorem eqD_plain {a b : PV} (ha : plain 12 a = true) (hb : plain 12 b = true) : eqD h a b = some (decide (a = b)) := by
  unfold eqD
  rw [toD_plain 12 a ha, toD_plain 12 b hb]
  simp only
  rw [eqv_dat 12 12 a b ha hb, same_dec]
theorem eqD_lst {a b : Nat} {xs ys : List PV} (h1 : h[a]? = some (.lst xs)) (h2 : h[b]? = some (.lst ys)) (ha : plains 11 xs = true) (hb : plains 11 ys = true) : eqD h (.ref a) (.ref b) = some (decide (xs = ys)) := by
  unfold eqD
  simp only [toD, h1, h2, toDs_plain 11 xs ha, toDs_plain 11 ys hb, Option.map_some]
  rw [PyData.eqv, eqvAll_dat 11 11 xs ys ha hb, sames_dec]
@[simp] theorem plain_fr {n : Nat} {q : Rat} : plain (n + 1) (fr q) = true := by simp [fr, plain, plains]
theorem fr_inj {x y : Rat} : fr x = fr y ↔ x = y := by
  constructor
  · intro e
    simp only [fr, PV.tup.injEq, List.cons.injEq, PV.int.injEq, and_true] at e
    exact Rat.ext e.1 (by exact_mod_cast e.2)
  · rintro rfl; rfl
theorem fr0 : PV.tup [.int 0, .int 1] = fr 0 := rfl
theorem fr1 : PV.tup [.int 1, .int 1] = fr 1 := rfl
theorem eqD_fr {x y : Rat} : eqD h (fr x) (fr y) = some (decide (x = y)) := by
  rw [eqD_plain plain_fr plain_fr]
  simp only [fr_inj]
/-- rows of numbers -/
def frs (xs : List Rat) : List PV := xs.map fr
@[simp] theorem map_fr {xs : List Rat} : xs.map fr = frs xs := rfl
@[simp] theorem items_tup {xs : List PV} : items h (.tup xs) = some xs := rfl
@[simp] theorem leanOf_tup {xs : List PV} : leanOf h (.tup xs) = [] := rfl
@[simp] theorem frs_nil : frs [] = [] := rfl
@[simp] theorem frs_cons {a : Rat} {r : List Rat} : frs (a :: r) = fr a :: frs r := rfl
@[simp] theorem frs_len {xs : List Rat} : (frs xs).length = xs.length := List.length_map ..
@[simp] theorem frs_get {xs : List Rat} {i : Nat} : (frs xs)[i]? = xs[i]?.map fr := List.getElem?_map ..
@[simp] theorem frs_app {xs ys : List Rat} : frs xs ++ frs ys = frs (xs ++ ys) := List.map_append.symm
@[simp] theorem frs_rep {i : Nat} {q : Rat} : List.replicate i (fr q) = frs (List.replicate i q) := List.map_replicate.symm
@[simp] theorem frs_rev {xs : List Rat} : (frs xs).reverse = frs xs.reverse := List.map_reverse.symm
@[simp] theorem frs_last {xs : List Rat} : (frs xs).getLast? = xs.getLast?.map fr := List.getLast?_map ..
@[simp] theorem frs_take {xs : List Rat} {i : Nat} : (frs xs).take i = frs (xs.take i) := List.map_take.symm
@[simp] theorem frs_drop {xs : List Rat} {i : Nat} : (frs xs).drop i = frs (xs.drop i) := List.map_drop.symm
@[simp] theorem frs_set {xs : List Rat} {i : Nat} {q : Rat} : (frs xs).set i (fr q) = frs (xs.set i q) := List.map_set.symm
theorem frs_map {α : Type} {xs : List α} {f : α → Rat} : xs.map (fun a => fr (f a)) = frs (xs.map f) := by simp [frs]
def pol (xs : List Rat) : PV := .tup (frs xs)
theorem frs_inj {x y : List Rat} : frs x = frs y ↔ x = y := by
  constructor
  · intro e
    induction x generalizing y with
    | nil => cases y <;> simp at e; rfl
    | cons a r ih =>
      cases y with
      | nil => simp at e
      | cons b q =>
        simp only [frs, List.map_cons, List.cons.injEq] at e
        rw [fr_inj.mp e.1, ih e.2]
  · rintro rfl; rfl
theorem pol_inj {x y : List Rat} : pol x = pol y ↔ x = y := by
  unfold pol
  rw [PV.tup.injEq, frs_inj]
@[simp] theorem plains_frs {n : Nat} {xs : List Rat} : plains (n + 1) (frs xs) = true := by
  induction xs with
  | nil => simp [plains]
  | cons a r ih => simp only [frs, List.map_cons, plains, Bool.and_eq_true]; exact ⟨plain_fr, ih⟩
@[simp] theorem plain_pol {n : Nat} {xs : List Rat} : plain (n + 2) (pol xs) = true := by
  unfold pol; simp only [plain]; exact plains_frs
theorem eqD_pol {x y : List Rat} : eqD h (pol x) (pol y) = some (decide (x = y)) := by
  rw [eqD_plain plain_pol plain_pol]
  simp only [pol_inj]
@[simp] theorem lows_frs {n : Nat} {xs : List Rat} : PV.lows n (frs xs) = true := by
  induction xs with
  | nil => simp [PV.lows]
  | cons a r ih => simp only [frs, List.map_cons, PV.lows, Bool.and_eq_true]; exact ⟨low_fr, ih⟩
@[simp] theorem low_pol {n : Nat} {xs : List Rat} : PV.low n (pol xs) = true := by unfold pol; simp only [PV.low]; exact lows_frs
@[simp] theorem keep_pol {xs : List Rat} : keepP h h (pol xs) = h := keepP_self low_pol
@[simp] theorem blt_len {a : PV} : blt .len [a] h = match items h a with | some xs => .ok (.int xs.length) h | none => .bad := rfl
@[simp] theorem blt_abs {i : Int} : blt .abs [.int i] h = .ok (.int i.natAbs) h := rfl
@[simp] theorem blt_min2 {i j : Int} : blt .min2 [.int i, .int j] h = .ok (.int (if j < i then j else i)) h := rfl
@[simp] theorem blt_max2 {i j : Int} : blt .max2 [.int i, .int j] h = .ok (.int (if i < j then j else i)) h := rfl
@[simp] theorem blt_gcd {i j : Int} : blt .gcd [.int i, .int j] h = .ok (.int (Nat.gcd i.natAbs j.natAbs : Nat)) h := rfl
@[simp] theorem blt_tuple {a : PV} : blt .tuple [a] h = match items h a with | some xs => .ok (.tup xs) h | none => .bad := rfl
@[simp] theorem blt_list {a : PV} : blt .list [a] h = match items h a with | some xs => alloc xs h | none => .bad := rfl
@[simp] theorem blt_int {i : Int} : blt .int [.int i] h = .ok (.int i) h := rfl
@[simp] theorem blt_isInt {a : PV} : blt .isInt [a] h = match kindOf h a with | some k => .ok (.bl (k == 2 || k == 1)) h | none => .bad := rfl
@[simp] theorem blt_isBool {a : PV} : blt .isBool [a] h = match kindOf h a with | some k => .ok (.bl (k == 1)) h | none => .bad := rfl
@[simp] theorem blt_isTup {a : PV} : blt .isTup [a] h = match kindOf h a with | some k => .ok (.bl (k == 4)) h | none => .bad := rfl
@[simp] theorem blt_isStr {a : PV} : blt .isStr [a] h = match kindOf h a with | some k => .ok (.bl (k == 3)) h | none => .bad := rfl
@[simp] theorem blt_isList {a : PV} : blt .isList [a] h = match kindOf h a with | some k => .ok (.bl (k == 5)) h | none => .bad := rfl
@[simp] theorem blt_isTL {a : PV} : blt .isTL [a] h = match kindOf h a with | some k => .ok (.bl (k == 4 || k == 5)) h | none => .bad := rfl
@[simp] theorem blt_all {n : Nat} : blt .all [.ref n] h = match h[n]? with
    | some (.lst xs) => match truths (· && ·) true xs with | some b => .ok (.bl b) h | none => .bad
    | none => .bad := rfl
@[simp] theorem blt_any {n : Nat} : blt .any [.ref n] h = match h[n]? with
    | some (.lst xs) => match truths (· || ·) false xs with | some b => .ok (.bl b) h | none => .bad
    | none => .bad := rfl
@[simp] theorem kindOf_non : kindOf h .non = some 0 := rfl
@[simp] theorem kindOf_bl {b : Bool} : kindOf h (.bl b) = some 1 := rfl
@[simp] theorem kindOf_int {b : Int} : kindOf h (.int b) = some 2 := rfl
@[simp] theorem kindOf_str {b : Str} : kindOf h (.str b) = some 3 := rfl
@[simp] theorem kindOf_tup {b : List PV} : kindOf h (.tup b) = some 4 := rfl
@[simp] theorem kindOf_ref {n : Nat} : kindOf h (.ref n) = h[n]?.map fun _ => 5 := by
  unfold kindOf
  simp only
  cases hx : h[n]? with
  | none => rfl
  | some c => cases c; rfl
def PO.xs : PO → List PV
  | .lst xs => xs
@[simp] theorem PO.xs_lst {xs : List PV} : (PO.lst xs).xs = xs := rfl
@[simp] theorem items_ref {n : Nat} : items h (.ref n) = h[n]?.map PO.xs := by
  unfold items
  simp only
  cases hx : h[n]? with
  | none => rfl
  | some c => cases c; rfl
@[simp] theorem leanOf_ref {n : Nat} : leanOf h (.ref n) = match h[n]? with | some c => [(n, c)] | none => [] := rfl
@[simp] theorem items_scr {xs : List PV} : items h (.scr xs) = some xs := rfl
@[simp] theorem leanOf_pol {xs : List Rat} : leanOf h (pol xs) = [] := rfl
@[simp] theorem leanOf_fr {xs : Rat} : leanOf h (fr xs) = [] := rfl
@[simp] theorem items_pol {xs : List Rat} : items h (pol xs) = some (frs xs) := rfl
@[simp] theorem items_fr {q : Rat} : items h (fr q) = some [.int q.num, .int q.den] := rfl
@[simp] theorem kindOf_fr {q : Rat} : kindOf h (fr q) = some 4 := rfl
@[simp] theorem kindOf_pol {q : List Rat} : kindOf h (pol q) = some 4 := rfl
theorem pol_nil : PV.tup [] = pol [] := rfl
end
end PB
set_option Elab.async false
set_option linter.all false
set_option maxRecDepth 100000
set_option maxHeartbeats 1000000
set_option exponentiation.threshold 100000
namespace PB
open PySem
section
variable {k : Nat} {h t : PH} {o : PO} {m n : Nat} {x y : Rat}
theorem sub_eq (x y : Rat) : Rat.divInt (x.num * y.den - y.num * x.den) (x.den * y.den) = x - y := by
  have e := add_eq x (-y)
  rw [Rat.neg_num, Rat.neg_den] at e
  rw [show x - y = x + -y from Rat.sub_eq_add_neg x y, ← e]
  congr 1
  rw [Int.neg_mul]; omega
theorem bd_sub (hx : Bd m x) (hy : Bd n y) : Bd (m + n + 1) (x - y) := by
  rw [Rat.sub_eq_add_neg]
  exact (bd_add hx (bd_neg hy)).1
theorem num_ne {y : Rat} (h : y ≠ 0) : y.num ≠ 0 := fun e => h (Rat.num_eq_zero.mp e)
theorem div_eq (x : Rat) {y : Rat} (hy : y ≠ 0) : Rat.divInt (x.num * y.den) (x.den * y.num) = x / y := by
  rw [Rat.div_def, Rat.inv_def, ← Rat.num_divInt_den x]
  conv => rhs; rw [Rat.divInt_mul_divInt]
  rw [Rat.num_divInt_den]
theorem den_num_ne (x : Rat) {y : Rat} (hy : y ≠ 0) : ((x.den : Int) * y.num) ≠ 0 := Int.mul_ne_zero (by exact_mod_cast x.den_nz) (num_ne hy)
theorem bd_div (hx : Bd m x) (hy : Bd n y) (h0 : y ≠ 0) : Bd (m + n) (x / y) := by
  rw [← div_eq x h0]
  exact bd_divInt (den_num_ne x h0) (natAbs_mul_lt hx.1 (den_lt hy)) (natAbs_mul_lt (den_lt hx) hy.1)
theorem pow_le_pow {a b : Nat} (h : a ≤ b) : 2 ^ a ≤ 2 ^ b := Nat.pow_le_pow_right (by decide) h
theorem lt_pow {a m n : Nat} (h : a < 2 ^ m) (hk : m ≤ n) : a < 2 ^ n := Nat.lt_of_lt_of_le h (pow_le_pow hk)
theorem natAbs_sub_lt {a b : Int} {n : Nat} (ha : a.natAbs < 2 ^ n) (hb : b.natAbs < 2 ^ n) : (a - b).natAbs < 2 ^ (n + 1) := by
  rw [Nat.pow_succ]; omega
/-! ### the program's numbers -/
theorem less_ok (hx : Bd m x) (hy : Bd n y) (hz : m + n < 8000) : callF G (k + 2) 31 [fr x, fr y] h = .ok (fr (x - y)) h := by
  rw [callF_eq (f := f_less) rfl rfl]
  have m1 := mulOk_of hx.1 (den_lt hy) (by omega)
  have m2 := mulOk_of hy.1 (den_lt hx) (by omega)
  have m3 := mulOk_of (den_lt hx) (den_lt hy) (by omega)
  have hd := made_ok (k := k) (h := h) (a := x.num * y.den - y.num * x.den) (den_mul_ne x y) (lt_pow (natAbs_mul_lt (den_lt hx) (den_lt hy)) (by omega))
  rw [sub_eq] at hd
  simp only [f_less, c_less]
  simp [binop, m1, m2, m3, hd]
theorem over_ok (hx : Bd m x) (hy : Bd n y) (h0 : y ≠ 0) (hz : m + n < 8000) : callF G (k + 2) 32 [fr x, fr y] h = .ok (fr (x / y)) h := by
  rw [callF_eq (f := f_over) rfl rfl]
  have m1 := mulOk_of hx.1 (den_lt hy) (by omega)
  have m2 := mulOk_of (den_lt hx) hy.1 (by omega)
  have hd := made_ok (k := k) (h := h) (a := x.num * y.den) (den_num_ne x h0) (lt_pow (natAbs_mul_lt (den_lt hx) hy.1) (by omega))
  rw [div_eq x h0] at hd
  simp only [f_over, c_over]
  simp [binop, m1, m2, hd]
theorem lt_eq (x y : Rat) : (x.num * y.den < y.num * x.den) ↔ x < y := (Rat.lt_iff x y).symm
theorem below_ok (hx : Bd m x) (hy : Bd n y) (hz : m + n < 8000) : callF G (k + 1) 49 [fr x, fr y] h = .ok (.bl (decide (x < y))) h := by
  rw [callF_eq (f := f_is_below) rfl rfl]
  have m1 := mulOk_of hx.1 (den_lt hy) (by omega)
  have m2 := mulOk_of hy.1 (den_lt hx) (by omega)
  simp only [f_is_below, c_is_below]
  simp [binop, m1, m2, cmpop, lt_eq]
theorem negative_ok : callF G (k + 1) 52 [fr x] h = .ok (fr (-x)) h := by
  rw [callF_eq (f := f_negative) rfl rfl]
  have e : PV.tup [.int (-x.num), .int x.den] = fr (-x) := by simp [fr]
  simp only [f_negative, c_negative]
  simp [many, e]
theorem is_int_ok {i : Int} : callF G (k + 1) 0 [.int i] h = .ok (.bl true) h := by
  rw [callF_eq (f := f_is_int) rfl rfl]
  simp only [f_is_int, c_is_int]
  simp
theorem is_ratio_ok : callF G (k + 2) 1 [fr x] h = .ok (.bl true) h := by
  rw [callF_eq (f := f_is_ratio) rfl rfl]
  simp only [f_is_ratio, c_is_ratio]
  have e1 : eqD h (.int 2) (.int 2) = some true := rfl
  have e2 : eqD h (.int ((x.num.natAbs.gcd x.den : Nat) : Int)) (.int 1) = some true := by
    have : x.num.natAbs.gcd x.den = 1 := x.reduced
    rw [this]; rfl
  simp [cmpop, is_int_ok, e1, e2, x.den_pos]
/-! ### the law's numbers -/
theorem lplus_ok (hx : Bd m x) (hy : Bd n y) (hz : m + n < 4900) : callF G (k + 2) 20 [fr x, fr y] h = .ok (fr (x + y)) h := by
  rw [callF_eq (f := f__law_plus) rfl rfl]
  obtain ⟨_, h2, h3⟩ := bd_add hx hy
  have m1 := mulOk_of hx.1 (den_lt hy) (by omega)
  have m2 := mulOk_of hy.1 (den_lt hx) (by omega)
  have m3 := mulOk_of (den_lt hx) (den_lt hy) (by omega)
  have hd := lmade_ok (k := k) (h := h) (a := x.num * y.den + y.num * x.den) (den_mul_ne x y) (lt_pow h3 (by omega))
  rw [add_eq] at hd
  simp only [f__law_plus, c__law_plus]
  simp [binop, m1, m2, m3, hd]
theorem lminus_ok (hx : Bd m x) (hy : Bd n y) (hz : m + n < 4900) : callF G (k + 2) 43 [fr x, fr y] h = .ok (fr (x - y)) h := by
  rw [callF_eq (f := f__law_minus) rfl rfl]
  have m1 := mulOk_of hx.1 (den_lt hy) (by omega)
  have m2 := mulOk_of hy.1 (den_lt hx) (by omega)
  have m3 := mulOk_of (den_lt hx) (den_lt hy) (by omega)
  have hd := lmade_ok (k := k) (h := h) (a := x.num * y.den - y.num * x.den) (den_mul_ne x y) (lt_pow (natAbs_mul_lt (den_lt hx) (den_lt hy)) (by omega))
  rw [sub_eq] at hd
  simp only [f__law_minus, c__law_minus]
  simp [binop, m1, m2, m3, hd]
theorem ltimes_ok (hx : Bd m x) (hy : Bd n y) (hz : m + n < 4900) : callF G (k + 2) 21 [fr x, fr y] h = .ok (fr (x * y)) h := by
  rw [callF_eq (f := f__law_times) rfl rfl]
  have m1 := mulOk_of hx.1 hy.1 (by omega)
  have m3 := mulOk_of (den_lt hx) (den_lt hy) (by omega)
  have hd := lmade_ok (k := k) (h := h) (a := x.num * y.num) (den_mul_ne x y) (lt_pow (natAbs_mul_lt (den_lt hx) (den_lt hy)) (by omega))
  rw [mul_eq] at hd
  simp only [f__law_times, c__law_times]
  simp [binop, m1, m3, hd]
theorem lover_ok (hx : Bd m x) (hy : Bd n y) (h0 : y ≠ 0) (hz : m + n < 4900) : callF G (k + 2) 69 [fr x, fr y] h = .ok (fr (x / y)) h := by
  rw [callF_eq (f := f__law_over) rfl rfl]
  have m1 := mulOk_of hx.1 (den_lt hy) (by omega)
  have m2 := mulOk_of (den_lt hx) hy.1 (by omega)
  have hd := lmade_ok (k := k) (h := h) (a := x.num * y.den) (den_num_ne x h0) (lt_pow (natAbs_mul_lt (den_lt hx) hy.1) (by omega))
  rw [div_eq x h0] at hd
  simp only [f__law_over, c__law_over]
  simp [binop, m1, m2, hd]
theorem lbelow_ok (hx : Bd m x) (hy : Bd n y) (hz : m + n < 8000) : callF G (k + 1) 58 [fr x, fr y] h = .ok (.bl (decide (x < y))) h := by
  rw [callF_eq (f := f__law_below) rfl rfl]
  have m1 := mulOk_of hx.1 (den_lt hy) (by omega)
  have m2 := mulOk_of hy.1 (den_lt hx) (by omega)
  simp only [f__law_below, c__law_below]
  simp [binop, m1, m2, cmpop, lt_eq]
/-! ### draws -/
def Wf (t : PH) : Prop := t.all (PO.low (t.length + 1)) = true
theorem Row.low {n : Nat} (hr : Row o) : PO.low n o = true := by
  obtain ⟨ns, p, s, b, rfl, _⟩ := hr
  have : PV.lows n (ns.map PV.int) = true := by
    induction ns with
    | nil => simp [PV.lows]
    | cons a r ih => simp only [List.map_cons, PV.lows, PV.low, Bool.true_and]; exact ih (by simp_all; omega)
  simp [PO.low, PV.lows, PV.low, this]
theorem keep_row {o o' : PO} {t u : PH} {v : PV} (hr : Row o') (hw : Wf t) (hv : PV.low (t.length + 1) v = true) : keepP (o :: t) (o' :: (t ++ u)) v = o' :: t := by
  unfold keepP
  rw [if_pos]
  · simp
  · refine ⟨by simpa using hv, .inr ?_⟩
    simp only [List.length_cons, List.take_succ_cons, List.take_left', List.all_cons, Bool.and_eq_true]
    exact ⟨hr.low, hw⟩
theorem pick_tup {xs : List PV} (h0 : xs ≠ []) (hz : xs.length ≤ 1000000) (hr : Row o) : ∃ v o', v ∈ xs ∧ Row o' ∧ callF G (k + 2) 17 [.ref 0, .tup xs] (o :: t) = .ok v (o' :: t) := by
  have hl : 0 < xs.length := List.length_pos_iff.mpr h0
  obtain ⟨r, o', h1, h2, h3, h4⟩ := taken_ok (k := k) (t := t) (m := xs.length) (by omega) (by omega) hr
  have hlt : r.toNat < xs.length := by omega
  refine ⟨xs[r.toNat], o', List.getElem_mem hlt, h3, ?_⟩
  rw [callF_eq (f := f__law_pick) rfl rfl]
  simp only [f__law_pick, c__law_pick]
  have ha : L2.atI xs r = some xs[r.toNat] := by rw [atI_nn h1, List.getElem?_eq_getElem hlt]
  simp [h4, idxop, ha, keepP_len]
theorem pick_lst {xs : List PV} {i : Nat} (h0 : xs ≠ []) (hz : xs.length ≤ 1000000) (hr : Row o) (hi : t[i]? = some (.lst xs)) : ∃ v o', v ∈ xs ∧ Row o' ∧ callF G (k + 2) 17 [.ref 0, .ref (i + 1)] (o :: t) = .ok v (o' :: t) := by
  have hl : 0 < xs.length := List.length_pos_iff.mpr h0
  obtain ⟨r, o', h1, h2, h3, h4⟩ := taken_ok (k := k) (t := t) (m := xs.length) (by omega) (by omega) hr
  have hlt : r.toNat < xs.length := by omega
  refine ⟨xs[r.toNat], o', List.getElem_mem hlt, h3, ?_⟩
  rw [callF_eq (f := f__law_pick) rfl rfl]
  simp only [f__law_pick, c__law_pick]
  have ha : L2.atI xs r = some xs[r.toNat] := by rw [atI_nn h1, List.getElem?_eq_getElem hlt]
  simp [h4, idxop, ha, keepP_len, hi]
theorem draw_ok (hr : Row o) (hw : Wf t) : ∃ q o', Bd 3 q ∧ Row o' ∧ callF G (k + 3) 19 [.ref 0] (o :: t) = .ok (fr q) (o' :: t) := by
  obtain ⟨v, o1, hv, h1, h2⟩ := pick_lst (k := k) (t := t ++ [.lst [.int 1, .int 1, .int 2, .int 3, .int 4]]) (i := t.length) (xs := [.int 1, .int 1, .int 2, .int 3, .int 4]) (by simp) (by simp) hr (by simp)
  obtain ⟨l, rfl, hl1, hl2⟩ : ∃ l : Int, v = .int l ∧ 0 < l ∧ l < 8 := by
    simp only [List.mem_cons, List.mem_nil_iff, or_false] at hv
    rcases hv with rfl | rfl | rfl | rfl | rfl <;> exact ⟨_, rfl, by decide, by decide⟩
  obtain ⟨r, o2, g1, g2, g3, g4⟩ := taken_ok (k := k + 1) (t := t ++ [.lst [.int 1, .int 1, .int 2, .int 3, .int 4]]) (m := 13) (by decide) (by decide) h1
  have hm := lmade_ok (k := k + 1) (h := o2 :: (t ++ [.lst [.int 1, .int 1, .int 2, .int 3, .int 4]])) (a := r - 6) (b := l) (by omega) (lt_pow (m := 3) (by omega) (by decide))
  refine ⟨Rat.divInt (r - 6) l, o2, bd_divInt (by omega) (by omega) (by omega), g3, ?_⟩
  rw [callF_eq (f := f__law_draw) rfl rfl]
  simp only [f__law_draw, c__law_draw]
  simp [alloc, many, h2, g4, binop, hm, keep_row g3 hw]
end
end PB
set_option Elab.async false
set_option linter.all false
set_option maxRecDepth 100000
set_option maxHeartbeats 1000000
set_option exponentiation.threshold 100000
namespace PB
open PySem
section
variable {k : Nat} {h t : PH} {o : PO} {m n : Nat} {x y : Rat}
@[simp] theorem get_app {α : Type} {h t : List α} {i : Nat} : (h ++ t)[h.length + i]? = t[i]? := by
  rw [List.getElem?_append_right (by omega)]; congr 1; omega
@[simp] theorem get_app0 {α : Type} {h t : List α} : (h ++ t)[h.length]? = t[0]? := by
  rw [List.getElem?_append_right (by omega)]; congr 1; omega
@[simp] theorem set_app {α : Type} {h t : List α} {i : Nat} {a : α} : (h ++ t).set (h.length + i) a = h ++ t.set i a := by
  rw [List.set_append_right _ _ (by omega)]; congr 2; omega
@[simp] theorem set_app0 {α : Type} {h t : List α} {a : α} : (h ++ t).set h.length a = h ++ t.set 0 a := by
  rw [List.set_append_right _ _ (by omega)]; congr 2; omega
@[simp] theorem keep_app {h t : PH} {v : PV} (hv : PV.low h.length v = true) : keepP h (h ++ t) v = h := keepP_app hv
/-! ### comprehensions and loops over a row that stands -/
theorem compL_map {α : Type} {F : PV → PH → Res (Option PV)} {l : Lean_} (e g : α → PV) (hl : leans l h = true) : ∀ (xs : List α), (∀ a ∈ xs, F (e a) h = .ok (some (g a)) h) → compL F l (xs.map e) h = .ok (xs.map g) h
  | [], _ => by simp [compL, hl]
  | a :: r, hF => by
    have ih := compL_map e g hl r fun b hb => hF b (by simp [hb])
    simp only [List.map_cons, compL, hl, if_true, hF a (by simp), bind_ok', ih]
/-! ### polynomials -/
def AllB (n : Nat) (xs : List Rat) : Prop := ∀ q ∈ xs, Bd n q
theorem AllB.mono {m n : Nat} {xs : List Rat} (h : AllB m xs) (hk : m ≤ n) : AllB n xs := fun q hq => (h q hq).mono hk
theorem bd0 (n : Nat) : Bd (n + 1) 0 := ⟨by simp <;> exact Nat.pow_pos (by decide), by simp <;> exact Nat.one_lt_two_pow (by omega)⟩
theorem bd1 (n : Nat) : Bd (n + 1) 1 := ⟨by simp <;> exact Nat.one_lt_two_pow (by omega), by simp <;> exact Nat.one_lt_two_pow (by omega)⟩
/-- the value -/
def pe : List Rat → Rat → Rat
  | [], _ => 0
  | a :: r, x => a + x * pe r x
/-- without zeros at its end -/
def trim : List Rat → List Rat
  | [] => []
  | a :: r => if trim r = [] ∧ a = 0 then [] else a :: trim r
/-- canonical -/
def Can (xs : List Rat) : Prop := xs.getLast? ≠ some 0
theorem trim_can : ∀ xs : List Rat, Can (trim xs)
  | [] => by simp [trim, Can]
  | a :: r => by
    have ih := trim_can r
    unfold trim
    split
    · simp [Can]
    · rename_i hc
      unfold Can at ih ⊢
      cases hr : trim r with
      | nil =>
        rw [hr] at hc
        simp at hc ⊢
        exact hc
      | cons b q => rw [hr] at ih; rw [List.getLast?_cons_cons]; exact ih
theorem pe_trim : ∀ (xs : List Rat) (x : Rat), pe (trim xs) x = pe xs x
  | [], _ => rfl
  | a :: r, x => by
    have ih := pe_trim r x
    unfold trim
    split
    · rename_i hc
      rw [hc.1] at ih
      simp only [pe] at ih ⊢
      rw [hc.2, ← ih]
      grind
    · simp only [pe, ih]
theorem trim_len_le : ∀ xs : List Rat, (trim xs).length ≤ xs.length
  | [] => Nat.le_refl _
  | a :: r => by
    have := trim_len_le r
    unfold trim
    split <;> simp <;> omega
theorem trim_mem : ∀ {xs : List Rat} {q : Rat}, q ∈ trim xs → q ∈ xs
  | [], _, h => h
  | a :: r, q, h => by
    unfold trim at h
    split at h
    · simp at h
    · rcases List.mem_cons.mp h with h | h
      · simp [h]
      · exact List.mem_cons_of_mem _ (trim_mem h)
theorem trim_take : ∀ xs : List Rat, xs.take (trim xs).length = trim xs
  | [] => rfl
  | a :: r => by
    have ih := trim_take r
    unfold trim
    split
    · rfl
    · simp [ih]
/-- the length of the trimmed row, told by the places -/
theorem trim_len_of : ∀ (xs : List Rat) (c : Nat), c ≤ xs.length → (∀ i, c ≤ i → i < xs.length → xs[i]? = some 0) → (c = 0 ∨ ∃ q, xs[c - 1]? = some q ∧ q ≠ 0) → (trim xs).length = c
  | [], c, h1, _, _ => by simp at h1; subst h1; rfl
  | a :: r, 0, _, h2, _ => by
    have ih := trim_len_of r 0 (by omega) (fun i hi hlt => by have := h2 (i + 1) (by omega) (by simpa using hlt); simpa using this) (.inl rfl)
    have ha := h2 0 (by omega) (by simp)
    simp at ha
    have hr : trim r = [] := List.length_eq_zero_iff.mp ih
    rw [trim, if_pos ⟨hr, ha⟩]; rfl
  | a :: r, c + 1, h1, h2, h3 => by
    simp only [List.length_cons, Nat.add_le_add_iff_right] at h1
    rcases h3 with h3 | ⟨q, hq, hq0⟩
    · omega
    · cases c with
      | zero =>
        simp at hq
        subst hq
        have ih := trim_len_of r 0 (by omega) (fun i hi hlt => by have := h2 (i + 1) (by omega) (by simpa using hlt); simpa using this) (.inl rfl)
        rw [trim, if_neg (fun z => hq0 z.2)]
        simp [ih]
      | succ c =>
        have ih := trim_len_of r (c + 1) h1 (fun i hi hlt => by have := h2 (i + 1) (by omega) (by simpa using hlt); simpa using this) (.inr ⟨q, by simpa using hq, hq0⟩)
        have hr : trim r ≠ [] := fun z => by rw [z] at ih; simp at ih
        rw [trim, if_neg (fun z => hr z.1)]
        simp [ih]
theorem sIx_none (n d : Nat) : HT.sIx n d none = d := rfl
theorem cut_to {xs : List PV} {c : Nat} (hc : c ≤ xs.length) : cut xs none (some (c : Int)) = xs.take c := by
  unfold cut
  have e : HT.sIx xs.length xs.length (some (c : Int)) = c := by
    rw [HT.sIx_nat]; omega
  rw [e]
  simp [HT.sIx]
theorem tLoop {cf : Nat → List PV → PH → Res PV} {p : Nat} {xs : List Rat} (hp : h[p]? = some (.lst (frs xs))) : ∀ (c f : Nat), c ≤ xs.length → (∀ i, c ≤ i → i < xs.length → xs[i]? = some 0) → c < f →
    whL (evE cf (.and (.cmp .gt (.var 1) (.con (.int 0))) (.cmp .eq (.idx (.var 0) (.bin .sub (.var 1) (.con (.int 1)))) (.con (.tup [(.int 0), (.int 1)]))))) (evB cf (.cons (.aug 1 .sub (.con (.int 1))) .nil)) f [some (.ref p), some (.int c)] h
      = .ok (.nx [some (.ref p), some (.int (trim xs).length)]) h := by
  intro c
  induction c with
  | zero =>
    intro f _ hz hf
    obtain ⟨f, rfl⟩ : ∃ f', f = f' + 1 := ⟨f - 1, by omega⟩
    rw [trim_len_of xs 0 (by omega) hz (.inl rfl)]
    simp [whL, cmpop]
  | succ c ih =>
    intro f hc hz hf
    obtain ⟨f, rfl⟩ : ∃ f', f = f' + 1 := ⟨f - 1, by omega⟩
    have hlt : c < xs.length := by omega
    have hx : L2.atI (frs xs) (c : Int) = some (fr xs[c]) := by
      rw [atI_nn (by omega), frs_get]
      simp [List.getElem?_eq_getElem hlt]
    have e1 : ((c + 1 : Nat) : Int) - 1 = (c : Int) := by omega
    have e2 : (0 : Int) < ((c + 1 : Nat) : Int) := by omega
    rw [whL]
    by_cases h0 : xs[c] = 0
    · have ih' := ih f (by omega) (fun i hi hlt2 => by
        by_cases he : i = c
        · subst he; rw [List.getElem?_eq_getElem hlt, h0]
        · exact hz i (by omega) hlt2) (by omega)
      simp only [evE_and, evE_cmp, evE_vs, evE_v0, evE_con, bind_ok', cmpop, e2, decide_true, ifB_bl, if_true, evE_idx, evE_bin, binop, e1, idxop, items, hp, hx, fr0, eqD_fr, h0]
      simp only [evB_cons, evS_aug, List.getElem?_cons_succ, List.getElem?_cons_zero, evE_con, bind_ok', isNum, and_self, if_true, binop, e1, List.set_cons_succ, List.set_cons_zero, evB_nil]
      exact ih'
    · rw [trim_len_of xs (c + 1) hc hz (.inr ⟨xs[c], by simp [List.getElem?_eq_getElem hlt], h0⟩)]
      simp only [evE_and, evE_cmp, evE_vs, evE_v0, evE_con, bind_ok', cmpop, e2, decide_true, ifB_bl, if_true, evE_idx, evE_bin, binop, e1, idxop, items, hp, hx, fr0, eqD_fr, h0, decide_false]
theorem trimmed_ok {p : Nat} {xs : List Rat} (hp : h[p]? = some (.lst (frs xs))) (hz : xs.length < 100000) : callF G (k + 1) 9 [.ref p] h = .ok (pol (trim xs)) h := by
  rw [callF_eq (f := f_trimmed) rfl rfl]
  have hl := tLoop (cf := callF G k) hp xs.length fuel (Nat.le_refl _) (fun i h1 h2 => by omega) hz
  have hcut : cut (frs xs) none (some ((trim xs).length : Int)) = frs (trim xs) := by
    rw [cut_to (by simpa using trim_len_le xs), frs_take, trim_take]
  have e : PV.tup (frs (trim xs)) = pol (trim xs) := rfl
  simp only [f_trimmed, c_trimmed]
  simp [hp, hl, optI, slcop, hcut, alloc, e]
end
end PB
set_option Elab.async false
set_option linter.all false
set_option maxRecDepth 100000
set_option maxHeartbeats 1000000
set_option exponentiation.threshold 100000
namespace PB
open PySem
section
variable {k : Nat} {h t : PH} {o : PO} {m n : Nat} {x y : Rat} {xs ys : List Rat}
@[simp] theorem low_bl {n : Nat} {b : Bool} : PV.low n (.bl b) = true := by simp [PV.low]
@[simp] theorem low_int {n : Nat} {b : Int} : PV.low n (.int b) = true := by simp [PV.low]
@[simp] theorem low_non {n : Nat} : PV.low n .non = true := by simp [PV.low]
theorem pol_nil' : PV.tup [] = pol [] := rfl
theorem truths_rep {α : Type} (xs : List α) : truths (· && ·) true (xs.map fun _ => PV.bl true) = some true := by
  induction xs with
  | nil => rfl
  | cons a r ih => simp [truths, ih]
theorem atI_last {α : Type} {xs : List α} : L2.atI xs (-1) = xs.getLast? := by
  unfold L2.atI L2.ixN
  rw [if_neg (by decide), List.getLast?_eq_getElem?]
  by_cases h : xs = []
  · subst h; rfl
  · have : 0 < xs.length := List.length_pos_iff.mpr h
    rw [if_pos (by omega)]
    have e : (-1 + (xs.length : Int)).toNat = xs.length - 1 := by omega
    simp only [Option.bind_some, e]
theorem is_poly_ok (hc : Can xs) (hl : xs.length ≤ 13) : callF G (k + 3) 3 [pol xs] h = .ok (.bl true) h := by
  rw [callF_eq (f := f_is_poly) rfl rfl]
  have hcmp : compL (compF (callF G (k + 2)) (.call 1 (.cons (.var 1) .nil)) [1] (.v 1) .none [some (pol xs), none]) [] (frs xs) h = .ok (xs.map fun _ => PV.bl true) h :=
    compL_map fr (fun _ => PV.bl true) rfl xs fun a _ => by simp [compF, wipe, is_ratio_ok]
  have h1 : ¬ (13 : Int) < (xs.length : Int) := by omega
  have e2 : eqD (h ++ [.lst (xs.map fun _ => PV.bl true)]) (pol xs) (pol []) = some (decide (xs = [])) := eqD_pol
  have hm : xs.length ≤ many := by simp [many]; omega
  have hlean : leanOf h (pol xs) = [] := rfl
  simp only [f_is_poly, c_is_poly]
  by_cases hne : xs = []
  · simp [cmpop, hlean, List.replicate, hm, binop, h1, hcmp, alloc, truths_rep, pol_nil, e2]
    simp [hne]
  · have hq : xs.getLast hne ≠ 0 := fun z => hc (by rw [List.getLast?_eq_getLast hne, z])
    have hat : L2.atI (frs xs) (-1) = some (fr (xs.getLast hne)) := by rw [atI_last, frs_last, List.getLast?_eq_getLast hne]; rfl
    simp [cmpop, hlean, List.replicate, hm, binop, h1, hcmp, alloc, truths_rep, pol_nil, e2, hne, idxop, hat, fr0, eqD_fr, hq]
theorem need_poly_ok (hc : Can xs) (hl : xs.length ≤ 13) : callF G (k + 4) 8 [pol xs] h = .ok .non h := by
  rw [callF_eq (f := f_need_poly) rfl rfl]
  simp only [f_need_poly, c_need_poly]
  simp [is_poly_ok hc hl]
end
end PB
set_option Elab.async false
set_option linter.all false
set_option maxRecDepth 100000
set_option maxHeartbeats 1000000
set_option exponentiation.threshold 100000
namespace PB
open PySem
section
variable {k : Nat} {h t : PH} {o : PO} {m n : Nat} {x y : Rat} {xs ys : List Rat}
/-- the sum, place by place -/
def padd : List Rat → List Rat → List Rat
  | [], ys => ys
  | a :: r, [] => a :: r
  | a :: r, b :: q => (a + b) :: padd r q
theorem pe_padd : ∀ (xs ys : List Rat), pe (padd xs ys) x = pe xs x + pe ys x
  | [], ys => by simp only [padd, pe]; grind
  | a :: r, [] => by simp only [padd, pe]; grind
  | a :: r, b :: q => by simp only [padd, pe, pe_padd r q]; grind
theorem padd_len : ∀ (xs ys : List Rat), (padd xs ys).length = max xs.length ys.length
  | [], ys => by simp [padd]
  | a :: r, [] => by simp [padd]
  | a :: r, b :: q => by simp only [padd, List.length_cons, padd_len r q]; omega
theorem zip_padd : ∀ (xs ys : List Rat) (i j : Nat), xs.length + i = max xs.length ys.length → ys.length + j = max xs.length ys.length →
    ((xs ++ List.replicate i 0).zip (ys ++ List.replicate j 0)).map (fun p : Rat × Rat => p.1 + p.2) = padd xs ys
  | [], ys, i, j, h1, h2 => by
    simp at h1 h2
    subst h1
    have : j = 0 := by omega
    subst this
    simp only [padd, List.nil_append, List.replicate_zero, List.append_nil]
    clear h2
    induction ys with
    | nil => rfl
    | cons b q ih => simp [List.replicate_succ, ih]; grind
  | a :: r, [], i, j, h1, h2 => by
    simp at h1 h2
    subst h1 h2
    simp only [padd, List.replicate_zero, List.append_nil, List.nil_append]
    have : ∀ zs : List Rat, (zs.zip (List.replicate zs.length (0 : Rat))).map (fun p : Rat × Rat => p.1 + p.2) = zs := by
      intro zs
      induction zs with
      | nil => rfl
      | cons b q ih => simp [List.replicate_succ, ih]; grind
    exact this (a :: r)
  | a :: r, b :: q, i, j, h1, h2 => by
    simp at h1 h2
    have ih := zip_padd r q i j (by omega) (by omega)
    simp only [padd, List.cons_append, List.zip_cons_cons, List.map_cons, ih]
theorem zips_frs : ∀ (xs ys : List Rat), zips (frs xs) (frs ys) = (xs.zip ys).map fun p => PV.wtup [fr p.1, fr p.2]
  | [], ys => by simp [zips]
  | a :: r, [] => by simp [zips]
  | a :: r, b :: q => by
    have ih := zips_frs r q
    simp only [frs_cons, zips, List.zip_cons_cons, List.map_cons] at ih ⊢
    rw [ih]
theorem flat_one (i : Nat) (v : PV) : (List.replicate i [v]).flatten = List.replicate i v := by
  induction i with
  | zero => rfl
  | succ i ih => simp [List.replicate_succ, ih]
theorem p_plus_ok (h1 : AllB m xs) (h2 : AllB n ys) (hz : m + n < 4000) (hl : xs.length ≤ 90000) (hl' : ys.length ≤ 90000) : callF G (k + 3) 10 [pol xs, pol ys] h = .ok (pol (trim (padd xs ys))) h := by
  rw [callF_eq (f := f_p_plus) rfl rfl]
  generalize hS : max xs.length ys.length = S
  obtain ⟨i, hi⟩ : ∃ i, xs.length + i = S := ⟨S - xs.length, by omega⟩
  obtain ⟨j, hj⟩ : ∃ j, ys.length + j = S := ⟨S - ys.length, by omega⟩
  have hmx : (if xs.length < ys.length then (ys.length : Int) else (xs.length : Int)) = (S : Int) := by split <;> omega
  have ei : (S : Int) - (xs.length : Int) = (i : Int) := by omega
  have ej : (S : Int) - (ys.length : Int) = (j : Int) := by omega
  have hzip := zip_padd xs ys i j (by rw [hi, hS]) (by rw [hj, hS])
  let H : PH := h ++ [.lst [fr 0], .lst (frs (List.replicate i 0)), .lst (frs (xs ++ List.replicate i 0)), .lst [fr 0], .lst (frs (List.replicate j 0)), .lst (frs (ys ++ List.replicate j 0))]
  have hb1 : AllB (m + 1) (xs ++ List.replicate i 0) := fun q hq => by
    rcases List.mem_append.mp hq with hq | hq
    · exact (h1 q hq).mono (by omega)
    · rw [(List.mem_replicate.mp hq).2]; exact bd0 m
  have hb2 : AllB (n + 1) (ys ++ List.replicate j 0) := fun q hq => by
    rcases List.mem_append.mp hq with hq | hq
    · exact (h2 q hq).mono (by omega)
    · rw [(List.mem_replicate.mp hq).2]; exact bd0 n
  have hcmp : compL (compF (callF G (k + 2)) (.call 4 (.cons (.var 5) (.cons (.var 6) .nil))) [5, 6] (.cons (.v 5) (.cons (.v 6) .nil)) .none [some (pol xs), some (pol ys), some (.int S), some (.ref (h.length + 2)), some (.ref (h.length + 5)), none, none])
      [(h.length + 2, .lst (frs (xs ++ List.replicate i 0))), (h.length + 5, .lst (frs (ys ++ List.replicate j 0)))] (zips (frs (xs ++ List.replicate i 0)) (frs (ys ++ List.replicate j 0))) H = .ok (frs (padd xs ys)) H := by
    rw [zips_frs]
    have := compL_map (h := H) (F := compF (callF G (k + 2)) (.call 4 (.cons (.var 5) (.cons (.var 6) .nil))) [5, 6] (.cons (.v 5) (.cons (.v 6) .nil)) .none [some (pol xs), some (pol ys), some (.int S), some (.ref (h.length + 2)), some (.ref (h.length + 5)), none, none])
      (l := [(h.length + 2, .lst (frs (xs ++ List.replicate i 0))), (h.length + 5, .lst (frs (ys ++ List.replicate j 0)))]) (fun p : Rat × Rat => PV.wtup [fr p.1, fr p.2]) (fun p => fr (p.1 + p.2))
      (by simp [leans, H, PO.same_rfl]) ((xs ++ List.replicate i 0).zip (ys ++ List.replicate j 0)) (fun p hp => by
        have q1 := hb1 p.1 (List.of_mem_zip hp).1
        have q2 := hb2 p.2 (List.of_mem_zip hp).2
        have := plus_ok (k := k) (h := H) q1 q2 (by omega)
        simp [compF, wipe, this])
    rw [this]
    rw [← hzip, frs_map]
  have ht := trimmed_ok (k := k + 1) (h := H ++ [.lst (frs (padd xs ys))]) (p := h.length + 6) (xs := padd xs ys) (by simp [H]) (by rw [padd_len]; omega)
  have hM : many = 1000000 := rfl
  have hzl : (zips (frs (xs ++ List.replicate i 0)) (frs (ys ++ List.replicate j 0))).length ≤ 1000000 := by
    rw [zips_frs]; simp; omega
  simp only [f_p_plus, c_p_plus]
  simp only [H] at hcmp ht
  simp only [List.append_assoc, List.cons_append, List.nil_append] at ht
  have g1 : i ≤ 1000000 := by omega
  have g2 : j ≤ 1000000 := by omega
  have g3 : xs.length + i ≤ 1000000 := by omega
  have g4 : ys.length + j ≤ 1000000 := by omega
  have g5 : (-1000 : Int) ≤ (i : Int) ∧ (i : Int) ≤ 1000000 := by omega
  have g6 : (-1000 : Int) ≤ (j : Int) ∧ (j : Int) ≤ 1000000 := by omega
  simp [hmx, fr0, binop, ei, ej, alloc, hM, flat_one, List.replicate, g1, g2, g3, g4, g5, g6, hzl, hcmp, ht]
/-! ### products -/
/-- F with ys added from the place p on -/
def addAt : List Rat → Nat → List Rat → List Rat
  | [], _, _ => []
  | f :: F, 0, [] => f :: F
  | f :: F, 0, y :: ys => (f + y) :: addAt F 0 ys
  | f :: F, p + 1, ys => f :: addAt F p ys
theorem addAt_nil : ∀ (F : List Rat) (p : Nat), addAt F p [] = F
  | [], _ => rfl
  | f :: F, 0 => rfl
  | f :: F, p + 1 => by rw [addAt, addAt_nil F p]
theorem addAt_len : ∀ (F : List Rat) (p : Nat) (ys : List Rat), (addAt F p ys).length = F.length
  | [], _, _ => rfl
  | f :: F, 0, [] => rfl
  | f :: F, 0, y :: ys => by simp [addAt, addAt_len F 0 ys]
  | f :: F, p + 1, ys => by simp [addAt, addAt_len F p ys]
/-- one step -/
theorem addAt_step : ∀ (F : List Rat) (p : Nat) (y : Rat) (ys : List Rat) (hp : p < F.length), addAt (F.set p (F[p] + y)) (p + 1) ys = addAt F p (y :: ys)
  | f :: F, 0, y, ys, _ => by simp [addAt]
  | f :: F, p + 1, y, ys, hp => by
    have := addAt_step F p y ys (by simpa using hp)
    simp only [List.set_cons_succ, List.getElem_cons_succ, addAt]
    rw [this]
theorem addAt_get : ∀ (F : List Rat) (p : Nat) (ys : List Rat) (i : Nat) (f : Rat), F[i]? = some f → (addAt F p ys)[i]? = some (if i < p then f else match ys[i - p]? with | some y => f + y | none => f)
  | [], _, _, _, _, h => by simp at h
  | f :: F, 0, [], i, g, h => by simp [addAt, h]
  | f :: F, 0, y :: ys, 0, g, h => by simp at h; subst h; simp [addAt]
  | f :: F, 0, y :: ys, i + 1, g, h => by
    have := addAt_get F 0 ys i g (by simpa using h)
    simp [addAt, this]
  | f :: F, p + 1, ys, 0, g, h => by simp at h; subst h; simp [addAt]
  | f :: F, p + 1, ys, i + 1, g, h => by
    have := addAt_get F p ys i g (by simpa using h)
    simp [addAt, this]
theorem pe_addAt : ∀ (F : List Rat) (p : Nat) (ys : List Rat), p + ys.length ≤ F.length → pe (addAt F p ys) x = pe F x + x ^ p * pe ys x
  | [], p, ys, h => by
    simp at h
    obtain ⟨rfl, h⟩ := h
    subst h
    simp [addAt, pe]; grind
  | f :: F, 0, [], _ => by simp [addAt, pe]; grind
  | f :: F, 0, y :: ys, h => by
    have ih := pe_addAt F 0 ys (by simp at h ⊢; omega)
    simp only [addAt, pe, ih]; grind
  | f :: F, p + 1, ys, h => by
    have ih := pe_addAt F p ys (by simp at h; omega)
    simp only [addAt, pe, ih]; grind
/-- the product -/
def pmulL (F : List Rat) (p : Nat) : List Rat → List Rat → List Rat
  | [], _ => F
  | a :: r, ys => pmulL (addAt F p (ys.map (a * ·))) (p + 1) r ys
def pmul (xs ys : List Rat) : List Rat := if xs = [] ∨ ys = [] then [] else pmulL (List.replicate (xs.length + ys.length - 1) 0) 0 xs ys
theorem pmulL_len : ∀ (xs ys F : List Rat) (p : Nat), (pmulL F p xs ys).length = F.length
  | [], _, _, _ => rfl
  | a :: r, ys, F, p => by rw [pmulL, pmulL_len r, addAt_len]
theorem pe_scaled (a : Rat) : ∀ ys : List Rat, pe (ys.map (a * ·)) x = a * pe ys x
  | [] => by simp [pe]
  | y :: ys => by simp only [List.map_cons, pe, pe_scaled a ys]; grind
theorem pe_pmulL : ∀ (xs ys F : List Rat) (p : Nat), p + xs.length + ys.length ≤ F.length + 1 → pe (pmulL F p xs ys) x = pe F x + x ^ p * (pe xs x * pe ys x)
  | [], ys, F, p, _ => by simp only [pmulL, pe]; grind
  | a :: r, ys, F, p, h => by
    simp only [List.length_cons] at h
    rw [pmulL, pe_pmulL r ys _ (p + 1) (by rw [addAt_len]; omega), pe_addAt F p _ (by rw [List.length_map]; omega), pe_scaled]
    simp only [pe]; grind
theorem pe_rep0 : ∀ n : Nat, pe (List.replicate n 0) x = 0
  | 0 => rfl
  | n + 1 => by rw [List.replicate_succ, pe, pe_rep0 n]; grind
theorem pe_pmul (xs ys : List Rat) : pe (pmul xs ys) x = pe xs x * pe ys x := by
  unfold pmul
  split
  · rename_i h
    rcases h with rfl | rfl <;> simp only [pe] <;> grind
  · rename_i h
    have h1 : xs ≠ [] := fun z => h (.inl z)
    have h2 := List.length_pos_iff.mpr h1
    rw [pe_pmulL xs ys _ 0 (by rw [List.length_replicate]; omega), pe_rep0]; grind
theorem pmul_len {xs ys : List Rat} (h1 : xs ≠ []) (h2 : ys ≠ []) : (pmul xs ys).length = xs.length + ys.length - 1 := by
  unfold pmul
  rw [if_neg (by simp [h1, h2]), pmulL_len, List.length_replicate]
end
end PB
set_option Elab.async false
set_option linter.all false
set_option maxRecDepth 100000
set_option maxHeartbeats 1000000
set_option exponentiation.threshold 100000
namespace PB
open PySem
section
variable {k : Nat} {h t : PH} {o : PO} {m n : Nat} {x y : Rat} {xs ys : List Rat}
theorem ixN_nat {n j : Nat} (h : j < n) : L2.ixN n (j : Int) = some j := by
  unfold L2.ixN
  rw [if_pos (by omega), if_pos (by omega)]
  simp
theorem atI_nat' {α : Type} {xs : List α} {j : Nat} : L2.atI xs (j : Int) = xs[j]? := by
  rw [atI_nn (by omega)]; simp
@[simp] theorem mul_lst {a : Nat} {xs : List PV} {k : Int} : binop .mul (.ref a) (.int k) h = match h[a]? with
    | some (.lst xs) => if -1000 ≤ k ∧ k ≤ many ∧ xs.length * k.toNat ≤ many then alloc (List.replicate k.toNat xs).flatten h else .bad
    | _ => .bad := rfl
@[simp] theorem add_int {i j : Int} : binop .add (.int i) (.int j) h = .ok (.int (i + j)) h := rfl
@[simp] theorem sub_int {i j : Int} : binop .sub (.int i) (.int j) h = .ok (.int (i - j)) h := rfl
@[simp] theorem mul_int {i j : Int} : binop .mul (.int i) (.int j) h = if mulOk i j = true then .ok (.int (i * j)) h else .bad := rfl
@[simp] theorem fdiv_int {i j : Int} : binop .fdiv (.int i) (.int j) h = if j ≠ 0 ∧ j.natAbs.log2 < 9000 then .ok (.int (i.fdiv j)) h else .bad := rfl
@[simp] theorem mod_int {i j : Int} : binop .mod (.int i) (.int j) h = if j ≠ 0 then .ok (.int (i.fmod j)) h else .bad := rfl
@[simp] theorem mul_tup {xs : List PV} {k : Int} : binop .mul (.tup xs) (.int k) h = if -1000 ≤ k ∧ k ≤ 1000 ∧ xs.length ≤ 1000 then .ok (.tup (List.replicate k.toNat xs).flatten) h else .bad := rfl
@[simp] theorem add_tup {xs ys : List PV} : binop .add (.tup xs) (.tup ys) h = if xs.length + ys.length ≤ many then .ok (.tup (xs ++ ys)) h else .bad := rfl
@[simp] theorem add_lst {a b : Nat} : binop .add (.ref a) (.ref b) h = match h[a]?, h[b]? with
    | some (.lst xs), some (.lst ys) => if xs.length + ys.length ≤ many then alloc (xs ++ ys) h else .bad
    | _, _ => .bad := rfl
@[simp] theorem cmp_eq {a b : PV} : cmpop .eq a b h = match eqD h a b with | some r => .ok (.bl r) h | none => .bad := rfl
@[simp] theorem cmp_ne {a b : PV} : cmpop .ne a b h = match eqD h a b with | some r => .ok (.bl (!r)) h | none => .bad := rfl
@[simp] theorem cmp_lt {i j : Int} : cmpop .lt (.int i) (.int j) h = .ok (.bl (decide (i < j))) h := rfl
@[simp] theorem cmp_le {i j : Int} : cmpop .le (.int i) (.int j) h = .ok (.bl (decide (i ≤ j))) h := rfl
@[simp] theorem cmp_gt {i j : Int} : cmpop .gt (.int i) (.int j) h = .ok (.bl (decide (j < i))) h := rfl
@[simp] theorem cmp_ge {i j : Int} : cmpop .ge (.int i) (.int j) h = .ok (.bl (decide (j ≤ i))) h := rfl
@[simp] theorem cmp_isN {a : PV} : cmpop .isN a .non h = .ok (.bl (match a with | .non => true | _ => false)) h := rfl
@[simp] theorem cmp_notN {a : PV} : cmpop .notN a .non h = .ok (.bl (match a with | .non => false | _ => true)) h := rfl
def ptBody : CB := (.cons (.asg (.s (.var 2) (.bin .add (.var 3) (.var 5))) (.call 4 (.cons (.idx (.var 2) (.bin .add (.var 3) (.var 5))) (.cons (.call 5 (.cons (.var 4) (.cons (.var 6) .nil))) .nil)))) .nil)
theorem pt_step {s0 s1 : Option PV} {p i j : Nat} {a y : Rat} {F : List Rat} {b c d : Nat} (hp : h[p]? = some (.lst (frs F))) (hlt : i + j < F.length) (hF : Bd b F[i + j]) (ha : Bd c a) (hy : Bd d y) (hz : b + c + d < 4000) :
    evB (callF G (k + 2)) ptBody [s0, s1, some (.ref p), some (.int i), some (fr a), some (.int j), some (fr y)] h =
      .ok (.nx [s0, s1, some (.ref p), some (.int i), some (fr a), some (.int j), some (fr y)]) (h.set p (.lst (frs (F.set (i + j) (F[i + j] + a * y))))) := by
  have h1 := times_ok (k := k) (h := h) ha hy (by omega)
  have h2 := plus_ok (k := k) (h := h) hF (bd_mul ha hy) (by omega)
  have e : (i : Int) + (j : Int) = ((i + j : Nat) : Int) := by omega
  have hat : L2.atI (frs F) ((i + j : Nat) : Int) = some (fr F[i + j]) := by rw [atI_nat', frs_get, List.getElem?_eq_getElem hlt]; rfl
  have hix : L2.ixN (frs F).length ((i + j : Nat) : Int) = some (i + j) := ixN_nat (by simpa using hlt)
  simp only [ptBody]
  simp only [evB_cons, evB_nil, evS_asg, evE_call, evA_cons, evA_nil, evE_idx, evE_bin, evE_vs, evE_v0, bind_ok', binop, e, idxop, items_ref, hp, Option.map_some, PO.xs_lst, hat, h1, h2, asT_s, setop, hix]
  simp only [frs_set]
theorem pt_inner {s0 s1 : Option PV} {p i : Nat} {a : Rat} {b c d : Nat} (ha : Bd c a) (hz : b + c + d < 4000) : ∀ (ys : List Rat) (j : Nat) (F : List Rat) (h : PH) (s5 s6 : Option PV), h[p]? = some (.lst (frs F)) → i + j + ys.length ≤ F.length →
    (∀ n q, i + j ≤ n → F[n]? = some q → Bd b q) → AllB d ys → ∃ s5' s6', frL (asT (callF G (k + 2)) (.cons (.v 5) (.cons (.v 6) .nil))) (evB (callF G (k + 2)) ptBody) [] (enums (j : Int) (frs ys)) [s0, s1, some (.ref p), some (.int i), some (fr a), s5, s6] h =
      .ok (.nx [s0, s1, some (.ref p), some (.int i), some (fr a), s5', s6']) (h.set p (.lst (frs (addAt F (i + j) (ys.map (a * ·))))))
  | [], j, F, h, s5, s6, hp, _, _, _ => by
    refine ⟨s5, s6, ?_⟩
    have e : h.set p (.lst (frs F)) = h := by
      obtain ⟨hlt, he⟩ := List.getElem?_eq_some_iff.mp hp
      rw [← he]; exact List.set_getElem_self hlt
    simp [enums, frL, addAt_nil, e]
  | y :: ys, j, F, h, s5, s6, hp, hl, hF, hy => by
    have hlt : i + j < F.length := by simp at hl; omega
    have st := pt_step (k := k) (s0 := s0) (s1 := s1) (i := i) (j := j) (a := a) (y := y) hp hlt (hF _ _ (Nat.le_refl _) (List.getElem?_eq_getElem hlt)) ha (hy y (by simp)) hz
    have hpl : p < h.length := (List.getElem?_eq_some_iff.mp hp).1
    obtain ⟨s5', s6', ih⟩ := pt_inner (s0 := s0) (s1 := s1) (p := p) (i := i) ha hz ys (j + 1) (F.set (i + j) (F[i + j] + a * y)) (h.set p (.lst (frs (F.set (i + j) (F[i + j] + a * y))))) (some (.int j)) (some (fr y)) (List.getElem?_set_self hpl) (by simp at hl ⊢; omega)
      (fun n q hn hq => hF n q (by omega) (by rw [List.getElem?_set_ne (by omega)] at hq; exact hq)) (fun q hq => hy q (by simp [hq]))
    refine ⟨s5', s6', ?_⟩
    have e1 : ((j + 1 : Nat) : Int) = (j : Int) + 1 := by omega
    rw [frs_cons, enums, frL_cons rfl]
    simp only [asT_cons, asT_wcons, asTs_cons, asTs_nil, asT_v, bind_ok', List.set_cons_succ, List.set_cons_zero, st]
    rw [e1] at ih
    rw [ih, List.set_set, ← Nat.add_assoc, addAt_step, List.map_cons]
theorem enums_cons {i : Int} {x : PV} {r : List PV} : enums i (x :: r) = .wtup [.int i, x] :: enums (i + 1) r := rfl
end
end PB
set_option Elab.async false
set_option linter.all false
set_option maxRecDepth 100000
set_option maxHeartbeats 1000000
set_option exponentiation.threshold 100000
namespace PB
open PySem
section
variable {k : Nat} {h t : PH} {o : PO} {m n : Nat} {x y : Rat} {xs ys : List Rat}
theorem range_len' (n : Nat) (a c : Int) : (range a n c).length = n := by
  induction n generalizing a with
  | zero => rfl
  | succ n ih => simp [range, ih]
end
end PB
set_option Elab.async false
set_option linter.all false
set_option maxRecDepth 100000
set_option maxHeartbeats 1000000
set_option exponentiation.threshold 100000
namespace PB
open PySem
section
variable {k : Nat} {h t : PH} {o : PO} {m n : Nat} {x y : Rat} {xs ys : List Rat}
theorem compL_tup {F : PV → PH → Res (Option PV)} {α : Type} (e : α → PV) (g : α → Rat) (xs : List α) (hF : ∀ a ∈ xs, F (e a) h = .ok (some (fr (g a))) h) : compL F [] (xs.map e) h = .ok (frs (xs.map g)) h := by
  rw [← frs_map]
  exact compL_map e (fun a => fr (g a)) rfl xs hF
theorem pol_eq {xs : List Rat} : PV.tup (frs xs) = pol xs := rfl
end
end PB
set_option Elab.async false
set_option linter.all false
set_option maxRecDepth 100000
set_option maxHeartbeats 1000000
set_option exponentiation.threshold 100000
namespace PB
open PySem
section
variable {k : Nat} {h t : PH} {o : PO} {m n : Nat} {x y : Rat} {xs ys : List Rat}
@[simp] theorem frL_nil' {g : PV → Sl → PH → Res Sl} {b : Sl → PH → Res Fl} {s : Sl} {h : PH} : frL g b [] [] s h = .ok (.nx s) h := frL_nil rfl
/-! ### the law's product -/
end
end PB
set_option Elab.async false
set_option linter.all false
set_option maxRecDepth 100000
set_option maxHeartbeats 1000000
set_option exponentiation.threshold 100000
namespace PB
open PySem
section
variable {k : Nat} {h t : PH} {o : PO} {m n : Nat} {x y : Rat} {xs ys : List Rat}
theorem range_map : ∀ (n : Nat) (i : Nat), range (i : Int) n 1 = (List.range' i n).map fun j : Nat => PV.int j
  | 0, _ => rfl
  | n + 1, i => by
    have := range_map n (i + 1)
    rw [range_succ, List.range'_succ, List.map_cons, ← this]
    rfl
@[simp] theorem eqD_ii {i j : Int} : eqD h (.int i) (.int j) = some (decide (i = j)) := rfl
@[simp] theorem eqD_nn : eqD h .non .non = some true := rfl
@[simp] theorem eqD_in {i : Int} : eqD h (.int i) .non = some false := rfl
@[simp] theorem eqD_ni {i : Int} : eqD h .non (.int i) = some false := rfl
@[simp] theorem eqD_bb {a b : Bool} : eqD h (.bl a) (.bl b) = some (a == b) := rfl
end
end PB
set_option Elab.async false
set_option linter.all false
set_option maxRecDepth 100000
set_option maxHeartbeats 1000000
set_option exponentiation.threshold 100000
namespace PB
open PySem
section
variable {k : Nat} {h t : PH} {o : PO} {m n : Nat} {x y : Rat} {xs ys : List Rat}
theorem pe_snoc : ∀ (xs : List Rat) (a : Rat), pe (xs ++ [a]) x = pe xs x + a * x ^ xs.length
  | [], a => by simp [pe]; grind
  | b :: r, a => by simp only [List.cons_append, pe, pe_snoc r a, List.length_cons]; grind
theorem trim_eq_of : ∀ {xs ys : List Rat}, (∀ i : Nat, xs[i]?.getD 0 = ys[i]?.getD 0) → trim xs = trim ys
  | [], [], _ => rfl
  | [], b :: q, h => by
    have h0 := h 0
    simp at h0
    have ih := trim_eq_of (xs := []) (ys := q) fun i => by have := h (i + 1); simpa using this
    rw [trim, trim, ← ih]
    simp [trim, ← h0]
  | a :: r, [], h => by
    have h0 := h 0
    simp at h0
    have ih := trim_eq_of (xs := r) (ys := []) fun i => by have := h (i + 1); simpa using this
    rw [trim, trim, ih]
    simp [trim, h0]
  | a :: r, b :: q, h => by
    have h0 := h 0
    simp at h0
    have ih := trim_eq_of (xs := r) (ys := q) fun i => by have := h (i + 1); simpa using this
    rw [trim, trim, ih, h0]
theorem trim_getD : ∀ (xs : List Rat) (i : Nat), (trim xs)[i]?.getD 0 = xs[i]?.getD 0
  | [], i => rfl
  | a :: r, i => by
    have ih := trim_getD r
    unfold trim
    split
    · rename_i hc
      cases i with
      | zero => simp [hc.2]
      | succ i => have := ih i; rw [hc.1] at this; simpa using this
    · cases i with
      | zero => simp
      | succ i => simpa using ih i
theorem padd_getD : ∀ (xs ys : List Rat) (i : Nat), (padd xs ys)[i]?.getD 0 = xs[i]?.getD 0 + ys[i]?.getD 0
  | [], ys, i => by simp [padd]; grind
  | a :: r, [], i => by simp [padd]; grind
  | a :: r, b :: q, 0 => by simp [padd]
  | a :: r, b :: q, i + 1 => by simpa [padd] using padd_getD r q i
end
end PB
set_option Elab.async false
set_option linter.all false
set_option maxRecDepth 100000
set_option maxHeartbeats 1000000
set_option exponentiation.threshold 100000
namespace PB
open PySem
section
variable {k : Nat} {h t : PH} {o : PO} {m n : Nat} {x y : Rat} {xs ys : List Rat}
/-! ### a polynomial is told by its values -/
/-- the quotient by x - c -/
def quo (c : Rat) : List Rat → List Rat
  | [] => []
  | [_] => []
  | _ :: b :: r => pe (b :: r) c :: quo c (b :: r)
theorem pe_quo (c x : Rat) : ∀ xs : List Rat, pe xs x = pe xs c + (x - c) * pe (quo c xs) x
  | [] => by simp [quo, pe]; grind
  | [a] => by simp [quo, pe]; grind
  | a :: b :: r => by
    have ih := pe_quo c x (b :: r)
    show a + x * pe (b :: r) x = (a + c * pe (b :: r) c) + (x - c) * (pe (b :: r) c + x * pe (quo c (b :: r)) x)
    rw [ih]; grind
theorem quo_len (c : Rat) : ∀ xs : List Rat, (quo c xs).length = xs.length - 1
  | [] => rfl
  | [a] => rfl
  | a :: b :: r => by rw [quo, List.length_cons, quo_len c (b :: r)]; simp
theorem zero_of_quo (c : Rat) : ∀ xs : List Rat, pe xs c = 0 → (∀ q ∈ quo c xs, q = 0) → ∀ q ∈ xs, q = 0
  | [], _, _ => fun q hq => by simp at hq
  | [a], h0, _ => fun q hq => by
    simp [pe] at h0 hq
    subst hq
    grind
  | a :: b :: r, h0, hq => by
    rw [quo] at hq
    have h1 : pe (b :: r) c = 0 := hq _ (by simp)
    have ih := zero_of_quo c (b :: r) h1 fun q h => hq q (by simp [h])
    intro q hm
    rcases List.mem_cons.mp hm with rfl | hm
    · rw [pe, h1] at h0; grind
    · exact ih q hm
theorem zero_of_roots : ∀ (n : Nat) (xs cs : List Rat), xs.length ≤ n → cs.Nodup → xs.length ≤ cs.length → (∀ c ∈ cs, pe xs c = 0) → ∀ q ∈ xs, q = 0
  | 0, xs, cs, hn, _, _, _ => fun q hq => by
    have : xs = [] := List.length_eq_zero_iff.mp (by omega)
    subst this; simp at hq
  | n + 1, xs, [], hn, _, hl, _ => fun q hq => by
    have : xs = [] := List.length_eq_zero_iff.mp (by simpa using hl)
    subst this; simp at hq
  | n + 1, xs, c :: cs, hn, hd, hl, hr => by
    have h0 := hr c (by simp)
    by_cases he : xs = []
    · subst he; intro q hq; simp at hq
    have hpos := List.length_pos_iff.mpr he
    refine zero_of_quo c xs h0 (zero_of_roots n (quo c xs) cs (by rw [quo_len]; omega) (List.nodup_cons.mp hd).2 (by rw [quo_len]; simp at hl; omega) fun d hdm => ?_)
    have h1 := pe_quo c d xs
    rw [hr d (by simp [hdm]), h0] at h1
    have hne : d - c ≠ 0 := fun z => (List.nodup_cons.mp hd).1 (by
      have : d = c := by grind
      rw [← this]; exact hdm)
    have h2 : (d - c) * pe (quo c xs) d = 0 := by grind
    rcases Rat.mul_eq_zero.mp h2 with z | z
    · exact absurd z hne
    · exact z
theorem nodup_nats (n : Nat) : ((List.range n).map fun i : Nat => (i : Rat)).Nodup := by
  unfold List.Nodup
  rw [List.pairwise_map]
  exact List.nodup_range.imp fun h e => h (by exact_mod_cast e)
theorem zero_of_pe (hx : ∀ x, pe xs x = 0) : ∀ q ∈ xs, q = 0 :=
  zero_of_roots xs.length xs ((List.range xs.length).map fun i : Nat => (i : Rat)) (Nat.le_refl _) (nodup_nats _) (by simp) fun c _ => hx c
theorem pe_neg : ∀ ys : List Rat, pe (ys.map (· * (-1))) x = - pe ys x
  | [] => by simp [pe]
  | y :: ys => by simp only [List.map_cons, pe, pe_neg ys]; grind
theorem eq_of_pe {xs ys : List Rat} (he : ∀ x, pe xs x = pe ys x) : trim xs = trim ys := by
  have hz := zero_of_pe (xs := padd xs (ys.map (· * (-1)))) fun x => by rw [pe_padd, pe_neg, he x]; grind
  refine trim_eq_of fun i => ?_
  have hg := padd_getD xs (ys.map (· * (-1))) i
  have h0 : (padd xs (ys.map (· * (-1))))[i]?.getD 0 = 0 := by
    cases hi : (padd xs (ys.map (· * (-1))))[i]? with
    | none => rfl
    | some q => exact hz q (List.mem_of_getElem? hi)
  rw [h0, List.getElem?_map] at hg
  cases hy : ys[i]? with
  | none => rw [hy] at hg; simp at hg ⊢; grind
  | some y => rw [hy] at hg; simp at hg ⊢; grind
/-! ### scaled -/
theorem p_scaled_ok {c b : Nat} (hx : Bd b x) (hc : AllB c xs) (hz : b + c < 4000) (hl : xs.length ≤ 90000) : callF G (k + 3) 33 [pol xs, fr x] h = .ok (pol (trim (xs.map (· * x)))) h := by
  rw [callF_eq (f := f_p_scaled) rfl rfl]
  have hcmp := compL_tup (h := h) (F := compF (callF G (k + 2)) (.call 5 (.cons (.var 2) (.cons (.var 1) .nil))) [2] (.v 2) .none [some (pol xs), some (fr x), none]) fr (· * x) xs fun a ha => by
    have := times_ok (k := k) (h := h) (hc a ha) hx (by omega)
    simp [compF, wipe, this]
  rw [map_fr] at hcmp
  have ht := trimmed_ok (k := k + 1) (h := h ++ [.lst (frs (xs.map (· * x)))]) (p := h.length) (xs := xs.map (· * x)) (by simp) (by simp; omega)
  have hm : xs.length ≤ many := by have : many = 1000000 := rfl; omega
  simp only [f_p_scaled, c_p_scaled]
  simp [List.replicate, hm, hcmp, alloc, ht]
theorem pe_times (x y : Rat) : ∀ xs : List Rat, pe (xs.map (· * y)) x = pe xs x * y
  | [] => by simp [pe]
  | a :: r => by simp only [List.map_cons, pe, pe_times x y r]; grind
/-! ### composed -/
end
end PB
set_option Elab.async false
set_option linter.all false
set_option maxRecDepth 100000
set_option maxHeartbeats 1000000
set_option exponentiation.threshold 100000
namespace PB
open PySem
section
variable {k : Nat} {h t : PH} {o : PO} {m n : Nat} {x y : Rat} {xs ys : List Rat}
def pb (d m : Nat) : Nat → Nat
  | 0 => 1
  | n + 1 => 1 + (n * m + 1) * (pb d m n + d + 1)
end
end PB
set_option Elab.async false
set_option linter.all false
set_option maxRecDepth 100000
set_option maxHeartbeats 1000000
set_option exponentiation.threshold 100000
namespace PB
open PySem
section
variable {k : Nat} {h t : PH} {o : PO} {m n : Nat} {x y : Rat} {xs ys : List Rat}
/-! ### derivatives and integrals of rows -/
def ders : Nat → List Rat → List Rat
  | _, [] => []
  | i, a :: r => (a * (i : Rat)) :: ders (i + 1) r
def itg : Nat → List Rat → List Rat
  | _, [] => []
  | i, a :: r => (a * Rat.divInt 1 ((i : Int) + 1)) :: itg (i + 1) r
def pder (xs : List Rat) : List Rat := ders 1 xs.tail
/-- the value of the derivative, of the integral from 0 -/
def dv (xs : List Rat) (x : Rat) : Rat := pe (pder xs) x
def iv (xs : List Rat) (x : Rat) : Rat := x * pe (itg 0 xs) x
theorem ders_succ : ∀ (xs : List Rat) (i : Nat), pe (ders (i + 1) xs) x = pe xs x + pe (ders i xs) x
  | [], i => by simp [ders, pe]; grind
  | a :: r, i => by
    have ih := ders_succ r (i + 1)
    have e : ((i + 1 : Nat) : Rat) = (i : Rat) + 1 := Rat.natCast_add i 1
    simp only [ders, pe, ih, e]; grind
theorem dv_nil : dv [] x = 0 := rfl
theorem dv_cons (a : Rat) (r : List Rat) : dv (a :: r) x = pe r x + x * dv r x := by
  have h1 : dv (a :: r) x = pe (ders 1 r) x := rfl
  rw [h1, ders_succ]
  congr 1
  cases r with
  | nil => simp [ders, pe, dv, pder]
  | cons b q =>
    have h0 : ((0 : Nat) : Rat) = 0 := rfl
    simp only [ders, pe, dv, pder, List.tail_cons, h0]; grind
theorem dv_padd : ∀ (xs ys : List Rat), dv (padd xs ys) x = dv xs x + dv ys x
  | [], ys => by simp only [padd, dv_nil]; grind
  | a :: r, [] => by simp only [padd, dv_nil]; grind
  | a :: r, b :: q => by simp only [padd, dv_cons, dv_padd r q, pe_padd]; grind
theorem dv_scaled (a : Rat) : ∀ ys : List Rat, dv (ys.map (a * ·)) x = a * dv ys x
  | [] => by simp [dv_nil]
  | y :: ys => by simp only [List.map_cons, dv_cons, dv_scaled a ys, pe_scaled]; grind
theorem dv_trim : ∀ xs : List Rat, dv (trim xs) x = dv xs x
  | [] => rfl
  | a :: r => by
    have ih := dv_trim r
    have ip := pe_trim r x
    unfold trim
    split
    · rename_i hc
      rw [hc.1] at ih ip
      rw [dv_cons, ← ih, ← ip, dv_nil]; simp only [pe]; grind
    · rw [dv_cons, dv_cons, ih, ip]
theorem dv_congr {xs ys : List Rat} (h : ∀ x, pe xs x = pe ys x) : dv xs x = dv ys x := by
  rw [← dv_trim xs, ← dv_trim ys, eq_of_pe h]
def mulR : List Rat → List Rat → List Rat
  | [], _ => []
  | a :: r, ys => padd (ys.map (a * ·)) (0 :: mulR r ys)
theorem pe_mulR : ∀ (xs ys : List Rat) (x : Rat), pe (mulR xs ys) x = pe xs x * pe ys x
  | [], ys, x => by simp only [mulR, pe]; grind
  | a :: r, ys, x => by simp only [mulR, pe_padd, pe_scaled, pe, pe_mulR r ys x]; grind
theorem dv_mulR : ∀ (xs ys : List Rat), dv (mulR xs ys) x = dv xs x * pe ys x + pe xs x * dv ys x
  | [], ys => by simp only [mulR, dv_nil, pe]; grind
  | a :: r, ys => by simp only [mulR, dv_padd, dv_scaled, dv_cons, pe_mulR, dv_mulR r ys, pe]; grind
theorem dv_pmul (xs ys : List Rat) : dv (pmul xs ys) x = dv xs x * pe ys x + pe xs x * dv ys x := by
  rw [← dv_mulR]
  exact dv_congr fun x => by rw [pe_pmul, pe_mulR]
/-! ### the program's derivative and integral -/
end
end PB
set_option Elab.async false
set_option linter.all false
set_option maxRecDepth 100000
set_option maxHeartbeats 1000000
set_option exponentiation.threshold 100000
namespace PB
open PySem
section
variable {k : Nat} {h t : PH} {o : PO} {m n : Nat} {x y : Rat} {xs ys : List Rat}
end
end PB
set_option Elab.async false
set_option linter.all false
set_option maxRecDepth 100000
set_option maxHeartbeats 1000000
set_option exponentiation.threshold 100000
namespace PB
open PySem
section
/-! ### loops by invariants -/
theorem frL_inv {α : Type} {g : PV → Sl → PH → Res Sl} {b : Sl → PH → Res Fl} {l : Lean_} (e : α → PV) (S : List α → Sl → PH → Prop) (hl : ∀ r s h, S r s h → leans l h = true)
    (hs : ∀ a r s h, S (a :: r) s h → ∃ s' h', (g (e a) s h).bind b = .ok (.nx s') h' ∧ S r s' h') : ∀ (xs : List α) (s : Sl) (h : PH), S xs s h → ∃ s' h', frL g b l (xs.map e) s h = .ok (.nx s') h' ∧ S [] s' h'
  | [], s, h, hS => ⟨s, h, by simp [frL, hl _ _ _ hS], hS⟩
  | a :: r, s, h, hS => by
    obtain ⟨s1, h1, e1, S1⟩ := hs a r s h hS
    obtain ⟨s2, h2, e2, S2⟩ := frL_inv e S hl hs r s1 h1 S1
    refine ⟨s2, h2, ?_, S2⟩
    rw [List.map_cons, frL, if_pos (hl _ _ _ hS)]
    cases hg : g (e a) s h with
    | ok s1 h1 =>
      rw [hg, bind_ok'] at e1
      simp only [bind_ok', e1, e2]
    | exc c v h1 => rw [hg] at e1; cases e1
    | bad => rw [hg] at e1; cases e1
theorem frL_rng {g : PV → Sl → PH → Res Sl} {b : Sl → PH → Res Fl} {c : Int} (S : Nat → Sl → PH → Prop) :
    ∀ (n : Nat) (a : Int) (j : Nat) (s : Sl) (h : PH), (∀ i s h, j ≤ i → i < j + n → S i s h → ∃ s' h', (g (.int (a + ((i - j : Nat) : Int) * c)) s h).bind b = .ok (.nx s') h' ∧ S (i + 1) s' h') → S j s h → ∃ s' h', frL g b [] (range a n c) s h = .ok (.nx s') h' ∧ S (j + n) s' h'
  | 0, a, j, s, h, _, hS => ⟨s, h, by simp [range, frL, leans], hS⟩
  | n + 1, a, j, s, h, hs, hS => by
    obtain ⟨s1, h1, e1, S1⟩ := hs j s h (Nat.le_refl _) (by omega) hS
    obtain ⟨s2, h2, e2, S2⟩ := frL_rng S n (a + c) (j + 1) s1 h1 (fun i s h hi hl hS => by
      obtain ⟨s', h', q1, q2⟩ := hs i s h (by omega) (by omega) hS
      refine ⟨s', h', ?_, q2⟩
      have : a + c + ((i - (j + 1) : Nat) : Int) * c = a + ((i - j : Nat) : Int) * c := by
        have : ((i - j : Nat) : Int) = ((i - (j + 1) : Nat) : Int) + 1 := by omega
        rw [this, Int.add_mul, Int.one_mul]; omega
      rw [this]; exact q1) S1
    refine ⟨s2, h2, ?_, by rw [show j + (n + 1) = j + 1 + n by omega]; exact S2⟩
    have e0 : a + ((j - j : Nat) : Int) * c = a := by simp
    rw [e0] at e1
    rw [range_succ, frL, if_pos leans_nil]
    cases hg : g (.int a) s h with
    | ok s1 h1 =>
      rw [hg, bind_ok'] at e1
      simp only [bind_ok', e1, e2]
    | exc c v h1 => rw [hg] at e1; cases e1
    | bad => rw [hg] at e1; cases e1
/-- for i in range(n) -/
theorem frL_range {g : PV → Sl → PH → Res Sl} {b : Sl → PH → Res Fl} (S : Nat → Sl → PH → Prop) {n : Nat} {a : Nat} {s : Sl} {h : PH} (hs : ∀ i s h, a ≤ i → i < a + n → S i s h → ∃ s' h', (g (.int (i : Nat)) s h).bind b = .ok (.nx s') h' ∧ S (i + 1) s' h') (h0 : S a s h) : ∃ s' h', frL g b [] (range (a : Nat) n 1) s h = .ok (.nx s') h' ∧ S (a + n) s' h' :=
  frL_rng S n (a : Int) a s h (fun i s h hi hl hS => by
    have : (a : Int) + ((i - a : Nat) : Int) * 1 = (i : Int) := by omega
    rw [this]; exact hs i s h hi hl hS) h0
/-- for i, x in enumerate(xs) -/
theorem frL_enum {α : Type} {g : PV → Sl → PH → Res Sl} {b : Sl → PH → Res Fl} (e : α → PV) (S : Nat → Sl → PH → Prop) (xs : List α) {s : Sl} {h : PH} (hs : ∀ i a s h, xs[i]? = some a → S i s h → ∃ s' h', (g (.wtup [.int (i : Nat), e a]) s h).bind b = .ok (.nx s') h' ∧ S (i + 1) s' h') (h0 : S 0 s h) : ∃ s' h', frL g b [] (enums 0 (xs.map e)) s h = .ok (.nx s') h' ∧ S xs.length s' h' := by
  have key : ∀ (zs : List α) (i : Nat) (s : Sl) (h : PH), xs.drop i = zs → i + zs.length = xs.length → S i s h → ∃ s' h', frL g b [] (enums (i : Int) (zs.map e)) s h = .ok (.nx s') h' ∧ S xs.length s' h' := by
    intro zs
    induction zs with
    | nil => intro i s h _ hl hS; exact ⟨s, h, by simp [enums, frL, leans], by simp at hl; rw [← hl]; exact hS⟩
    | cons a r ih =>
      intro i s h hd hl hS
      have ha : xs[i]? = some a := by
        have := congrArg (·[0]?) hd
        simpa using this
      have hdr : xs.drop (i + 1) = r := by
        have := congrArg (·.drop 1) hd
        simpa [List.drop_drop, Nat.add_comm] using this
      obtain ⟨s1, h1, e1, S1⟩ := hs i a s h ha hS
      obtain ⟨s2, h2, e2, S2⟩ := ih (i + 1) s1 h1 hdr (by simp at hl; omega) S1
      refine ⟨s2, h2, ?_, S2⟩
      have en : ((i + 1 : Nat) : Int) = (i : Int) + 1 := by omega
      rw [en] at e2
      rw [List.map_cons, enums_cons, frL, if_pos leans_nil]
      cases hg : g (.wtup [.int (i : Nat), e a]) s h with
      | ok s1 h1 =>
        rw [hg, bind_ok'] at e1
        simp only [bind_ok', e1, e2]
      | exc c v h1 => rw [hg] at e1; cases e1
      | bad => rw [hg] at e1; cases e1
  exact key xs 0 s h rfl (by simp) h0
/-- while, with a measure -/
theorem whL_inv {c : Sl → PH → Res PV} {b : Sl → PH → Res Fl} (S : Nat → Sl → PH → Prop) (T : Sl → PH → Prop)
    (hs : ∀ n s h, S n s h → (∃ h1, c s h = .ok (.bl false) h1 ∧ T s h1) ∨ (∃ m h1 s' h', m < n ∧ c s h = .ok (.bl true) h1 ∧ b s h1 = .ok (.nx s') h' ∧ S m s' h')) : ∀ (n : Nat) (f : Nat) (s : Sl) (h : PH), n < f → S n s h → ∃ s' h', whL c b f s h = .ok (.nx s') h' ∧ T s' h' := by
  intro n
  induction n using Nat.strongRecOn with
  | _ n ih =>
    intro f s h hf hS
    obtain ⟨f, rfl⟩ : ∃ f', f = f' + 1 := ⟨f - 1, by omega⟩
    rcases hs n s h hS with ⟨h1, e1, t1⟩ | ⟨m, h1, s', h', hm, e1, e2, S1⟩
    · exact ⟨s, h1, by rw [whL, e1]; rfl, t1⟩
    · obtain ⟨s2, h2, q1, q2⟩ := ih m hm f s' h' (by omega) S1
      exact ⟨s2, h2, by rw [whL, e1, bind_ok']; simp only [e2, bind_ok']; exact q1, q2⟩
theorem leans_apq (h t : PH) (v : PV) : leans (leanOf h v) (h ++ t) = true := by
  cases v <;> try rfl
  rename_i n
  simp only [leanOf]
  cases hn : h[n]? with
  | none => rfl
  | some c =>
    have hlt := (List.getElem?_eq_some_iff.mp hn).1
    simp [leans, List.getElem?_append_left hlt, hn, PO.same_rfl]
theorem compL_rng {F : PV → PH → Res (Option PV)} {h : PH} (g : Nat → PV) (n a : Nat) (hF : ∀ j, a ≤ j → j < a + n → F (.int (j : Nat)) h = .ok (some (g j)) h) : compL F [] (range (a : Nat) n 1) h = .ok ((List.range' a n).map g) h := by
  rw [range_map]
  exact compL_map (fun j : Nat => PV.int (j : Nat)) g rfl (List.range' a n) fun j hj => by
    have := List.mem_range'_1.mp hj
    exact hF j this.1 this.2
end
/-! ### rows with one denominator -/
def CD (a d : Nat) (xs : List Rat) : Prop := ∃ D : Int, D ≠ 0 ∧ D.natAbs < 2 ^ d ∧ ∀ q ∈ xs, ∃ A : Int, q * (D : Rat) = (A : Rat) ∧ A.natAbs < 2 ^ a
section
variable {k : Nat} {h t : PH} {o : PO} {m n a b c d e : Nat} {x y : Rat} {xs ys : List Rat}
theorem CD.mono (h : CD a d xs) (h1 : a ≤ b) (h2 : d ≤ e) : CD b e xs := by
  obtain ⟨D, d0, d1, dx⟩ := h
  exact ⟨D, d0, lt_pow d1 h2, fun q hq => let ⟨A, e1, e2⟩ := dx q hq; ⟨A, e1, lt_pow e2 h1⟩⟩
theorem CD.sub (h : CD a d xs) (hs : ∀ q ∈ ys, q ∈ xs) : CD a d ys := by
  obtain ⟨D, d0, d1, dx⟩ := h
  exact ⟨D, d0, d1, fun q hq => dx q (hs q hq)⟩
theorem ratInt_ne {D : Int} (h : D ≠ 0) : (D : Rat) ≠ 0 := by
  intro z; exact h (by exact_mod_cast z)
theorem bd_of_frac {A D : Int} {q : Rat} (h0 : D ≠ 0) (hq : q * (D : Rat) = (A : Rat)) (h1 : A.natAbs < 2 ^ n) (h2 : D.natAbs < 2 ^ n) : Bd n q := by
  have hD := ratInt_ne h0
  have : q = Rat.divInt A D := by
    rw [Rat.divInt_eq_div, ← hq]; grind
  rw [this]
  exact bd_divInt h0 h1 h2
theorem CD.all (h : CD a d xs) (h1 : a ≤ n) (h2 : d ≤ n) : AllB n xs := by
  obtain ⟨D, d0, d1, dx⟩ := h
  intro q hq
  obtain ⟨A, e1, e2⟩ := dx q hq
  exact bd_of_frac d0 e1 (lt_pow e2 h1) (lt_pow d1 h2)
theorem num_den (q : Rat) : q * ((q.den : Int) : Rat) = (q.num : Rat) := by
  have h := Rat.num_divInt_den q
  have hd : ((q.den : Int) : Rat) ≠ 0 := ratInt_ne (by exact_mod_cast q.den_nz)
  rw [Rat.divInt_eq_div] at h
  generalize hz : ((q.den : Int) : Rat) = z at *
  generalize (q.num : Rat) = w at *
  rw [← h]
  grind
theorem CD.one (h : Bd n x) : CD n n [x] := ⟨x.den, by exact_mod_cast x.den_nz, by simpa using h.2, fun q hq => by
  simp at hq; subst hq
  exact ⟨q.num, num_den q, h.1⟩⟩
theorem CD.nil : CD 0 1 [] := ⟨1, by decide, by decide, fun q hq => by simp at hq⟩
theorem CD.trim (h : CD a d xs) : CD a d (trim xs) := h.sub fun q hq => trim_mem hq
theorem CD.take (h : CD a d xs) (i : Nat) : CD a d (xs.take i) := h.sub fun q hq => List.mem_of_mem_take hq
/-- both on one denominator -/
theorem CD.both (h1 : CD a d xs) (h2 : CD b e ys) : ∃ D : Int, D ≠ 0 ∧ D.natAbs < 2 ^ (d + e) ∧ (∀ q ∈ xs, ∃ A : Int, q * (D : Rat) = (A : Rat) ∧ A.natAbs < 2 ^ (a + e)) ∧ (∀ q ∈ ys, ∃ A : Int, q * (D : Rat) = (A : Rat) ∧ A.natAbs < 2 ^ (b + d)) := by
  obtain ⟨D, d0, d1, dx⟩ := h1
  obtain ⟨E, e0, e1, ey⟩ := h2
  refine ⟨D * E, Int.mul_ne_zero d0 e0, natAbs_mul_lt d1 e1, fun q hq => ?_, fun q hq => ?_⟩
  · obtain ⟨A, q1, q2⟩ := dx q hq
    refine ⟨A * E, ?_, natAbs_mul_lt q2 e1⟩
    rw [Rat.intCast_mul, Rat.intCast_mul, ← q1]; grind
  · obtain ⟨A, q1, q2⟩ := ey q hq
    refine ⟨A * D, ?_, natAbs_mul_lt q2 d1⟩
    rw [Rat.intCast_mul, Rat.intCast_mul, ← q1]; grind
theorem CD.app (h1 : CD a d xs) (h2 : CD b e ys) : CD (max (a + e) (b + d)) (d + e) (xs ++ ys) := by
  obtain ⟨D, d0, d1, dx, dy⟩ := h1.both h2
  refine ⟨D, d0, d1, fun q hq => ?_⟩
  rcases List.mem_append.mp hq with hq | hq
  · obtain ⟨A, q1, q2⟩ := dx q hq; exact ⟨A, q1, lt_pow q2 (by omega)⟩
  · obtain ⟨A, q1, q2⟩ := dy q hq; exact ⟨A, q1, lt_pow q2 (by omega)⟩
theorem CD.addAt (h1 : CD a d xs) (h2 : CD b e ys) (p : Nat) : CD (max (a + e) (b + d) + 1) (d + e) (addAt xs p ys) := by
  obtain ⟨D, d0, d1, dx, dy⟩ := h1.both h2
  refine ⟨D, d0, d1, fun q hq => ?_⟩
  obtain ⟨i, hi, rfl⟩ := List.mem_iff_getElem.mp hq
  have hlt : i < xs.length := by rw [addAt_len] at hi; exact hi
  have hg := addAt_get xs p ys i xs[i] (List.getElem?_eq_getElem hlt)
  rw [List.getElem?_eq_getElem hi] at hg
  simp only [Option.some.injEq] at hg
  rw [hg]
  obtain ⟨A, q1, q2⟩ := dx xs[i] (List.getElem_mem hlt)
  split
  · exact ⟨A, q1, lt_pow q2 (by omega)⟩
  · cases hy : ys[i - p]? with
    | none => exact ⟨A, q1, lt_pow q2 (by omega)⟩
    | some z =>
      obtain ⟨B, r1, r2⟩ := dy z (List.mem_of_getElem? hy)
      refine ⟨A + B, ?_, natAbs_add_lt (lt_pow q2 (by omega)) (lt_pow r2 (by omega))⟩
      show (xs[i] + z) * (D : Rat) = _
      rw [Rat.intCast_add, ← q1, ← r1]; grind
theorem CD.scale (h : CD a d xs) (hx : Bd b x) : CD (a + b) (d + b) (xs.map (· * x)) := by
  obtain ⟨D, d0, d1, dx⟩ := h
  refine ⟨D * x.den, Int.mul_ne_zero d0 (by exact_mod_cast x.den_nz), natAbs_mul_lt d1 (den_lt hx), fun q hq => ?_⟩
  obtain ⟨z, hz, rfl⟩ := List.mem_map.mp hq
  obtain ⟨A, q1, q2⟩ := dx z hz
  refine ⟨A * x.num, ?_, natAbs_mul_lt q2 hx.1⟩
  rw [Rat.intCast_mul, Rat.intCast_mul, ← q1, ← num_den x]; grind
end
end PB
set_option Elab.async false
set_option linter.all false
set_option maxRecDepth 100000
set_option maxHeartbeats 1000000
set_option exponentiation.threshold 100000
namespace PB
open PySem
section
variable {k : Nat} {h t : PH} {o : PO} {m n a b c d e : Nat} {x y : Rat} {xs ys us : List Rat}
theorem is_from_ok {i lo hi : Int} (h1 : lo ≤ i) (h2 : i ≤ hi) : callF G (k + 2) 75 [.int i, .int lo, .int hi] h = .ok (.bl true) h := by
  rw [callF_eq (f := f_is_from) rfl rfl]
  simp only [f_is_from, c_is_from]
  simp [is_int_ok, h1, h2]
theorem are_ratios_ok (hl : xs.length ≤ 1000) : callF G (k + 3) 50 [pol xs, .int (xs.length : Nat)] h = .ok (.bl true) h := by
  rw [callF_eq (f := f_are_ratios) rfl rfl]
  have hcmp : compL (compF (callF G (k + 2)) (.call 1 (.cons (.var 2) .nil)) [2] (.v 2) .none [some (pol xs), some (.int (xs.length : Nat)), none]) [] (frs xs) h = .ok (xs.map fun _ => PV.bl true) h :=
    compL_map fr (fun _ => PV.bl true) rfl xs fun a _ => by simp [compF, wipe, is_ratio_ok]
  have hm : xs.length ≤ many := by simp [many]; omega
  simp only [f_are_ratios, c_are_ratios]
  simp [List.replicate, hm, hcmp, alloc, truths_rep]
/-! ### binomial numbers -/
def bin : Nat → Nat → Nat
  | _, 0 => 1
  | 0, _ + 1 => 0
  | n + 1, j + 1 => bin n j + bin n (j + 1)
theorem bin_zero (n : Nat) : bin n 0 = 1 := by cases n <;> rfl
theorem bin_gt : ∀ {n j : Nat}, n < j → bin n j = 0
  | 0, j + 1, _ => rfl
  | n + 1, j + 1, h => by rw [bin, bin_gt (by omega), bin_gt (by omega)]
theorem bin_pos : ∀ {n j : Nat}, j ≤ n → 0 < bin n j
  | _, 0, _ => by rw [bin_zero]; decide
  | n + 1, j + 1, h => by rw [bin]; have := @bin_pos n j (by omega); omega
theorem bin_step : ∀ n j : Nat, bin n (j + 1) * (j + 1) = bin n j * (n - j)
  | 0, j => by
    cases j with
    | zero => rfl
    | succ j => simp [bin]
  | n + 1, 0 => by
    have := bin_step n 0
    simp only [bin, bin_zero] at this ⊢
    omega
  | n + 1, j + 1 => by
    have h1 := bin_step n j
    have h2 := bin_step n (j + 1)
    simp only [bin]
    by_cases hj : j + 1 ≤ n
    · obtain ⟨c, rfl⟩ : ∃ c, n = j + 1 + c := ⟨n - (j + 1), by omega⟩
      have e1 : j + 1 + c - j = c + 1 := by omega
      have e2 : j + 1 + c - (j + 1) = c := by omega
      have e3 : j + 1 + c + 1 - (j + 1) = c + 1 := by omega
      rw [e1] at h1
      rw [e2] at h2
      rw [e3]
      grind
    · by_cases hjn : j = n
      · subst hjn
        rw [bin_gt (show j < j + 1 by omega), bin_gt (show j < j + 1 + 1 by omega)]
        simp
      · rw [bin_gt (show n < j by omega), bin_gt (show n < j + 1 by omega), bin_gt (show n < j + 1 + 1 by omega)]
        simp
theorem bin_le : ∀ n j : Nat, bin n j ≤ 2 ^ n
  | n, 0 => by rw [bin_zero]; exact Nat.pow_pos (by decide)
  | 0, j + 1 => by simp [bin]
  | n + 1, j + 1 => by
    have h1 := bin_le n j
    have h2 := bin_le n (j + 1)
    rw [bin, Nat.pow_succ]; omega
theorem bin_fdiv {n j : Nat} (hj : j ≤ n) : ((bin n j : Int) * ((n : Int) - (j : Int))).fdiv ((j : Int) + 1) = (bin n (j + 1) : Int) := by
  have h := bin_step n j
  have e : (bin n j : Int) * ((n : Int) - (j : Int)) = ((j : Int) + 1) * (bin n (j + 1) : Int) := by
    have : (n : Int) - (j : Int) = ((n - j : Nat) : Int) := by omega
    rw [this]
    have h' : ((bin n (j + 1) * (j + 1) : Nat) : Int) = ((bin n j * (n - j) : Nat) : Int) := by rw [h]
    rw [Int.natCast_mul, Int.natCast_mul] at h'
    rw [← h', Int.mul_comm]
    congr 1
  rw [e, Int.fdiv_eq_ediv_of_dvd ⟨_, rfl⟩, Int.mul_ediv_cancel_left _ (by omega)]
def chB : CB := (.cons (.asg (.v 2) (.bin .fdiv (.bin .mul (.var 2) (.bin .sub (.var 0) (.var 3))) (.bin .add (.var 3) (.con (.int 1))))) .nil)
theorem ch_loop {cf : Nat → List PV → PH → Res PV} {n j : Nat} (hj : j ≤ n) (hn : n ≤ 100) : ∃ s3, frL (asT cf (.v 3)) (evB cf chB) [] (range 0 j 1) [some (.int (n : Nat)), some (.int (j : Nat)), some (.int 1), none] h = .ok (.nx [some (.int (n : Nat)), some (.int (j : Nat)), some (.int (bin n j : Nat)), s3]) h := by
  obtain ⟨s', h', e1, s3, e2, e3⟩ := frL_range (g := asT cf (.v 3)) (b := evB cf chB) (fun i s h' => ∃ s3, s = [some (.int (n : Nat)), some (.int (j : Nat)), some (.int (bin n i : Nat)), s3] ∧ h' = h) (n := j) (a := 0) (s := [some (.int (n : Nat)), some (.int (j : Nat)), some (.int 1), none]) (h := h) (fun i s h' h0 h1 hS => by
    obtain ⟨s3, rfl, rfl⟩ := hS
    refine ⟨_, h', ?_, ⟨some (.int (i : Nat)), rfl, rfl⟩⟩
    have hb : bin n i < 2 ^ 101 := Nat.lt_of_le_of_lt (bin_le n i) (Nat.pow_lt_pow_right (by decide) (by omega))
    have hm : mulOk (bin n i : Int) ((n : Int) - (i : Int)) = true := mulOk_of (m := 101) (n := 7) (by simpa using hb) (by omega) (by decide)
    have hd := bin_fdiv (n := n) (j := i) (by omega)
    have hne : (i : Int) + 1 ≠ 0 := by omega
    have hl : ((i : Int) + 1).natAbs.log2 < 9000 := by
      have := log2_lt (n := ((i : Int) + 1).natAbs) (k := 8) (by omega) (by decide); omega
    simp [chB, hm, hd, hne, hl]) ⟨none, by rw [bin_zero]; rfl, rfl⟩
  subst e2; subst e3
  rw [Nat.zero_add] at e1
  exact ⟨s3, e1⟩
theorem choose_ok {n j : Nat} (hj : j ≤ n) (hn : n ≤ 100) : callF G (k + 1) 76 [.int (n : Nat), .int (j : Nat)] h = .ok (.int (bin n j : Nat)) h := by
  rw [callF_eq (f := f_choose) rfl rfl]
  obtain ⟨s3, hl⟩ := ch_loop (cf := callF G k) (h := h) hj hn
  have g : (-1000000 : Int) ≤ (j : Int) ∧ (j : Int) ≤ 1000000 := by omega
  simp only [chB] at hl
  simp only [f_choose, c_choose]
  simp [List.replicate, bigR, g, hl]
theorem need_degree_ok {d : Nat} (hl : xs.length ≤ d + 1) (hd : d ≤ 8) : callF G (k + 3) 79 [pol xs, .int (d : Nat)] h = .ok .non h := by
  rw [callF_eq (f := f_need_degree) rfl rfl]
  have h1 := is_from_ok (k := k) (h := h) (i := (d : Nat)) (lo := 0) (hi := 8) (by omega) (by omega)
  have h2 : ¬ (d : Int) + 1 < (xs.length : Int) := by omega
  simp only [f_need_degree, c_need_degree]
  simp [h1, h2]
/-! ### sums of rows -/
theorem lmiddle_ok (hx : Bd m x) (hy : Bd m y) {z : Rat} (hz : Bd n z) (hb : 4 * m + n + 1 < 4900) : callF G (k + 3) 80 [fr x, fr y, fr z] h = .ok (fr (x + z * (y - x))) h := by
  rw [callF_eq (f := f__law_middle) rfl rfl]
  have b1 := bd_sub hy hx
  have h1 := lminus_ok (k := k) (h := h) hy hx (by omega)
  have h2 := ltimes_ok (k := k) (h := h) hz b1 (by omega)
  have h3 := lplus_ok (k := k) (h := h) hx (bd_mul hz b1) (by omega)
  simp only [f__law_middle, c__law_middle]
  simp [h1, h2, h3]
theorem between_ok (hx : Bd m x) (hy : Bd m y) {z : Rat} (hz : Bd n z) (hb : 4 * m + n + 1 < 7900) : callF G (k + 3) 100 [fr x, fr y, fr z] h = .ok (fr (x + z * (y - x))) h := by
  rw [callF_eq (f := f_between) rfl rfl]
  have b1 := bd_sub hy hx
  have h1 := less_ok (k := k) (h := h) hy hx (by omega)
  have h2 := times_ok (k := k) (h := h) hz b1 (by omega)
  have h3 := plus_ok (k := k) (h := h) hx (bd_mul hz b1) (by omega)
  simp only [f_between, c_between]
  simp [h1, h2, h3]
theorem sum_snoc (ds : List Rat) (q : Rat) : (ds ++ [q]).sum = ds.sum + q := by
  rw [List.sum_append, List.sum_cons, List.sum_nil, Rat.add_zero]
/-! ### symmetric sums -/
def est (F : List Rat) (u : Rat) : List Rat := addAt (F ++ [0]) 1 (F.map (· * u))
def esy : List Rat → List Rat → List Rat
  | F, [] => F
  | F, u :: r => esy (est F u) r
theorem est_len (F : List Rat) (u : Rat) : (est F u).length = F.length + 1 := by rw [est, addAt_len]; simp
theorem esy_len : ∀ (us F : List Rat), (esy F us).length = F.length + us.length
  | [], F => rfl
  | u :: r, F => by rw [esy, esy_len r, est_len]; simp; omega
theorem pe_app0 : ∀ F : List Rat, pe (F ++ [0]) x = pe F x
  | [] => by simp [pe]; grind
  | a :: r => by simp only [List.cons_append, pe, pe_app0 r]
theorem pe_est (F : List Rat) (u : Rat) : pe (est F u) x = pe F x * (1 + u * x) := by
  rw [est, pe_addAt _ _ _ (by simp <;> omega), pe_app0, pe_times, Rat.pow_one]; grind
def eprod (x : Rat) : List Rat → Rat
  | [] => 1
  | u :: r => (1 + u * x) * eprod x r
theorem pe_esy : ∀ (us F : List Rat), pe (esy F us) x = pe F x * eprod x us
  | [], F => by simp [esy, eprod]
  | u :: r, F => by rw [esy, pe_esy r, pe_est, eprod]; grind
theorem esy_snoc : ∀ (us F : List Rat) (u : Rat), esy F (us ++ [u]) = est (esy F us) u
  | [], F, u => rfl
  | v :: r, F, u => by simp only [List.cons_append, esy, esy_snoc r]
theorem CD.est (hF : CD a d xs) (hu : Bd b x) : CD (a + b + 1) (d + b) (est xs x) := by
  obtain ⟨D, d0, d1, dx⟩ := hF
  refine ⟨D * x.den, Int.mul_ne_zero d0 (by exact_mod_cast x.den_nz), natAbs_mul_lt d1 (den_lt hu), fun q hq => ?_⟩
  have hx0 : ∀ z ∈ xs ++ [0], ∃ A : Int, z * ((D * x.den : Int) : Rat) = (A : Rat) ∧ A.natAbs < 2 ^ (a + b) := fun z hz => by
    rcases List.mem_append.mp hz with hz | hz
    · obtain ⟨A, q1, q2⟩ := dx z hz
      refine ⟨A * x.den, ?_, natAbs_mul_lt q2 (den_lt hu)⟩
      rw [Rat.intCast_mul, Rat.intCast_mul, ← q1]; grind
    · simp at hz; subst hz
      exact ⟨0, by rw [Rat.zero_mul]; rfl, Nat.pow_pos (by decide)⟩
  have hy0 : ∀ z ∈ xs.map (· * x), ∃ A : Int, z * ((D * x.den : Int) : Rat) = (A : Rat) ∧ A.natAbs < 2 ^ (a + b) := fun z hz => by
    obtain ⟨w, hw, rfl⟩ := List.mem_map.mp hz
    obtain ⟨A, q1, q2⟩ := dx w hw
    refine ⟨A * x.num, ?_, natAbs_mul_lt q2 hu.1⟩
    rw [Rat.intCast_mul, Rat.intCast_mul, ← q1, ← num_den x]; grind
  obtain ⟨i, hi, rfl⟩ := List.mem_iff_getElem.mp hq
  rw [PB.est] at hi
  have hlt : i < (xs ++ [0]).length := by rw [addAt_len] at hi; exact hi
  have hg := addAt_get (xs ++ [0]) 1 (xs.map (· * x)) i (xs ++ [0])[i] (List.getElem?_eq_getElem hlt)
  rw [List.getElem?_eq_getElem hi] at hg
  simp only [Option.some.injEq] at hg
  simp only [PB.est]
  rw [hg]
  obtain ⟨A, q1, q2⟩ := hx0 _ (List.getElem_mem hlt)
  split
  · exact ⟨A, q1, lt_pow q2 (by omega)⟩
  · cases hy : (xs.map (· * x))[i - 1]? with
    | none => exact ⟨A, q1, lt_pow q2 (by omega)⟩
    | some z =>
      obtain ⟨B, r1, r2⟩ := hy0 z (List.mem_of_getElem? hy)
      refine ⟨A + B, ?_, natAbs_add_lt (lt_pow q2 (by omega)) (lt_pow r2 (by omega))⟩
      show ((xs ++ [0])[i] + z) * ((D * x.den : Int) : Rat) = _
      rw [Rat.add_mul, q1, r1, Rat.intCast_add]
theorem CD.esy : ∀ {us F : List Rat} {a d : Nat}, CD a d F → AllB b us → CD (a + us.length * (b + 1)) (d + us.length * b) (esy F us)
  | [], F, a, d, hF, _ => by simpa [PB.esy] using hF
  | u :: r, F, a, d, hF, hu => by
    have := CD.esy (us := r) (hF.est (hu u (by simp))) fun q hq => hu q (by simp [hq])
    rw [PB.esy]
    refine this.mono ?_ ?_ <;> rw [List.length_cons, Nat.add_mul] <;> omega
theorem cd1 : CD 1 1 [1] := ⟨1, by decide, by decide, fun q hq => by simp at hq; subst hq; exact ⟨1, by decide +kernel, by decide⟩⟩
theorem sy_part_get (F : List Rat) (u : Rat) {i : Nat} (hi : i < F.length) {fi : Rat} (hfi : F[i]? = some fi) : ∃ z, (addAt (F ++ [0]) 1 ((F.take i).map (· * u)))[i + 1]? = some z ∧ (z = 0 ∨ z ∈ F) ∧ (addAt (F ++ [0]) 1 ((F.take i).map (· * u))).set (i + 1) (z + fi * u) = addAt (F ++ [0]) 1 ((F.take (i + 1)).map (· * u)) := by
  have hl : i + 1 < (F ++ [0]).length := by simp; omega
  obtain ⟨z, hz⟩ : ∃ z, (F ++ [0])[i + 1]? = some z := ⟨_, List.getElem?_eq_getElem hl⟩
  have hg := addAt_get (F ++ [0]) 1 ((F.take i).map (· * u)) (i + 1) z hz
  have hn : ((F.take i).map (· * u))[i + 1 - 1]? = none := List.getElem?_eq_none (by simp; omega)
  rw [if_neg (by omega), hn] at hg
  refine ⟨z, hg, ?_, ?_⟩
  · rcases List.mem_append.mp (List.mem_of_getElem? hz) with h | h
    · exact .inr h
    · exact .inl (by simpa using h)
  · apply List.ext_getElem?
    intro j
    have hjl : (addAt (F ++ [0]) 1 ((F.take i).map (· * u))).length = F.length + 1 := by rw [addAt_len]; simp
    by_cases hj : j < F.length + 1
    · obtain ⟨w, hw⟩ : ∃ w, (F ++ [0])[j]? = some w := ⟨_, List.getElem?_eq_getElem (by simp; omega)⟩
      have g1 := addAt_get (F ++ [0]) 1 ((F.take i).map (· * u)) j w hw
      have g2 := addAt_get (F ++ [0]) 1 ((F.take (i + 1)).map (· * u)) j w hw
      rw [List.getElem?_set, g2]
      by_cases he : i + 1 = j
      · subst he
        rw [if_pos rfl, if_pos (by omega), if_neg (by omega)]
        have : ((F.take (i + 1)).map (· * u))[i + 1 - 1]? = some (fi * u) := by
          simp [List.getElem?_take, hfi]
        rw [this]
        rw [hz] at hw; cases hw
        rfl
      · rw [if_neg he, g1]
        by_cases h1 : j < 1
        · rw [if_pos h1, if_pos h1]
        · rw [if_neg h1, if_neg h1]
          have : ((F.take (i + 1)).map (· * u))[j - 1]? = ((F.take i).map (· * u))[j - 1]? := by
            simp only [List.getElem?_map, List.getElem?_take]
            by_cases h2 : j - 1 < i
            · rw [if_pos h2, if_pos (by omega)]
            · rw [if_neg h2, if_neg (by omega)]
          rw [this]
    · rw [List.getElem?_eq_none (by rw [List.length_set, hjl]; omega), List.getElem?_eq_none (by rw [addAt_len]; simp; omega)]
def syB : CB := (.cons (.asg (.s (.var 3) (.bin .add (.var 4) (.con (.int 1)))) (.call 4 (.cons (.idx (.var 3) (.bin .add (.var 4) (.con (.int 1)))) (.cons (.call 5 (.cons (.idx (.var 1) (.var 4)) (.cons (.var 2) .nil))) .nil)))) .nil)
theorem sy_inner {s0 s4 : Option PV} {p q : Nat} {F : List Rat} {u : Rat} (hp : h[p]? = some (.lst (frs F))) (hpq : p ≠ q) (hq : h[q]? = some (.lst (frs (F ++ [0])))) (hF : AllB m F) (hu : Bd b u) (hm : 1 ≤ m) (hz : 2 * m + b + 1 < 7900) :
    ∃ s4', frL (asT (callF G (k + 2)) (.v 4)) (evB (callF G (k + 2)) syB) [] (range 0 F.length 1) [s0, some (.ref p), some (fr u), some (.ref q), s4] h = .ok (.nx [s0, some (.ref p), some (fr u), some (.ref q), s4']) (h.set q (.lst (frs (est F u)))) := by
  have hql := (List.getElem?_eq_some_iff.mp hq).1
  obtain ⟨s', h', e1, s4', rfl, rfl⟩ := frL_range (g := asT (callF G (k + 2)) (.v 4)) (b := evB (callF G (k + 2)) syB) (fun i s h' => ∃ s4, s = [s0, some (.ref p), some (fr u), some (.ref q), s4] ∧ h' = h.set q (.lst (frs (addAt (F ++ [0]) 1 ((F.take i).map (· * u)))))) (n := F.length) (a := 0) (s := [s0, some (.ref p), some (fr u), some (.ref q), s4]) (h := h)
    (fun i s h' h0 h1 ⟨s4, r1, r2⟩ => by
      subst r1; subst r2
      obtain ⟨fi, hfi⟩ : ∃ fi, F[i]? = some fi := ⟨_, List.getElem?_eq_getElem (by omega)⟩
      obtain ⟨z, z1, z2, z3⟩ := sy_part_get F u (by omega) hfi
      have bz : Bd m z := by
        rcases z2 with rfl | z2
        · exact (bd0 0).mono hm
        · exact hF z z2
      have bf := hF fi (List.mem_of_getElem? hfi)
      generalize hH : h.set q (.lst (frs (addAt (F ++ [0]) 1 ((F.take i).map (· * u))))) = H
      have gp : H[p]? = some (.lst (frs F)) := by rw [← hH, List.getElem?_set_ne (Ne.symm hpq), hp]
      have gq : H[q]? = some (.lst (frs (addAt (F ++ [0]) 1 ((F.take i).map (· * u))))) := by rw [← hH, List.getElem?_set_self hql]
      have c1 := times_ok (k := k) (h := H) bf hu (by omega)
      have c2 := plus_ok (k := k) (h := H) bz (bd_mul bf hu) (by omega)
      have e : ((i : Nat) : Int) + 1 = ((i + 1 : Nat) : Int) := by omega
      have a1 : L2.atI (frs (addAt (F ++ [0]) 1 ((F.take i).map (· * u)))) ((i + 1 : Nat) : Int) = some (fr z) := by rw [atI_nat', frs_get, z1]; rfl
      have a2 : L2.atI (frs F) ((i : Nat) : Int) = some (fr fi) := by rw [atI_nat', frs_get, hfi]; rfl
      have a3 : L2.ixN (frs (addAt (F ++ [0]) 1 ((F.take i).map (· * u)))).length ((i + 1 : Nat) : Int) = some (i + 1) := ixN_nat (by rw [frs_len, addAt_len]; simp; omega)
      refine ⟨_, H.set q (.lst (frs (addAt (F ++ [0]) 1 ((F.take (i + 1)).map (· * u))))), ?_, some (.int (i : Nat)), rfl, by rw [← hH, List.set_set]⟩
      simp only [asT_v, bind_ok', List.set_cons_succ, List.set_cons_zero, syB, evB_cons, evB_nil, evS_asg, evE_call, evA_cons, evA_nil, evE_idx, evE_bin, evE_con, evE_vs, evE_v0, add_int, e, idxop, items_ref, gq, gp, Option.map_some, PO.xs_lst, a1, a2, c1, c2, asT_s, setop, a3]
      rw [frs_set, z3]) ⟨s4, rfl, by
        simp only [List.take_zero, List.map_nil, addAt_nil]
        obtain ⟨h1, h2⟩ := List.getElem?_eq_some_iff.mp hq
        rw [← h2, List.set_getElem_self]⟩
  refine ⟨s4', ?_⟩
  simp only [Int.natCast_zero, Nat.zero_add] at e1
  rw [e1, List.take_length]
  rfl
theorem symmetric_ok {v : PV} (hs : items h v = some (frs us)) (hu : AllB b us) (hb : 1 ≤ b) (hz : 2 * (us.length * (b + 1) + 1) + b + 1 < 7900) (hl : us.length ≤ 1000) :
    ∃ t p, callF G (k + 3) 77 [v] h = .ok (.ref p) (h ++ t) ∧ (h ++ t)[p]? = some (.lst (frs (esy [1] us))) ∧ h.length ≤ p := by
  rw [callF_eq (f := f_symmetric) rfl rfl]
  obtain ⟨s', h', e1, ⟨p, s2, s3, s4, ds, t, d1, d2, r1, r2, r3, r4⟩⟩ := frL_inv (g := asT (callF G (k + 2)) (.v 2)) (b := evB (callF G (k + 2)) (.cons (.asg (.v 3) (.lst (.star (.var 1) (.cons (.con (.tup [(.int 0), (.int 1)])) .nil)))) (.cons (.for_ (.v 4) (.rng1 (.cons (.blt .len (.cons (.var 1) .nil)) .nil)) syB) (.cons (.asg (.v 1) (.var 3)) .nil)))) (l := leanOf h v) fr
    (fun r s h' => ∃ p s2 s3 s4 ds t, ds ++ r = us ∧ AllB b ds ∧ s = [some v, some (.ref p), s2, s3, s4] ∧ h' = h ++ t ∧ h'[p]? = some (.lst (frs (esy [1] ds))) ∧ h.length ≤ p) (fun r s h' ⟨_, _, _, _, _, _, _, _, _, e, _⟩ => by subst e; exact leans_apq h _ v)
    (fun a r s h' ⟨p, s2, s3, s4, ds, t, d1, d2, r1, r2, r3, r4⟩ => by
      subst r1
      have hdl : ds.length + 1 ≤ us.length := by rw [← d1]; simp
      have ha : Bd b a := hu a (by rw [← d1]; simp)
      have hlen : (esy [1] ds).length = ds.length + 1 := by rw [esy_len]; simp; omega
      have hcd := CD.esy cd1 d2
      have hm1 : (ds.length + 1) * (b + 1) ≤ us.length * (b + 1) := Nat.mul_le_mul_right _ hdl
      rw [Nat.add_mul] at hm1
      have hm2 : ds.length * b ≤ ds.length * (b + 1) := Nat.mul_le_mul_left _ (by omega)
      have hall := hcd.all (n := us.length * (b + 1) + 1) (by omega) (by omega)
      have hpl := (List.getElem?_eq_some_iff.mp r3).1
      obtain ⟨s4', hin⟩ := sy_inner (k := k) (h := h' ++ [.lst (frs (esy [1] ds ++ [0]))]) (s0 := some v) (s4 := s4) (p := p) (q := h'.length) (F := esy [1] ds) (u := a) (m := us.length * (b + 1) + 1) (by rw [List.getElem?_append_left hpl]; exact r3) (by omega) (by simp) hall ha (by omega) (by omega)
      simp only [hlen] at hin
      rw [set_app0] at hin
      have hM : many = 1000000 := rfl
      have g : (-1000000 : Int) ≤ ((ds.length + 1 : Nat) : Int) ∧ ((ds.length + 1 : Nat) : Int) ≤ 1000000 := by omega
      have gl : ds.length + 1 + 1 ≤ 1000000 := by omega
      have gn : ((ds.length : Int) + 1).toNat = ds.length + 1 := by omega
      have gi : (ds.length : Int) + 1 ≤ 1000000 ∧ (-1000000 : Int) ≤ (ds.length : Int) + 1 := by omega
      refine ⟨[some v, some (.ref h'.length), some (fr a), some (.ref h'.length), s4'], h' ++ [.lst (frs (esy [1] (ds ++ [a])))], ?_, h'.length, _, _, _, ds ++ [a], t ++ [.lst (frs (esy [1] (ds ++ [a])))], by simpa using d1, fun q hq => ?_, rfl, by rw [r2, List.append_assoc], by simp, by rw [r2]; simp⟩
      · have e0 : frs (esy [1] ds) ++ [fr 0] = frs (esy [1] ds ++ [0]) := by rw [← frs_app]; rfl
        have r3' : (h' ++ [PO.lst (frs (esy [1] ds ++ [0]))])[p]? = some (.lst (frs (esy [1] ds))) := by rw [List.getElem?_append_left hpl]; exact r3
        have a0 : PV.tup [.int 0, .int 1] = fr 0 := rfl
        simp only [asT_v, bind_ok', List.set_cons_succ, List.set_cons_zero, evB_cons, evB_nil, evS_asg, evE_lst, evA_star, evA_cons, evA_nil, evE_con, evE_vs, evE_v0, items_ref, r3, Option.map_some, PO.xs_lst, a0, e0, frs_len, List.length_append, List.length_cons, List.length_nil, hlen, hM, gl, if_true, alloc, evS_for, evI_rng1, evE_blt, blt_len, r3', bigR, g, and_self, List.map_cons]
        have hcast : ((ds.length + 1 : Nat) : Int).toNat = ds.length + 1 := by omega
        simp only [Nat.zero_add, gl, if_true, bind_ok', evS_for, evI_rng1, evA_cons, evA_nil, evE_blt, evE_vs, evE_v0, blt_len, items_ref, r3', Option.map_some, PO.xs_lst, frs_len, hlen, g, and_self, hcast, List.set_cons_succ, List.set_cons_zero]
        rw [hin]
        have : List.set [PO.lst (frs (esy [1] ds ++ [0]))] 0 (.lst (frs (est (esy [1] ds) a))) = [.lst (frs (esy [1] (ds ++ [a])))] := by rw [esy_snoc]; rfl
        rw [this]
        simp
      · rcases List.mem_append.mp hq with hq | hq
        · exact d2 q hq
        · simp at hq; subst hq; exact ha) us [some v, some (.ref h.length), none, none, none] (h ++ [.lst [fr 1]]) ⟨h.length, none, none, none, [], [.lst [fr 1]], rfl, fun q hq => by simp at hq, rfl, rfl, by simp [esy], Nat.le_refl _⟩
  rw [List.append_nil] at d1; subst d1; subst r1; subst r2
  rw [map_fr] at e1
  have e2 : items (h ++ [.lst [fr 1]]) v = some (frs ds) := by
    cases v <;> try exact hs
    rename_i n
    rw [items_ref] at hs ⊢
    cases hn : h[n]? with
    | none => rw [hn] at hs; cases hs
    | some c =>
      have hlt := (List.getElem?_eq_some_iff.mp hn).1
      rw [hn] at hs
      rw [List.getElem?_append_left hlt, hn]; exact hs
  have e3 : leanOf (h ++ [.lst [fr 1]]) v = leanOf h v := by
    cases v <;> try rfl
    rename_i n
    rw [items_ref] at hs
    cases hn : h[n]? with
    | none => rw [hn] at hs; cases hs
    | some c =>
      have hlt := (List.getElem?_eq_some_iff.mp hn).1
      simp only [leanOf, List.getElem?_append_left hlt]
  have hk : keepP h (h ++ t) (.ref p) = h ++ t := by
    unfold keepP
    rw [if_neg]
    simp only [PV.low, decide_eq_true_eq]
    omega
  refine ⟨t, p, ?_, r3, r4⟩
  have hM : (1 : Nat) ≤ many := by decide
  simp only [syB] at e1
  simp only [f_symmetric, c_symmetric]
  simp [List.replicate, fr1, hM, alloc, e2, e3, e1, hk]
end
end PB
set_option Elab.async false
set_option linter.all false
set_option maxRecDepth 100000
set_option maxHeartbeats 1000000
set_option exponentiation.threshold 100000
namespace PB
open PySem
section
variable {k : Nat} {h t : PH} {o : PO} {m n a b c d e : Nat} {x y : Rat} {xs ys us : List Rat}
/-! ### blossoms -/
def bto (xs F : List Rat) (d : Nat) : Nat → Rat
  | 0 => 0
  | i + 1 => bto xs F d i + xs[i]?.getD 0 * (F[i]?.getD 0 * Rat.divInt 1 (bin d i : Nat))
def blo (xs us : List Rat) : Rat := bto xs (esy [1] us) us.length xs.length
theorem bd_bin {d i : Nat} (hi : i ≤ d) : Bd (d + 1) (Rat.divInt 1 (bin d i : Nat)) := by
  have h1 := bin_pos hi
  have h2 := bin_le d i
  have h3 : 2 ^ (d + 1) = 2 ^ d * 2 := Nat.pow_succ 2 d
  refine bd_divInt (by omega) ?_ ?_
  · show 1 < 2 ^ (d + 1)
    exact Nat.one_lt_two_pow (by omega)
  · show bin d i < 2 ^ (d + 1)
    omega
theorem bd_bto {F : List Rat} (hc : AllB c xs) (hF : AllB m F) : ∀ {i : Nat}, i ≤ xs.length → i ≤ d + 1 → xs.length ≤ F.length → Bd (i * (c + m + d + 2) + 1) (bto xs F d i)
  | 0, _, _, _ => by rw [bto, Nat.zero_mul]; exact bd0 0
  | i + 1, h1, h2, h3 => by
    have ih := bd_bto hc hF (i := i) (by omega) (by omega) h3
    obtain ⟨a, ha⟩ : ∃ a, xs[i]? = some a := ⟨_, List.getElem?_eq_getElem (by omega)⟩
    obtain ⟨f, hf⟩ : ∃ f, F[i]? = some f := ⟨_, List.getElem?_eq_getElem (by omega)⟩
    have b1 := hc a (List.mem_of_getElem? ha)
    have b2 := hF f (List.mem_of_getElem? hf)
    rw [bto, ha, hf]
    refine (bd_add ih (bd_mul b1 (bd_mul b2 (bd_bin (by omega))))).1.mono ?_
    rw [Nat.add_mul]; omega
theorem items_app {v : PV} {zs : List PV} (hs : items h v = some zs) : items (h ++ t) v = some zs := by
  cases v <;> try exact hs
  rename_i n
  rw [items_ref] at hs ⊢
  cases hn : h[n]? with
  | none => rw [hn] at hs; cases hs
  | some c =>
    have hlt := (List.getElem?_eq_some_iff.mp hn).1
    rw [hn] at hs
    rw [List.getElem?_append_left hlt, hn]; exact hs
theorem enums0_frs (xs : List Rat) : enums 0 (frs xs) = enums 0 (xs.map fr) := rfl
theorem blossom_of_ok {v : PV} {M : Nat} (hs : items h v = some (frs us)) (hu : AllB b us) (hb : 1 ≤ b) (hc : AllB c xs) (hl : xs.length ≤ us.length + 1) (hd : us.length ≤ 100) (hM : us.length * (b + 1) + 1 ≤ M)
    (hz : (xs.length + 2) * (c + M + us.length + 2) + b < 7900) : callF G (k + 4) 78 [pol xs, v] h = .ok (fr (blo xs us)) h := by
  rw [callF_eq (f := f_blossom_of) rfl rfl]
  rw [Nat.add_mul] at hz
  have hcd := CD.esy cd1 hu
  have hall : AllB M (esy [1] us) := hcd.all (by omega) (by have := Nat.mul_le_mul_left us.length (show b ≤ b + 1 by omega); omega)
  have hel : (esy [1] us).length = us.length + 1 := by rw [esy_len]; simp; omega
  obtain ⟨t, p, e1, e2, e3⟩ := symmetric_ok (k := k) (h := h) hs hu hb (by omega) (by omega)
  generalize hH : h ++ t = H at e1 e2
  obtain ⟨s', h', g1, ⟨s4, s5, rfl, rfl⟩⟩ := frL_enum (g := asT (callF G (k + 3)) (.cons (.v 4) (.cons (.v 5) .nil))) (b := evB (callF G (k + 3)) (.cons (.asg (.v 2) (.call 4 (.cons (.var 2) (.cons (.call 5 (.cons (.var 5) (.cons (.call 5 (.cons (.idx (.var 3) (.var 4)) (.cons (.call 2 (.cons (.con (.int 1)) (.cons (.call 76 (.cons (.blt .len (.cons (.var 1) .nil)) (.cons (.var 4) .nil))) .nil))) .nil))) .nil))) .nil)))) .nil)) fr
    (fun i s h' => ∃ s4 s5, s = [some (pol xs), some v, some (fr (bto xs (esy [1] us) us.length i)), some (.ref p), s4, s5] ∧ h' = H) xs (s := [some (pol xs), some v, some (fr 0), some (.ref p), none, none]) (h := H)
    (fun i a s h' hi ⟨s4, s5, r1, r2⟩ => by
      subst r1; subst r2
      have hil := (List.getElem?_eq_some_iff.mp hi).1
      obtain ⟨f, hf⟩ : ∃ f, (esy [1] us)[i]? = some f := ⟨_, List.getElem?_eq_getElem (by omega)⟩
      have b1 := hc a (List.mem_of_getElem? hi)
      have b2 := hall f (List.mem_of_getElem? hf)
      have b3 := bd_bin (d := us.length) (i := i) (by omega)
      have b4 := bd_bto (d := us.length) hc hall (i := i) (by omega) (by omega) (by omega)
      have hm : (i + 1) * (c + M + us.length + 2) ≤ xs.length * (c + M + us.length + 2) := Nat.mul_le_mul_right _ (by omega)
      rw [Nat.add_mul] at hm
      have c0 := choose_ok (k := k + 2) (h := h') (n := us.length) (j := i) (by omega) hd
      have hbn : bin us.length i < 2 ^ 8000 := Nat.lt_of_le_of_lt (bin_le _ _) (Nat.pow_lt_pow_right (by decide) (by omega))
      have c1 := made_ok (k := k + 2) (h := h') (a := 1) (b := (bin us.length i : Nat)) (by have := bin_pos (n := us.length) (j := i) (by omega); omega) (by simpa using hbn)
      have c2 := times_ok (k := k + 1) (h := h') b2 b3 (by omega)
      have c3 := times_ok (k := k + 1) (h := h') b1 (bd_mul b2 b3) (by omega)
      have c4 := plus_ok (k := k + 1) (h := h') b4 (bd_mul b1 (bd_mul b2 b3)) (by omega)
      have a1 : L2.atI (frs (esy [1] us)) ((i : Nat) : Int) = some (fr f) := by rw [atI_nat', frs_get, hf]; rfl
      have hs' : items h' v = some (frs us) := by
        rw [← hH]; exact items_app hs
      refine ⟨[some (pol xs), some v, some (fr (bto xs (esy [1] us) us.length (i + 1))), some (.ref p), some (.int (i : Nat)), some (fr a)], h', ?_, _, _, rfl, rfl⟩
      rw [bto, hi, hf]
      simp only [Option.getD_some]
      generalize Rat.divInt 1 ((bin us.length i : Nat) : Int) = rr at *
      simp [hs', c0, c1, idxop, e2, a1, c2, c3, c4]) ⟨none, none, rfl, rfl⟩
  rw [← enums0_frs] at g1
  have hk : keepP h h' (fr (blo xs us)) = h := by rw [← hH]; exact keepP_app low_fr
  simp only [f_blossom_of, c_blossom_of]
  rw [blo] at hk ⊢
  simp [List.replicate, fr0, e1, setAll, g1, hk]
/-! ### what blossoms keep -/
theorem eq_of_pe_len {xs ys : List Rat} (hl : xs.length = ys.length) (he : ∀ x, pe xs x = pe ys x) : xs = ys := by
  have h := eq_of_pe he
  apply List.ext_getElem?
  intro i
  have h1 := trim_getD xs i
  have h2 := trim_getD ys i
  rw [h] at h1
  by_cases hi : i < xs.length
  · have hi' : i < ys.length := by omega
    rw [List.getElem?_eq_getElem hi] at h1 ⊢
    rw [List.getElem?_eq_getElem hi'] at h2 ⊢
    simp only [Option.getD_some] at h1 h2
    rw [← h1, ← h2]
  · rw [List.getElem?_eq_none (by omega), List.getElem?_eq_none (by omega)]
theorem eprod_perm {us vs : List Rat} (h : us.Perm vs) : eprod x us = eprod x vs := by
  induction h with
  | nil => rfl
  | cons u _ ih => rw [eprod, eprod, ih]
  | swap u v r => simp only [eprod]; grind
  | trans _ _ ih1 ih2 => rw [ih1, ih2]
theorem esy_perm {us vs F : List Rat} (h : us.Perm vs) : esy F us = esy F vs := by
  refine eq_of_pe_len ?_ fun x => ?_
  · rw [esy_len, esy_len, h.length_eq]
  · rw [pe_esy, pe_esy, eprod_perm h]
theorem blo_perm {us vs : List Rat} (h : us.Perm vs) : blo xs us = blo xs vs := by
  rw [blo, blo, esy_perm h, h.length_eq]
/-- affine in F -/
theorem bto_affine {F H K : List Rat} {u : Rat} (d : Nat) : ∀ i : Nat, (∀ j : Nat, j < i → F[j]?.getD 0 = H[j]?.getD 0 + u * K[j]?.getD 0) → bto xs F d i = bto xs H d i + u * bto xs K d i
  | 0, _ => by simp [bto]; grind
  | i + 1, hj => by
    rw [bto, bto, bto, bto_affine d i fun j h => hj j (by omega), hj i (by omega)]; grind
theorem est_getD (F : List Rat) (u : Rat) (j : Nat) (hj : j ≤ F.length) : (est F u)[j]?.getD 0 = F[j]?.getD 0 + u * (0 :: F)[j]?.getD 0 := by
  obtain ⟨w, hw⟩ : ∃ w, (F ++ [0])[j]? = some w := ⟨_, List.getElem?_eq_getElem (by simp; omega)⟩
  have hg := addAt_get (F ++ [0]) 1 (F.map (· * u)) j w hw
  have hw' : F[j]?.getD 0 = w := by
    by_cases h : j < F.length
    · rw [List.getElem?_append_left h] at hw; rw [hw]; rfl
    · have : j = F.length := by omega
      subst this
      simp at hw ⊢; exact hw
  rw [est, hg, hw']
  cases j with
  | zero => simp; grind
  | succ j =>
    have hj' : j < F.length := by omega
    simp [List.getElem?_eq_getElem hj']; grind
theorem blo_snoc_affine (us : List Rat) (u : Rat) (hl : xs.length ≤ us.length + 2) : blo xs (us ++ [u]) = bto xs (esy [1] us) (us.length + 1) xs.length + u * bto xs (0 :: esy [1] us) (us.length + 1) xs.length := by
  rw [blo, List.length_append, esy_snoc]
  refine bto_affine _ _ fun j hj => ?_
  refine est_getD _ _ _ ?_
  rw [esy_len]; simp; omega
theorem blo_mid (ps qs : List Rat) (u v w : Rat) (hl : xs.length ≤ ps.length + qs.length + 2) : blo xs (ps ++ (u + w * (v - u)) :: qs) = blo xs (ps ++ u :: qs) + w * (blo xs (ps ++ v :: qs) - blo xs (ps ++ u :: qs)) := by
  have e : ∀ z : Rat, blo xs (ps ++ z :: qs) = blo xs ((ps ++ qs) ++ [z]) := fun z => blo_perm (by
    rw [List.append_assoc]
    refine List.Perm.append_left ps ?_
    exact (List.perm_append_singleton z qs).symm)
  rw [e, e, e]
  have hl' : xs.length ≤ (ps ++ qs).length + 2 := by simp; omega
  rw [blo_snoc_affine _ _ hl', blo_snoc_affine _ _ hl', blo_snoc_affine _ _ hl']; grind
/-- equal places -/
theorem esy_rep (u : Rat) : ∀ n j : Nat, (esy [1] (List.replicate n u))[j]?.getD 0 = (bin n j : Rat) * u ^ j
  | 0, 0 => by simp [esy, bin]
  | 0, j + 1 => by simp [esy, bin]
  | n + 1, j => by
    have ih := esy_rep u n
    have e : List.replicate (n + 1) u = List.replicate n u ++ [u] := List.replicate_succ'
    have hl : (esy [1] (List.replicate n u)).length = n + 1 := by rw [esy_len]; simp; omega
    by_cases hj : j ≤ n + 1
    · rw [e, esy_snoc, est_getD _ _ _ (by omega), ih]
      cases j with
      | zero => simp [bin_zero]; exact Rat.add_zero 1
      | succ j =>
        have e2 : (0 :: esy [1] (List.replicate n u))[j + 1]?.getD 0 = (esy [1] (List.replicate n u))[j]?.getD 0 := by simp
        rw [e2, ih, bin, Rat.natCast_add, Rat.pow_succ]; grind
    · rw [List.getElem?_eq_none (by rw [esy_len]; simp; omega), bin_gt (by omega)]
      simp
theorem bin_inv {n j : Nat} (h : j ≤ n) : (bin n j : Rat) * Rat.divInt 1 (bin n j : Nat) = 1 := by
  have h1 := bin_pos h
  rw [Rat.divInt_eq_div]
  have hne : ((bin n j : Nat) : Rat) ≠ 0 := by exact_mod_cast (by omega : bin n j ≠ 0)
  have e : (((bin n j : Nat) : Int) : Rat) = ((bin n j : Nat) : Rat) := rfl
  rw [e]
  have h2 : ((1 : Int) : Rat) = 1 := rfl
  rw [h2]
  grind
theorem pe_take_snoc (xs : List Rat) {i : Nat} (hi : i < xs.length) : pe (xs.take (i + 1)) x = pe (xs.take i) x + xs[i]?.getD 0 * x ^ i := by
  rw [List.take_succ, List.getElem?_eq_getElem hi]
  simp only [Option.toList_some, Option.getD_some]
  rw [pe_snoc, List.length_take, Nat.min_eq_left (by omega)]
theorem blo_equal (u : Rat) (n : Nat) (hl : xs.length ≤ n + 1) : blo xs (List.replicate n u) = pe xs u := by
  have key : ∀ i, i ≤ xs.length → bto xs (esy [1] (List.replicate n u)) n i = pe (xs.take i) u := by
    intro i
    induction i with
    | zero => intro _; simp [bto, pe]
    | succ i ih =>
      intro hi
      rw [bto, ih (by omega), esy_rep, pe_take_snoc xs (by omega)]
      have := bin_inv (n := n) (j := i) (by omega)
      grind
  rw [blo, List.length_replicate, key _ (Nat.le_refl _), List.take_length]
end
end PB
set_option Elab.async false
set_option linter.all false
set_option maxRecDepth 100000
set_option maxHeartbeats 1000000
set_option exponentiation.threshold 100000
namespace PB
open PySem
section
variable {k : Nat} {h t : PH} {o : PO} {m n a b c d e : Nat} {x y : Rat} {xs ys us : List Rat}
theorem cut_from {zs : List PV} {c : Nat} : cut zs (some (c : Int)) none = zs.drop c := by
  unfold cut
  rw [HT.sIx_nat]
  have e : HT.sIx zs.length zs.length none = zs.length := rfl
  rw [e]
  by_cases h : c ≤ zs.length
  · rw [Nat.min_eq_left h]
    exact List.take_of_length_le (by simp)
  · rw [Nat.min_eq_right (by omega), List.drop_eq_nil_of_le (Nat.le_refl _), List.drop_eq_nil_of_le (by omega)]; simp
def isT : Res PV → Bool
  | .ok (.bl b) _ => b
  | _ => false
@[simp] theorem isT_ok {p : Bool} : isT (.ok (.bl p) h) = p := rfl
theorem low_lst_frs {n : Nat} {xs : List Rat} : PO.low n (.lst (frs xs)) = true := lows_frs
end
end PB
set_option Elab.async false
set_option linter.all false
set_option maxRecDepth 100000
set_option maxHeartbeats 1000000
set_option exponentiation.threshold 100000
namespace PB
open PySem
section
variable {k : Nat} {h t : PH} {o : PO} {m n a b c d e : Nat} {x y : Rat} {xs ys us : List Rat}
/-! ### products with one denominator -/
def CN (N : Nat) (D : Int) (xs : List Rat) : Prop := ∀ q ∈ xs, ∃ A : Int, q * (D : Rat) = (A : Rat) ∧ A.natAbs ≤ N
theorem CN.mono {N M : Nat} {D : Int} (h : CN N D xs) (hk : N ≤ M) : CN M D xs := fun q hq => let ⟨A, e1, e2⟩ := h q hq; ⟨A, e1, by omega⟩
theorem CN.rep0 {D : Int} (i : Nat) : CN 0 D (List.replicate i 0) := fun q hq => ⟨0, by rw [(List.mem_replicate.mp hq).2, Rat.zero_mul]; rfl, Nat.le_refl _⟩
theorem CN.addAt {N M : Nat} {D : Int} (h1 : CN N D xs) (h2 : CN M D ys) (p : Nat) : CN (N + M) D (addAt xs p ys) := by
  intro q hq
  obtain ⟨i, hi, rfl⟩ := List.mem_iff_getElem.mp hq
  have hlt : i < xs.length := by rw [addAt_len] at hi; exact hi
  have hg := addAt_get xs p ys i xs[i] (List.getElem?_eq_getElem hlt)
  rw [List.getElem?_eq_getElem hi] at hg
  simp only [Option.some.injEq] at hg
  rw [hg]
  obtain ⟨A, q1, q2⟩ := h1 xs[i] (List.getElem_mem hlt)
  split
  · exact ⟨A, q1, by omega⟩
  · cases hy : ys[i - p]? with
    | none => exact ⟨A, q1, by omega⟩
    | some z =>
      obtain ⟨B, r1, r2⟩ := h2 z (List.mem_of_getElem? hy)
      refine ⟨A + B, ?_, by omega⟩
      show (xs[i] + z) * (D : Rat) = _
      rw [Rat.add_mul, q1, r1, Rat.intCast_add]
theorem CN.pmulL {M K : Nat} {D E : Int} : ∀ {xs ys F : List Rat} {p N : Nat}, CN N (D * E) F → CN M D xs → CN K E ys → CN (N + xs.length * (M * K)) (D * E) (pmulL F p xs ys)
  | [], ys, F, p, N, hF, _, _ => by rw [PB.pmulL]; exact hF.mono (by simp)
  | z :: r, ys, F, p, N, hF, h1, h2 => by
    have hs : CN (M * K) (D * E) (ys.map (z * ·)) := fun q hq => by
      obtain ⟨w, hw, rfl⟩ := List.mem_map.mp hq
      obtain ⟨A, q1, q2⟩ := h1 z (by simp)
      obtain ⟨B, r1, r2⟩ := h2 w hw
      refine ⟨A * B, ?_, by rw [Int.natAbs_mul]; exact Nat.mul_le_mul q2 r2⟩
      rw [Rat.intCast_mul, Rat.intCast_mul, ← q1, ← r1]; grind
    have := CN.pmulL (xs := r) (ys := ys) (p := p + 1) (hF.addAt hs p) (fun q hq => h1 q (by simp [hq])) h2
    rw [PB.pmulL]
    refine this.mono ?_
    rw [List.length_cons, Nat.add_mul]; omega
theorem CD.cn (h : CD a d xs) : ∃ D : Int, D ≠ 0 ∧ D.natAbs < 2 ^ d ∧ CN (2 ^ a - 1) D xs := by
  obtain ⟨D, d0, d1, dx⟩ := h
  exact ⟨D, d0, d1, fun q hq => let ⟨A, e1, e2⟩ := dx q hq; ⟨A, e1, by omega⟩⟩
theorem CN.cd {N : Nat} {D : Int} (d0 : D ≠ 0) (d1 : D.natAbs < 2 ^ d) (h : CN N D xs) (hN : N < 2 ^ a) : CD a d xs := ⟨D, d0, d1, fun q hq => let ⟨A, e1, e2⟩ := h q hq; ⟨A, e1, by omega⟩⟩
theorem pow_num {a b c l : Nat} (hl : l ≤ 2 ^ c) : l * ((2 ^ a - 1) * (2 ^ b - 1)) < 2 ^ (a + b + c) := by
  have h1 : (2 ^ a - 1) * (2 ^ b - 1) < 2 ^ a * 2 ^ b := by
    have p1 : 0 < 2 ^ a := Nat.pow_pos (by decide)
    have p2 : 0 < 2 ^ b := Nat.pow_pos (by decide)
    exact Nat.mul_lt_mul'' (by omega) (by omega)
  rw [pow_pow] at h1
  have h2 : l * ((2 ^ a - 1) * (2 ^ b - 1)) ≤ 2 ^ c * ((2 ^ a - 1) * (2 ^ b - 1)) := Nat.mul_le_mul_right _ hl
  have h3 : 2 ^ c * ((2 ^ a - 1) * (2 ^ b - 1)) < 2 ^ c * 2 ^ (a + b) := Nat.mul_lt_mul_of_pos_left h1 (Nat.pow_pos (by decide))
  rw [pow_pow, Nat.add_comm c] at h3
  omega
/-- what stands at each turn -/
theorem CD.parts (h1 : CD a d xs) (h2 : CD b e ys) (hl : xs.length ≤ 2 ^ c) (N p : Nat) : ∀ j, CD (a + b + c) (d + e) (pmulL (List.replicate N 0) p (xs.take j) ys) := by
  intro j
  obtain ⟨D, d0, d1, dx⟩ := h1.cn
  obtain ⟨E, e0, e1, ey⟩ := h2.cn
  have hz : CN 0 (D * E) (List.replicate N 0) := CN.rep0 N
  have := CN.pmulL (p := p) hz (show CN (2 ^ a - 1) D (xs.take j) from fun q hq => dx q (List.mem_of_mem_take hq)) ey
  refine this.cd (Int.mul_ne_zero d0 e0) (natAbs_mul_lt d1 e1) ?_
  rw [Nat.zero_add]
  exact pow_num (Nat.le_trans (by rw [List.length_take]; omega) hl)
theorem CD.pmul (h1 : CD a d xs) (h2 : CD b e ys) (hl : xs.length ≤ 2 ^ c) : CD (a + b + c) (d + e) (pmul xs ys) := by
  unfold PB.pmul
  split
  · exact ⟨1, by decide, by show 1 < 2 ^ (d + e); exact (by
      obtain ⟨D, d0, d1, _⟩ := h1
      have : 1 < 2 ^ d := by omega
      exact Nat.lt_of_lt_of_le this (pow_le_pow (by omega))), fun q hq => by simp at hq⟩
  · have := h1.parts h2 hl (xs.length + ys.length - 1) 0 xs.length
    rwa [List.take_length] at this
theorem pt_outer2 {p : Nat} {c d m : Nat} (hd : AllB d ys) (hz : m + c + d < 4000) : ∀ (xs : List Rat) (i : Nat) (F : List Rat) (h : PH) (s3 s4 s5 s6 : Option PV) (s0 : Option PV), h[p]? = some (.lst (frs F)) → i + xs.length + ys.length ≤ F.length + 1 →
    (∀ j, AllB m (pmulL F i (xs.take j) ys)) → AllB c xs → ∃ s3' s4' s5' s6', frL (asT (callF G (k + 2)) (.cons (.v 3) (.cons (.v 4) .nil))) (evB (callF G (k + 2)) (.cons (.for_ (.cons (.v 5) (.cons (.v 6) .nil)) (.enu (.cons (.var 1) .nil)) ptBody) .nil)) [] (enums (i : Int) (frs xs)) [s0, some (pol ys), some (.ref p), s3, s4, s5, s6] h =
      .ok (.nx [s0, some (pol ys), some (.ref p), s3', s4', s5', s6']) (h.set p (.lst (frs (pmulL F i xs ys))))
  | [], i, F, h, s3, s4, s5, s6, s0, hp, _, _, _ => by
    refine ⟨s3, s4, s5, s6, ?_⟩
    have e : h.set p (.lst (frs F)) = h := by
      obtain ⟨hlt, he⟩ := List.getElem?_eq_some_iff.mp hp
      rw [← he]; exact List.set_getElem_self hlt
    simp [enums, frL, pmulL, e]
  | a :: r, i, F, h, s3, s4, s5, s6, s0, hp, hl, hF, hc => by
    simp only [List.length_cons] at hl
    have ha : Bd c a := hc a (by simp)
    have hF0 : AllB m F := by have := hF 0; simpa [pmulL] using this
    obtain ⟨t5, t6, hin⟩ := pt_inner (k := k) (s0 := s0) (s1 := some (pol ys)) (p := p) (i := i) (a := a) (b := m) (c := c) (d := d) ha (by omega) ys 0 F h s5 s6 hp (by omega) (fun n q _ hq => hF0 q (List.mem_of_getElem? hq)) hd
    have hpl : p < h.length := (List.getElem?_eq_some_iff.mp hp).1
    obtain ⟨u3, u4, u5, u6, ih⟩ := pt_outer2 (p := p) hd hz r (i + 1) (addAt F i (ys.map (a * ·))) (h.set p (.lst (frs (addAt F i (ys.map (a * ·)))))) (some (.int i)) (some (fr a)) t5 t6 s0 (List.getElem?_set_self hpl) (by rw [addAt_len]; omega) (fun j => hF (j + 1)) (fun q hq => hc q (by simp [hq]))
    refine ⟨u3, u4, u5, u6, ?_⟩
    have e1 : ((i + 1 : Nat) : Int) = (i : Int) + 1 := by omega
    rw [frs_cons, enums_cons, frL_cons rfl]
    simp only [Nat.add_zero, Int.natCast_zero] at hin
    simp only [asT_cons, asT_wcons, asTs_cons, asTs_nil, asT_v, bind_ok', List.set_cons_succ, List.set_cons_zero, evB_cons, evB_nil, evS_for, evI_enu, evA_cons, evA_nil, evE_vs, evE_v0, items_pol, leanOf_pol, hin]
    rw [e1] at ih
    rw [ih, List.set_set, pmulL]
theorem p_times_cd {s : Nat} (h1 : CD a d xs) (h2 : CD b e ys) (hlc : xs.length ≤ 2 ^ c) (hs1 : a + b + c ≤ s) (hs2 : d + e ≤ s) (hz : s + (a + d) + (b + e) < 4000) (hl : xs.length + ys.length ≤ 90000) : callF G (k + 3) 13 [pol xs, pol ys] h = .ok (pol (pmul xs ys)) h := by
  rw [callF_eq (f := f_p_times) rfl rfl]
  simp only [f_p_times, c_p_times]
  by_cases g1 : xs = []
  · subst g1
    simp [cmpop, many, pol_nil', eqD_pol, pmul]
  · by_cases g2 : ys = []
    · subst g2
      simp [cmpop, many, pol_nil', eqD_pol, pmul, g1]
    · have l1 := List.length_pos_iff.mpr g1
      have l2 := List.length_pos_iff.mpr g2
      obtain ⟨N, hN⟩ : ∃ N, N = xs.length + ys.length - 1 := ⟨_, rfl⟩
      have eN : (xs.length : Int) + (ys.length : Int) - 1 = (N : Int) := by omega
      obtain ⟨u3, u4, u5, u6, hout⟩ := pt_outer2 (k := k) (p := h.length + 1) (c := a + d) (d := b + e) (m := s) (h2.all (by omega) (by omega)) hz xs 0 (List.replicate N 0) (h ++ [.lst [fr 0], .lst (frs (List.replicate N 0))]) none none none none (some (pol xs)) (by simp) (by simp; omega) (fun j => (h1.parts h2 hlc N 0 j).all hs1 hs2) (h1.all (by omega) (by omega))
      have hM : many = 1000000 := rfl
      have g1' : (-1000 : Int) ≤ (N : Int) ∧ (N : Int) ≤ 1000000 := by omega
      have g2' : N ≤ 1000000 := by omega
      have hpm : pmulL (List.replicate N 0) 0 xs ys = pmul xs ys := by rw [pmul, if_neg (by simp [g1, g2]), hN]
      simp only [hpm, ptBody] at hout
      simp at hout
      have ep : PV.tup (frs (pmul xs ys)) = pol (pmul xs ys) := rfl
      simp [cmpop, hM, pol_nil', eqD_pol, g1, g2, fr0, alloc, binop, eN, g1', g2', flat_one, List.replicate, hout, ep]
end
end PB
set_option Elab.async false
set_option linter.all false
set_option maxRecDepth 100000
set_option maxHeartbeats 1000000
set_option exponentiation.threshold 100000
namespace PB
open PySem
section
variable {k : Nat} {h t : PH} {o : PO} {m n a b c d e : Nat} {x y : Rat} {xs ys us : List Rat}
/-! ### finite sums -/
def sumTo (f : Nat → Rat) : Nat → Rat
  | 0 => 0
  | n + 1 => sumTo f n + f n
theorem sumTo_congr {f g : Nat → Rat} : ∀ {n : Nat}, (∀ i, i < n → f i = g i) → sumTo f n = sumTo g n
  | 0, _ => rfl
  | n + 1, h => by rw [sumTo, sumTo, sumTo_congr fun i hi => h i (by omega), h n (by omega)]
theorem sumTo_add (f g : Nat → Rat) : ∀ n, sumTo (fun i => f i + g i) n = sumTo f n + sumTo g n
  | 0 => by simp [sumTo]; grind
  | n + 1 => by simp only [sumTo, sumTo_add f g n]; grind
theorem sumTo_mul (c : Rat) (f : Nat → Rat) : ∀ n, sumTo (fun i => c * f i) n = c * sumTo f n
  | 0 => by simp [sumTo]
  | n + 1 => by simp only [sumTo, sumTo_mul c f n]; grind
theorem sumTo_succ_left (f : Nat → Rat) : ∀ n, sumTo f (n + 1) = f 0 + sumTo (fun i => f (i + 1)) n
  | 0 => by simp [sumTo]; grind
  | n + 1 => by rw [sumTo, sumTo_succ_left f n, sumTo]; grind
/-! ### rows -/
/-! ### the law's polynomial of a row -/
theorem pmul_len_le (xs ys : List Rat) : (pmul xs ys).length ≤ xs.length + ys.length - 1 := by
  by_cases h1 : xs = []
  · subst h1; simp [pmul]
  · by_cases h2 : ys = []
    · subst h2; simp [pmul]
    · rw [pmul_len h1 h2]; exact Nat.le_refl _
theorem CD.padd (h1 : CD a d xs) (h2 : CD b e ys) : CD (max (a + e) (b + d) + 1) (d + e) (padd xs ys) := by
  obtain ⟨D, d0, d1, dx, dy⟩ := h1.both h2
  refine ⟨D, d0, d1, fun q hq => ?_⟩
  obtain ⟨i, hi, rfl⟩ := List.mem_iff_getElem.mp hq
  have hg := padd_getD xs ys i
  rw [List.getElem?_eq_getElem hi, Option.getD_some] at hg
  rw [hg]
  have hx : ∃ A : Int, xs[i]?.getD 0 * (D : Rat) = (A : Rat) ∧ A.natAbs < 2 ^ (a + e) := by
    cases hz : xs[i]? with
    | none => exact ⟨0, by simp, Nat.pow_pos (by decide)⟩
    | some z => exact dx z (List.mem_of_getElem? hz)
  have hy : ∃ A : Int, ys[i]?.getD 0 * (D : Rat) = (A : Rat) ∧ A.natAbs < 2 ^ (b + d) := by
    cases hz : ys[i]? with
    | none => exact ⟨0, by simp, Nat.pow_pos (by decide)⟩
    | some z => exact dy z (List.mem_of_getElem? hz)
  obtain ⟨A, q1, q2⟩ := hx
  obtain ⟨B, r1, r2⟩ := hy
  refine ⟨A + B, ?_, natAbs_add_lt (lt_pow q2 (by omega)) (lt_pow r2 (by omega))⟩
  rw [Rat.add_mul, q1, r1, Rat.intCast_add]
end
end PB
set_option Elab.async false
set_option linter.all false
set_option maxRecDepth 100000
set_option maxHeartbeats 1000000
set_option exponentiation.threshold 100000
namespace PB
open PySem
section
variable {k : Nat} {h t : PH} {o : PO} {m n a b c d e : Nat} {x y : Rat} {xs ys us : List Rat}
theorem is_interval_ok (hx : Bd m x) (hy : Bd n y) (hz : m + n < 8000) (hlt : x < y) : callF G (k + 3) 84 [.tup [fr x, fr y]] h = .ok (.bl true) h := by
  rw [callF_eq (f := f_is_interval) rfl rfl]
  have h1 := below_ok (k := k + 1) (h := h) hx hy hz
  simp only [f_is_interval, c_is_interval]
  simp [idxop, is_ratio_ok, h1, hlt]
theorem need_interval_ok (hx : Bd m x) (hy : Bd n y) (hz : m + n < 8000) (hlt : x < y) : callF G (k + 4) 88 [.tup [fr x, fr y]] h = .ok .non h := by
  rw [callF_eq (f := f_need_interval) rfl rfl]
  have h1 := is_interval_ok (k := k) (h := h) hx hy hz hlt
  simp only [f_need_interval, c_need_interval]
  simp [h1]
/-! ### the ladder of averages -/
/-- rows that stand in the heap, none of them at p -/
def Rws (H : PH) (p : Nat) : List PV → List (List Rat) → Prop
  | [], [] => True
  | v :: vs, R :: Rs => (∃ q, v = .ref q ∧ q ≠ p ∧ H[q]? = some (.lst (frs R))) ∧ Rws H p vs Rs
  | _, _ => False
theorem Rws.mono {H H' : PH} {p : Nat} (hH : ∀ q c, q ≠ p → H[q]? = some c → H'[q]? = some c) : ∀ {rs : List PV} {Rs : List (List Rat)}, Rws H p rs Rs → Rws H' p rs Rs
  | [], [], _ => trivial
  | _ :: _, _ :: _, ⟨⟨q, e1, e2, e3⟩, hr⟩ => ⟨⟨q, e1, e2, hH q _ e2 e3⟩, Rws.mono hH hr⟩
  | [], _ :: _, h => h.elim
  | _ :: _, [], h => h.elim
theorem Rws.len {H : PH} {p : Nat} : ∀ {rs : List PV} {Rs : List (List Rat)}, Rws H p rs Rs → rs.length = Rs.length
  | [], [], _ => rfl
  | _ :: _, _ :: _, ⟨_, hr⟩ => by rw [List.length_cons, List.length_cons, hr.len]
  | [], _ :: _, h => h.elim
  | _ :: _, [], h => h.elim
theorem Rws.get {H : PH} {p : Nat} : ∀ {rs : List PV} {Rs : List (List Rat)} {i : Nat} {R : List Rat}, Rws H p rs Rs → Rs[i]? = some R → ∃ q, rs[i]? = some (.ref q) ∧ q ≠ p ∧ H[q]? = some (.lst (frs R))
  | [], [], i, R, _, h => by simp at h
  | _ :: _, _ :: _, 0, R, ⟨⟨q, e1, e2, e3⟩, _⟩, h => by simp at h; subst h; subst e1; exact ⟨q, rfl, e2, e3⟩
  | _ :: _, _ :: _, i + 1, R, ⟨_, hr⟩, h => by
    obtain ⟨q, e1, e2⟩ := hr.get (i := i) (by simpa using h)
    exact ⟨q, by simpa using e1, e2⟩
  | [], _ :: _, _, _, h, _ => h.elim
  | _ :: _, [], _, _, h, _ => h.elim
end
end PB
set_option Elab.async false
set_option linter.all false
set_option maxRecDepth 100000
set_option maxHeartbeats 1000000
set_option exponentiation.threshold 100000
namespace PB
open PySem
section
variable {k : Nat} {h t : PH} {o : PO} {m n a b c d e : Nat} {x y : Rat} {xs ys us : List Rat}
theorem cd3 (h : AllB 3 xs) : CD 12 9 xs := ⟨420, by decide, by decide, fun q hq => by
  obtain ⟨h1, h2⟩ := h q hq
  have h3 := q.den_pos
  obtain ⟨c, hc⟩ : ∃ c : Nat, q.den * c = 420 := by
    have : q.den = 1 ∨ q.den = 2 ∨ q.den = 3 ∨ q.den = 4 ∨ q.den = 5 ∨ q.den = 6 ∨ q.den = 7 := by omega
    rcases this with e | e | e | e | e | e | e <;> rw [e]
    · exact ⟨420, rfl⟩
    · exact ⟨210, rfl⟩
    · exact ⟨140, rfl⟩
    · exact ⟨105, rfl⟩
    · exact ⟨84, rfl⟩
    · exact ⟨70, rfl⟩
    · exact ⟨60, rfl⟩
  refine ⟨q.num * c, ?_, ?_⟩
  · have e : (420 : Int) = (q.den : Int) * (c : Int) := by rw [← Int.natCast_mul, hc]; rfl
    rw [e, Rat.intCast_mul, Rat.intCast_mul, ← num_den q]; grind
  · rw [Int.natAbs_mul]
    have hcle : c ≤ 420 := by
      rw [← hc]; exact Nat.le_mul_of_pos_left c h3
    have : q.num.natAbs * (c : Int).natAbs ≤ 8 * 420 := Nat.mul_le_mul (by omega) (by simpa using hcle)
    omega⟩
end
end PB
set_option Elab.async false
set_option linter.all false
set_option maxRecDepth 100000
set_option maxHeartbeats 1000000
set_option exponentiation.threshold 100000
namespace PB
open PySem
section
variable {k : Nat} {h t : PH} {o : PO} {m n a b c d e : Nat} {x y : Rat} {xs ys us : List Rat}
/-- a row built number by number -/
def tbl (f : Nat → Rat) (n : Nat) : List Rat := (List.range' 0 n).map f
theorem tbl_len (f : Nat → Rat) (n : Nat) : (tbl f n).length = n := by simp [tbl]
theorem tbl_get (f : Nat → Rat) {n i : Nat} (h : i < n) : (tbl f n)[i]? = some (f i) := by
  rw [tbl, List.getElem?_map, List.getElem?_range' h]; simp
theorem tbl_getD (f : Nat → Rat) {n i : Nat} (h : i < n) : (tbl f n)[i]?.getD 0 = f i := by rw [tbl_get f h]; rfl
theorem tbl_succ (f : Nat → Rat) (n : Nat) : tbl f (n + 1) = tbl f n ++ [f n] := by
  rw [tbl, tbl, List.range'_concat, List.map_append]; simp
/-! ### one degree more -/
/-! ### one degree less -/
end
end PB
set_option Elab.async false
set_option linter.all false
set_option maxRecDepth 100000
set_option maxHeartbeats 1000000
set_option exponentiation.threshold 100000
namespace PB
open PySem
section
variable {k : Nat} {h t : PH} {o : PO} {m n a b c d e : Nat} {x y : Rat} {xs ys us : List Rat}
/-! ### lowered -/
/-! ### the coefficient of the greatest power -/
/-! ### sizes -/
end
end PB
set_option Elab.async false
set_option linter.all false
set_option maxRecDepth 100000
set_option maxHeartbeats 1000000
set_option exponentiation.threshold 100000
namespace PB
open PySem
section
variable {k : Nat} {h t : PH} {o : PO} {m n a b c d e : Nat} {x y : Rat} {xs ys us : List Rat}
/-! ### slopes -/
theorem tbl_frs (f : Nat → Rat) (n : Nat) : (List.range' 0 n).map (fun j => fr (f j)) = frs (tbl f n) := by rw [tbl, frs, List.map_map]; rfl
/-! ### products -/
theorem sumTo_zero {f : Nat → Rat} : ∀ {n : Nat}, (∀ i, i < n → f i = 0) → sumTo f n = 0
  | 0, _ => rfl
  | n + 1, h => by rw [sumTo, sumTo_zero fun i hi => h i (by omega), h n (by omega)]; grind
theorem sumTo_split (f : Nat → Rat) (a : Nat) : ∀ b, sumTo f (a + b) = sumTo f a + sumTo (fun j => f (a + j)) b
  | 0 => by simp [sumTo]; grind
  | b + 1 => by rw [← Nat.add_assoc, sumTo, sumTo_split f a b, sumTo]; grind
theorem sumTo_window {f : Nat → Rat} {N lo cnt : Nat} (h : lo + cnt ≤ N) (h1 : ∀ i, i < lo → f i = 0) (h2 : ∀ i, lo + cnt ≤ i → i < N → f i = 0) : sumTo f N = sumTo (fun j => f (lo + j)) cnt := by
  obtain ⟨r, rfl⟩ : ∃ r, N = lo + (cnt + r) := ⟨N - lo - cnt, by omega⟩
  rw [sumTo_split, sumTo_zero h1, sumTo_split, sumTo_zero (n := r) fun i hi => h2 _ (by omega) (by omega)]; grind
theorem rpow_add (x : Rat) (a : Nat) : ∀ b : Nat, x ^ (a + b) = x ^ a * x ^ b
  | 0 => by rw [Nat.add_zero, Rat.pow_zero, Rat.mul_one]
  | b + 1 => by rw [← Nat.add_assoc, Rat.pow_succ, rpow_add x a b, Rat.pow_succ]; grind
/-! ### slopes of polynomials -/
end
end PB
set_option Elab.async false
set_option linter.all false
set_option maxRecDepth 100000
set_option maxHeartbeats 1000000
set_option exponentiation.threshold 100000
namespace PB
open PySem
section
variable {k : Nat} {h t : PH} {o : PO} {m n a b c d e : Nat} {x y : Rat} {xs ys us : List Rat}
end
end PB
set_option Elab.async false
set_option linter.all false
set_option maxRecDepth 100000
set_option maxHeartbeats 1000000
set_option exponentiation.threshold 100000
namespace PB
open PySem
section
variable {k : Nat} {h t : PH} {o : PO} {m n a b c d e : Nat} {x y : Rat} {xs ys us : List Rat}
end
end PB
set_option Elab.async false
set_option linter.all false
set_option maxRecDepth 100000
set_option maxHeartbeats 1000000
set_option exponentiation.threshold 100000
namespace PB
open PySem
section
variable {k : Nat} {h t : PH} {o : PO} {m n a b c d e : Nat} {x y : Rat} {xs ys us P : List Rat}
/-! ### polynomials moved -/
/-! ### control rows -/
def crow (P : List Rat) (d : Nat) (lo hi : Rat) : List Rat := tbl (fun j => blo P (List.replicate (d - j) lo ++ List.replicate j hi)) (d + 1)
theorem crow_len (P : List Rat) (d : Nat) (lo hi : Rat) : (crow P d lo hi).length = d + 1 := tbl_len _ _
theorem compL_grow {F : PV → PH → Res (Option PV)} (g : Nat → PV) : ∀ (n a : Nat) (h : PH), (∀ (j : Nat) (t : PH), a ≤ j → j < a + n → ∃ t', F (.int (j : Nat)) (h ++ t) = .ok (some (g j)) (h ++ t ++ t')) → ∃ t, compL F [] (range (a : Nat) n 1) h = .ok ((List.range' a n).map g) (h ++ t)
  | 0, a, h, _ => ⟨[], by simp [range, compL]⟩
  | n + 1, a, h, hF => by
    obtain ⟨t1, e1⟩ := hF a [] (Nat.le_refl _) (by omega)
    rw [List.append_nil] at e1
    obtain ⟨t2, e2⟩ := compL_grow g n (a + 1) (h ++ t1) (fun j t h1 h2 => by
      obtain ⟨t', e⟩ := hF j (t1 ++ t) (by omega) (by omega)
      exact ⟨t', by rw [List.append_assoc h t1 t]; exact e⟩)
    refine ⟨t1 ++ t2, ?_⟩
    have ec : ((a + 1 : Nat) : Int) = (a : Int) + 1 := by omega
    rw [ec] at e2
    rw [range_succ, compL, if_pos leans_nil, e1, bind_ok', e2, bind_ok', List.range'_succ, List.map_cons, List.append_assoc]
theorem control_row_ok {lo hi : Rat} {M : Nat} (hb1 : 1 ≤ b) (hlo : Bd b lo) (hhi : Bd b hi) (hc : AllB c P) (hl : P.length ≤ d + 1) (hd : d ≤ 40) (hM : d * (b + 1) + 1 ≤ M) (hz : (P.length + 2) * (c + M + d + 2) + b < 7900) :
    callF G (k + 5) 87 [pol P, .int (d : Nat), .tup [fr lo, fr hi]] h = .ok (pol (crow P d lo hi)) h := by
  rw [callF_eq (f := f_control_row) rfl rfl]
  obtain ⟨t, e1⟩ := compL_grow (h := h) (F := compF (callF G (k + 4)) (.call 78 (.cons (.var 0) (.cons (.bin .add (.bin .mul (.lst (.cons (.var 3) .nil)) (.bin .sub (.var 1) (.var 5))) (.bin .mul (.lst (.cons (.var 4) .nil)) (.var 5))) .nil))) [5] (.v 5) .none [some (pol P), some (.int (d : Nat)), some (.tup [fr lo, fr hi]), some (fr lo), some (fr hi), none]) (fun j => fr (blo P (List.replicate (d - j) lo ++ List.replicate j hi))) (d + 1) 0 (fun j t j1 j2 => by
    generalize hH : h ++ t = H
    have hML : many = 1000000 := rfl
    have ed : (d : Int) - (j : Int) = ((d - j : Nat) : Int) := by omega
    have g1 : (-1000 : Int) ≤ ((d - j : Nat) : Int) ∧ ((d - j : Nat) : Int) ≤ 1000000 := by omega
    have g2 : (-1000 : Int) ≤ (j : Int) ∧ (j : Int) ≤ 1000000 := by omega
    have g3 : d - j ≤ 1000000 := by omega
    have g4 : j ≤ 1000000 := by omega
    have g5 : d - j + j ≤ 1000000 := by omega
    generalize hdj : d - j = dj at *
    let T : PH := [.lst [fr lo], .lst (frs (List.replicate dj lo)), .lst [fr hi], .lst (frs (List.replicate j hi)), .lst (frs (List.replicate dj lo ++ List.replicate j hi))]
    have hlen : (List.replicate dj lo ++ List.replicate j hi).length = d := by simp; omega
    have c1 := blossom_of_ok (k := k) (h := H ++ T) (v := .ref (H.length + 4)) (us := List.replicate dj lo ++ List.replicate j hi) (b := b) (c := c) (xs := P) (M := M) (by simp [T]) (fun q hq => by
      rcases List.mem_append.mp hq with hq | hq
      · rw [(List.mem_replicate.mp hq).2]; exact hlo
      · rw [(List.mem_replicate.mp hq).2]; exact hhi) hb1 hc (by omega) (by omega) (by rw [hlen]; exact hM) (by rw [hlen]; exact hz)
    refine ⟨T, ?_⟩
    have hL : H.length + 1 + 1 + 1 + 1 = H.length + 4 := rfl
    have q1 : ∀ (X : PH), (H ++ X)[H.length + 1]? = X[1]? := fun X => get_app (i := 1)
    have q3 : ∀ (X : PH), (H ++ X)[H.length + 2 + 1]? = X[3]? := fun X => get_app (i := 3)
    have q2 : ∀ (X : PH), (H ++ X)[H.length + 1 + 1]? = X[2]? := fun X => get_app (i := 2)
    simp only [T] at c1 ⊢
    simp [compF, wipe, hML, alloc, ed, g1, g2, g3, g4, g5, flat_one, List.append_assoc, q1, q2, q3, c1, -getElem?_pos, List.getElem?_cons_zero, List.getElem?_cons_succ])
  rw [tbl_frs] at e1
  have hML : many = 1000000 := rfl
  have g : (-1000000 : Int) ≤ (d : Int) + 1 ∧ (d : Int) + 1 ≤ 1000000 := by omega
  have gn : ((d : Int) + 1).toNat = d + 1 := by omega
  have gl : d + 1 ≤ 1000000 := by omega
  have ep : PV.tup (frs (crow P d lo hi)) = pol (crow P d lo hi) := rfl
  have ec : tbl (fun j => blo P (List.replicate (d - j) lo ++ List.replicate j hi)) (d + 1) = crow P d lo hi := rfl
  rw [ec] at e1
  simp only [Int.natCast_zero] at e1
  simp only [f_control_row, c_control_row]
  simp [List.replicate, bigR, g, gn, gl, range_len', hML, e1, alloc, ep]
theorem row_of_ok {lo hi : Rat} {M : Nat} (hb1 : 1 ≤ b) (hlo : Bd b lo) (hhi : Bd b hi) (hlt : lo < hi) (hbz : b < 3000) (hc : AllB c P) (hC : Can P) (hl : P.length ≤ d + 1) (hd : d ≤ 8) (hM : d * (b + 1) + 1 ≤ M) (hz : (P.length + 2) * (c + M + d + 2) + b < 7900) :
    callF G (k + 6) 95 [pol P, .int (d : Nat), .tup [fr lo, fr hi]] h = .ok (pol (crow P d lo hi)) h := by
  rw [callF_eq (f := f_row_of) rfl rfl]
  have e1 := need_poly_ok (k := k + 1) (h := h) hC (by omega)
  have e2 := need_degree_ok (k := k + 2) (h := h) (xs := P) (d := d) hl hd
  have e3 := need_interval_ok (k := k + 1) (h := h) hlo hhi (by omega) hlt
  have e4 := control_row_ok (k := k) (h := h) hb1 hlo hhi hc hl (by omega) hM hz
  simp only [f_row_of, c_row_of]
  simp [e1, e2, e3, e4]
end
end PB
set_option Elab.async false
set_option linter.all false
set_option maxRecDepth 100000
set_option maxHeartbeats 1000000
set_option exponentiation.threshold 100000
namespace PB
open PySem
section
variable {k : Nat} {h t : PH} {o : PO} {m n a b c d e : Nat} {x y : Rat} {xs ys us P : List Rat}
/-! ### rows of blossoms -/
/-! ### both parts of a row -/
theorem Rws.app {H : PH} {p : Nat} : ∀ {rs qs : List PV} {Rs Qs : List (List Rat)}, Rws H p rs Rs → Rws H p qs Qs → Rws H p (rs ++ qs) (Rs ++ Qs)
  | [], _, [], _, _, h2 => h2
  | _ :: _, _, _ :: _, _, ⟨h1, hr⟩, h2 => ⟨h1, Rws.app hr h2⟩
  | [], _, _ :: _, _, h, _ => h.elim
  | _ :: _, _, [], _, h, _ => h.elim
theorem Rws.rev {H : PH} {p : Nat} : ∀ {rs : List PV} {Rs : List (List Rat)}, Rws H p rs Rs → Rws H p rs.reverse Rs.reverse
  | [], [], _ => trivial
  | _ :: _, _ :: _, ⟨h1, hr⟩ => by
    rw [List.reverse_cons, List.reverse_cons]
    exact (Rws.rev hr).app ⟨h1, trivial⟩
  | [], _ :: _, h => h.elim
  | _ :: _, [], h => h.elim
end
end PB
set_option Elab.async false
set_option linter.all false
set_option maxRecDepth 100000
set_option maxHeartbeats 1000000
set_option exponentiation.threshold 100000
namespace PB
open PySem
section
variable {k : Nat} {h t : PH} {o : PO} {m n a b c d e : Nat} {x y : Rat} {xs ys us P : List Rat}
/-! ### changes of signs -/
def adj {α : Type} [DecidableEq α] : List α → Nat
  | [] => 0
  | [_] => 0
  | a :: b :: r => (if a = b then 0 else 1) + adj (b :: r)
def sgb (xs : List Rat) : List Bool := xs.filterMap fun q => if q = 0 then none else some (decide (0 < q))
def V (xs : List Rat) : Nat := adj (sgb xs)
/-! ### variation -/
def W (s : Option Bool) (xs : List Rat) : Nat := adj (s.toList ++ sgb xs)
end
end PB
set_option Elab.async false
set_option linter.all false
set_option maxRecDepth 100000
set_option maxHeartbeats 1000000
set_option exponentiation.threshold 100000
namespace PB
open PySem
section
variable {k : Nat} {h t : PH} {o : PO} {m n a b c d e : Nat} {x y : Rat} {xs ys us P : List Rat}
/-! ### a corner cut -/
end
end PB
set_option Elab.async false
set_option linter.all false
set_option maxRecDepth 100000
set_option maxHeartbeats 1000000
set_option exponentiation.threshold 100000
namespace PB
open PySem
section
variable {k : Nat} {h t : PH} {o : PO} {m n a b c d e : Nat} {x y : Rat} {xs ys us P : List Rat}
/-! ### all choices of places -/
/-! ### one place left out -/
/-! ### the walk -/
theorem low_mono : ∀ (n m : Nat), n ≤ m → ∀ v : PV, PV.low n v = true → PV.low m v = true := by
  intro n m hnm
  have key : ∀ (v : PV), (PV.low n v = true → PV.low m v = true) := fun v => PV.rec
    (motive_1 := fun v => PV.low n v = true → PV.low m v = true) (motive_2 := fun xs => PV.lows n xs = true → PV.lows m xs = true)
    (fun h => h) (fun _ h => h) (fun _ h => h) (fun _ h => h) (fun xs ih h => by simp only [PV.low] at h ⊢; exact ih h) (fun xs ih h => by simp only [PV.low] at h ⊢; exact ih h) (fun xs ih h => by simp only [PV.low] at h ⊢; exact ih h)
    (fun k h => by simp only [PV.low, decide_eq_true_eq] at h ⊢; omega) (fun _ h => h)
    (fun h => h) (fun x xs i1 i2 h => by simp only [PV.lows, Bool.and_eq_true] at h ⊢; exact ⟨i1 h.1, i2 h.2⟩) v
  exact key
theorem lows_mono {n m : Nat} (h : n ≤ m) : ∀ xs : List PV, PV.lows n xs = true → PV.lows m xs = true
  | [], _ => by simp [PV.lows]
  | x :: r, hx => by
    simp only [PV.lows, Bool.and_eq_true] at hx ⊢
    exact ⟨low_mono n m h x hx.1, lows_mono h r hx.2⟩
theorem po_mono {n m : Nat} (h : n ≤ m) (c : PO) (hc : PO.low n c = true) : PO.low m c = true := by
  cases c with
  | lst xs => exact lows_mono h xs hc
theorem wf_of {t : PH} {N : Nat} (hN : N ≤ t.length + 1) (h : ∀ c ∈ t, PO.low N c = true) : Wf t := by
  rw [Wf, List.all_eq_true]
  exact fun c hc => po_mono hN c (h c hc)
end
end PB
set_option Elab.async false
set_option linter.all false
set_option maxRecDepth 100000
set_option maxHeartbeats 1000000
set_option exponentiation.threshold 100000
namespace PB
open PySem
section
variable {k : Nat} {h t : PH} {o : PO} {m n a b c d e u v : Nat} {x y : Rat} {xs ys us P : List Rat}
/-! ### division -/
/-! ### sizes -/
/-! ### the walk -/
end
end PB
set_option Elab.async false
set_option linter.all false
set_option maxRecDepth 100000
set_option maxHeartbeats 1000000
set_option exponentiation.threshold 100000
namespace PB
open PySem
section
variable {k : Nat} {h t : PH} {o : PO} {m n a b c d e u v : Nat} {x y : Rat} {xs ys us P : List Rat}
/-! ### what divides -/
def Dv (g xs : List Rat) : Prop := ∃ q : List Rat, ∀ x, pe xs x = pe q x * pe g x
theorem Dv.refl (g : List Rat) : Dv g g := ⟨[1], fun x => by simp [pe]; grind⟩
theorem Dv.nil (g : List Rat) : Dv g [] := ⟨[], fun x => by simp [pe]⟩
theorem Dv.trans {a b c : List Rat} (h1 : Dv a b) (h2 : Dv b c) : Dv a c := by
  obtain ⟨p, hp⟩ := h1
  obtain ⟨q, hq⟩ := h2
  exact ⟨pmul q p, fun x => by rw [hq, hp, pe_pmul]; grind⟩
end
end PB
set_option Elab.async false
set_option linter.all false
set_option maxRecDepth 100000
set_option maxHeartbeats 1000000
set_option exponentiation.threshold 100000
namespace PB
open PySem
section
variable {k : Nat} {h t : PH} {o : PO} {m n a b c d e u v : Nat} {x y : Rat} {xs ys us P : List Rat}
/-! ### the greatest common divisor -/
end
end PB
set_option Elab.async false
set_option linter.all false
set_option maxRecDepth 100000
set_option maxHeartbeats 1000000
set_option exponentiation.threshold 100000
namespace PB
open PySem
section
variable {k : Nat} {h t : PH} {o : PO} {m n a b c d e u v : Nat} {x y : Rat} {xs ys us P : List Rat}
/-! ### sharper sizes -/
/-! ### one of another, a line -/
/-! ### the program's polynomial of a row -/
end
end PB
set_option Elab.async false
set_option linter.all false
set_option maxRecDepth 100000
set_option maxHeartbeats 1000000
set_option exponentiation.threshold 100000
namespace PB
open PySem
section
variable {k : Nat} {h t : PH} {o : PO} {m n a b c d e u v : Nat} {x y : Rat} {xs ys us P : List Rat}
/-! ### sizes of rows of blossoms -/
/-! ### polynomials of rows on intervals -/
def lin (lo hi : Rat) : List Rat := trim [(0 - lo) / (hi - lo), 1 / (hi - lo)]
/-! ### the law's intervals -/
end
end PB
set_option Elab.async false
set_option linter.all false
set_option maxRecDepth 100000
set_option maxHeartbeats 1000000
set_option exponentiation.threshold 100000
namespace PB
open PySem
section
variable {k : Nat} {h t : PH} {o : PO} {m n a b c d e : Nat} {x y : Rat} {xs ys us T : List Rat}
/-! ### splines: knots, basis functions -/
theorem kp_new {u : PH} : keepP h (h ++ u) (.ref h.length) = h ++ u := by
  unfold keepP
  rw [if_neg (by simp [PV.low])]
theorem idx_pol {i : Nat} (hi : i < T.length) : idxop (pol T) (.int (i : Nat)) h = .ok (fr (T.getD i 0)) h := by
  have e : T.getD i 0 = T[i] := by simp [List.getD, hi]
  rw [e]
  simp only [idxop, items_pol, atI_nn (show (0 : Int) ≤ (i : Nat) by omega), Int.toNat_natCast, frs_get, List.getElem?_eq_getElem hi, Option.map_some]
/-- knots of a degree: they rise, at most d + 1 of them alike -/
def Kn (d : Nat) (T : List Rat) : Prop := (∀ i, i + 1 < T.length → T.getD i 0 ≤ T.getD (i + 1) 0) ∧ ∀ i, i + d + 1 < T.length → T.getD i 0 < T.getD (i + d + 1) 0
theorem faults_of_ok (hT : AllB b T) (hb : b < 3000) (hk : Kn d T) (h1 : d + 2 ≤ T.length) (h2 : T.length ≤ 16) : callF G (k + 3) 145 [.int (d : Nat), pol T] h = .ok (.ref h.length) (h ++ [.lst []]) := by
  rw [callF_eq (f := f_faults_of) rfl rfl]
  obtain ⟨s', h', e1, s1, s2, rfl, rfl⟩ := frL_enum (g := asT (callF G (k + 2)) (.cons (.v 2) (.cons (.v 3) .nil))) (b := evB (callF G (k + 2)) (.cons (.ifs (.or (.not (.call 1 (.cons (.var 3) .nil))) (.and (.cmp .gt (.var 2) (.con (.int 0))) (.call 49 (.cons (.var 3) (.cons (.idx (.var 1) (.bin .sub (.var 2) (.con (.int 1)))) .nil))))) (.cons (.ret (.lst (.cons (.var 2) .nil))) .nil) .nil) (.cons (.ifs (.and (.cmp .gt (.var 2) (.var 0)) (.cmp .eq (.idx (.var 1) (.bin .sub (.bin .sub (.var 2) (.var 0)) (.con (.int 1)))) (.var 3))) (.cons (.ret (.lst (.cons (.var 2) .nil))) .nil) .nil) .nil))) fr
    (fun i s h' => ∃ s1 s2, s = [some (.int (d : Nat)), some (pol T), s1, s2] ∧ h' = h) T (s := [some (.int (d : Nat)), some (pol T), none, none]) (h := h)
    (fun i a s h' hi ⟨s1, s2, r1, r2⟩ => by
      subst r1; subst r2
      have hlt : i < T.length := (List.getElem?_eq_some_iff.mp hi).1
      have ha : a = T.getD i 0 := by simp [List.getD, hi]
      have hba : Bd b a := hT a (List.mem_of_getElem? hi)
      have hg : ∀ j, j < T.length → Bd b (T.getD j 0) := fun j hj => by simp only [List.getD, List.getElem?_eq_getElem hj, Option.getD_some]; exact hT _ (List.getElem_mem hj)
      refine ⟨_, h', ?_, some (.int (i : Nat)), some (fr a), rfl, rfl⟩
      have p1 : 0 < i → idxop (pol T) (.int ((i : Int) - 1)) h' = .ok (fr (T.getD (i - 1) 0)) h' := fun z => by
        have e : (i : Int) - 1 = ((i - 1 : Nat) : Int) := by omega
        rw [e]; exact idx_pol (by omega)
      have p2 : 0 < i → callF G (k + 2) 49 [fr a, fr (T.getD (i - 1) 0)] h' = .ok (.bl false) h' := fun z => by
        have hle := hk.1 (i - 1) (by omega)
        have e : i - 1 + 1 = i := by omega
        rw [e, ← ha] at hle
        rw [below_ok (k := k + 1) (h := h') hba (hg _ (by omega)) (by omega)]
        rw [decide_eq_false (Rat.not_lt.mpr hle)]
      have p3 : d < i → idxop (pol T) (.int ((i : Int) - (d : Int) - 1)) h' = .ok (fr (T.getD (i - d - 1) 0)) h' := fun z => by
        have e : (i : Int) - (d : Int) - 1 = ((i - d - 1 : Nat) : Int) := by omega
        rw [e]; exact idx_pol (by omega)
      have p4 : d < i → T.getD (i - d - 1) 0 ≠ a := fun z => by
        have hlt2 := hk.2 (i - d - 1) (by omega)
        have e : i - d - 1 + d + 1 = i := by omega
        rw [e, ← ha] at hlt2
        exact Rat.ne_of_lt hlt2
      generalize T.getD (i - 1) 0 = u1 at *
      generalize T.getD (i - d - 1) 0 = u2 at *
      by_cases z : 0 < i
      · by_cases z2 : d < i
        · simp [is_ratio_ok, z, z2, p1 z, p2 z, p3 z2, eqD_fr, p4 z2]
        · simp [is_ratio_ok, z, z2, p1 z, p2 z]
      · have z2 : ¬ d < i := by omega
        simp [is_ratio_ok, z, z2]) ⟨none, none, rfl, rfl⟩
  rw [← enums0_frs] at e1
  have g1 : ((d : Int) + 2) ≤ (T.length : Int) := by omega
  have g2 : (T.length : Int) ≤ 16 := by omega
  have hM : many = 1000000 := rfl
  simp only [f_faults_of, c_faults_of]
  simp [g1, g2, List.replicate, e1, alloc, hM]
  exact kp_new
theorem need_knots_ok (hT : AllB b T) (hb : b < 3000) (hk : Kn d T) (h1 : d + 2 ≤ T.length) (h2 : T.length ≤ 16) : callF G (k + 4) 148 [.int (d : Nat), pol T] h = .ok .non h := by
  rw [callF_eq (f := f_need_knots) rfl rfl]
  have e1 := faults_of_ok (k := k) (h := h) hT hb hk h1 h2
  have e2 : eqD (h ++ [.lst []] ++ [.lst []]) (.ref h.length) (.ref (h ++ [PO.lst []]).length) = some true := by
    rw [eqD_lst (xs := []) (ys := []) (by simp) (by simp) rfl rfl]; rfl
  have hM : many = 1000000 := rfl
  simp only [f_need_knots, c_need_knots]
  simp [e1, alloc, hM, List.replicate] at e2 ⊢
  simp [e2]
/-- the basis function, as it is computed -/
def bN (T : List Rat) (x : Rat) : Nat → Nat → Rat
  | 0, i => if ¬ x < T.getD i 0 ∧ x < T.getD (i + 1) 0 then 1 else 0
  | d + 1, i => (if T.getD i 0 ≠ T.getD (i + (d + 1)) 0 then (x - T.getD i 0) / (T.getD (i + (d + 1)) 0 - T.getD i 0) * bN T x d i else 0) +
      (if T.getD (i + 1) 0 ≠ T.getD (i + (d + 1) + 1) 0 then (T.getD (i + (d + 1) + 1) 0 - x) / (T.getD (i + (d + 1) + 1) 0 - T.getD (i + 1) 0) * bN T x d (i + 1) else 0)
theorem bd0' {n : Nat} (h : 1 ≤ n) : Bd n 0 := (bd0 0).mono h
theorem getD_bd (hT : AllB b T) (hb : 1 ≤ b) (i : Nat) : Bd b (T.getD i 0) := by
  by_cases hi : i < T.length
  · simp only [List.getD, List.getElem?_eq_getElem hi, Option.getD_some]; exact hT _ (List.getElem_mem hi)
  · simp only [List.getD, List.getElem?_eq_none (show T.length ≤ i by omega), Option.getD_none]; exact bd0' hb
end
end PB
set_option Elab.async false
set_option linter.all false
set_option maxRecDepth 100000
set_option maxHeartbeats 1000000
set_option exponentiation.threshold 100000
namespace PB
open PySem
section
variable {k : Nat} {h t : PH} {o : PO} {m n a b c d e : Nat} {x y : Rat} {xs ys us T : List Rat}
/-! ### basis functions as divided differences -/
/-! ### sizes -/
def PK (j : Nat) (q : Rat) : Prop := ∃ N : Int, q * 2520 = N ∧ N.natAbs ≤ 17640 + 15120 * j
theorem PK.mono {i j : Nat} {q : Rat} (h : PK i q) (hij : i ≤ j) : PK j q := by
  obtain ⟨N, h1, h2⟩ := h
  exact ⟨N, h1, by have := Nat.mul_le_mul_left 15120 hij; omega⟩
theorem PK.of {q : Rat} (h : Bd 3 q) : PK 0 q := by
  obtain ⟨h1, h2⟩ := h
  have h3 := q.den_pos
  obtain ⟨c, hc⟩ : ∃ c : Nat, q.den * c = 2520 := by
    have : q.den = 1 ∨ q.den = 2 ∨ q.den = 3 ∨ q.den = 4 ∨ q.den = 5 ∨ q.den = 6 ∨ q.den = 7 := by omega
    rcases this with e | e | e | e | e | e | e <;> rw [e]
    · exact ⟨2520, rfl⟩
    · exact ⟨1260, rfl⟩
    · exact ⟨840, rfl⟩
    · exact ⟨630, rfl⟩
    · exact ⟨504, rfl⟩
    · exact ⟨420, rfl⟩
    · exact ⟨360, rfl⟩
  refine ⟨q.num * c, ?_, ?_⟩
  · have e : ((2520 : Int) : Rat) = ((q.den : Int) : Rat) * ((c : Int) : Rat) := by rw [← Rat.intCast_mul, ← Int.natCast_mul, hc]; rfl
    have e' : (2520 : Rat) = ((q.den : Int) : Rat) * ((c : Int) : Rat) := e
    rw [e', Rat.intCast_mul, ← num_den q]; grind
  · rw [Int.natAbs_mul]
    have hcle : c ≤ 2520 := by
      rw [← hc]; exact Nat.le_mul_of_pos_left c h3
    have : q.num.natAbs * (c : Int).natAbs ≤ 7 * 2520 := Nat.mul_le_mul (by omega) (by simpa using hcle)
    omega
theorem PK.step {j : Nat} {q : Rat} (h : PK j q) {r s : Int} (r0 : 0 ≤ r) (r1 : r < 6) (hs : s = 1 ∨ s = 2 ∨ s = 3) : PK (j + 1) (q + Rat.divInt (1 + r) s) := by
  obtain ⟨N, h1, h2⟩ := h
  have key : ∀ c : Int, c * s = 2520 → c.natAbs ≤ 2520 → PK (j + 1) (q + Rat.divInt (1 + r) s) := fun c hc hcl => by
    refine ⟨N + (1 + r) * c, ?_, ?_⟩
    · have hs0 : (s : Rat) ≠ 0 := by rcases hs with e | e | e <;> subst e <;> decide
      have e : (2520 : Rat) = (c : Rat) * (s : Rat) := by rw [← Rat.intCast_mul, hc]; rfl
      simp only [Rat.divInt_eq_div, Rat.intCast_add, Rat.intCast_mul, ← h1, Rat.div_def]
      have hi : (s : Rat) * (s : Rat)⁻¹ = 1 := Rat.mul_inv_cancel _ hs0
      rw [e]; grind
    · have : (1 + r).natAbs * c.natAbs ≤ 6 * 2520 := Nat.mul_le_mul (by omega) hcl
      rw [← Int.natAbs_mul] at this
      omega
  rcases hs with e | e | e <;> subst e
  · exact key 2520 (by decide) (by decide)
  · exact key 1260 (by decide) (by decide)
  · exact key 840 (by decide) (by decide)
theorem PK.bd {j : Nat} {q : Rat} (h : PK j q) (hj : j ≤ 5) : Bd 17 q := by
  obtain ⟨N, h1, h2⟩ := h
  have : CD 17 12 [q] := ⟨2520, by decide, by decide, fun z hz => by
    rw [List.mem_singleton] at hz; subst hz
    exact ⟨N, h1, by omega⟩⟩
  exact this.all (n := 17) (by decide) (by decide) q (by simp)
/-! ### the law -/
theorem idx_lst {p i : Nat} (hp : h[p]? = some (.lst (frs T))) (hi : i < T.length) : idxop (.ref p) (.int (i : Nat)) h = .ok (fr (T.getD i 0)) h := by
  have e : T.getD i 0 = T[i] := by simp [List.getD, hi]
  rw [e]
  have hit : items h (.ref p) = some (frs T) := by simp only [items, hp]
  simp only [idxop, hit, atI_nn (show (0 : Int) ≤ (i : Nat) by omega), Int.toNat_natCast, frs_get, List.getElem?_eq_getElem hi, Option.map_some]
section
variable {v0 v1 v2 v5 v6 v9 v11 s3 s4 s10 s11 : Option PV} {junk : PH}
end
end
end PB
set_option Elab.async false
set_option linter.all false
set_option maxRecDepth 100000
set_option maxHeartbeats 1000000
set_option exponentiation.threshold 100000
namespace PB
open PySem
section
variable {k : Nat} {h t u : PH} {o : PO} {m n a b c d e p : Nat} {x y q : Rat} {xs ys us T : List Rat}
/-! ### sorting by insertion -/
def insN (q : Rat) : List Rat → Nat
  | [] => 0
  | z :: r => if q < z then 0 else insN q r + 1
def ins (q : Rat) : List Rat → List Rat
  | [] => [q]
  | z :: r => if q < z then q :: z :: r else z :: ins q r
theorem ins_eq (q : Rat) : ∀ xs, ins q xs = xs.take (insN q xs) ++ [q] ++ xs.drop (insN q xs)
  | [] => rfl
  | z :: r => by
    simp only [ins, insN]
    split
    · rfl
    · rw [ins_eq q r]; rfl
theorem insN_le (q : Rat) : ∀ xs, insN q xs ≤ xs.length
  | [] => Nat.le_refl _
  | z :: r => by simp only [insN]; split; · omega
                 · have := insN_le q r; simp; omega
theorem insN_lt (q : Rat) : ∀ xs i, i < insN q xs → ¬ q < xs.getD i 0
  | [], i, hi => by simp [insN] at hi
  | z :: r, i, hi => by
    simp only [insN] at hi
    split at hi
    · omega
    · rename_i hz
      cases i with
      | zero => simpa using hz
      | succ i => simpa using insN_lt q r i (by omega)
theorem insN_at (q : Rat) : ∀ xs, insN q xs < xs.length → q < xs.getD (insN q xs) 0
  | [], hi => by simp [insN] at hi
  | z :: r, hi => by
    simp only [insN] at hi ⊢
    split
    · rename_i hz; simpa using hz
    · rename_i hz
      rw [if_neg hz] at hi
      simpa using insN_at q r (by simpa using hi)
theorem ins_perm (q : Rat) : ∀ xs, (ins q xs).Perm (q :: xs)
  | [] => List.Perm.refl _
  | z :: r => by
    simp only [ins]
    split
    · exact List.Perm.refl _
    · exact ((ins_perm q r).cons z).trans (List.Perm.swap q z r)
theorem ins_sorted (q : Rat) : ∀ {xs : List Rat}, xs.Pairwise (· ≤ ·) → (ins q xs).Pairwise (· ≤ ·)
  | [], _ => by simp [ins]
  | z :: r, h => by
    simp only [ins]
    rw [List.pairwise_cons] at h
    split
    · rename_i hz
      rw [List.pairwise_cons, List.pairwise_cons]
      refine ⟨fun a ha => ?_, h⟩
      rcases List.mem_cons.mp ha with rfl | ha
      · exact Rat.le_of_lt hz
      · exact Rat.le_trans (Rat.le_of_lt hz) (h.1 a ha)
    · rename_i hz
      rw [List.pairwise_cons]
      refine ⟨fun a ha => ?_, ins_sorted q h.2⟩
      rcases List.mem_cons.mp ((ins_perm q r).mem_iff.mp ha) with rfl | ha
      · exact Rat.not_lt.mp hz
      · exact h.1 a ha
def isort (xs : List Rat) : List Rat := xs.foldl (fun acc q => ins q acc) []
theorem isort_snoc (xs : List Rat) (q : Rat) : isort (xs ++ [q]) = ins q (isort xs) := by simp [isort]
theorem isort_perm (xs : List Rat) : (isort xs).Perm xs := by
  have : ∀ (ys acc : List Rat), (ys.foldl (fun acc q => ins q acc) acc).Perm (acc ++ ys) := by
    intro ys
    induction ys with
    | nil => intro acc; simp
    | cons y ys ih =>
      intro acc
      refine (ih _).trans ?_
      refine ((ins_perm y acc).append_right ys).trans ?_
      exact List.perm_middle.symm
  simpa [isort] using this xs []
theorem isort_sorted (xs : List Rat) : (isort xs).Pairwise (· ≤ ·) := by
  have : ∀ (ys acc : List Rat), acc.Pairwise (· ≤ ·) → (ys.foldl (fun acc q => ins q acc) acc).Pairwise (· ≤ ·) := by
    intro ys
    induction ys with
    | nil => intro acc h; exact h
    | cons y ys ih => intro acc h; exact ih _ (ins_sorted y h)
  exact this xs [] List.Pairwise.nil
theorem low_mono' {u : PH} (hu : ∀ c ∈ u, PO.low 0 c = true) (hw : Wf t) : Wf (t ++ u) := by
  refine wf_of (N := t.length + 1) (by simp) fun c hc => ?_
  rcases List.mem_append.mp hc with hc | hc
  · exact List.all_eq_true.mp hw c hc
  · exact po_mono (Nat.zero_le _) c (hu c hc)
def soC : CE := (.and (.cmp .lt (.var 3) (.blt .len (.cons (.var 1) .nil))) (.not (.call 58 (.cons (.var 2) (.cons (.idx (.var 1) (.var 3)) .nil)))))
def soB : CB := (.cons (.asg (.v 3) (.bin .add (.var 3) (.con (.int 1)))) .nil)
theorem so_while {s0 : Option PV} {F : List Rat} (hF : h[p]? = some (.lst (frs F))) (hb : AllB b F) (hx : Bd b q) (hz : b < 3000) (h1 : 1 ≤ b) (hl : F.length ≤ 1000) :
    whL (evE (callF G (k + 2)) soC) (evB (callF G (k + 2)) soB) fuel [s0, some (.ref p), some (fr q), some (.int 0)] h = .ok (.nx [s0, some (.ref p), some (fr q), some (.int (insN q F : Nat))]) h := by
  obtain ⟨s', h', e1, r1, r2⟩ := whL_inv (c := evE (callF G (k + 2)) soC) (b := evB (callF G (k + 2)) soB)
    (fun n s H => ∃ i : Nat, i + n = insN q F ∧ s = [s0, some (.ref p), some (fr q), some (.int (i : Nat))] ∧ H = h)
    (fun s H => s = [s0, some (.ref p), some (fr q), some (.int (insN q F : Nat))] ∧ H = h)
    (fun n s H ⟨i, i1, r1, r2⟩ => by
      subst r1; subst r2
      have hle := insN_le q F
      have hit : items H (.ref p) = some (frs F) := by simp only [items, hF]
      by_cases hn : n = 0
      · left
        have hi : i = insN q F := by omega
        refine ⟨H, ?_, by rw [hi], rfl⟩
        by_cases hlt : i < F.length
        · have g := idx_lst (h := H) hF hlt
          have lt := insN_at q F (by omega)
          rw [← hi] at lt
          have e2 := lbelow_ok (k := k + 1) (h := H) hx (getD_bd hb h1 i) (by omega)
          rw [decide_eq_true lt] at e2
          generalize F.getD i 0 = z at *
          have c : (i : Int) < (F.length : Int) := by omega
          simp [soC, blt, hit, hF, c, g, e2]
        · have c : ¬ (i : Int) < (F.length : Int) := by omega
          simp [soC, blt, hit, hF, c]
      · right
        have hlt : i < insN q F := by omega
        have g := idx_lst (h := H) hF (show i < F.length by omega)
        have e2 := lbelow_ok (k := k + 1) (h := H) hx (getD_bd hb h1 i) (by omega)
        rw [decide_eq_false (insN_lt q F i hlt)] at e2
        refine ⟨n - 1, H, [s0, some (.ref p), some (fr q), some (.int ((i + 1 : Nat) : Int))], H, by omega, ?_, ?_, i + 1, by omega, rfl, rfl⟩
        · generalize F.getD i 0 = z at *
          have c : (i : Int) < (F.length : Int) := by omega
          simp [soC, blt, hit, hF, c, g, e2]
        · simp [soB]) (insN q F) fuel [s0, some (.ref p), some (fr q), some (.int 0)] h (by have := insN_le q F; show _ < 100000; omega) ⟨0, by omega, rfl, rfl⟩
  subst r1; subst r2
  exact e1
def soL : CB := (.cons (.asg (.v 3) (.con (.int 0))) (.cons (.whl soC soB) (.cons (.asg (.v 1) (.bin .add (.bin .add (.slc (.var 1) .none (.some (.var 3))) (.lst (.cons (.var 2) .nil))) (.slc (.var 1) (.some (.var 3)) .none))) .nil)))
/-! ### drawn knots -/
def cnt (q : Rat) (F : List Rat) : Nat := (F.filter fun z => decide (z = q)).length
theorem cnt_perm {q : Rat} {F F' : List Rat} (h : F.Perm F') : cnt q F = cnt q F' := (h.filter _).length_eq
theorem cnt_app (q : Rat) (A B : List Rat) : cnt q (A ++ B) = cnt q A + cnt q B := by simp [cnt]
theorem cnt_cons (q z : Rat) (F : List Rat) : cnt q (z :: F) = cnt q F + if z = q then 1 else 0 := by
  simp only [cnt, List.filter_cons]
  by_cases e : z = q <;> simp [e]
def PQ (m : Nat) (q : Rat) : Prop := ∃ N : Int, q * 420 = N ∧ N.natAbs ≤ m
theorem PQ.mono {m n : Nat} {q : Rat} (h : PQ m q) (hmn : m ≤ n) : PQ n q := by
  obtain ⟨N, h1, h2⟩ := h; exact ⟨N, h1, by omega⟩
theorem PQ.of {q : Rat} (h : Bd 3 q) : PQ 2940 q := by
  obtain ⟨N, h1, h2⟩ := PK.of h
  obtain ⟨g1, g2⟩ := h
  have h3 := q.den_pos
  obtain ⟨c, hc⟩ : ∃ c : Nat, q.den * c = 420 := by
    have : q.den = 1 ∨ q.den = 2 ∨ q.den = 3 ∨ q.den = 4 ∨ q.den = 5 ∨ q.den = 6 ∨ q.den = 7 := by omega
    rcases this with e | e | e | e | e | e | e <;> rw [e]
    · exact ⟨420, rfl⟩
    · exact ⟨210, rfl⟩
    · exact ⟨140, rfl⟩
    · exact ⟨105, rfl⟩
    · exact ⟨84, rfl⟩
    · exact ⟨70, rfl⟩
    · exact ⟨60, rfl⟩
  refine ⟨q.num * c, ?_, ?_⟩
  · have e : ((420 : Int) : Rat) = ((q.den : Int) : Rat) * ((c : Int) : Rat) := by rw [← Rat.intCast_mul, ← Int.natCast_mul, hc]; rfl
    have e' : (420 : Rat) = ((q.den : Int) : Rat) * ((c : Int) : Rat) := e
    rw [e', Rat.intCast_mul, ← num_den q]; grind
  · rw [Int.natAbs_mul]
    have hcle : c ≤ 420 := by
      rw [← hc]; exact Nat.le_mul_of_pos_left c h3
    have : q.num.natAbs * (c : Int).natAbs ≤ 7 * 420 := Nat.mul_le_mul (by omega) (by simpa using hcle)
    omega
theorem PQ.succ {m : Nat} {q : Rat} (h : PQ m q) : PQ (m + 420) (q + 1) := by
  obtain ⟨N, h1, h2⟩ := h
  refine ⟨N + 420, ?_, by omega⟩
  rw [Rat.intCast_add, ← h1]
  have : ((420 : Int) : Rat) = 420 := rfl
  rw [this]; grind
theorem PQ.bd {m : Nat} {q : Rat} (h : PQ m q) (hm : m < 131072) : Bd 17 q := by
  obtain ⟨N, h1, h2⟩ := h
  have : CD 17 9 [q] := ⟨420, by decide, by decide, fun z hz => by
    rw [List.mem_singleton] at hz; subst hz
    exact ⟨N, h1, by omega⟩⟩
  exact this.all (n := 17) (by decide) (by decide) q (by simp)
theorem kn_sort {F : List Rat} (h : ∀ q, cnt q F ≤ d + 1) : Kn d (isort F) := by
  have hs := isort_sorted F
  have hc : ∀ q, cnt q (isort F) ≤ d + 1 := fun q => by rw [cnt_perm (isort_perm F)]; exact h q
  generalize isort F = T at *
  have mono : ∀ i j, i ≤ j → j < T.length → T.getD i 0 ≤ T.getD j 0 := fun i j hij hj => by
    rcases Nat.lt_or_eq_of_le hij with q | q
    · have := List.pairwise_iff_getElem.mp hs i j (by omega) hj q
      simpa [List.getD, List.getElem?_eq_getElem hj, List.getElem?_eq_getElem (show i < T.length by omega)] using this
    · subst q; exact Rat.le_refl
  refine ⟨fun i hi => mono _ _ (by omega) hi, fun i hi => ?_⟩
  refine Classical.byContradiction fun hn => ?_
  have heq : T.getD i 0 = T.getD (i + d + 1) 0 := Rat.le_antisymm (mono _ _ (by omega) hi) (Rat.not_lt.mp hn)
  have all : ∀ j, i ≤ j → j ≤ i + d + 1 → T.getD j 0 = T.getD i 0 := fun j h1 h2 => Rat.le_antisymm (by rw [heq]; exact mono _ _ h2 hi) (mono _ _ h1 (by omega))
  have key : ∀ (n : Nat) (S : List Rat) (q : Rat), n ≤ S.length → (∀ j, j < n → S.getD j 0 = q) → n ≤ cnt q S := by
    intro n S q
    induction S generalizing n with
    | nil =>
      intro h1 _
      have : n = 0 := by simpa using h1
      omega
    | cons z r ih =>
      intro h1 h2
      cases n with
      | zero => omega
      | succ n =>
        have h0 : z = q := by simpa using h2 0 (by omega)
        have := ih n (by simpa using h1) fun j hj => by simpa using h2 (j + 1) (by omega)
        rw [cnt_cons, if_pos h0]; omega
  have h3 := key (d + 2) (T.drop i) (T.getD i 0) (by rw [List.length_drop]; omega) fun j hj => by
    rw [← all (i + j) (by omega) (by omega)]
    simp [List.getD, List.getElem?_drop]
  have h4 : cnt (T.getD i 0) (T.drop i) ≤ cnt (T.getD i 0) T := by
    have := List.take_append_drop i T
    have e := cnt_app (T.getD i 0) (T.take i) (T.drop i)
    rw [this] at e
    omega
  have := hc (T.getD i 0)
  omega
end
end PB
set_option Elab.async false
set_option linter.all false
set_option maxRecDepth 100000
set_option maxHeartbeats 1000000
set_option exponentiation.threshold 100000
namespace PB
open PySem
section
variable {k : Nat} {h t u : PH} {o : PO} {m n a b c d e p : Nat} {x y q : Rat} {xs ys us T : List Rat}
/-! ### basis functions: their support, their signs, their sum -/
/-- knots that do not fall, up to N -/
def Up (T : List Rat) : Prop := ∀ i j, i ≤ j → j < T.length → T.getD i 0 ≤ T.getD j 0
theorem bN_out (hT : Up T) : ∀ (d i : Nat), i + d + 1 < T.length → (x < T.getD i 0 ∨ ¬ x < T.getD (i + d + 1) 0) → bN T x d i = 0
  | 0, i, hi, ho => by
    simp only [bN]
    rw [if_neg]
    rintro ⟨h1, h2⟩
    rcases ho with z | z
    · exact h1 z
    · exact z h2
  | d + 1, i, hi, ho => by
    have m1 := hT i (i + 1) (by omega) (by omega)
    have m2 := hT (i + (d + 1)) (i + (d + 1) + 1) (by omega) (by omega)
    have r1 : bN T x d i = 0 := bN_out hT d i (by omega) (by
      rcases ho with z | z
      · exact .inl z
      · refine .inr fun w => z ?_
        have e : i + d + 1 = i + (d + 1) := by omega
        rw [e] at w
        grind)
    have r2 : bN T x d (i + 1) = 0 := bN_out hT d (i + 1) (by omega) (by
      rcases ho with z | z
      · exact .inl (by grind)
      · refine .inr fun w => z ?_
        have e : i + 1 + d + 1 = i + (d + 1) + 1 := by omega
        rw [e] at w; exact w)
    simp only [bN, r1, r2, Rat.mul_zero, ite_self]
    exact Rat.add_zero 0
theorem bN_sum (hT : Up T) : ∀ (d s m : Nat), s + m + d < T.length → ¬ x < T.getD (s + d) 0 → x < T.getD (s + m) 0 → sumTo (fun i => bN T x d (s + i)) m = 1
  | 0, s, m, hm, h1, h2 => by
    induction m with
    | zero => exact absurd h2 h1
    | succ m ih =>
      rw [sumTo]
      by_cases z : x < T.getD (s + m) 0
      · rw [ih (by omega) z, bN_out hT 0 (s + m) (by omega) (.inl z), Rat.add_zero]
      · have : sumTo (fun i => bN T x 0 (s + i)) m = 0 := by
          have : sumTo (fun i => bN T x 0 (s + i)) m = sumTo (fun _ => (0 : Rat) * 0) m := sumTo_congr fun i hi => by
            rw [bN_out hT 0 (s + i) (by omega) (.inr fun w => z (by have := hT (s + i + 0 + 1) (s + m) (by omega) (by omega); grind)), Rat.zero_mul]
          rw [this, sumTo_mul, Rat.zero_mul]
        rw [this]
        simp only [bN]
        rw [if_pos ⟨z, h2⟩, Rat.zero_add]
  | d + 1, s, m, hm, h1, h2 => by
    have hmd : d + 1 < m := by
      refine Classical.byContradiction fun hn => ?_
      have := hT (s + m) (s + (d + 1)) (by omega) (by omega)
      exact h1 (by grind)
    obtain ⟨m, rfl⟩ : ∃ m', m = m' + 1 := ⟨m - 1, by omega⟩
    have ih := bN_sum hT d (s + 1) m (by omega) (by rw [show s + 1 + d = s + (d + 1) by omega]; exact h1) (by rw [show s + 1 + m = s + (m + 1) by omega]; exact h2)
    -- the two parts of each
    obtain ⟨A, hA⟩ : ∃ A : Nat → Rat, ∀ i, A i = if T.getD i 0 ≠ T.getD (i + (d + 1)) 0 then (x - T.getD i 0) / (T.getD (i + (d + 1)) 0 - T.getD i 0) * bN T x d i else 0 := ⟨_, fun _ => rfl⟩
    obtain ⟨B, hB⟩ : ∃ B : Nat → Rat, ∀ i, B i = if T.getD i 0 ≠ T.getD (i + (d + 1)) 0 then (T.getD (i + (d + 1)) 0 - x) / (T.getD (i + (d + 1)) 0 - T.getD i 0) * bN T x d i else 0 := ⟨_, fun _ => rfl⟩
    have hAB : ∀ i, i + d + 1 < T.length → A i + B i = bN T x d i := fun i hi => by
      have hii := hT i (i + (d + 1)) (by omega) (by omega)
      rw [hA, hB]
      by_cases z : T.getD i 0 = T.getD (i + (d + 1)) 0
      · rw [if_neg (fun w => w z), if_neg (fun w => w z), bN_out hT d i hi (by
          rw [show i + d + 1 = i + (d + 1) by omega, ← z]
          by_cases w : x < T.getD i 0
          · exact .inl w
          · exact .inr w)]
        exact Rat.add_zero 0
      · rw [if_pos z, if_pos z]
        generalize T.getD i 0 = v at *
        generalize T.getD (i + (d + 1)) 0 = w at *
        have hi' : (w - v) * (w - v)⁻¹ = 1 := Rat.mul_inv_cancel _ (by grind)
        simp only [Rat.div_def]; grind
    have eN : ∀ i, bN T x (d + 1) i = A i + B (i + 1) := fun i => by
      rw [hA, hB]
      simp only [bN]
      rw [show i + 1 + (d + 1) = i + (d + 1) + 1 by omega]
    have hA0 : A s = 0 := by
      rw [hA, bN_out hT d s (by omega) (.inr (by rw [show s + d + 1 = s + (d + 1) by omega]; exact h1)), Rat.mul_zero, ite_self]
    have hBm : B (s + (m + 1)) = 0 := by
      rw [hB, bN_out hT d (s + (m + 1)) (by omega) (.inl h2), Rat.mul_zero, ite_self]
    have e1 : sumTo (fun i => bN T x (d + 1) (s + i)) (m + 1) = sumTo (fun i => A (s + i)) (m + 1) + sumTo (fun i => B (s + 1 + i)) (m + 1) := by
      rw [← sumTo_add]
      exact sumTo_congr fun i hi => by rw [eN, show s + i + 1 = s + 1 + i by omega]
    rw [e1, sumTo_succ_left, Nat.add_zero, hA0, sumTo, show s + 1 + m = s + (m + 1) by omega, hBm]
    have e2 : sumTo (fun i => A (s + (i + 1))) m + sumTo (fun i => B (s + 1 + i)) m = 1 := by
      rw [← sumTo_add, ← ih]
      exact sumTo_congr fun i hi => by
        rw [show s + (i + 1) = s + 1 + i by omega]
        exact hAB _ (by omega)
    grind
/-! ### sizes of the values -/
def bR (r : Nat) : Nat → Nat
  | 0 => 1
  | d + 1 => 2 * (r + bR r d) + 1
end
end PB
set_option Elab.async false
set_option linter.all false
set_option maxRecDepth 100000
set_option maxHeartbeats 1000000
set_option exponentiation.threshold 100000
namespace PB
open PySem
section
variable {k : Nat} {h t u : PH} {o : PO} {m n a b c d e p : Nat} {x y q : Rat} {xs ys us T P R : List Rat}
/-! ### Marsden's identity -/
/-- the knots j .. j + n - 1 -/
def win (T : List Rat) (j n : Nat) : List Rat := (List.range' j n).map fun i => T.getD i 0
theorem win_len : (win T j n).length = n := by simp [win]
theorem win_cons (T : List Rat) (j n : Nat) : win T j (n + 1) = T.getD j 0 :: win T (j + 1) n := by simp [win, List.range'_succ]
theorem win_snoc (T : List Rat) (j n : Nat) : win T j (n + 1) = win T j n ++ [T.getD (j + n) 0] := by simp [win, List.range'_concat]
theorem win_mem {T : List Rat} {j n : Nat} {Q : Rat → Prop} (h : ∀ i, Q (T.getD i 0)) : ∀ q ∈ win T j n, Q q := fun q hq => by
  obtain ⟨i, _, rfl⟩ := List.mem_map.mp hq
  exact h i
theorem boor_step (hT : Up T) (g : Nat → Rat) (d s m : Nat) (hm : s + (m + 1) + (d + 1) < T.length) (h1 : ¬ x < T.getD (s + (d + 1)) 0) (h2 : x < T.getD (s + (m + 1)) 0) (g' : Nat → Rat)
    (hg : ∀ i, i < m → T.getD (s + 1 + i) 0 ≠ T.getD (s + 1 + i + (d + 1)) 0 → g' i = g i + (x - T.getD (s + 1 + i) 0) / (T.getD (s + 1 + i + (d + 1)) 0 - T.getD (s + 1 + i) 0) * (g (i + 1) - g i)) :
    sumTo (fun i => g i * bN T x (d + 1) (s + i)) (m + 1) = sumTo (fun i => g' i * bN T x d (s + 1 + i)) m := by
  obtain ⟨A, hA⟩ : ∃ A : Nat → Rat, ∀ i, A i = if T.getD i 0 ≠ T.getD (i + (d + 1)) 0 then (x - T.getD i 0) / (T.getD (i + (d + 1)) 0 - T.getD i 0) * bN T x d i else 0 := ⟨_, fun _ => rfl⟩
  obtain ⟨B, hB⟩ : ∃ B : Nat → Rat, ∀ i, B i = if T.getD i 0 ≠ T.getD (i + (d + 1)) 0 then (T.getD (i + (d + 1)) 0 - x) / (T.getD (i + (d + 1)) 0 - T.getD i 0) * bN T x d i else 0 := ⟨_, fun _ => rfl⟩
  have eN : ∀ i, bN T x (d + 1) i = A i + B (i + 1) := fun i => by
    rw [hA, hB]
    simp only [bN]
    rw [show i + 1 + (d + 1) = i + (d + 1) + 1 by omega]
  have hA0 : A s = 0 := by
    rw [hA, bN_out hT d s (by omega) (.inr (by rw [show s + d + 1 = s + (d + 1) by omega]; exact h1)), Rat.mul_zero, ite_self]
  have hBm : B (s + (m + 1)) = 0 := by
    rw [hB, bN_out hT d (s + (m + 1)) (by omega) (.inl h2), Rat.mul_zero, ite_self]
  have e1 : sumTo (fun i => g i * bN T x (d + 1) (s + i)) (m + 1) = sumTo (fun i => g i * A (s + i)) (m + 1) + sumTo (fun i => g i * B (s + 1 + i)) (m + 1) := by
    rw [← sumTo_add]
    exact sumTo_congr fun i hi => by rw [eN, show s + i + 1 = s + 1 + i by omega]; grind
  rw [e1, sumTo_succ_left, Nat.add_zero, hA0, Rat.mul_zero, sumTo, show s + 1 + m = s + (m + 1) by omega, hBm, Rat.mul_zero, Rat.zero_add, Rat.add_zero, ← sumTo_add]
  refine sumTo_congr fun i hi => ?_
  rw [show s + (i + 1) = s + 1 + i by omega, hA, hB]
  by_cases z : T.getD (s + 1 + i) 0 = T.getD (s + 1 + i + (d + 1)) 0
  · rw [if_neg (fun w => w z), if_neg (fun w => w z), bN_out hT d (s + 1 + i) (by omega) (by
      rw [show s + 1 + i + d + 1 = s + 1 + i + (d + 1) by omega, ← z]
      by_cases w : x < T.getD (s + 1 + i) 0
      · exact .inl w
      · exact .inr w)]
    grind
  · rw [if_pos z, if_pos z, hg i hi z]
    generalize T.getD (s + 1 + i) 0 = v at *
    generalize T.getD (s + 1 + i + (d + 1)) 0 = w at *
    have hi' : (w - v) * (w - v)⁻¹ = 1 := Rat.mul_inv_cancel _ (by grind)
    simp only [Rat.div_def]; grind
theorem marsden (hT : Up T) : ∀ (d s m : Nat) (R : List Rat), P.length ≤ d + R.length + 1 → s + m + d < T.length → ¬ x < T.getD (s + d) 0 → x < T.getD (s + m) 0 →
    sumTo (fun i => blo P (win T (s + i + 1) d ++ R) * bN T x d (s + i)) m = blo P (List.replicate d x ++ R)
  | 0, s, m, R, hP, hm, h1, h2 => by
    have := bN_sum hT 0 s m hm h1 h2
    have e : sumTo (fun i => blo P (win T (s + i + 1) 0 ++ R) * bN T x 0 (s + i)) m = sumTo (fun i => blo P R * bN T x 0 (s + i)) m := sumTo_congr fun i hi => by simp [win]
    rw [e, sumTo_mul, this]; simp
  | d + 1, s, m, R, hP, hm, h1, h2 => by
    have hmd : d + 1 < m := by
      refine Classical.byContradiction fun hn => ?_
      have := hT (s + m) (s + (d + 1)) (by omega) (by omega)
      exact h1 (by grind)
    obtain ⟨m, rfl⟩ : ∃ m', m = m' + 1 := ⟨m - 1, by omega⟩
    have ih := marsden hT d (s + 1) m (x :: R) (by simp; omega) (by omega) (by rw [show s + 1 + d = s + (d + 1) by omega]; exact h1) (by rw [show s + 1 + m = s + (m + 1) by omega]; exact h2)
    have st := boor_step (x := x) hT (fun i => blo P (win T (s + i + 1) (d + 1) ++ R)) d s m (by omega) h1 h2 (fun i => blo P (win T (s + 1 + i + 1) d ++ x :: R)) (fun i hi hne => by
      have hl : P.length ≤ (win T (s + 1 + i + 1) d).length + R.length + 2 := by rw [win_len]; omega
      have key := blo_mid (xs := P) (win T (s + 1 + i + 1) d) R (T.getD (s + 1 + i) 0) (T.getD (s + 1 + i + (d + 1)) 0) ((x - T.getD (s + 1 + i) 0) / (T.getD (s + 1 + i + (d + 1)) 0 - T.getD (s + 1 + i) 0)) hl
      have hx : T.getD (s + 1 + i) 0 + (x - T.getD (s + 1 + i) 0) / (T.getD (s + 1 + i + (d + 1)) 0 - T.getD (s + 1 + i) 0) * (T.getD (s + 1 + i + (d + 1)) 0 - T.getD (s + 1 + i) 0) = x := by
        generalize T.getD (s + 1 + i) 0 = v at *
        generalize T.getD (s + 1 + i + (d + 1)) 0 = w at *
        have hi' : (w - v) * (w - v)⁻¹ = 1 := Rat.mul_inv_cancel _ (by grind)
        simp only [Rat.div_def]; grind
      rw [hx] at key
      have g1 : blo P (win T (s + 1 + i + 1) d ++ T.getD (s + 1 + i) 0 :: R) = blo P (win T (s + i + 1) (d + 1) ++ R) := by
        refine blo_perm ?_
        rw [show s + i + 1 = s + 1 + i by omega, win_cons]
        exact List.perm_middle
      have g2 : blo P (win T (s + 1 + i + 1) d ++ T.getD (s + 1 + i + (d + 1)) 0 :: R) = blo P (win T (s + (i + 1) + 1) (d + 1) ++ R) := by
        rw [show s + (i + 1) + 1 = s + 1 + i + 1 by omega, win_snoc, show s + 1 + i + 1 + d = s + 1 + i + (d + 1) by omega]
        simp
      rw [key, g1, g2])
    rw [st, ih]
    refine blo_perm ?_
    rw [List.replicate_succ]
    exact List.perm_middle
theorem cut_mid {zs : List PV} {i j : Nat} (hij : i ≤ j) (hj : j ≤ zs.length) : cut zs (some (i : Int)) (some (j : Int)) = (zs.drop i).take (j - i) := by
  have e1 := cut_to (xs := zs) hj
  have e2 : HT.sIx zs.length 0 (some (i : Int)) = i := by rw [HT.sIx_nat]; omega
  have e3 : HT.sIx zs.length zs.length (some (j : Int)) = j := by rw [HT.sIx_nat]; omega
  unfold cut
  rw [e2, e3]
/-! ### coefficients, means -/
/-- numbers over 3360 -/
def PE (q : Rat) : Prop := ∃ N : Int, q * 3360 = N ∧ N.natAbs ≤ 829920
theorem PQ.pe {q : Rat} (h : PQ 103740 q) : PE q := by
  obtain ⟨N, h1, h2⟩ := h
  refine ⟨N * 8, ?_, by omega⟩
  rw [Rat.intCast_mul, ← h1]
  have : ((8 : Int) : Rat) = 8 := rfl
  rw [this]; grind
end
end PB
set_option Elab.async false
set_option linter.all false
set_option maxRecDepth 100000
set_option maxHeartbeats 1000000
set_option exponentiation.threshold 100000
namespace PB
open PySem
section
variable {k : Nat} {h t u : PH} {o : PO} {m n a b c d e p : Nat} {x y q : Rat} {xs ys us T P R : List Rat}
/-! ### a basis function's polynomial on a span -/
def bA (lo hi : Rat) : List Rat := [-lo * (1 / (hi - lo)), 1 / (hi - lo)]
def bB (lo hi : Rat) : List Rat := [hi * (1 / (hi - lo)), -(1 / (hi - lo))]
def bP (T : List Rat) (p : Nat) : Nat → Nat → List Rat
  | 0, i => if i = p then [1] else []
  | d + 1, i =>
    if T.getD (i + 1) 0 = T.getD (i + (d + 1) + 1) 0 then
      (if T.getD i 0 = T.getD (i + (d + 1)) 0 then [] else pmul (bA (T.getD i 0) (T.getD (i + (d + 1)) 0)) (bP T p d i))
    else trim (padd (if T.getD i 0 = T.getD (i + (d + 1)) 0 then [] else pmul (bA (T.getD i 0) (T.getD (i + (d + 1)) 0)) (bP T p d i))
      (pmul (bB (T.getD (i + 1) 0) (T.getD (i + (d + 1) + 1) 0)) (bP T p d (i + 1))))
theorem pe_bP (hT : Up T) (hp : p + 1 < T.length) (h1 : ¬ x < T.getD p 0) (h2 : x < T.getD (p + 1) 0) : ∀ (d i : Nat), i + d + 1 < T.length → pe (bP T p d i) x = bN T x d i
  | 0, i, hi => by
    simp only [bP, bN]
    by_cases e : i = p
    · subst e
      rw [if_pos rfl, if_pos ⟨h1, h2⟩]; simp [pe]; grind
    · rw [if_neg e, if_neg]
      · rfl
      · rintro ⟨g1, g2⟩
        rcases Nat.lt_or_gt_of_ne e with w | w
        · have := hT (i + 1) p (by omega) (by omega); grind
        · have := hT (p + 1) i (by omega) (by omega); grind
  | d + 1, i, hi => by
    have r1 := pe_bP hT hp h1 h2 d i (by omega)
    have r2 := pe_bP hT hp h1 h2 d (i + 1) (by omega)
    simp only [bP, bN]
    generalize T.getD i 0 = u1 at *
    generalize T.getD (i + 1) 0 = u2 at *
    generalize T.getD (i + (d + 1)) 0 = u3 at *
    generalize T.getD (i + (d + 1) + 1) 0 = u4 at *
    have A : pe (if u1 = u3 then [] else pmul (bA u1 u3) (bP T p d i)) x = if u1 ≠ u3 then (x - u1) / (u3 - u1) * bN T x d i else 0 := by
      by_cases z : u1 = u3
      · rw [if_pos z, if_neg (fun w => w z)]; rfl
      · rw [if_neg z, if_pos z, pe_pmul, r1]
        simp only [bA, pe, Rat.div_def]; grind
    have B : u2 ≠ u4 → pe (pmul (bB u2 u4) (bP T p d (i + 1))) x = (u4 - x) / (u4 - u2) * bN T x d (i + 1) := fun z => by
      rw [pe_pmul, r2]
      simp only [bB, pe, Rat.div_def]; grind
    by_cases z : u2 = u4
    · rw [if_pos z, if_neg (show ¬ u2 ≠ u4 from fun w => w z), A, Rat.add_zero]
    · rw [if_neg z, if_pos z, pe_trim, pe_padd, A, B z]
end
end PB
set_option Elab.async false
set_option linter.all false
set_option maxRecDepth 100000
set_option maxHeartbeats 1000000
set_option exponentiation.threshold 100000
namespace PB
open PySem
/-- sizes that are found by themselves -/
class Sz (q : Rat) (n : outParam Nat) : Prop where
  b : Bd n q
theorem Bd.pos {n : Nat} {q : Rat} (h : Bd n q) : 1 ≤ n := by
  rcases Nat.eq_zero_or_pos n with e | e
  · subst e
    have := h.2
    have := q.den_pos
    omega
  · exact e
section
variable {k m n : Nat} {h : PH} {x y z : Rat}
instance sz_add [hx : Sz x m] [hy : Sz y n] : Sz (x + y) (m + n + 1) := ⟨(bd_add hx.b hy.b).1⟩
instance sz_sub [hx : Sz x m] [hy : Sz y n] : Sz (x - y) (m + n + 1) := ⟨bd_sub hx.b hy.b⟩
instance sz_mul [hx : Sz x m] [hy : Sz y n] : Sz (x * y) (m + n) := ⟨bd_mul hx.b hy.b⟩
instance sz_neg [hx : Sz x m] : Sz (-x) m := ⟨bd_neg hx.b⟩
instance sz_div [hx : Sz x m] [hy : Sz y n] : Sz (x / y) (m + n) := ⟨by
  by_cases h0 : y = 0
  · subst h0
    have e : x / 0 = 0 := by rw [Rat.div_def, Rat.inv_zero, Rat.mul_zero]
    rw [e]
    have := hx.b.pos
    exact (bd0 (m + n - 1)).mono (by omega)
  · exact bd_div hx.b hy.b h0⟩
instance sz_0 : Sz 0 1 := ⟨bd0 0⟩
instance sz_1 : Sz 1 1 := ⟨bd1 0⟩
instance sz_2 : Sz 2 2 := ⟨by refine ⟨?_, ?_⟩ <;> decide⟩
instance sz_3 : Sz 3 2 := ⟨by refine ⟨?_, ?_⟩ <;> decide⟩
instance sz_4 : Sz 4 3 := ⟨by refine ⟨?_, ?_⟩ <;> decide⟩
theorem times_i [hx : Sz x m] [hy : Sz y n] (hk : 2 ≤ k) (hz : m + n < 8000) : callF G k 5 [fr x, fr y] h = .ok (fr (x * y)) h := by
  obtain ⟨k, rfl⟩ := Nat.exists_eq_add_of_le hk
  rw [Nat.add_comm]; exact times_ok hx.b hy.b hz
theorem less_i [hx : Sz x m] [hy : Sz y n] (hk : 2 ≤ k) (hz : m + n < 8000) : callF G k 31 [fr x, fr y] h = .ok (fr (x - y)) h := by
  obtain ⟨k, rfl⟩ := Nat.exists_eq_add_of_le hk
  rw [Nat.add_comm]; exact less_ok hx.b hy.b hz
theorem over_i [hx : Sz x m] [hy : Sz y n] (hk : 2 ≤ k) (h0 : y ≠ 0) (hz : m + n < 8000) : callF G k 32 [fr x, fr y] h = .ok (fr (x / y)) h := by
  obtain ⟨k, rfl⟩ := Nat.exists_eq_add_of_le hk
  rw [Nat.add_comm]; exact over_ok hx.b hy.b h0 hz
theorem negative_i (hk : 1 ≤ k) : callF G k 52 [fr x] h = .ok (fr (-x)) h := by
  obtain ⟨k, rfl⟩ := Nat.exists_eq_add_of_le hk
  rw [Nat.add_comm]; exact negative_ok
theorem lplus_i [hx : Sz x m] [hy : Sz y n] (hk : 2 ≤ k) (hz : m + n < 4900) : callF G k 20 [fr x, fr y] h = .ok (fr (x + y)) h := by
  obtain ⟨k, rfl⟩ := Nat.exists_eq_add_of_le hk
  rw [Nat.add_comm]; exact lplus_ok hx.b hy.b hz
end
@[simp] theorem gt0 {γ : Type} {a0 : γ} {l : List γ} : (a0 :: l)[0]? = some a0 := by first | (rw [List.getElem?_cons_zero]; done) | (simp only [List.getElem?_cons_succ, List.getElem?_cons_zero])
@[simp] theorem gt1 {γ : Type} {a0 a1 : γ} {l : List γ} : (a0 :: a1 :: l)[1]? = some a1 := by first | (rw [List.getElem?_cons_zero]; done) | (simp only [List.getElem?_cons_succ, List.getElem?_cons_zero])
@[simp] theorem gt2 {γ : Type} {a0 a1 a2 : γ} {l : List γ} : (a0 :: a1 :: a2 :: l)[2]? = some a2 := by first | (rw [List.getElem?_cons_zero]; done) | (simp only [List.getElem?_cons_succ, List.getElem?_cons_zero])
@[simp] theorem gt3 {γ : Type} {a0 a1 a2 a3 : γ} {l : List γ} : (a0 :: a1 :: a2 :: a3 :: l)[3]? = some a3 := by first | (rw [List.getElem?_cons_zero]; done) | (simp only [List.getElem?_cons_succ, List.getElem?_cons_zero])
@[simp] theorem gt4 {γ : Type} {a0 a1 a2 a3 a4 : γ} {l : List γ} : (a0 :: a1 :: a2 :: a3 :: a4 :: l)[4]? = some a4 := by first | (rw [List.getElem?_cons_zero]; done) | (simp only [List.getElem?_cons_succ, List.getElem?_cons_zero])
@[simp] theorem gt5 {γ : Type} {a0 a1 a2 a3 a4 a5 : γ} {l : List γ} : (a0 :: a1 :: a2 :: a3 :: a4 :: a5 :: l)[5]? = some a5 := by first | (rw [List.getElem?_cons_zero]; done) | (simp only [List.getElem?_cons_succ, List.getElem?_cons_zero])
@[simp] theorem gt6 {γ : Type} {a0 a1 a2 a3 a4 a5 a6 : γ} {l : List γ} : (a0 :: a1 :: a2 :: a3 :: a4 :: a5 :: a6 :: l)[6]? = some a6 := by first | (rw [List.getElem?_cons_zero]; done) | (simp only [List.getElem?_cons_succ, List.getElem?_cons_zero])
@[simp] theorem gt7 {γ : Type} {a0 a1 a2 a3 a4 a5 a6 a7 : γ} {l : List γ} : (a0 :: a1 :: a2 :: a3 :: a4 :: a5 :: a6 :: a7 :: l)[7]? = some a7 := by first | (rw [List.getElem?_cons_zero]; done) | (simp only [List.getElem?_cons_succ, List.getElem?_cons_zero])
@[simp] theorem gt8 {γ : Type} {a0 a1 a2 a3 a4 a5 a6 a7 a8 : γ} {l : List γ} : (a0 :: a1 :: a2 :: a3 :: a4 :: a5 :: a6 :: a7 :: a8 :: l)[8]? = some a8 := by first | (rw [List.getElem?_cons_zero]; done) | (simp only [List.getElem?_cons_succ, List.getElem?_cons_zero])
@[simp] theorem gt9 {γ : Type} {a0 a1 a2 a3 a4 a5 a6 a7 a8 a9 : γ} {l : List γ} : (a0 :: a1 :: a2 :: a3 :: a4 :: a5 :: a6 :: a7 :: a8 :: a9 :: l)[9]? = some a9 := by first | (rw [List.getElem?_cons_zero]; done) | (simp only [List.getElem?_cons_succ, List.getElem?_cons_zero])
@[simp] theorem gt10 {γ : Type} {a0 a1 a2 a3 a4 a5 a6 a7 a8 a9 a10 : γ} {l : List γ} : (a0 :: a1 :: a2 :: a3 :: a4 :: a5 :: a6 :: a7 :: a8 :: a9 :: a10 :: l)[10]? = some a10 := by first | (rw [List.getElem?_cons_zero]; done) | (simp only [List.getElem?_cons_succ, List.getElem?_cons_zero])
@[simp] theorem gt11 {γ : Type} {a0 a1 a2 a3 a4 a5 a6 a7 a8 a9 a10 a11 : γ} {l : List γ} : (a0 :: a1 :: a2 :: a3 :: a4 :: a5 :: a6 :: a7 :: a8 :: a9 :: a10 :: a11 :: l)[11]? = some a11 := by first | (rw [List.getElem?_cons_zero]; done) | (simp only [List.getElem?_cons_succ, List.getElem?_cons_zero])
@[simp] theorem get_app2 {γ : Type} {h t : List γ} {i j : Nat} : (h ++ t)[h.length + i + j]? = t[i + j]? := by rw [Nat.add_assoc]; exact get_app
@[simp] theorem set_app2 {γ : Type} {h t : List γ} {i j : Nat} {a : γ} : (h ++ t).set (h.length + i + j) a = h ++ t.set (i + j) a := by rw [Nat.add_assoc]; exact set_app
@[simp] theorem it0 {a0 : PV} {l : List PV} {h : PH} : idxop (.tup (a0 :: l)) (.int 0) h = .ok a0 h := by simp [idxop, atI_nn]
@[simp] theorem it1 {a0 a1 : PV} {l : List PV} {h : PH} : idxop (.tup (a0 :: a1 :: l)) (.int 1) h = .ok a1 h := by simp [idxop, atI_nn]
@[simp] theorem it2 {a0 a1 a2 : PV} {l : List PV} {h : PH} : idxop (.tup (a0 :: a1 :: a2 :: l)) (.int 2) h = .ok a2 h := by simp [idxop, atI_nn]
@[simp] theorem it3 {a0 a1 a2 a3 : PV} {l : List PV} {h : PH} : idxop (.tup (a0 :: a1 :: a2 :: a3 :: l)) (.int 3) h = .ok a3 h := by simp [idxop, atI_nn]
@[simp] theorem it4 {a0 a1 a2 a3 a4 : PV} {l : List PV} {h : PH} : idxop (.tup (a0 :: a1 :: a2 :: a3 :: a4 :: l)) (.int 4) h = .ok a4 h := by simp [idxop, atI_nn]
@[simp] theorem it5 {a0 a1 a2 a3 a4 a5 : PV} {l : List PV} {h : PH} : idxop (.tup (a0 :: a1 :: a2 :: a3 :: a4 :: a5 :: l)) (.int 5) h = .ok a5 h := by simp [idxop, atI_nn]
theorem fr_int (z : Int) : PV.tup [.int z, .int 1] = fr (z : Rat) := by simp [fr]
/-! ### what a step comes to -/
@[irreducible] def Res.To {α : Type} (x : Res α) (Q : α → PH → Prop) : Prop := match x with
  | .ok a h => Q a h
  | _ => False
section
variable {α β : Type} {h : PH}
@[simp] theorem to_ok {a : α} {Q : α → PH → Prop} : (Res.ok a h).To Q = Q a h := by simp [Res.To]
@[simp] theorem to_bad {Q : α → PH → Prop} : (Res.bad : Res α).To Q = False := by simp [Res.To]
@[simp] theorem to_exc {c : Nat} {v : PV} {Q : α → PH → Prop} : (Res.exc c v h : Res α).To Q = False := by simp [Res.To]
theorem to_bind' {x : Res α} {f : α → PH → Res β} {Q : β → PH → Prop} : (x.bind f).To Q = x.To fun a h => (f a h).To Q := by cases x <;> simp
/-- what is left to be done: simp does not look into it -/
class Hd (α : Type) where
  q : α → PH → Prop
@[irreducible] def Kp [i : Hd α] : α → PH → Prop := i.q
@[simp ↓] theorem Kp_app {Q : α → PH → Prop} {a : α} : @Kp α ⟨Q⟩ a h = Q a h := by unfold Kp; rfl
@[simp] theorem to_bind {x : Res α} {f : α → PH → Res β} {Q : β → PH → Prop} : (x.bind f).To Q = x.To (@Kp α ⟨fun a h => (f a h).To Q⟩) := by rw [to_bind']; unfold Kp; rfl
@[simp] theorem to_if_bad {p : Prop} [Decidable p] {x : Res α} {Q : α → PH → Prop} : (if p then x else .bad).To Q = (p ∧ x.To Q) := by
  by_cases hp : p <;> simp [hp]
@[simp] theorem to_if_exc {p : Prop} [Decidable p] {x : Res α} {Q : α → PH → Prop} {c : Nat} {v : PV} : (if p then x else .exc c v h).To Q = (p ∧ x.To Q) := by
  by_cases hp : p <;> simp [hp]
@[simp] theorem to_if_exc' {p : Prop} [Decidable p] {x : Res α} {Q : α → PH → Prop} {c : Nat} {v : PV} : (if p then .exc c v h else x).To Q = (¬ p ∧ x.To Q) := by
  by_cases hp : p <;> simp [hp]
theorem of_to {x : Res α} {v : α} {h' : PH} (q : x.To fun a b => a = v ∧ b = h') : x = .ok v h' := by
  cases x with
  | ok a b => rw [to_ok] at q; obtain ⟨rfl, rfl⟩ := q; rfl
  | exc c v h => simp at q
  | bad => simp at q
theorem to_ex {x : Res α} {Q : α → PH → Prop} (q : x.To Q) : ∃ a h', x = .ok a h' ∧ Q a h' := by
  cases x with
  | ok a b => rw [to_ok] at q; exact ⟨a, b, rfl, q⟩
  | exc c v h => simp at q
  | bad => simp at q
theorem to_mono {x : Res α} {P Q : α → PH → Prop} (q : x.To P) (hm : ∀ a h, P a h → Q a h) : x.To Q := by
  obtain ⟨a, b, rfl, q1⟩ := to_ex q
  rw [to_ok]; exact hm a b q1
theorem to_eq {x : Res α} {a : α} {h' : PH} {Q : α → PH → Prop} (e : x = .ok a h') (q : Q a h') : x.To Q := by subst e; rw [to_ok]; exact q
/-- a for over a range, as one word -/
@[irreducible] def forR (lo hi : Int) (g : PV → Sl → PH → Res Sl) (b : Sl → PH → Res Fl) (s : Sl) (h : PH) : Res Fl :=
  if -bigR ≤ lo ∧ lo ≤ bigR ∧ -bigR ≤ hi ∧ hi ≤ bigR then frL g b [] (range lo (hi - lo).toNat 1) s h else .bad
@[irreducible] def compR (lo hi : Int) (F : PV → PH → Res (Option PV)) (h : PH) : Res (List PV) :=
  if -bigR ≤ lo ∧ lo ≤ bigR ∧ -bigR ≤ hi ∧ hi ≤ bigR then (if (range lo (hi - lo).toNat 1).length ≤ many then compL F [] (range lo (hi - lo).toNat 1) h else .bad) else .bad
section
variable {cf : Nat → List PV → PH → Res PV} {s : Sl}
@[simp high] theorem evS_for1 {t : CT} {e : CE} {b : CB} : evS cf (.for_ t (.rng1 (.cons e .nil)) b) s h = (evE cf e s h).bind fun x h1 => match x with | .int z => forR 0 z (asT cf t) (evB cf b) s h1 | _ => .bad := by
  rw [evS_for, evI_rng1, evA_cons]
  cases evE cf e s h with
  | ok x h1 =>
    simp only [bind_ok', evA_nil]
    cases x <;> simp only [bind_bad]
    rename_i z
    rw [forR, bind_ite]
    have hb : bigR = 1000000 := rfl
    by_cases hz : -bigR ≤ z ∧ z ≤ bigR
    · rw [if_pos hz, if_pos (by omega), Int.sub_zero]; simp
    · rw [if_neg hz, if_neg (by omega)]; simp
  | exc c v h => simp
  | bad => simp
@[simp high] theorem evS_for2 {t : CT} {e e' : CE} {b : CB} : evS cf (.for_ t (.rng2 (.cons e (.cons e' .nil))) b) s h = (evE cf e s h).bind fun x h1 => (evE cf e' s h1).bind fun y h2 => match x, y with | .int z, .int w => forR z w (asT cf t) (evB cf b) s h2 | _, _ => .bad := by
  rw [evS_for, evI_rng2, evA_cons]
  cases evE cf e s h with
  | ok x h1 =>
    simp only [bind_ok', evA_cons]
    cases evE cf e' s h1 with
    | ok y h2 =>
      simp only [bind_ok', evA_nil]
      cases x <;> cases y <;> simp only [bind_bad]
      rename_i z w
      rw [forR, bind_ite]
      simp
    | exc c v h => simp
    | bad => simp
  | exc c v h => simp
  | bad => simp
@[simp high] theorem evE_comp1 {e c : CE} {own : List Nat} {tg : CT} {co : CO} : evE cf (.comp e own tg (.rng1 (.cons c .nil)) co) s h = (evE cf c s h).bind fun x h1 => match x with | .int z => (compR 0 z (compF cf e own tg co s) h1).bind (fun ys h2 => alloc ys h2) | _ => .bad := by
  rw [evE_comp, evI_rng1, evA_cons]
  cases evE cf c s h with
  | ok x h1 =>
    simp only [bind_ok', evA_nil]
    cases x <;> simp only [bind_bad]
    rename_i z
    rw [compR, bind_ite]
    have hb : bigR = 1000000 := rfl
    by_cases hz : -bigR ≤ z ∧ z ≤ bigR
    · rw [if_pos hz, if_pos (by omega), Int.sub_zero]; simp
    · rw [if_neg hz, if_neg (by omega)]; simp
  | exc c v h => simp
  | bad => simp
@[simp high] theorem evE_comp2 {e c c' : CE} {own : List Nat} {tg : CT} {co : CO} : evE cf (.comp e own tg (.rng2 (.cons c (.cons c' .nil))) co) s h = (evE cf c s h).bind fun x h1 => (evE cf c' s h1).bind fun y h2 => match x, y with | .int z, .int w => (compR z w (compF cf e own tg co s) h2).bind (fun ys h2 => alloc ys h2) | _, _ => .bad := by
  rw [evE_comp, evI_rng2, evA_cons]
  cases evE cf c s h with
  | ok x h1 =>
    simp only [bind_ok', evA_cons]
    cases evE cf c' s h1 with
    | ok y h2 =>
      simp only [bind_ok', evA_nil]
      cases x <;> cases y <;> simp only [bind_bad]
      rename_i z w
      rw [compR, bind_ite]
      simp
    | exc c v h => simp
    | bad => simp
  | exc c v h => simp
  | bad => simp
end
/-- what a loop's turn leaves -/
def Turn (S : Sl → PH → Prop) (Q : Fl → PH → Prop) : Fl → PH → Prop
  | .nx s, h => S s h
  | .ct s, h => S s h
  | .bk s, h => Q (.nx s) h
  | .rt v, h => Q (.rt v) h
section
variable {S : Sl → PH → Prop} {Q : Fl → PH → Prop} {s : Sl} {v : PV}
@[simp] theorem turn_nx : Turn S Q (.nx s) h = S s h := by rw [Turn]
@[simp] theorem turn_ct : Turn S Q (.ct s) h = S s h := by rw [Turn]
@[simp] theorem turn_bk : Turn S Q (.bk s) h = Q (.nx s) h := by rw [Turn]
@[simp] theorem turn_rt : Turn S Q (.rt v) h = Q (.rt v) h := by rw [Turn]
end
theorem frL_go {β : Type} {g : PV → Sl → PH → Res Sl} {b : Sl → PH → Res Fl} {l : Lean_} (e : β → PV) (S : List β → Sl → PH → Prop) {Q : Fl → PH → Prop} (hl : ∀ r s h, S r s h → leans l h = true)
    (hs : ∀ a r s h, S (a :: r) s h → ((g (e a) s h).bind b).To (Turn (S r) Q)) (hc : ∀ s h, S [] s h → Q (.nx s) h) : ∀ (xs : List β) (s : Sl) (h : PH), S xs s h → (frL g b l (xs.map e) s h).To Q
  | [], s, h, q => by rw [List.map_nil, frL_nil (hl _ _ _ q), to_ok]; exact hc s h q
  | a :: r, s, h, q => by
    rw [List.map_cons, frL_cons (hl _ _ _ q), to_bind']
    have z := hs a r s h q
    rw [to_bind'] at z
    refine to_mono z fun s1 h1 z1 => ?_
    rw [to_bind']
    refine to_mono z1 fun f h2 z2 => ?_
    cases f with
    | nx s2 => exact frL_go e S hl hs hc r s2 h2 z2
    | ct s2 => exact frL_go e S hl hs hc r s2 h2 z2
    | bk s2 => show (Res.ok (Fl.nx s2) h2).To Q; rw [to_ok]; exact z2
    | rt v => show (Res.ok (Fl.rt v) h2).To Q; rw [to_ok]; exact z2
/-- a for over a list that stays -/
theorem frL_l {β : Type} {g : PV → Sl → PH → Res Sl} {b : Sl → PH → Res Fl} {l : Lean_} {s : Sl} {Q : Fl → PH → Prop} (e : β → PV) (xs : List β) (S : List β → Sl → PH → Prop) (h0 : S xs s h) (hl : ∀ r s h, S r s h → leans l h = true)
    (hs : ∀ a r s h, S (a :: r) s h → ((g (e a) s h).bind b).To (Turn (S r) Q)) (hc : ∀ s h, S [] s h → Q (.nx s) h) : (frL g b l (xs.map e) s h).To Q := frL_go e S hl hs hc xs s h h0
theorem forR_go {g : PV → Sl → PH → Res Sl} {b : Sl → PH → Res Fl} {Q : Fl → PH → Prop} (S : Nat → Sl → PH → Prop) (N : Nat)
    (hs : ∀ i s h, i < N → S i s h → ((g (.int (i : Nat)) s h).bind b).To (Turn (S (i + 1)) Q)) (hc : ∀ s h, S N s h → Q (.nx s) h) : ∀ (m i : Nat) (s : Sl) (h : PH), i + m = N → S i s h → (frL g b [] (range (i : Nat) m 1) s h).To Q
  | 0, i, s, h, hi, q => by
    have : i = N := by omega
    subst this
    rw [range, frL_nil rfl, to_ok]; exact hc s h q
  | m + 1, i, s, h, hi, q => by
    rw [range_succ, frL_cons rfl, to_bind']
    have z := hs i s h (by omega) q
    rw [to_bind'] at z
    have e : (i : Int) + 1 = ((i + 1 : Nat) : Int) := by omega
    refine to_mono z fun s1 h1 z1 => ?_
    rw [to_bind']
    refine to_mono z1 fun f h2 z2 => ?_
    cases f with
    | nx s2 => show (frL g b [] (range ((i : Int) + 1) m 1) s2 h2).To Q; rw [e]; exact forR_go S N hs hc m (i + 1) s2 h2 (by omega) z2
    | ct s2 => show (frL g b [] (range ((i : Int) + 1) m 1) s2 h2).To Q; rw [e]; exact forR_go S N hs hc m (i + 1) s2 h2 (by omega) z2
    | bk s2 => show (Res.ok (Fl.nx s2) h2).To Q; rw [to_ok]; exact z2
    | rt v => show (Res.ok (Fl.rt v) h2).To Q; rw [to_ok]; exact z2
/-- a for over a range -/
theorem forR_to {g : PV → Sl → PH → Res Sl} {b : Sl → PH → Res Fl} {s : Sl} {Q : Fl → PH → Prop} {z w : Int} (a N : Nat) (S : Nat → Sl → PH → Prop) (hz : z = a) (hw : w = N) (ha : a ≤ N) (hn : N ≤ 1000000) (h0 : S a s h)
    (hs : ∀ i s h, a ≤ i → i < N → S i s h → ((g (.int (i : Nat)) s h).bind b).To (Turn (S (i + 1)) Q)) (hc : ∀ s h, S N s h → Q (.nx s) h) : (forR z w g b s h).To Q := by
  subst hz; subst hw
  have hb : bigR = 1000000 := rfl
  rw [forR, if_pos (by omega)]
  have : ((N : Int) - (a : Int)).toNat = N - a := by omega
  rw [this]
  refine to_mono (forR_go (fun i s h => a ≤ i ∧ S i s h) N (Q := Q) (fun i s h hi q => to_mono (hs i s h q.1 hi q.2) fun f h' z => ?_) (fun s h q => hc s h q.2) (N - a) a s h (by omega) ⟨Nat.le_refl _, h0⟩) fun _ _ q => q
  cases f with
  | nx s => exact ⟨Nat.le_succ_of_le q.1, z⟩
  | ct s => exact ⟨Nat.le_succ_of_le q.1, z⟩
  | bk s => exact z
  | rt v => exact z
theorem forR_to0 {g : PV → Sl → PH → Res Sl} {b : Sl → PH → Res Fl} {s : Sl} {Q : Fl → PH → Prop} {w : Int} (N : Nat) (S : Nat → Sl → PH → Prop) (hw : w = N) (hn : N ≤ 1000000) (h0 : S 0 s h)
    (hs : ∀ i s h, i < N → S i s h → ((g (.int (i : Nat)) s h).bind b).To (Turn (S (i + 1)) Q)) (hc : ∀ s h, S N s h → Q (.nx s) h) : (forR 0 w g b s h).To Q :=
  forR_to 0 N S rfl hw (by omega) hn h0 (fun i s h _ hi q => hs i s h hi q) hc
theorem compL_go {β : Type} {F : PV → PH → Res (Option PV)} {l : Lean_} (e : β → PV) (S : List β → List PV → PH → Prop) {Q : List PV → PH → Prop} (hl : ∀ r ys h, S r ys h → leans l h = true)
    (hs : ∀ a r ys h, S (a :: r) ys h → (F (e a) h).To fun y h' => S r (ys ++ y.toList) h') (hc : ∀ ys h, S [] ys h → Q ys h) : ∀ (xs : List β) (ys : List PV) (h : PH), S xs ys h → (compL F l (xs.map e) h).To fun zs h' => Q (ys ++ zs) h'
  | [], ys, h, q => by rw [List.map_nil, compL, if_pos (hl _ _ _ q), to_ok]; simpa using hc ys h q
  | a :: r, ys, h, q => by
    rw [List.map_cons, compL, if_pos (hl _ _ _ q), to_bind']
    refine to_mono (hs a r ys h q) fun y h1 z => ?_
    rw [to_bind']
    refine to_mono (compL_go e S hl hs hc r _ h1 z) fun zs h2 z2 => ?_
    cases y <;> simpa using z2
/-- a comprehension over a list that stays -/
theorem compL_to {β : Type} {F : PV → PH → Res (Option PV)} {l : Lean_} (e : β → PV) (xs : List β) (S : List β → List PV → PH → Prop) {Q : List PV → PH → Prop} (h0 : S xs [] h) (hl : ∀ r ys h, S r ys h → leans l h = true)
    (hs : ∀ a r ys h, S (a :: r) ys h → (F (e a) h).To fun y h' => S r (ys ++ y.toList) h') (hc : ∀ ys h, S [] ys h → Q ys h) : (compL F l (xs.map e) h).To Q := by
  simpa using compL_go e S hl hs hc xs [] h h0
theorem range_map0 (n a : Nat) : range (a : Nat) n 1 = (List.range' a n).map fun j : Nat => PV.int j := range_map n a
/-- a comprehension over a range -/
theorem compR_to {F : PV → PH → Res (Option PV)} {z w : Int} {Q : List PV → PH → Prop} (a N : Nat) (S : Nat → List PV → PH → Prop) (hz : z = a) (hw : w = N) (ha : a ≤ N) (hn : N ≤ 1000000) (h0 : S a [] h)
    (hs : ∀ i ys h, a ≤ i → i < N → S i ys h → (F (.int (i : Nat)) h).To fun y h' => S (i + 1) (ys ++ y.toList) h') (hc : ∀ ys h, S N ys h → Q ys h) : (compR z w F h).To Q := by
  subst hz; subst hw
  have hb : bigR = 1000000 := rfl
  have hM : many = 1000000 := rfl
  rw [compR, if_pos (by omega)]
  have en : ((N : Int) - (a : Int)).toNat = N - a := by omega
  rw [en, range_len', if_pos (by omega), range_map0]
  refine compL_to (fun j : Nat => PV.int j) _ (fun r ys h => ∃ i, a ≤ i ∧ i + r.length = N ∧ r = List.range' i (N - i) ∧ S i ys h) ⟨a, Nat.le_refl _, by simp; omega, rfl, h0⟩ (fun _ _ _ _ => rfl) (fun x r ys h ⟨i, h1, h2, h3, h4⟩ => ?_) (fun ys h ⟨i, h1, h2, h3, h4⟩ => ?_)
  · obtain ⟨m, hm⟩ : ∃ m, N - i = m + 1 := ⟨N - i - 1, by simp at h2; omega⟩
    rw [hm, List.range'_succ] at h3
    injection h3 with h3 h5
    subst h3
    refine to_mono (hs x ys h h1 (by simp at h2; omega) h4) fun y h' q => ⟨x + 1, by omega, by simp at h2; omega, ?_, q⟩
    rw [h5]; congr 1; omega
  · simp at h2; subst h2; exact hc ys h h4
theorem compR_to0 {F : PV → PH → Res (Option PV)} {w : Int} {Q : List PV → PH → Prop} (N : Nat) (S : Nat → List PV → PH → Prop) (hw : w = N) (hn : N ≤ 1000000) (h0 : S 0 [] h)
    (hs : ∀ i ys h, i < N → S i ys h → (F (.int (i : Nat)) h).To fun y h' => S (i + 1) (ys ++ y.toList) h') (hc : ∀ ys h, S N ys h → Q ys h) : (compR 0 w F h).To Q :=
  compR_to 0 N S rfl hw (by omega) hn h0 (fun i ys h _ hi q => hs i ys h hi q) hc
/-- a comprehension over a range that changes nothing -/
theorem compR_pure {F : PV → PH → Res (Option PV)} {z w : Int} (a n : Nat) (g : Nat → PV) (hz : z = a) (hw : w = (a + n : Nat)) (hn : a + n ≤ 1000000)
    (hs : ∀ i, a ≤ i → i < a + n → F (.int (i : Nat)) h = .ok (some (g i)) h) : compR z w F h = .ok ((List.range' a n).map g) h := by
  subst hz; subst hw
  have hb : bigR = 1000000 := rfl
  have hM : many = 1000000 := rfl
  rw [compR, if_pos (by omega)]
  have : (((a + n : Nat) : Int) - (a : Int)).toNat = n := by omega
  rw [this, range_len', if_pos (by omega)]
  exact compL_rng g n a hs
end
end PB
set_option Elab.async false
set_option linter.all false
set_option maxRecDepth 100000
set_option maxHeartbeats 1000000
set_option exponentiation.threshold 100000
namespace PB
open PySem
/-! ### numbers over a power of 420 -/
def Fq (e n : Nat) (q : Rat) : Prop := ∃ A : Int, q * (420 : Rat) ^ e = (A : Rat) ∧ A.natAbs < 2 ^ n
section
variable {k : Nat} {h t : PH} {o : PO} {e e' n n' m b c : Nat} {x y : Rat}
theorem pow420 (e : Nat) : ((420 : Rat) ^ e) = (((420 ^ e : Nat) : Int) : Rat) := by
  induction e with
  | zero => rfl
  | succ e ih => rw [Rat.pow_succ, ih, Nat.pow_succ]; push_cast; rfl
theorem lt420 (e : Nat) : 420 ^ e ≤ 2 ^ (9 * e) := by
  rw [Nat.pow_mul]; exact Nat.pow_le_pow_left (by decide) e
theorem Fq.bd (h : Fq e n x) (hm : n ≤ m) (h9 : 9 * e + 1 ≤ m) : Bd m x := by
  obtain ⟨A, h1, h2⟩ := h
  rw [pow420] at h1
  refine bd_of_frac (D := ((420 ^ e : Nat) : Int)) ?_ h1 (lt_pow h2 hm) ?_
  · have := Nat.pow_pos (n := e) (show 0 < 420 by decide); omega
  · have := lt420 e
    rw [Int.natAbs_natCast]
    refine Nat.lt_of_le_of_lt this ?_
    exact Nat.lt_of_lt_of_le (Nat.pow_lt_pow_right (by decide) (Nat.lt_succ_self _)) (Nat.pow_le_pow_right (by decide) h9)
theorem Fq.lift (h : Fq e n x) (d : Nat) : Fq (e + d) (n + 9 * d) x := by
  obtain ⟨A, h1, h2⟩ := h
  refine ⟨A * ((420 ^ d : Nat) : Int), ?_, ?_⟩
  · rw [rpow_add, ← Rat.mul_assoc, h1, pow420]; push_cast; rfl
  · rw [Int.natAbs_mul, Int.natAbs_natCast]
    calc A.natAbs * 420 ^ d ≤ A.natAbs * 2 ^ (9 * d) := Nat.mul_le_mul_left _ (lt420 d)
      _ < 2 ^ n * 2 ^ (9 * d) := Nat.mul_lt_mul_of_pos_right h2 (Nat.pow_pos (by decide))
      _ = 2 ^ (n + 9 * d) := pow_pow
theorem Fq.up (h : Fq e n x) (he : e ≤ e') (hn : n + 9 * (e' - e) ≤ n') : Fq e' n' x := by
  obtain ⟨A, h1, h2⟩ := h.lift (e' - e)
  have : e + (e' - e) = e' := by omega
  rw [this] at h1
  exact ⟨A, h1, lt_pow h2 hn⟩
theorem Fq.add (hx : Fq e n x) (hy : Fq e n y) : Fq e (n + 1) (x + y) := by
  obtain ⟨A, a1, a2⟩ := hx; obtain ⟨B, b1, b2⟩ := hy
  refine ⟨A + B, ?_, natAbs_add_lt a2 b2⟩
  rw [Rat.add_mul, a1, b1]; push_cast; rfl
theorem Fq.sub (hx : Fq e n x) (hy : Fq e n y) : Fq e (n + 1) (x - y) := by
  obtain ⟨A, a1, a2⟩ := hx; obtain ⟨B, b1, b2⟩ := hy
  refine ⟨A - B, ?_, natAbs_sub_lt a2 b2⟩
  have : (x - y) * (420 : Rat) ^ e = x * 420 ^ e - y * 420 ^ e := by grind
  rw [this, a1, b1]; push_cast; rfl
theorem Fq.mul (hx : Fq e n x) (hy : Fq e' n' y) : Fq (e + e') (n + n') (x * y) := by
  obtain ⟨A, a1, a2⟩ := hx; obtain ⟨B, b1, b2⟩ := hy
  refine ⟨A * B, ?_, natAbs_mul_lt a2 b2⟩
  have : (x * y) * (420 : Rat) ^ (e + e') = (x * 420 ^ e) * (y * 420 ^ e') := by rw [rpow_add]; grind
  rw [this, a1, b1]; push_cast; rfl
theorem Fq.neg (hx : Fq e n x) : Fq e n (-x) := by
  obtain ⟨A, a1, a2⟩ := hx
  refine ⟨-A, ?_, by simpa using a2⟩
  rw [Rat.neg_mul, a1]; push_cast; rfl
theorem Fq.int (i : Int) (h : i.natAbs < 2 ^ n) : Fq 0 n (i : Rat) := ⟨i, by rw [Rat.pow_zero, Rat.mul_one], h⟩
theorem Fq.zero' : Fq e n 0 := ⟨0, by rw [Rat.zero_mul]; rfl, by simpa using Nat.pow_pos (show 0 < 2 by decide)⟩
theorem Fq.zero : Fq 0 1 0 := Fq.int 0 (by decide)
theorem Fq.one : Fq 0 1 1 := Fq.int 1 (by decide)
theorem Fq.of3 (h : Bd 3 x) : Fq 1 12 x := by
  obtain ⟨D, d0, d1, hD⟩ := cd3 (xs := [x]) (fun q hq => by simp at hq; subst hq; exact h)
  obtain ⟨h1, h2⟩ := h
  have h3 := x.den_pos
  obtain ⟨c, hc⟩ : ∃ c : Nat, x.den * c = 420 := by
    have : x.den = 1 ∨ x.den = 2 ∨ x.den = 3 ∨ x.den = 4 ∨ x.den = 5 ∨ x.den = 6 ∨ x.den = 7 := by omega
    rcases this with e | e | e | e | e | e | e <;> rw [e]
    · exact ⟨420, rfl⟩
    · exact ⟨210, rfl⟩
    · exact ⟨140, rfl⟩
    · exact ⟨105, rfl⟩
    · exact ⟨84, rfl⟩
    · exact ⟨70, rfl⟩
    · exact ⟨60, rfl⟩
  refine ⟨x.num * c, ?_, ?_⟩
  · have e : (420 : Rat) = (((x.den : Int) * (c : Int) : Int) : Rat) := by rw [← Int.natCast_mul, hc]; rfl
    rw [show (1 : Nat) = 0 + 1 from rfl, Rat.pow_succ, Rat.pow_zero, Rat.one_mul, e, Rat.intCast_mul, Rat.intCast_mul, ← num_den x]; grind
  · rw [Int.natAbs_mul]
    have hcle : c ≤ 420 := by rw [← hc]; exact Nat.le_mul_of_pos_left c h3
    have : x.num.natAbs * (c : Int).natAbs ≤ 8 * 420 := Nat.mul_le_mul (by omega) (by simpa using hcle)
    have : (2:Nat) ^ 12 = 4096 := rfl
    omega
/-- sizes in statements -/
class Fz (q : Rat) (e n : outParam Nat) : Prop where
  f : Fq e n q
instance (priority := high) sz_fz [hx : Fz x e n] : Sz x (max n (9 * e + 1)) := ⟨hx.f.bd (by omega) (by omega)⟩
instance fz_add [hx : Fz x e n] [hy : Fz y e' n'] : Fz (x + y) (max e e') (max (n + 9 * (max e e' - e)) (n' + 9 * (max e e' - e')) + 1) := ⟨(hx.f.up (by omega) (by omega)).add (hy.f.up (by omega) (by omega))⟩
instance fz_sub [hx : Fz x e n] [hy : Fz y e' n'] : Fz (x - y) (max e e') (max (n + 9 * (max e e' - e)) (n' + 9 * (max e e' - e')) + 1) := ⟨(hx.f.up (by omega) (by omega)).sub (hy.f.up (by omega) (by omega))⟩
instance fz_mul [hx : Fz x e n] [hy : Fz y e' n'] : Fz (x * y) (e + e') (n + n') := ⟨hx.f.mul hy.f⟩
instance fz_neg [hx : Fz x e n] : Fz (-x) e n := ⟨hx.f.neg⟩
instance fz_0 : Fz 0 0 1 := ⟨.zero⟩
instance fz_1 : Fz 1 0 1 := ⟨.one⟩
instance fz_2 : Fz 2 0 2 := ⟨.int 2 (by decide)⟩
instance fz_3 : Fz 3 0 2 := ⟨.int 3 (by decide)⟩
instance fz_4 : Fz 4 0 3 := ⟨.int 4 (by decide)⟩
theorem draw_fq (hr : Row o) (hw : Wf t) (hk : 3 ≤ k) : ∃ q o', Fq 1 12 q ∧ Row o' ∧ callF G k 19 [.ref 0] (o :: t) = .ok (fr q) (o' :: t) := by
  obtain ⟨k, rfl⟩ := Nat.exists_eq_add_of_le hk
  rw [Nat.add_comm]
  obtain ⟨q, o', h1, h2, h3⟩ := draw_ok (k := k) hr hw
  exact ⟨q, o', .of3 h1, h2, h3⟩
end
end PB
set_option Elab.async false
set_option linter.all false
set_option maxRecDepth 100000
set_option maxHeartbeats 1000000
set_option exponentiation.threshold 100000
namespace PB
open PySem
section
variable {k : Nat} {h t : PH} {o : PO} {e e' n n' m b c : Nat} {x y : Rat} {xs : List Rat}
/-! ### nets -/
abbrev Net := Nat → Nat → Rat
def rowsN (L : List (List Rat)) : List PV := L.map pol
@[simp] theorem map_pol {L : List (List Rat)} : L.map pol = rowsN L := rfl
@[simp] theorem rowsN_len {L : List (List Rat)} : (rowsN L).length = L.length := List.length_map ..
@[simp] theorem rowsN_get {L : List (List Rat)} {i : Nat} : (rowsN L)[i]? = L[i]?.map pol := List.getElem?_map ..
@[simp] theorem rowsN_app {L M : List (List Rat)} : rowsN L ++ rowsN M = rowsN (L ++ M) := List.map_append.symm
@[simp] theorem rowsN_nil : rowsN [] = [] := rfl
@[simp] theorem rowsN_cons {a : List Rat} {L : List (List Rat)} : rowsN (a :: L) = pol a :: rowsN L := rfl
@[simp] theorem rowsN_snoc {L : List (List Rat)} {a : List Rat} : rowsN L ++ [pol a] = rowsN (L ++ [a]) := by rw [rowsN, rowsN, List.map_append]; rfl
@[simp] theorem frs_snoc {L : List Rat} {a : Rat} : frs L ++ [fr a] = frs (L ++ [a]) := by rw [frs, frs, List.map_append]; rfl
@[simp] theorem lows_rowsN {n : Nat} {L : List (List Rat)} : PV.lows n (rowsN L) = true := by
  induction L with
  | nil => simp [PV.lows]
  | cons a r ih => simp only [rowsN_cons, PV.lows, Bool.and_eq_true]; exact ⟨low_pol, ih⟩
@[simp] theorem plains_rowsN {n : Nat} {L : List (List Rat)} : plains (n + 2) (rowsN L) = true := by
  induction L with
  | nil => simp [plains]
  | cons a r ih => simp only [rowsN_cons, plains, Bool.and_eq_true]; exact ⟨plain_pol, ih⟩
/-- the rows of a net whose lists have n, n - 1, .. numbers behind the first i -/
def netR (f : Net) (n i : Nat) : List (List Rat) := (List.range' 0 i).map fun a => tbl (f a) (n - a)
def netv (n : Nat) (f : Net) : PV := .tup (rowsN (netR f (n + 1) (n + 1)))
@[simp] theorem low_netv {m n : Nat} {f : Net} : PV.low m (netv n f) = true := by simp [netv, PV.low]
@[simp] theorem keep_netv {n : Nat} {f : Net} : keepP h h (netv n f) = h := keepP_self low_netv
@[simp] theorem plain_netv {m n : Nat} {f : Net} : plain (m + 3) (netv n f) = true := by simp [netv, plain]
@[simp] theorem items_netv {n : Nat} {f : Net} : items h (netv n f) = some (rowsN (netR f (n + 1) (n + 1))) := rfl
@[simp] theorem kindOf_netv {n : Nat} {f : Net} : kindOf h (netv n f) = some 4 := rfl
@[simp] theorem leanOf_netv {n : Nat} {f : Net} : leanOf h (netv n f) = [] := rfl
abbrev P3 := Rat × Rat × Rat
def F3 (e n : Nat) (p : P3) : Prop := Fq e n p.1 ∧ Fq e n p.2.1 ∧ Fq e n p.2.2
def av (p : P3) (f : Net) : Net := fun i j => p.1 * f i j + p.2.1 * f (i + 1) j + p.2.2 * f i (j + 1)
def FN (e n : Nat) (f : Net) : Prop := ∀ i j, Fq e n (f i j)
theorem FN.av {f : Net} {p : P3} (hf : FN e n f) (hp : F3 e' n' p) : FN (e' + e) (n' + n + 2) (av p f) := fun i j =>
  ((hp.1.mul (hf i j)).add (hp.2.1.mul (hf (i + 1) j))).add ((hp.2.2.mul (hf i (j + 1))).up (Nat.le_refl _) (by omega))
/-! ### blossoms of nets -/
def opp (ps : List P3) (f : Net) : Net := ps.foldl (fun g p => av p g) f
@[simp] theorem opp_nil (f : Net) : opp [] f = f := rfl
end
end PB
set_option Elab.async false
set_option linter.all false
set_option maxRecDepth 100000
set_option maxHeartbeats 1000000
set_option exponentiation.threshold 100000
namespace PB
open PySem
section
variable {k : Nat} {h t : PH} {o : PO} {e e' n n' m b c : Nat} {x y : Rat} {xs : List Rat}
/-! ### the law's own words about nets -/
def ntm (c : Nat) (f : Net) (p : P3) (i j : Nat) : Rat := f i j * ((p.2.1 ^ i * p.2.2 ^ j * p.1 ^ (c - i - j)) * ((bin c i : Rat) * (bin (c - i) j : Rat)))
def NA (c : Nat) (f : Net) (p : P3) : Rat := sumTo (fun i => sumTo (fun j => ntm c f p i j) (c + 1 - i)) (c + 1)
theorem sumTo_fq {g : Nat → Rat} : ∀ {m : Nat}, (∀ i, i < m → Fq e n (g i)) → Fq e (n + m) (sumTo g m)
  | 0, _ => by rw [sumTo]; exact Fq.zero'
  | m + 1, hg => by
    rw [sumTo]
    exact ((sumTo_fq fun i hi => hg i (by omega)).add ((hg m (by omega)).up (Nat.le_refl _) (by omega))).up (Nat.le_refl _) (by omega)
end
end PB
set_option Elab.async false
set_option linter.all false
set_option maxRecDepth 100000
set_option maxHeartbeats 1000000
set_option exponentiation.threshold 100000
namespace PB
open PySem
section
variable {k : Nat} {h t : PH} {o : PO} {e e' n n' m b c : Nat} {x y : Rat} {xs : List Rat}
/-! ### drawn nets and places -/
/-! ### the algebra of nets -/
def c0 : P3 := (1, 0, 0)
def c1 : P3 := (0, 1, 0)
def c2 : P3 := (0, 0, 1)
/-! ### draws, as they stand in a goal -/
theorem of_law {x : Res PV} (q : x.To fun v _ => v = .bl true) : ∃ h', x = .ok (.bl true) h' := by
  obtain ⟨v, h', e, rfl⟩ := to_ex q
  exact ⟨h', e⟩
theorem taken_to {m : Int} {Q : PV → PH → Prop} (hm : 0 < m) (hz : m ≤ 1000000) (hr : Row o) (hk : 1 ≤ k) (q : ∀ (r : Nat) o', (r : Int) < m → Row o' → Q (.int r) (o' :: t)) : (callF G k 14 [.ref 0, .int m] (o :: t)).To Q := by
  obtain ⟨k, rfl⟩ := Nat.exists_eq_add_of_le hk
  rw [Nat.add_comm]
  obtain ⟨r, o', h1, h2, h3, h4⟩ := taken_ok (k := k) (t := t) hm hz hr
  obtain ⟨r, rfl⟩ : ∃ a : Nat, r = a := ⟨r.toNat, by omega⟩
  exact to_eq h4 (q r o' h2 h3)
theorem draw_to {Q : PV → PH → Prop} (hr : Row o) (hw : Wf t) (hk : 3 ≤ k) (q : ∀ x o', Fq 1 12 x → Row o' → Q (fr x) (o' :: t)) : (callF G k 19 [.ref 0] (o :: t)).To Q := by
  obtain ⟨x, o', h1, h2, h3⟩ := draw_fq (k := k) hr hw hk
  exact to_eq h3 (q x o' h1 h2)
theorem F3.up {p : P3} (h : F3 e n p) (he : e ≤ e') (hn : n + 9 * (e' - e) ≤ n') : F3 e' n' p := ⟨h.1.up he hn, h.2.1.up he hn, h.2.2.up he hn⟩
theorem row0 {ns : List Int} (hl : ns.length ≤ 63) {s : Int} (h0 : 0 ≤ s) (h1 : s < 2147483647) : Row (.lst [.scr (ns.map PV.int), .int 0, .int s, .int 0]) := ⟨ns, 0, s, 0, rfl, by omega, by decide, h0, h1⟩
end
end PB
set_option Elab.async false
set_option linter.all false
set_option maxRecDepth 100000
set_option maxHeartbeats 1000000
set_option exponentiation.threshold 100000
namespace PB
open PySem
section
variable {k : Nat} {h t : PH} {o : PO} {m n : Nat}
def Pls (ps : List P3) : Prop := ∀ p ∈ ps, F3 1 14 p ∧ p.1 + p.2.1 + p.2.2 = 1
theorem Pls.nil : Pls [] := fun _ h => by simp at h
end
end PB
set_option Elab.async false
set_option linter.all false
set_option maxRecDepth 100000
set_option maxHeartbeats 1000000
set_option exponentiation.threshold 100000
namespace PB
open PySem
section
variable {k : Nat} {h t : PH} {o : PO} {e e' n n' m b c : Nat} {x y : Rat} {xs : List Rat}
/-- the net of a derivative -/
def slN (c : Nat) (s : P3) (f : Net) : Net := if c = 0 then fun _ _ => 0 else fun i j => av s f i j * (c : Rat)
end
end PB
set_option Elab.async false
set_option linter.all false
set_option maxRecDepth 100000
set_option maxHeartbeats 2000000
set_option exponentiation.threshold 100000
namespace PB
open PySem
section
variable {k : Nat} {h t : PH} {o : PO} {e e' n n' m b c : Nat}
theorem keep_app' {h t : PH} {v : PV} (hv : PV.low h.length v = true) : keepP h (h ++ t) v = h := keepP_app hv
end
end PB
set_option Elab.async false
set_option linter.all false
set_option maxRecDepth 100000
set_option maxHeartbeats 2000000
set_option exponentiation.threshold 100000
namespace PB
open PySem
section
variable {k : Nat} {h t : PH} {o : PO} {e e' n n' m b c : Nat}
end
end PB
set_option Elab.async false
set_option linter.all false
set_option maxRecDepth 100000
set_option maxHeartbeats 4000000
set_option exponentiation.threshold 100000
namespace PB
open PySem
section
variable {k : Nat} {h t : PH} {o : PO} {e e' n n' m b c : Nat}
/-- the slopes' nets -/
def Sk (c : Nat) (s : P3) (f : Net) : Nat → Net
  | 0 => f
  | i + 1 => slN (c - i) s (Sk c s f i)
end
end PB
set_option Elab.async false
set_option linter.all false
set_option maxRecDepth 100000
set_option maxHeartbeats 4000000
set_option exponentiation.threshold 100000
namespace PB
open PySem
section
variable {k : Nat} {h t : PH} {o : PO} {e e' n n' m b c : Nat}
def dd : P3 := (1, -1, 0)
def hkp (c k : Nat) : P3 := (0, (k : Rat) / ((c + 1 : Nat) : Rat), ((c + 1 - k : Nat) : Rat) / ((c + 1 : Nat) : Rat))
end
end PB
set_option Elab.async false
set_option linter.all false
set_option maxRecDepth 100000
set_option maxHeartbeats 4000000
set_option exponentiation.threshold 100000
namespace PB
open PySem
section
variable {k : Nat} {h t : PH} {o : PO} {e e' n n' m b c : Nat}
def rowEq (c : Nat) (T g : Net) (r : Nat) : Prop := ∀ i, i ≤ c - r → T i (c - r - i) = g i (c - r - i)
instance (c : Nat) (T g : Net) : DecidablePred (rowEq c T g) := fun r => decidable_of_iff (∀ i, i < c - r + 1 → T i (c - r - i) = g i (c - r - i)) ⟨fun h i hi => h i (by omega), fun h i hi => h i (by omega)⟩
def valEq (c : Nat) (a : P3) (f g : Net) (r : Nat) : Prop := ∀ k, k ≤ c → NA (c - r) (Sk c a f r) (hkp c k) = NA (c - r) (Sk c dd g r) (hkp c k)
instance (c : Nat) (a : P3) (f g : Net) : DecidablePred (valEq c a f g) := fun r => decidable_of_iff (∀ k, k < c + 1 → NA (c - r) (Sk c a f r) (hkp c k) = NA (c - r) (Sk c dd g r) (hkp c k)) ⟨fun h i hi => h i (by omega), fun h i hi => h i (by omega)⟩
/-! ### the program's steps -/
end
end PB
set_option Elab.async false
set_option linter.all false
set_option maxRecDepth 100000
set_option maxHeartbeats 1000000
set_option exponentiation.threshold 100000
namespace PB
open PySem
/-! ### steps as they stand in a goal: what comes later stays hidden -/
/-- a branch not yet decided -/
class Hb where
  a : Prop
@[irreducible] def Br (p : Bool) [i : Hb] [j : Hb] : Prop := if p = true then i.a else j.a
section
variable {α β : Type} {cf : Nat → List PV → PH → Res PV} {s : Sl} {h : PH}
theorem bnd {γ : Type} {x : Res α} {f : α → PH → Res β} {g : β → PH → Res γ} : (x.bind f).bind g = x.bind fun a h => (f a h).bind g := by cases x <;> simp
theorem Kp_eq {Q : α → PH → Prop} : @Kp α ⟨Q⟩ = Q := by unfold Kp; rfl
@[simp ↓] theorem br_true {x y : Prop} : @Br true ⟨x⟩ ⟨y⟩ = x := by unfold Br; simp
@[simp ↓] theorem br_false {x y : Prop} : @Br false ⟨x⟩ ⟨y⟩ = y := by unfold Br; simp
theorem br_to {p : Bool} {x y : Prop} (h1 : p = true → x) (h2 : p = false → y) : @Br p ⟨x⟩ ⟨y⟩ := by
  cases p
  · rw [br_false]; exact h2 rfl
  · rw [br_true]; exact h1 rfl
@[simp ↓] theorem to_ifB {p : Bool} {a b : Res α} {Q : α → PH → Prop} : ((PV.bl p).ifB a b).To Q = @Br p ⟨a.To Q⟩ ⟨b.To Q⟩ := by
  cases p <;> simp
/-- both branches come to the same -/
theorem br_mono {p : Bool} {a b : Res α} {P Q : α → PH → Prop} (h1 : p = true → a.To P) (h2 : p = false → b.To P) (hm : ∀ v h, P v h → Q v h) : @Br p ⟨a.To Q⟩ ⟨b.To Q⟩ := br_to (fun hp => to_mono (h1 hp) hm) (fun hp => to_mono (h2 hp) hm)
variable {Q : PV → PH → Prop} {QA : List PV → PH → Prop} {QF : Fl → PH → Prop} {QS : Sl → PH → Prop} {QO : Option PV → PH → Prop} {QI : List PV × Lean_ → PH → Prop}
@[simp] theorem many_eq : many = 1000000 := by unfold many; rfl
@[simp] theorem setAll_n : setAll [] [] s = some s := by rw [setAll]
@[simp] theorem setAll_c {i : Nat} {is : List Nat} {x : PV} {xs : List PV} : setAll (i :: is) (x :: xs) s = setAll is xs (s.set i (some x)) := by rw [setAll]
@[simp] theorem optI_none : optI h none = .ok none h := by rw [optI]
@[simp] theorem optI_int {i : Int} : optI h (some (.int i)) = .ok (some i) h := by rw [optI]
@[simp ↓] theorem tB_nil : (evB cf .nil s h).To QF = QF (.nx s) h := by rw [evB_nil, to_ok]
@[simp ↓] theorem tB_cons {st : CS} {r : CB} : (evB cf (.cons st r) s h).To QF = (evS cf st s h).To (@Kp Fl ⟨fun f h1 => (match f with
    | .nx s2 => evB cf r s2 h1
    | f => .ok f h1).To QF⟩) := by rw [evB_cons, to_bind', Kp_eq]; try rfl
@[simp ↓] theorem tS_asg {t : CT} {e : CE} : (evS cf (.asg t e) s h).To QF = (evE cf e s h).To (@Kp PV ⟨fun x h1 => (asT cf t x s h1).To (@Kp Sl ⟨fun s2 h2 => QF (.nx s2) h2⟩)⟩) := by
  simp only [evS_asg, to_bind', Kp_eq, to_ok]
@[simp ↓] theorem tS_par {is : List Nat} {es : CA} : (evS cf (.par is es) s h).To QF = (evA cf es s h).To (@Kp (List PV) ⟨fun xs h1 => (match setAll is xs s with | some s2 => Res.ok (Fl.nx s2) h1 | none => .bad).To QF⟩) := by
  simp only [evS_par, to_bind', Kp_eq]; try rfl
@[simp ↓] theorem tS_expr {e : CE} : (evS cf (.expr e) s h).To QF = (evE cf e s h).To (@Kp PV ⟨fun _ h1 => QF (.nx s) h1⟩) := by
  simp only [evS_expr, to_bind', Kp_eq, to_ok]
@[simp ↓] theorem tS_ret {e : CE} : (evS cf (.ret e) s h).To QF = (evE cf e s h).To (@Kp PV ⟨fun x h1 => QF (.rt x) h1⟩) := by
  simp only [evS_ret, to_bind', Kp_eq, to_ok]
@[simp ↓] theorem tS_retN : (evS cf .retN s h).To QF = QF (.rt .non) h := by rw [evS_retN, to_ok]
@[simp ↓] theorem tS_pass : (evS cf .pass s h).To QF = QF (.nx s) h := by rw [evS_pass, to_ok]
@[simp ↓] theorem tS_brk : (evS cf .brk s h).To QF = QF (.bk s) h := by rw [evS_brk, to_ok]
@[simp ↓] theorem tS_cnt : (evS cf .cnt s h).To QF = QF (.ct s) h := by rw [evS_cnt, to_ok]
@[simp ↓] theorem tS_ifs {c : CE} {a b : CB} : (evS cf (.ifs c a b) s h).To QF = (evE cf c s h).To (@Kp PV ⟨fun x h1 => (x.ifB (evB cf a s h1) (evB cf b s h1)).To QF⟩) := by
  simp only [evS_ifs, to_bind', Kp_eq]
@[simp ↓] theorem tS_for1 {t : CT} {e : CE} {b : CB} : (evS cf (.for_ t (.rng1 (.cons e .nil)) b) s h).To QF = (evE cf e s h).To (@Kp PV ⟨fun x h1 => (match x with | .int z => forR 0 z (asT cf t) (evB cf b) s h1 | _ => .bad).To QF⟩) := by
  rw [evS_for1, to_bind', Kp_eq]; try rfl
@[simp ↓] theorem tS_for2 {t : CT} {e e' : CE} {b : CB} : (evS cf (.for_ t (.rng2 (.cons e (.cons e' .nil))) b) s h).To QF = (evE cf e s h).To (@Kp PV ⟨fun x h1 => (evE cf e' s h1).To (@Kp PV ⟨fun y h2 => (match x, y with | .int z, .int w => forR z w (asT cf t) (evB cf b) s h2 | _, _ => .bad).To QF⟩)⟩) := by
  rw [evS_for2, to_bind', Kp_eq]; congr 1; funext x h1; rw [to_bind', Kp_eq]; try rfl
@[simp ↓] theorem tS_forS {t : CT} {e : CE} {b : CB} : (evS cf (.for_ t (.seq e) b) s h).To QF = (evE cf e s h).To (@Kp PV ⟨fun x h1 => (match items h1 x with | some xs => frL (asT cf t) (evB cf b) (leanOf h1 x) xs s h1 | none => .bad).To QF⟩) := by
  rw [evS_for, evI_seq, bnd, to_bind', Kp_eq]
  congr 1; funext x h1
  cases items h1 x <;> simp
@[simp ↓] theorem tS_forE {t : CT} {e : CE} {b : CB} : (evS cf (.for_ t (.enu (.cons e .nil)) b) s h).To QF = (evE cf e s h).To (@Kp PV ⟨fun x h1 => (match items h1 x with | some xs => frL (asT cf t) (evB cf b) (leanOf h1 x) (enums 0 xs) s h1 | none => .bad).To QF⟩) := by
  rw [evS_for, evI_enu, evA_cons, bnd, bnd, to_bind', Kp_eq]
  congr 1; funext x h1
  simp only [evA_nil, bind_ok']
  cases items h1 x <;> simp
@[simp ↓] theorem tE_bin {op : BinO} {a b : CE} : (evE cf (.bin op a b) s h).To Q = (evE cf a s h).To (@Kp PV ⟨fun x h1 => (evE cf b s h1).To (@Kp PV ⟨fun y h2 => (binop op x y h2).To Q⟩)⟩) := by
  simp only [evE_bin, to_bind', Kp_eq]
@[simp ↓] theorem tE_neg {a : CE} : (evE cf (.neg a) s h).To Q = (evE cf a s h).To (@Kp PV ⟨fun x h1 => (match x with | .int i => Res.ok (PV.int (-i)) h1 | _ => .bad).To Q⟩) := by
  rw [evE_neg, to_bind', Kp_eq]; try rfl
@[simp ↓] theorem tE_not {a : CE} : (evE cf (.not a) s h).To Q = (evE cf a s h).To (@Kp PV ⟨fun x h1 => (match x with | .bl b => Res.ok (PV.bl (!b)) h1 | _ => .bad).To Q⟩) := by
  rw [evE_not, to_bind', Kp_eq]; try rfl
@[simp ↓] theorem tE_and {a b : CE} : (evE cf (.and a b) s h).To Q = (evE cf a s h).To (@Kp PV ⟨fun x h1 => (x.ifB (evE cf b s h1) (.ok (.bl false) h1)).To Q⟩) := by
  rw [evE_and, to_bind', Kp_eq]
@[simp ↓] theorem tE_or {a b : CE} : (evE cf (.or a b) s h).To Q = (evE cf a s h).To (@Kp PV ⟨fun x h1 => (x.ifB (.ok (.bl true) h1) (evE cf b s h1)).To Q⟩) := by
  rw [evE_or, to_bind', Kp_eq]
@[simp ↓] theorem tE_cmp {op : CmpO} {a b : CE} : (evE cf (.cmp op a b) s h).To Q = (evE cf a s h).To (@Kp PV ⟨fun x h1 => (evE cf b s h1).To (@Kp PV ⟨fun y h2 => (cmpop op x y h2).To Q⟩)⟩) := by
  simp only [evE_cmp, to_bind', Kp_eq]
@[simp ↓] theorem tE_chn {op op' : CmpO} {a b c : CE} : (evE cf (.chn op op' a b c) s h).To Q = (evE cf a s h).To (@Kp PV ⟨fun x h1 => (evE cf b s h1).To (@Kp PV ⟨fun y h2 => (cmpop op x y h2).To (@Kp PV ⟨fun r h3 => (r.ifB ((evE cf c s h3).bind fun z h4 => cmpop op' y z h4) (.ok (.bl false) h3)).To Q⟩)⟩)⟩) := by
  rw [evE_chn, to_bind', Kp_eq]; congr 1; funext x h1; rw [to_bind', Kp_eq]; congr 1; funext y h2; rw [to_bind', Kp_eq]
@[simp ↓] theorem tE_ite {c a b : CE} : (evE cf (.ite c a b) s h).To Q = (evE cf c s h).To (@Kp PV ⟨fun x h1 => (x.ifB (evE cf a s h1) (evE cf b s h1)).To Q⟩) := by
  rw [evE_ite, to_bind', Kp_eq]
@[simp ↓] theorem tE_tup {es : CA} : (evE cf (.tup es) s h).To Q = (evA cf es s h).To (@Kp (List PV) ⟨fun xs h1 => xs.length ≤ many ∧ Q (.tup xs) h1⟩) := by
  rw [evE_tup, to_bind', Kp_eq]; congr 1; funext x h1; simp
@[simp ↓] theorem tE_lst {es : CA} : (evE cf (.lst es) s h).To Q = (evA cf es s h).To (@Kp (List PV) ⟨fun xs h1 => xs.length ≤ many ∧ Q (.ref h1.length) (h1 ++ [PO.lst xs])⟩) := by
  rw [evE_lst, to_bind', Kp_eq]; congr 1; funext x h1; simp [alloc]
@[simp ↓] theorem tE_idx {a b : CE} : (evE cf (.idx a b) s h).To Q = (evE cf a s h).To (@Kp PV ⟨fun x h1 => (evE cf b s h1).To (@Kp PV ⟨fun y h2 => (idxop x y h2).To Q⟩)⟩) := by
  simp only [evE_idx, to_bind', Kp_eq]
@[simp ↓] theorem tE_two {a : CE} {k : CO} : (evE cf (.two a k) s h).To Q = (evE cf a s h).To (@Kp PV ⟨fun x h1 => (evO cf k s h1).To (@Kp (Option PV) ⟨fun l h2 => (optI h2 l).To (@Kp (Option Int) ⟨fun l h3 => (twoop x l h3).To Q⟩)⟩)⟩) := by
  simp only [evE_two, to_bind', Kp_eq]
@[simp ↓] theorem tE_slc {a : CE} {lo hi : CO} : (evE cf (.slc a lo hi) s h).To Q = (evE cf a s h).To (@Kp PV ⟨fun x h1 => (evO cf lo s h1).To (@Kp (Option PV) ⟨fun l h2 => (evO cf hi s h2).To (@Kp (Option PV) ⟨fun u h3 => (optI h3 l).To (@Kp (Option Int) ⟨fun l h3 => (optI h3 u).To (@Kp (Option Int) ⟨fun u h3 => (slcop x l u h3).To Q⟩)⟩)⟩)⟩)⟩) := by
  simp only [evE_slc, to_bind', Kp_eq]
@[simp ↓] theorem tE_rev {a : CE} : (evE cf (.rev a) s h).To Q = (evE cf a s h).To (@Kp PV ⟨fun x h1 => (revop x h1).To Q⟩) := by
  simp only [evE_rev, to_bind', Kp_eq]
@[simp ↓] theorem tE_call {f : Nat} {es : CA} : (evE cf (.call f es) s h).To Q = (evA cf es s h).To (@Kp (List PV) ⟨fun xs h1 => (cf f xs h1).To Q⟩) := by
  simp only [evE_call, to_bind', Kp_eq]
@[simp ↓] theorem tE_blt {b : Blt} {es : CA} : (evE cf (.blt b es) s h).To Q = (evA cf es s h).To (@Kp (List PV) ⟨fun xs h1 => (blt b xs h1).To Q⟩) := by
  simp only [evE_blt, to_bind', Kp_eq]
@[simp ↓] theorem tE_mth {m : Mth} {o : CE} {es : CA} : (evE cf (.mth m o es) s h).To Q = (evE cf o s h).To (@Kp PV ⟨fun x h1 => (evA cf es s h1).To (@Kp (List PV) ⟨fun xs h2 => (mth m x xs h2).To Q⟩)⟩) := by
  simp only [evE_mth, to_bind', Kp_eq]
@[simp ↓] theorem tE_comp1 {e c : CE} {own : List Nat} {tg : CT} {co : CO} : (evE cf (.comp e own tg (.rng1 (.cons c .nil)) co) s h).To Q = (evE cf c s h).To (@Kp PV ⟨fun x h1 => (match x with | .int z => compR 0 z (compF cf e own tg co s) h1 | _ => .bad).To (@Kp (List PV) ⟨fun ys h2 => Q (.ref h2.length) (h2 ++ [PO.lst ys])⟩)⟩) := by
  rw [evE_comp1, to_bind', Kp_eq]; congr 1; funext x h1
  cases x <;> simp [alloc, to_bind', Kp_eq]
@[simp ↓] theorem tE_compS {e c : CE} {own : List Nat} {tg : CT} {co : CO} : (evE cf (.comp e own tg (.seq c) co) s h).To Q = (evE cf c s h).To (@Kp PV ⟨fun x h1 => (match items h1 x with | some xs => if xs.length ≤ many then compL (compF cf e own tg co s) (leanOf h1 x) xs h1 else .bad | none => .bad).To (@Kp (List PV) ⟨fun ys h2 => Q (.ref h2.length) (h2 ++ [PO.lst ys])⟩)⟩) := by
  rw [evE_comp, evI_seq, bnd, to_bind', Kp_eq]; congr 1; funext x h1
  cases items h1 x with
  | none => simp
  | some xs => by_cases hl : xs.length ≤ many <;> simp [hl, alloc, to_bind', Kp_eq]
@[simp ↓] theorem tA_nil : (evA cf .nil s h).To QA = QA [] h := by rw [evA_nil, to_ok]
@[simp ↓] theorem tA_cons {e : CE} {r : CA} : (evA cf (.cons e r) s h).To QA = (evE cf e s h).To (@Kp PV ⟨fun x h1 => (evA cf r s h1).To (@Kp (List PV) ⟨fun xs h2 => QA (x :: xs) h2⟩)⟩) := by
  simp only [evA_cons, to_bind', Kp_eq, to_ok]
@[simp ↓] theorem tO_some {e : CE} : (evO cf (.some e) s h).To QO = (evE cf e s h).To (@Kp PV ⟨fun x h1 => QO (some x) h1⟩) := by
  simp only [evO_some, to_bind', Kp_eq, to_ok]
@[simp ↓] theorem tT_cons {a r : CT} {x : PV} {xs : List PV} : (asT cf (.cons a r) (.tup (x :: xs)) s h).To QS = (asT cf a x s h).To (@Kp Sl ⟨fun s1 h1 => (asTs cf r xs s1 h1).To QS⟩) := by
  simp only [asT_cons, to_bind', Kp_eq]
@[simp ↓] theorem tT_rcons {a r : CT} {n : Nat} {x : PV} {xs : List PV} (hx : h[n]? = some (.lst (x :: xs))) : (asT cf (.cons a r) (.ref n) s h).To QS = (asT cf a x s h).To (@Kp Sl ⟨fun s1 h1 => (asTs cf r xs s1 h1).To QS⟩) := by
  rw [asT_rcons hx, to_bind', Kp_eq]
@[simp ↓] theorem tT_wcons {a r : CT} {x : PV} {xs : List PV} : (asT cf (.cons a r) (.wtup (x :: xs)) s h).To QS = (asT cf a x s h).To (@Kp Sl ⟨fun s1 h1 => (asTs cf r xs s1 h1).To QS⟩) := by
  simp only [asT_wcons, to_bind', Kp_eq]
@[simp ↓] theorem tTs_cons {a r : CT} {x : PV} {xs : List PV} : (asTs cf (.cons a r) (x :: xs) s h).To QS = (asT cf a x s h).To (@Kp Sl ⟨fun s1 h1 => (asTs cf r xs s1 h1).To QS⟩) := by
  simp only [asTs_cons, to_bind', Kp_eq]
@[simp ↓] theorem tT_s {o i : CE} {x : PV} : (asT cf (.s o i) x s h).To QS = (evE cf o s h).To (@Kp PV ⟨fun ov h1 => (evE cf i s h1).To (@Kp PV ⟨fun iv h2 => (setop ov iv x h2).To (@Kp Unit ⟨fun _ h3 => QS s h3⟩)⟩)⟩) := by
  simp only [asT_s, to_bind', Kp_eq, to_ok]
@[simp ↓] theorem t_compF {e : CE} {own : List Nat} {tg : CT} {c : CO} {x : PV} : (compF cf e own tg c s x h).To QO = (asT cf tg x (wipe s own) h).To (@Kp Sl ⟨fun s3 h3 => (evO cf c s3 h3).To (@Kp (Option PV) ⟨fun t h4 => (match t with
        | some (.bl false) => Res.ok none h4
        | some (.bl true) => (evE cf e s3 h4).bind fun y h5 => .ok (some y) h5
        | none => (evE cf e s3 h4).bind fun y h5 => .ok (some y) h5
        | _ => .bad).To QO⟩)⟩) := by
  rw [compF, to_bind', Kp_eq]; congr 1; funext s3 h3; rw [to_bind', Kp_eq]; try rfl
@[simp ↓] theorem to_bindP {x : Res α} {f : α → PH → Res β} {Q : β → PH → Prop} : (x.bind f).To Q = x.To (@Kp α ⟨fun a h => (f a h).To Q⟩) := to_bind
end
end PB
set_option Elab.async false
set_option linter.all false
set_option maxRecDepth 100000
set_option maxHeartbeats 4000000
set_option exponentiation.threshold 100000
namespace PB
open PySem
section
variable {k : Nat} {h t : PH} {o : PO} {e e' n n' m b c d : Nat} {x y : Rat} {T R : List Rat}
/-! ### drawn splines -/
theorem getD_app_left {xs ys : List Rat} {i : Nat} (h : i < xs.length) : (xs ++ ys).getD i 0 = xs.getD i 0 := by
  simp only [List.getD_eq_getElem?_getD]; rw [List.getElem?_append_left h]
theorem getD_app_rep {xs : List Rat} {q : Rat} {m i : Nat} (h1 : xs.length ≤ i) (h2 : i < xs.length + m) : (xs ++ List.replicate m q).getD i 0 = q := by
  simp only [List.getD_eq_getElem?_getD]
  rw [List.getElem?_append_right h1, List.getElem?_replicate, if_pos (by omega)]; rfl
theorem Kn.mono (hk : Kn d T) : ∀ {j i : Nat}, i ≤ j → j < T.length → T.getD i 0 ≤ T.getD j 0
  | 0, i, h, _ => by have : i = 0 := by omega
                     subst this; exact Rat.le_refl
  | j + 1, i, h, hj => by
    by_cases he : i = j + 1
    · subst he; exact Rat.le_refl
    · exact Rat.le_trans (Kn.mono hk (j := j) (by omega) (by omega)) (hk.1 j hj)
theorem Kn.rep (d : Nat) (q : Rat) {m : Nat} (hm : m ≤ d + 1) : Kn d (List.replicate m q) := ⟨fun i hi => by
  simp at hi
  have e1 := getD_app_rep (xs := []) (q := q) (m := m) (i := i) (by simp) (by simp; omega)
  have e2 := getD_app_rep (xs := []) (q := q) (m := m) (i := i + 1) (by simp) (by simp; omega)
  simp only [List.nil_append] at e1 e2
  rw [e1, e2]; exact Rat.le_refl, fun i hi => by simp at hi; omega⟩
/-- a greater knot behind -/
theorem Kn.app (hk : Kn d T) (h0 : 0 < T.length) {q : Rat} (hq : T.getD (T.length - 1) 0 < q) {m : Nat} (hm : m ≤ d + 1) : Kn d (T ++ List.replicate m q) := by
  refine ⟨fun i hi => ?_, fun i hi => ?_⟩
  · simp only [List.length_append, List.length_replicate] at hi
    by_cases h1 : i + 1 < T.length
    · rw [getD_app_left (by omega), getD_app_left h1]; exact hk.1 i h1
    · rw [getD_app_rep (i := i + 1) (by omega) hi]
      by_cases h2 : i < T.length
      · rw [getD_app_left h2]
        have := hk.mono (i := i) (j := T.length - 1) (by omega) (by omega)
        grind
      · rw [getD_app_rep (by omega) (by omega)]; exact Rat.le_refl
  · simp only [List.length_append, List.length_replicate] at hi
    by_cases h1 : i + d + 1 < T.length
    · rw [getD_app_left (by omega), getD_app_left h1]; exact hk.2 i h1
    · rw [getD_app_rep (i := i + d + 1) (by omega) hi, getD_app_left (by omega)]
      have := hk.mono (i := i) (j := T.length - 1) (by omega) (by omega)
      grind
theorem getD_take {xs : List Rat} {i j : Nat} (h : i < j) : (xs.take j).getD i 0 = xs.getD i 0 := by
  simp only [List.getD_eq_getElem?_getD]; rw [List.getElem?_take_of_lt h]
theorem Kn.take (hk : Kn d T) (j : Nat) : Kn d (T.take j) := ⟨fun i hi => by
  simp at hi
  rw [getD_take (by omega), getD_take (by omega)]; exact hk.1 i (by omega), fun i hi => by
  simp at hi
  rw [getD_take (by omega), getD_take (by omega)]; exact hk.2 i (by omega)⟩
structure Spl (d : Nat) (T R : List Rat) : Prop where
  dl : d ≤ 4
  kn : Kn d T
  lo : 2 * d + 2 ≤ T.length
  hi : T.length ≤ 16
  fst : T.getD 0 0 = T.getD d 0
  lst : T.getD (T.length - 1) 0 = T.getD (T.length - d - 1) 0
  rl : R.length + d + 1 = T.length
  tb : ∀ q ∈ T, Fq 1 18 q
  rb : ∀ q ∈ R, Fq 1 14 q
def splv (d : Nat) (T R : List Rat) : PV := .tup [.int d, pol T, pol R]
/-- knots of a spline, before they are cut -/
structure Kts (d : Nat) (K : List Rat) (now : Rat) (j : Nat) : Prop where
  kn : Kn d K
  len : d + 1 ≤ K.length
  le : K.length ≤ (j + 1) * (d + 1)
  fst : K.getD 0 0 = K.getD d 0
  last : K.getD (K.length - 1) 0 = now
  tb : ∀ q ∈ K, Fq 1 (12 + j) q
theorem Kts.tn {K : List Rat} {now : Rat} {j : Nat} (h : Kts d K now j) : Fq 1 (12 + j) now := by
  have hl := h.len
  rw [← h.last, List.getD_eq_getElem?_getD, List.getElem?_eq_getElem (by omega)]
  exact h.tb _ (List.getElem_mem _)
theorem Kts.start (low : Rat) (hl : Fq 1 12 low) : Kts d (List.replicate (d + 1) low) low 0 := by
  have e : ∀ i, i < d + 1 → (List.replicate (d + 1) low).getD i 0 = low := fun i hi => by
    have := getD_app_rep (xs := []) (q := low) (m := d + 1) (i := i) (by simp) (by simp; omega)
    simpa using this
  refine ⟨Kn.rep d low (Nat.le_refl _), by simp, by simp, ?_, ?_, fun q hq => by rw [List.eq_of_mem_replicate hq]; exact hl⟩
  · rw [e 0 (by omega), e d (by omega)]
  · rw [List.length_replicate, e _ (by omega)]
theorem Kts.step {K : List Rat} {now a : Rat} {j m : Nat} (h : Kts d K now j) (ha : 0 < a) (hf : Fq 1 12 a) (h1 : 1 ≤ m) (hm : m ≤ d + 1) : Kts d (K ++ List.replicate m (now + a)) (now + a) (j + 1) := by
  have hl := h.len
  have hq : K.getD (K.length - 1) 0 < now + a := by rw [h.last]; grind
  refine ⟨h.kn.app (by omega) hq hm, by simp; omega, ?_, ?_, ?_, fun q hq => ?_⟩
  · have := h.le
    have z := Nat.add_mul (j + 1) 1 (d + 1)
    simp only [List.length_append, List.length_replicate]; omega
  · rw [getD_app_left (by omega), getD_app_left (by omega)]; exact h.fst
  · simp only [List.length_append, List.length_replicate]
    exact getD_app_rep (by omega) (by omega)
  · rcases List.mem_append.mp hq with hq | hq
    · exact (h.tb q hq).up (Nat.le_refl _) (by omega)
    · rw [List.eq_of_mem_replicate hq]
      exact ((Kts.tn h).add (hf.up (Nat.le_refl _) (by omega))).up (Nat.le_refl _) (by omega)
theorem Kts.done {K : List Rat} {now a : Rat} {j : Nat} (h : Kts d K now j) (hj : j ≤ 3) (hd : d ≤ 4) (ha : 0 < a) (hf : Fq 1 12 a) (T : List Rat)
    (hT : T = if (K ++ List.replicate (d + 1) (now + a)).length > 16 then (K ++ List.replicate (d + 1) (now + a)).take (15 - d) ++ (K ++ List.replicate (d + 1) (now + a)).drop ((K ++ List.replicate (d + 1) (now + a)).length - (d + 1)) else K ++ List.replicate (d + 1) (now + a)) (R : List Rat) (hR : R.length + d + 1 = T.length) (hRb : ∀ q ∈ R, Fq 1 12 q) : Spl d T R := by
  have hl := h.len
  obtain ⟨K', hK', e, hlen⟩ : ∃ K', (∃ p, K' = K.take p ∧ d + 1 ≤ p) ∧ T = K' ++ List.replicate (d + 1) (now + a) ∧ K'.length ≤ 15 - d := by
    simp only [List.length_append, List.length_replicate] at hT
    split at hT
    · rename_i hgt
      refine ⟨K.take (15 - d), ⟨15 - d, rfl, by omega⟩, ?_, by simp; omega⟩
      rw [hT, List.take_append_of_le_length (by omega), show K.length + (d + 1) - (d + 1) = K.length by omega, List.drop_left]
    · exact ⟨K, ⟨K.length, by simp, hl⟩, hT, by omega⟩
  obtain ⟨p, rfl, hp⟩ := hK'
  have hkl : (K.take p).length = min p K.length := List.length_take
  have h0 : 0 < (K.take p).length := by omega
  have hlast : (K.take p).getD ((K.take p).length - 1) 0 < now + a := by
    rw [getD_take (by omega)]
    have := h.kn.mono (i := (K.take p).length - 1) (j := K.length - 1) (by omega) (by omega)
    rw [h.last] at this
    grind
  have hTl : T.length = (K.take p).length + (d + 1) := by rw [e]; simp
  refine ⟨hd, ?_, by omega, by omega, ?_, ?_, hR, fun q hq => ?_, fun q hq => (hRb q hq).up (by omega) (by omega)⟩
  · rw [e]; exact (h.kn.take p).app h0 hlast (Nat.le_refl _)
  · rw [e, getD_app_left (by omega), getD_app_left (by omega), getD_take (by omega), getD_take (by omega)]; exact h.fst
  · rw [hTl, e, getD_app_rep (by omega) (by omega), getD_app_rep (by omega) (by omega)]
  · rw [e] at hq
    rcases List.mem_append.mp hq with hq | hq
    · exact (h.tb q (List.mem_of_mem_take hq)).up (Nat.le_refl _) (by omega)
    · rw [List.eq_of_mem_replicate hq]
      exact ((Kts.tn h).add (hf.up (Nat.le_refl _) (by omega))).up (Nat.le_refl _) (by omega)
theorem lmade_i {a b : Int} (hk : 1 ≤ k) (hb : b ≠ 0) (hz : b.natAbs < 2 ^ 4900) : callF G k 16 [.int a, .int b] h = .ok (fr (Rat.divInt a b)) h := by
  obtain ⟨k, rfl⟩ := Nat.exists_eq_add_of_le hk
  rw [Nat.add_comm]; exact lmade_ok hb hz
theorem cut_neg {zs : List PV} {c : Nat} {z : Int} (hz : z = -(c : Int)) (hc : c ≤ zs.length) (h1 : 1 ≤ c := by omega) : cut zs (some z) none = zs.drop (zs.length - c) := by
  unfold cut
  have e : HT.sIx zs.length 0 (some z) = zs.length - c := by
    show (if z < 0 then (z + (zs.length : Int)).toNat else min z.toNat zs.length) = _
    rw [if_pos (by omega)]; omega
  rw [e, sIx_none]
  exact List.take_of_length_le (by simp)
theorem lspline_ok {most : Nat} (hm : most ≤ 4) (hr : Row o) (hw : Wf t) (hk : 5 ≤ k) : ∃ d T R o', d ≤ most ∧ Spl d T R ∧ (∀ q ∈ R, Fq 1 12 q) ∧ Row o' ∧ callF G k 171 [.ref 0, .int (most : Nat)] (o :: t) = .ok (splv d T R) (o' :: t) := by
  obtain ⟨k, rfl⟩ := Nat.exists_eq_add_of_le hk
  rw [Nat.add_comm]
  have hM : many = 1000000 := rfl
  have key : (callF G (k + 5) 171 [.ref 0, .int (most : Nat)] (o :: t)).To (fun v h' => ∃ d T R o', d ≤ most ∧ Spl d T R ∧ (∀ q ∈ R, Fq 1 12 q) ∧ Row o' ∧ v = splv d T R ∧ h' = o' :: t) := by
    rw [callF_eq (f := f__law_spline) rfl rfl, to_bind]
    simp only [f__law_spline, c__law_spline]
    simp [List.replicate]
    refine taken_to (by omega) (by omega) hr (by omega) fun d o1 hd r1 => ?_
    simp
    refine draw_to r1 hw (by omega) fun low o2 hlow r2 => ?_
    simp [setAll, hM]
    refine ⟨⟨by omega, by omega⟩, ?_⟩
    simp [alloc, flat_one]
    refine taken_to (by decide) (by decide) r2 (by omega) fun turns o3 ht r3 => ?_
    simp
    refine forR_to0 turns (S := fun i s h' => ∃ K now o' u r s2, s = [some (.ref 0), some (.int most), s2, some (.ref (r + 1)), some (.int d), some (fr low), some (fr now), none] ∧ h' = o' :: (t ++ u) ∧ Row o' ∧ (∀ c ∈ u, PO.low 0 c = true) ∧ (t ++ u)[r]? = some (.lst (frs K)) ∧ Kts d K now i) rfl (by omega) ?_ ?_ ?_
    · refine ⟨List.replicate (d + 1) low, low, o3, [.lst [fr low], .lst (frs (List.replicate (d + 1) low))], t.length + 1, none, ?_, ?_, r3, ?_, ?_, Kts.start low hlow⟩
      · simp
      · simp
      · intro c hc; simp at hc; rcases hc with rfl | rfl <;> simp [PO.low, PV.lows]
      · simp
    · rintro i s h' hi ⟨K, now, o', u, r, s2, rfl, rfl, r', hu, hK, hKt⟩
      simp [hM]
      refine taken_to (by decide) (by decide) r' (by omega) fun a o4 ha r4 => ?_
      simp [hM]

      have hx : (t ++ (u ++ [PO.lst [PV.int 1, PV.int 2, PV.int 3]]))[t.length + u.length]? = some (.lst [PV.int 1, PV.int 2, PV.int 3]) := by simp
      obtain ⟨v, o5, hv, r5, e5⟩ := pick_lst (k := k + 2) (t := t ++ (u ++ [.lst [.int 1, .int 2, .int 3]])) (i := t.length + u.length) (xs := [.int 1, .int 2, .int 3]) (by simp) (by simp) r4 hx
      have e6 : callF G (k + 4) 17 [.ref 0, .ref (t.length + u.length + 1)] (o4 :: (t ++ (u ++ [.lst [.int 1, .int 2, .int 3]]))) = .ok v (o5 :: (t ++ (u ++ [.lst [.int 1, .int 2, .int 3]]))) := e5
      rw [e6, to_ok]
      obtain ⟨b, rfl, hb1, hb2⟩ : ∃ b : Nat, v = .int b ∧ 1 ≤ b ∧ b ≤ 3 := by
        simp only [List.mem_cons, List.not_mem_nil, or_false] at hv
        rcases hv with rfl | rfl | rfl
        · exact ⟨1, rfl, by decide, by decide⟩
        · exact ⟨2, rfl, by decide, by decide⟩
        · exact ⟨3, rfl, by decide, by decide⟩
      have em := fun H => lmade_i (k := k + 4) (h := H) (a := 1 + (a : Int)) (b := (b : Int)) (by omega) (by omega) (lt_pow (m := 2) (by omega) (by decide))
      have hq3 : Bd 3 (Rat.divInt (1 + (a : Int)) (b : Int)) := bd_divInt (by omega) (by omega) (by omega)
      have hq0 : 0 < Rat.divInt (1 + (a : Int)) (b : Int) := by
        rw [Rat.divInt_eq_div]
        have h1 : (0 : Rat) < ((1 + (a : Int) : Int) : Rat) := by
          have : 0 < 1 + (a : Int) := by omega
          exact_mod_cast this
        have h2 : (0 : Rat) < ((b : Int) : Rat) := by
          have : 0 < (b : Int) := by omega
          exact_mod_cast this
        rw [Rat.lt_div_iff h2]; grind
      generalize Rat.divInt (1 + (a : Int)) (b : Int) = q at *
      have hqf : Fq 1 12 q := .of3 hq3
      haveI : Fz q 1 12 := ⟨hqf⟩
      haveI : Fz now 1 (12 + i) := ⟨Kts.tn hKt⟩
      simp (disch := omega) [em, lplus_i]
      refine taken_to (by decide) (by decide) r5 (by omega) fun z o6 hz r6 => ?_
      simp [eqD_int]
      refine br_mono (P := fun v h' => ∃ (m : Nat) (o' : PO), v = PV.int m ∧ m ≤ d ∧ Row o' ∧ h' = o' :: (t ++ (u ++ [PO.lst [PV.int 1, PV.int 2, PV.int 3], PO.lst [fr (now + q)]]))) ?_ ?_ ?_
      · intro _
        simp
        refine taken_to (by omega) (by omega) r6 (by omega) fun m o7 hm r7 => ?_
        exact ⟨m, rfl, by omega, o7, r7, rfl⟩
      · intro _
        simp
        exact ⟨0, rfl, by omega, r6⟩
      · rintro v h' ⟨m, o7, rfl, hm, r7, rfl⟩
        have e1 : (1 : Int) + (m : Int) = ((1 + m : Nat) : Int) := by omega
        have hr1 := (List.getElem?_eq_some_iff.mp hK).1
        have hK2 : ∀ w, (t ++ (u ++ w))[r]? = some (.lst (frs K)) := fun w => by rw [← List.append_assoc, List.getElem?_append_left hr1, hK]
        have hkl := hKt.le
        have z1 := Nat.mul_le_mul (show i + 1 ≤ 5 by omega) (show d + 1 ≤ 5 by omega)
        simp [e1, flat_one, alloc, -Int.natCast_add, hK2]
        refine ⟨⟨by omega, by omega⟩, by omega, K ++ List.replicate (1 + m) (now + q), now + q, o7, _, _, ⟨rfl, rfl⟩, ⟨rfl, rfl⟩, r7, ?_, by simp, hKt.step hq0 hqf (by omega) (by omega)⟩
        intro c hc
        rcases List.mem_append.mp hc with hc | hc
        · exact hu c hc
        · simp only [List.mem_cons, List.not_mem_nil, or_false] at hc
          rcases hc with rfl | rfl | rfl | rfl <;> simp [PO.low, PV.lows]
    · rintro s h' ⟨K, now, o', u, r, s2, rfl, rfl, r', hu, hK, hKt⟩
      simp
      refine taken_to (by decide) (by decide) r' (by omega) fun z o4 hz r4 => ?_
      have hr1 := (List.getElem?_eq_some_iff.mp hK).1
      have hK2 : ∀ w, (t ++ (u ++ w))[r]? = some (.lst (frs K)) := fun w => by rw [← List.append_assoc, List.getElem?_append_left hr1, hK]
      have hkl := hKt.le
      have z1 := Nat.mul_le_mul (show turns + 1 ≤ 5 by omega) (show d + 1 ≤ 5 by omega)
      have efi : PV.tup [.int (1 + (z : Int)), .int 1] = fr ((1 + z : Nat) : Rat) := fr_int (1 + z : Nat)
      have hzf : Fq 1 12 ((1 + z : Nat) : Rat) := (Fq.int (n := 3) ((1 + z : Nat) : Int) (by rw [Int.natAbs_natCast]; omega)).up (by omega) (by omega)
      have hz0 : (0 : Rat) < ((1 + z : Nat) : Rat) := by exact_mod_cast (show 0 < 1 + z by omega)
      generalize ((1 + z : Nat) : Rat) = q at *
      haveI : Fz q 1 12 := ⟨hzf⟩
      haveI : Fz now 1 (12 + turns) := ⟨Kts.tn hKt⟩
      simp (disch := omega) [efi, lplus_i, flat_one, alloc]
      refine ⟨⟨by omega, by omega⟩, ?_⟩
      simp [hK2]
      refine ⟨by omega, ?_⟩
      have hK2l : (K ++ List.replicate (d + 1) (now + q)).length = K.length + (d + 1) := by simp
      have lowL : ∀ xs : List Rat, PO.low 0 (.lst (frs xs)) = true := fun xs => by simp [PO.low]
      refine br_mono (P := fun v h' => ∃ T u', v = pol T ∧ T = (if (K ++ List.replicate (d + 1) (now + q)).length > 16 then (K ++ List.replicate (d + 1) (now + q)).take (15 - d) ++ (K ++ List.replicate (d + 1) (now + q)).drop ((K ++ List.replicate (d + 1) (now + q)).length - (d + 1)) else K ++ List.replicate (d + 1) (now + q)) ∧ h' = o4 :: (t ++ u') ∧ ∀ c ∈ u', PO.low 0 c = true) ?_ ?_ ?_
      · intro hgt
        have hgt' : K.length + (d + 1) > 16 := by simp at hgt; omega
        have q1 : cut (frs (K ++ List.replicate (d + 1) (now + q))) none (some (15 - (d : Int))) = frs ((K ++ List.replicate (d + 1) (now + q)).take (15 - d)) := by
          have e : (15 : Int) - (d : Int) = ((15 - d : Nat) : Int) := by omega
          rw [e, cut_to (by simp; omega), frs_take]
        have q2 : cut (frs (K ++ List.replicate (d + 1) (now + q))) (some (-(d : Int) - 1)) none = frs ((K ++ List.replicate (d + 1) (now + q)).drop ((K ++ List.replicate (d + 1) (now + q)).length - (d + 1))) := by
          rw [cut_neg (c := d + 1) (by omega) (by rw [frs_len, hK2l]; omega), frs_drop, frs_len]
        simp [slcop, q1, q2, alloc]
        refine ⟨by omega, _, pol_eq, (if_pos (by omega)).symm, ?_⟩
        rintro c (hc | rfl | rfl | rfl | rfl | rfl | rfl)
        · exact hu c hc
        · exact lowL [_]
        all_goals exact lowL _
      · intro hle
        have hle' : ¬ K.length + (d + 1) > 16 := by simp at hle; omega
        simp
        refine ⟨_, pol_eq, (if_neg (by omega)).symm, ?_⟩
        rintro c (hc | rfl | rfl | rfl)
        · exact hu c hc
        · exact lowL [_]
        all_goals exact lowL _
      · rintro v h' ⟨T, u', rfl, hT, rfl, hu'⟩
        have hTl : 2 * d + 2 ≤ T.length ∧ T.length ≤ 16 := by
          have h1 := hKt.len
          rw [hT]
          split
          · rename_i hg
            rw [List.length_append, List.length_take, List.length_drop, hK2l]
            rw [hK2l] at hg
            omega
          · rename_i hg
            rw [hK2l] at hg ⊢
            omega
        simp
        refine compR_to0 (T.length - d - 1) (S := fun j ys h' => ∃ R o', R.length = j ∧ ys = frs R ∧ (∀ q ∈ R, Fq 1 12 q) ∧ Row o' ∧ h' = o' :: (t ++ u')) (by omega) (by omega) ?_ ?_ ?_
        · exact ⟨[], o4, rfl, rfl, fun q h => by simp at h, r4, rfl⟩
        · rintro j ys h' hj ⟨R, o5, rfl, rfl, hR, r5, rfl⟩
          simp [wipe]
          refine draw_to r5 (low_mono' hu' hw) (by omega) fun q o6 hq r6 => ?_
          simp
          exact ⟨R ++ [q], by simp, rfl, fun z hz => by
            rcases List.mem_append.mp hz with hz | hz
            · exact hR z hz
            · simp at hz; subst hz; exact hq, r6⟩
        · rintro ys h' ⟨R, o5, h1, rfl, hR, r5, rfl⟩
          simp
          refine ⟨d, by omega, T, R, hKt.done (by omega) (by omega) hz0 hzf T hT R (by omega) hR, hR, o5, r5, by simp [splv, pol], ?_⟩
          exact keep_row (u := u' ++ [.lst (frs R)]) (t := t) (o := o) (v := PV.tup [.int d, pol T, .tup (frs R)]) r5 hw (by simp [PV.low, PV.lows])
  obtain ⟨v, h', e, d, T, R, o', h1, h2, h3, h4, rfl, rfl⟩ := to_ex key
  exact ⟨d, T, R, o', h1, h2, h3, h4, e⟩
end
end PB
set_option Elab.async false
set_option linter.all false
set_option maxRecDepth 100000
set_option maxHeartbeats 4000000
set_option exponentiation.threshold 100000
namespace PB
open PySem
section
variable {k : Nat} {h t : PH} {o : PO} {e e' n n' m b c d p : Nat} {x y : Rat} {T R : List Rat}
theorem idx_polz {z : Int} (h0 : 0 ≤ z) (h1 : z < T.length) : idxop (pol T) (.int z) h = .ok (fr (T.getD z.toNat 0)) h := by
  obtain ⟨a, rfl⟩ : ∃ a : Nat, z = a := ⟨z.toNat, by omega⟩
  rw [idx_pol (by omega)]; simp
theorem idx_poln {z : Int} (h0 : z < 0) (h1 : 0 ≤ z + T.length) : idxop (pol T) (.int z) h = .ok (fr (T.getD (z + T.length).toNat 0)) h := by
  have hlt : (z + T.length).toNat < T.length := by omega
  have e1 : L2.atI (frs T) z = (frs T)[(z + T.length).toNat]? := by
    unfold L2.atI L2.ixN
    rw [if_neg (by omega)]
    simp only [frs_len]
    rw [if_pos (by omega)]; rfl
  simp only [idxop, items_pol, e1, frs_get, List.getElem?_eq_getElem hlt, Option.map_some]
  congr 2
  simp [List.getD_eq_getElem?_getD, List.getElem?_eq_getElem hlt]
theorem getD_mem {xs : List Rat} {i : Nat} (h : i < xs.length) : xs.getD i 0 ∈ xs := by
  rw [List.getD_eq_getElem?_getD, List.getElem?_eq_getElem h]; exact List.getElem_mem h
theorem getD_fq {xs : List Rat} (hx : ∀ q ∈ xs, Fq e n q) (i : Nat) : Fq e n (xs.getD i 0) := by
  by_cases h : i < xs.length
  · exact hx _ (getD_mem h)
  · rw [List.getD_eq_getElem?_getD, List.getElem?_eq_none (by omega)]; exact Fq.zero'
theorem Spl.up (h : Spl d T R) {i j : Nat} (hij : i ≤ j) (hj : j < T.length) : T.getD i 0 ≤ T.getD j 0 := h.kn.mono hij hj
theorem need_spline_ok (hs : Spl d T R) (hk : 4 ≤ k) : callF G k 165 [splv d T R] h = .ok .non h := by
  obtain ⟨k, rfl⟩ := Nat.exists_eq_add_of_le hk
  rw [Nat.add_comm]
  refine of_to ?_
  rw [callF_eq (f := f_need_spline) rfl rfl, to_bind]
  simp only [f_need_spline, c_need_spline, splv]
  have hlo := hs.lo
  have hhi := hs.hi
  have hd := hs.dl
  have e1 := is_from_ok (k := k + 1) (h := h) (i := (d : Int)) (lo := 0) (hi := 4) (by omega) (by omega)
  have e2 := faults_of_ok (k := k) (h := h) (d := d) (T := T) (b := 30) (fun q hq => (hs.tb q hq).bd (by omega) (by omega)) (by decide) hs.kn (by omega) hhi
  have e3 := fun H => are_ratios_ok (k := k) (h := H) (xs := R) (by have := hs.rl; omega)
  have hrl := hs.rl
  have er : (T.length : Int) - (d : Int) - 1 = (R.length : Int) := by omega
  have el : (h ++ [PO.lst [], PO.lst []]) = (h ++ [PO.lst []]) ++ [PO.lst []] := by simp
  have ee : eqD (h ++ [PO.lst [], PO.lst []]) (.ref h.length) (.ref (h.length + 1)) = some true := by
    rw [eqD_lst (xs := []) (ys := []) (by simp) (by simp) (by simp [plains]) (by simp [plains])]; simp
  have hlt : ¬ (T.length : Int) < 2 * (d : Int) + 2 := by omega
  have f1 : T.getD 0 0 = T.getD d 0 := hs.fst
  have f2 : T.getD (T.length - 1) 0 = T.getD (T.length - d - 1) 0 := hs.lst
  have z0 : mulOk 2 (d : Int) = true := mulOk_of (m := 3) (n := 3) (by decide) (by omega) (by decide)
  have i1 := fun H => idx_polz (h := H) (T := T) (z := 0) (by decide) (by omega)
  have i2 := fun H => idx_polz (h := H) (T := T) (z := (d : Int)) (by omega) (by omega)
  have i3 := fun H => idx_poln (h := H) (T := T) (z := -1) (by decide) (by omega)
  have i4 := fun H => idx_poln (h := H) (T := T) (z := -(d : Int) - 1) (by omega) (by omega)
  have w3 : (-1 + (T.length : Int)).toNat = T.length - 1 := by omega
  have w4 : (-(d : Int) - 1 + (T.length : Int)).toNat = T.length - d - 1 := by omega
  rw [w3] at i3
  rw [w4] at i4
  have i1' : ∀ H, idxop (pol T) (.int 0) H = .ok (fr (T.getD 0 0)) H := i1
  rw [Int.toNat_natCast, ← f1] at i2
  rw [← f2] at i4
  generalize T.getD 0 0 = a0 at *
  generalize T.getD (T.length - 1) 0 = a1 at *
  simp [e1, e2, eqD_int, ee, z0, hlt, i1', i2, i3, i4, eqD_fr, er, e3]
/-- the last place whose knot is not above x, and less than the next one -/
def spn (T : List Rat) (x : Rat) : Nat → Nat
  | 0 => 0
  | i + 1 => if T.getD i 0 ≠ T.getD (i + 1) 0 ∧ ¬ x < T.getD i 0 then i else spn T x i
/-! ### C. de Boor's averages -/
/-- a place in a span -/
structure InSp (T : List Rat) (x : Rat) (p d : Nat) : Prop where
  ge : d ≤ p
  le : p + d + 1 < T.length
  lt : T.getD p 0 < T.getD (p + 1) 0
  lo : T.getD p 0 ≤ x
  hi : x ≤ T.getD (p + 1) 0
def goodS (T : List Rat) (x : Rat) (i : Nat) : Prop := T.getD i 0 ≠ T.getD (i + 1) 0 ∧ ¬ x < T.getD i 0
theorem spn_spec (T : List Rat) (x : Rat) : ∀ N, (∃ i, i < N ∧ goodS T x i) → spn T x N < N ∧ goodS T x (spn T x N) ∧ ∀ i, spn T x N < i → i < N → ¬ goodS T x i
  | 0, ⟨i, hi, _⟩ => by omega
  | N + 1, ⟨i, hi, hg⟩ => by
    by_cases h : goodS T x N
    · have e : spn T x (N + 1) = N := if_pos h
      rw [e]
      exact ⟨by omega, h, fun j h1 h2 => by omega⟩
    · have e : spn T x (N + 1) = spn T x N := if_neg h
      rw [e]
      have hiN : i < N := by
        rcases Nat.lt_or_eq_of_le (Nat.le_of_lt_succ hi) with z | z
        · exact z
        · subst z; exact absurd hg h
      obtain ⟨h1, h2, h3⟩ := spn_spec T x N ⟨i, hiN, hg⟩
      refine ⟨by omega, h2, fun j g1 g2 => ?_⟩
      by_cases hj : j = N
      · subst hj; exact h
      · exact h3 j g1 (by omega)
end
end PB
set_option Elab.async false
set_option linter.all false
set_option maxRecDepth 100000
set_option maxHeartbeats 1000000
set_option exponentiation.threshold 100000
namespace PB
open PySem
section
variable {k : Nat} {h t : PH} {o : PO} {e n m a b c d p : Nat} {x y : Rat} {xs ys T R P : List Rat}
/-! ### sizes of the polynomials of basis functions on a span: one denominator for each degree -/
theorem pmul_nil_r (xs : List Rat) : pmul xs [] = [] := by simp [pmul]
theorem bP_nil : ∀ (d i : Nat), (i + d < p ∨ p < i) → bP T p d i = []
  | 0, i, h => by rw [bP, if_neg (by omega)]
  | d + 1, i, h => by
    have h1 := bP_nil d i (by omega)
    have h2 := bP_nil d (i + 1) (by omega)
    simp only [bP, h1, h2, pmul_nil_r]
    split
    · split <;> rfl
    · split <;> rfl
theorem cn_padd {N M : Nat} {D : Int} (h1 : CN N D xs) (h2 : CN M D ys) : CN (N + M) D (padd xs ys) := by
  intro q hq
  obtain ⟨i, hi, rfl⟩ := List.mem_iff_getElem.mp hq
  have e : (padd xs ys)[i] = xs[i]?.getD 0 + ys[i]?.getD 0 := by
    rw [← padd_getD, List.getElem?_eq_getElem hi]; rfl
  have get : ∀ {zs : List Rat} {K : Nat}, CN K D zs → ∃ A : Int, zs[i]?.getD 0 * (D : Rat) = (A : Rat) ∧ A.natAbs ≤ K := fun {zs K} hz => by
    cases hx : zs[i]? with
    | none => exact ⟨0, by simp, by simp⟩
    | some y => exact hz y (List.mem_of_getElem? hx)
  obtain ⟨A, a1, a2⟩ := get h1
  obtain ⟨B, b1, b2⟩ := get h2
  exact ⟨A + B, by rw [e, Rat.add_mul, a1, b1, Rat.intCast_add], by omega⟩
theorem cn_trim {N : Nat} {D : Int} (h : CN N D xs) : CN N D (trim xs) := fun q hq => h q (trim_mem hq)
theorem cn_pmul {N M : Nat} {D E : Int} (h1 : CN N D xs) (h2 : CN M E ys) : CN (xs.length * (N * M)) (D * E) (pmul xs ys) := by
  unfold pmul
  split
  · intro q hq; simp at hq
  · have := CN.pmulL (p := 0) (CN.rep0 (D := D * E) (xs.length + ys.length - 1)) h1 h2
    simpa using this
theorem cn_times {N M : Nat} {D E : Int} (h : CN N D xs) (hE : E.natAbs ≤ M) : CN (N * M) (D * E) xs := fun q hq => by
  obtain ⟨A, a1, a2⟩ := h q hq
  exact ⟨A * E, by rw [Rat.intCast_mul, ← Rat.mul_assoc, a1, Rat.intCast_mul], by rw [Int.natAbs_mul]; exact Nat.mul_le_mul a2 hE⟩
theorem prod_split {B : Nat} : ∀ L : List Int, (∀ k ∈ L, k.natAbs ≤ 2 ^ B) → (∀ k ∈ L, ∃ m : Int, L.prod = k * m ∧ m.natAbs ≤ 2 ^ (B * (L.length - 1))) ∧ L.prod.natAbs ≤ 2 ^ (B * L.length)
  | [], _ => ⟨fun k hk => by simp at hk, by simp⟩
  | a :: r, h => by
    obtain ⟨h1, h2⟩ := prod_split r fun k hk => h k (by simp [hk])
    have ha := h a (by simp)
    constructor
    · intro k hk
      rcases List.mem_cons.mp hk with rfl | hk
      · exact ⟨r.prod, by simp, by simpa using h2⟩
      · obtain ⟨m, m1, m2⟩ := h1 k hk
        have hr : 1 ≤ r.length := List.length_pos_of_mem hk
        refine ⟨a * m, by rw [List.prod_cons, m1, ← Int.mul_assoc, ← Int.mul_assoc, Int.mul_comm a k], ?_⟩
        rw [Int.natAbs_mul]
        have e : B * ((a :: r).length - 1) = B + B * (r.length - 1) := by
          obtain ⟨n, hn⟩ : ∃ n, r.length = n + 1 := ⟨r.length - 1, by omega⟩
          rw [List.length_cons, hn, Nat.add_sub_cancel, Nat.add_sub_cancel, Nat.mul_succ, Nat.add_comm]
        rw [e, Nat.pow_add]
        exact Nat.mul_le_mul ha m2
    · rw [List.prod_cons, Int.natAbs_mul, List.length_cons, Nat.mul_succ, Nat.add_comm, Nat.pow_add]
      exact Nat.mul_le_mul ha h2
theorem prod_nz : ∀ L : List Int, (∀ k ∈ L, k ≠ 0) → L.prod ≠ 0
  | [], _ => by decide
  | a :: r, h => by
    rw [List.prod_cons]
    exact Int.mul_ne_zero (h a (by simp)) (prod_nz r fun k hk => h k (by simp [hk]))
/-- a difference of knots, over 420 -/
def kz (lo hi : Rat) : Int := ((hi - lo) * (420 : Rat) ^ 1).num
theorem kz_eq {lo hi : Rat} (h1 : Fq 1 18 lo) (h2 : Fq 1 18 hi) : (hi - lo) * (420 : Rat) ^ 1 = (kz lo hi : Rat) ∧ (kz lo hi).natAbs ≤ 2 ^ 19 := by
  obtain ⟨A, a1, a2⟩ := h2.sub h1
  have : kz lo hi = A := by rw [kz, a1]; rfl
  rw [this]
  exact ⟨a1, by omega⟩
theorem kz_ne {lo hi : Rat} (h1 : Fq 1 18 lo) (h2 : Fq 1 18 hi) (hne : lo ≠ hi) : kz lo hi ≠ 0 := by
  intro hz
  have := (kz_eq h1 h2).1
  rw [hz, Rat.pow_one] at this
  have h3 : (hi - lo) * 420 = 0 := this
  rcases Rat.mul_eq_zero.mp h3 with h3 | h3
  · exact hne (by grind)
  · exact absurd h3 (by decide)
theorem cn_bA {lo hi : Rat} (h1 : Fq 1 18 lo) (h2 : Fq 1 18 hi) (hne : lo ≠ hi) : CN (2 ^ 18) (kz lo hi) (bA lo hi) := by
  obtain ⟨A, a1, a2⟩ := h1
  have hk := (kz_eq (lo := lo) (hi := hi) ⟨A, a1, a2⟩ h2).1
  have hd : hi - lo ≠ 0 := by grind
  have hi1 : 1 / (hi - lo) * (kz lo hi : Rat) = 420 := by
    rw [← hk, Rat.pow_one, ← Rat.mul_assoc, Rat.div_mul_cancel hd, Rat.one_mul]
  rw [Rat.pow_one] at a1
  intro q hq
  simp only [bA, List.mem_cons, List.not_mem_nil, or_false] at hq
  rcases hq with rfl | rfl
  · refine ⟨-A, ?_, by omega⟩
    rw [Rat.mul_assoc, hi1, Rat.intCast_neg, ← a1]; grind
  · exact ⟨420, hi1, by decide⟩
theorem cn_bB {lo hi : Rat} (h1 : Fq 1 18 lo) (h2 : Fq 1 18 hi) (hne : lo ≠ hi) : CN (2 ^ 18) (kz lo hi) (bB lo hi) := by
  have hk := (kz_eq h1 h2).1
  obtain ⟨A, a1, a2⟩ := h2
  have hd : hi - lo ≠ 0 := by grind
  have hi1 : 1 / (hi - lo) * (kz lo hi : Rat) = 420 := by
    rw [← hk, Rat.pow_one, ← Rat.mul_assoc, Rat.div_mul_cancel hd, Rat.one_mul]
  rw [Rat.pow_one] at a1
  intro q hq
  simp only [bB, List.mem_cons, List.not_mem_nil, or_false] at hq
  rcases hq with rfl | rfl
  · refine ⟨A, ?_, by omega⟩
    rw [Rat.mul_assoc, hi1, ← a1]
  · exact ⟨-420, by rw [Rat.neg_mul, hi1]; rfl, by decide⟩
def sA : Nat → Nat
  | 0 => 0
  | d + 1 => sA d + 20 + 19 * d
def sD : Nat → Nat
  | 0 => 0
  | d + 1 => sD d + 19 * (d + 1)
theorem bP_fam (hT : Up T) (hf : ∀ q ∈ T, Fq 1 18 q) (hlt : T.getD p 0 < T.getD (p + 1) 0) : ∀ d : Nat, d ≤ p → p + d + 1 ≤ T.length → ∃ D : Int, D ≠ 0 ∧ D.natAbs ≤ 2 ^ sD d ∧ ∀ i, CN (2 ^ sA d) D (bP T p d i)
  | 0, _, _ => ⟨1, by decide, by decide, fun i q hq => by
      rw [bP] at hq
      split at hq
      · simp at hq; subst hq; exact ⟨1, by decide +kernel, by decide⟩
      · simp at hq⟩
  | d + 1, hd, hl => by
    obtain ⟨D, d0, d1, hD⟩ := bP_fam hT hf hlt d (by omega) (by omega)
    have hF : ∀ i, Fq 1 18 (T.getD i 0) := fun i => getD_fq hf i
    have hne : ∀ i, p - d ≤ i → i ≤ p → T.getD i 0 ≠ T.getD (i + (d + 1)) 0 := fun i h1 h2 z => by
      have g1 := hT i p h2 (by omega)
      have g2 := hT (p + 1) (i + (d + 1)) (by omega) (by omega)
      grind
    generalize hL : (List.range (d + 1)).map (fun j => kz (T.getD (p - d + j) 0) (T.getD (p - d + j + (d + 1)) 0)) = L
    have hLl : L.length = d + 1 := by rw [← hL]; simp
    have hLm : ∀ k ∈ L, k ≠ 0 ∧ k.natAbs ≤ 2 ^ 19 := fun k hk => by
      rw [← hL] at hk
      obtain ⟨j, hj, rfl⟩ := List.mem_map.mp hk
      have hj := List.mem_range.mp hj
      exact ⟨kz_ne (hF _) (hF _) (hne _ (by omega) (by omega)), (kz_eq (hF _) (hF _)).2⟩
    have hin : ∀ i, p - d ≤ i → i ≤ p → kz (T.getD i 0) (T.getD (i + (d + 1)) 0) ∈ L := fun i h1 h2 => by
      rw [← hL]
      refine List.mem_map.mpr ⟨i - (p - d), List.mem_range.mpr (by omega), ?_⟩
      have : p - d + (i - (p - d)) = i := by omega
      rw [this]
    obtain ⟨s1, s2⟩ := prod_split (B := 19) L fun k hk => (hLm k hk).2
    have bAl : ∀ lo hi : Rat, (bA lo hi).length = 2 := fun _ _ => rfl
    have bBl : ∀ lo hi : Rat, (bB lo hi).length = 2 := fun _ _ => rfl
    have bound : 2 * (2 ^ 18 * 2 ^ sA d) * 2 ^ (19 * d) = 2 ^ (sA d + 19 + 19 * d) := by
      rw [Nat.pow_add, Nat.pow_add, Nat.mul_comm (2 ^ 18), ← Nat.mul_assoc, Nat.mul_comm 2, Nat.mul_assoc (2 ^ sA d)]
    have hA : ∀ i, CN (2 ^ (sA d + 19 + 19 * d)) (D * L.prod) (if T.getD i 0 = T.getD (i + (d + 1)) 0 then [] else pmul (bA (T.getD i 0) (T.getD (i + (d + 1)) 0)) (bP T p d i)) := fun i => by
      split
      · intro q hq; simp at hq
      · by_cases hi : p - d ≤ i ∧ i ≤ p
        · have c1 := cn_pmul (cn_bA (hF i) (hF (i + (d + 1))) (hne i hi.1 hi.2)) (hD i)
          obtain ⟨m, m1, m2⟩ := s1 _ (hin i hi.1 hi.2)
          have c2 := cn_times c1 m2
          rw [bAl, hLl, Nat.add_sub_cancel, bound] at c2
          have e : D * L.prod = kz (T.getD i 0) (T.getD (i + (d + 1)) 0) * D * m := by rw [m1, ← Int.mul_assoc, Int.mul_comm D]
          rw [e]; exact c2
        · rw [bP_nil d i (by omega), pmul_nil_r]; intro q hq; simp at hq
    have hB : ∀ i, CN (2 ^ (sA d + 19 + 19 * d)) (D * L.prod) (if T.getD (i + 1) 0 = T.getD (i + (d + 1) + 1) 0 then [] else pmul (bB (T.getD (i + 1) 0) (T.getD (i + (d + 1) + 1) 0)) (bP T p d (i + 1))) := fun i => by
      have ei : i + (d + 1) + 1 = i + 1 + (d + 1) := by omega
      rw [ei]
      split
      · intro q hq; simp at hq
      · by_cases hi : p - d ≤ i + 1 ∧ i + 1 ≤ p
        · have c1 := cn_pmul (cn_bB (hF (i + 1)) (hF (i + 1 + (d + 1))) (hne (i + 1) hi.1 hi.2)) (hD (i + 1))
          obtain ⟨m, m1, m2⟩ := s1 _ (hin (i + 1) hi.1 hi.2)
          have c2 := cn_times c1 m2
          rw [bBl, hLl, Nat.add_sub_cancel, bound] at c2
          have e : D * L.prod = kz (T.getD (i + 1) 0) (T.getD (i + 1 + (d + 1)) 0) * D * m := by rw [m1, ← Int.mul_assoc, Int.mul_comm D]
          rw [e]; exact c2
        · rw [bP_nil d (i + 1) (by omega), pmul_nil_r]; intro q hq; simp at hq
    refine ⟨D * L.prod, Int.mul_ne_zero d0 (prod_nz L fun k hk => (hLm k hk).1), ?_, fun i => ?_⟩
    · rw [Int.natAbs_mul, sD, Nat.pow_add]
      rw [hLl] at s2
      exact Nat.mul_le_mul d1 s2
    · have b2 : 2 ^ (sA d + 19 + 19 * d) + 2 ^ (sA d + 19 + 19 * d) = 2 ^ sA (d + 1) := by
        have : sA (d + 1) = (sA d + 19 + 19 * d) + 1 := by rw [sA]; omega
        rw [this, Nat.pow_succ]; omega
      have h1 := hA i
      have h2 := hB i
      rw [bP]
      split
      · exact h1.mono (by omega)
      · rename_i hz
        rw [if_neg hz] at h2
        have := cn_trim (cn_padd h1 h2)
        rw [b2] at this
        exact this
end
end PB
set_option Elab.async false
set_option linter.all false
set_option maxRecDepth 100000
set_option maxHeartbeats 1000000
set_option exponentiation.threshold 100000
namespace PB
open PySem
section
variable {k : Nat} {h t : PH} {o : PO} {e n m a b c d p : Nat} {x y : Rat} {xs ys T R P : List Rat}
/-! ### the pieces of a spline -/
/-- a span that may carry a piece -/
structure Spn (d : Nat) (T : List Rat) (p : Nat) : Prop where
  up : Up T
  tb : ∀ q ∈ T, Fq 1 18 q
  lt : T.getD p 0 < T.getD (p + 1) 0
  ge : d ≤ p
  le : p + d + 1 < T.length
  dl : d ≤ 4
  tl : T.length ≤ 16
theorem sA_le : ∀ d, d ≤ 4 → 2 ^ sA d < 2 ^ 195 ∧ sD d ≤ 190 := fun d hd => by
  have : sA d ≤ 194 ∧ sD d ≤ 190 := by
    have : ∀ d, d ≤ 4 → sA d ≤ 194 ∧ sD d ≤ 190 := by decide
    exact this d hd
  exact ⟨Nat.pow_lt_pow_right (by decide) (by omega), this.2⟩
theorem bP_cd (hs : Spn d T p) {e : Nat} (he : e ≤ d) (i : Nat) : CD 195 191 (bP T p e i) := by
  obtain ⟨D, d0, d1, hD⟩ := bP_fam hs.up hs.tb hs.lt e (by have := hs.ge; omega) (by have := hs.le; omega)
  have h1 := sA_le e (by have := hs.dl; omega)
  exact CN.cd d0 (Nat.lt_of_le_of_lt d1 (Nat.pow_lt_pow_right (by decide) (by omega))) (hD i) h1.1
theorem bP_len : ∀ (d i : Nat), (bP T p d i).length ≤ d + 1
  | 0, i => by rw [bP]; split <;> simp
  | d + 1, i => by
    have h1 := bP_len d i
    have h2 := bP_len d (i + 1)
    have a1 := pmul_len_le (bA (T.getD i 0) (T.getD (i + (d + 1)) 0)) (bP T p d i)
    have a2 := pmul_len_le (bB (T.getD (i + 1) 0) (T.getD (i + (d + 1) + 1) 0)) (bP T p d (i + 1))
    have l1 : (bA (T.getD i 0) (T.getD (i + (d + 1)) 0)).length = 2 := rfl
    have l2 : (bB (T.getD (i + 1) 0) (T.getD (i + (d + 1) + 1) 0)).length = 2 := rfl
    have hX : (if T.getD i 0 = T.getD (i + (d + 1)) 0 then [] else pmul (bA (T.getD i 0) (T.getD (i + (d + 1)) 0)) (bP T p d i)).length ≤ d + 2 := by
      split
      · simp
      · omega
    rw [bP]
    split
    · omega
    · have a3 := trim_len_le (padd (if T.getD i 0 = T.getD (i + (d + 1)) 0 then [] else pmul (bA (T.getD i 0) (T.getD (i + (d + 1)) 0)) (bP T p d i)) (pmul (bB (T.getD (i + 1) 0) (T.getD (i + (d + 1) + 1) 0)) (bP T p d (i + 1))))
      rw [padd_len] at a3
      omega
theorem basis_poly_gen (tb : ∀ q ∈ T, Fq 1 18 q) (dl : d ≤ 4) (hcd : ∀ e i, e ≤ d → i + e + 1 < T.length → CD 195 191 (bP T p e i)) : ∀ (e i k : Nat) (h : PH), e ≤ d → i + e + 1 < T.length → callF G (k + e + 4) 155 [.int (e : Nat), pol T, .int (i : Nat), .int (p : Nat)] h = .ok (pol (bP T p e i)) h
  | 0, i, k, h, he, hi => by
    refine of_to ?_
    rw [callF_eq (f := f_basis_poly) rfl rfl, to_bind]
    simp only [f_basis_poly, c_basis_poly]
    have hpl : PV.tup [] = pol [] := rfl
    have hp1 : PV.tup [PV.tup [.int 1, .int 1]] = pol [1] := rfl
    simp [List.replicate]
    refine br_to (fun hq => ?_) (fun hq => ?_)
    · have hip : i = p := by simp at hq; omega
      simp [hip, bP, hp1]
    · have hip : ¬ i = p := by simp at hq; omega
      simp [hip, bP, hpl]
  | e + 1, i, k, h, he, hi => by
    have r1 : ∀ H, callF G (k + e + 4) 155 [.int (e : Nat), pol T, .int (i : Nat), .int (p : Nat)] H = .ok (pol (bP T p e i)) H := fun H => basis_poly_gen tb dl hcd e i k H (by omega) (by omega)
    have r2 : ∀ H, callF G (k + e + 4) 155 [.int (e : Nat), pol T, .int ((i : Int) + 1), .int (p : Nat)] H = .ok (pol (bP T p e (i + 1))) H := fun H => basis_poly_gen tb dl hcd e (i + 1) k H (by omega) (by omega)
    have i1 : ∀ H, idxop (pol T) (.int (i : Nat)) H = .ok (fr (T.getD i 0)) H := fun H => idx_pol (by omega)
    have i2 : ∀ H, idxop (pol T) (.int ((i : Int) + ((e : Int) + 1))) H = .ok (fr (T.getD (i + (e + 1)) 0)) H := fun H => idx_pol (i := i + (e + 1)) (by omega)
    have i3 : ∀ H, idxop (pol T) (.int ((i : Int) + 1)) H = .ok (fr (T.getD (i + 1) 0)) H := fun H => idx_pol (i := i + 1) (by omega)
    have i4 : ∀ H, idxop (pol T) (.int ((i : Int) + ((e : Int) + 1) + 1)) H = .ok (fr (T.getD (i + (e + 1) + 1) 0)) H := fun H => idx_pol (i := i + (e + 1) + 1) (by omega)
    have f1 := getD_fq tb i
    have f2 := getD_fq tb (i + (e + 1))
    have f3 := getD_fq tb (i + 1)
    have f4 := getD_fq tb (i + (e + 1) + 1)
    have cA : ∀ lo hi : Rat, Fq 1 18 lo → Fq 1 18 hi → lo ≠ hi → CD 19 20 (bA lo hi) ∧ CD 19 20 (bB lo hi) := fun lo hi g1 g2 g3 =>
      ⟨CN.cd (kz_ne g1 g2 g3) (Nat.lt_of_le_of_lt (kz_eq g1 g2).2 (by decide)) (cn_bA g1 g2 g3) (by decide), CN.cd (kz_ne g1 g2 g3) (Nat.lt_of_le_of_lt (kz_eq g1 g2).2 (by decide)) (cn_bB g1 g2 g3) (by decide)⟩
    have c1 := hcd e i (by omega) (by omega)
    have c2 := hcd e (i + 1) (by omega) (by omega)
    have l1 := bP_len (T := T) (p := p) e i
    have l2 := bP_len (T := T) (p := p) e (i + 1)
    have he4 : e ≤ 4 := by omega
    have m1 : T.getD i 0 ≠ T.getD (i + (e + 1)) 0 → ∀ H, callF G (k + e + 4) 13 [pol (bA (T.getD i 0) (T.getD (i + (e + 1)) 0)), pol (bP T p e i)] H = .ok (pol (pmul (bA (T.getD i 0) (T.getD (i + (e + 1)) 0)) (bP T p e i))) H := fun hne H =>
      p_times_cd (k := k + e + 1) (s := 220) (c := 1) (cA _ _ f1 f2 hne).1 c1 (by show (2 : Nat) ≤ 2 ^ 1; decide) (by decide) (by decide) (by decide) (by simp [bA]; omega)
    have m2 : T.getD (i + 1) 0 ≠ T.getD (i + (e + 1) + 1) 0 → ∀ H, callF G (k + e + 4) 13 [pol (bB (T.getD (i + 1) 0) (T.getD (i + (e + 1) + 1) 0)), pol (bP T p e (i + 1))] H = .ok (pol (pmul (bB (T.getD (i + 1) 0) (T.getD (i + (e + 1) + 1) 0)) (bP T p e (i + 1)))) H := fun hne H =>
      p_times_cd (k := k + e + 1) (s := 220) (c := 1) (cA _ _ f3 f4 hne).2 c2 (by show (2 : Nat) ≤ 2 ^ 1; decide) (by decide) (by decide) (by decide) (by simp [bB]; omega)
    have b1 : T.getD i 0 ≠ T.getD (i + (e + 1)) 0 → AllB 220 (pmul (bA (T.getD i 0) (T.getD (i + (e + 1)) 0)) (bP T p e i)) := fun hne => ((cA _ _ f1 f2 hne).1.pmul c1 (c := 1) (by show (2 : Nat) ≤ 2 ^ 1; decide)).all (by decide) (by decide)
    have b2 : T.getD (i + 1) 0 ≠ T.getD (i + (e + 1) + 1) 0 → AllB 220 (pmul (bB (T.getD (i + 1) 0) (T.getD (i + (e + 1) + 1) 0)) (bP T p e (i + 1))) := fun hne => ((cA _ _ f3 f4 hne).2.pmul c2 (c := 1) (by show (2 : Nat) ≤ 2 ^ 1; decide)).all (by decide) (by decide)
    have n1 := pmul_len_le (bA (T.getD i 0) (T.getD (i + (e + 1)) 0)) (bP T p e i)
    have n2 := pmul_len_le (bB (T.getD (i + 1) 0) (T.getD (i + (e + 1) + 1) 0)) (bP T p e (i + 1))
    have e5 : bP T p (e + 1) i = if T.getD (i + 1) 0 = T.getD (i + (e + 1) + 1) 0 then
      (if T.getD i 0 = T.getD (i + (e + 1)) 0 then [] else pmul (bA (T.getD i 0) (T.getD (i + (e + 1)) 0)) (bP T p e i))
      else trim (padd (if T.getD i 0 = T.getD (i + (e + 1)) 0 then [] else pmul (bA (T.getD i 0) (T.getD (i + (e + 1)) 0)) (bP T p e i))
        (pmul (bB (T.getD (i + 1) 0) (T.getD (i + (e + 1) + 1) 0)) (bP T p e (i + 1)))) := by rw [bP]
    rw [e5]
    have lA : (bA (T.getD i 0) (T.getD (i + (e + 1)) 0)).length = 2 := rfl
    have lB : (bB (T.getD (i + 1) 0) (T.getD (i + (e + 1) + 1) 0)).length = 2 := rfl
    rw [lA] at n1
    rw [lB] at n2
    clear lA lB e5
    generalize T.getD i 0 = u1 at *
    generalize T.getD (i + 1) 0 = u3 at *
    generalize T.getD (i + (e + 1)) 0 = u2 at *
    generalize T.getD (i + (e + 1) + 1) 0 = u4 at *
    generalize bP T p e i = B1 at *
    generalize bP T p e (i + 1) = B2 at *
    haveI : Fz u1 1 18 := ⟨f1⟩
    haveI : Fz u2 1 18 := ⟨f2⟩
    haveI : Fz u3 1 18 := ⟨f3⟩
    haveI : Fz u4 1 18 := ⟨f4⟩
    have hA : ∀ lo hi : Rat, PV.tup [fr (-lo * (1 / (hi - lo))), fr (1 / (hi - lo))] = pol (bA lo hi) := fun _ _ => rfl
    have hB : ∀ lo hi : Rat, PV.tup [fr (hi * (1 / (hi - lo))), fr (-(1 / (hi - lo)))] = pol (bB lo hi) := fun _ _ => rfl
    have hpl : PV.tup [] = pol [] := rfl
    refine of_to ?_
    rw [show k + (e + 1) + 4 = (k + e + 4) + 1 by omega, callF_eq (f := f_basis_poly) rfl rfl, to_bind]
    simp only [f_basis_poly, c_basis_poly]
    have hz : ¬ ((e : Int) + 1 = 0) := by omega
    simp [List.replicate, i1, i2, i3, i4, eqD_fr, hz]
    have e1 : ((e : Int) + 1 - 1) = (e : Int) := by omega
    refine br_mono (P := fun f h' => ∃ s7, f = Fl.nx [some (.int ((e : Int) + 1)), some (pol T), some (.int (i : Nat)), some (.int (p : Nat)), some (pol (if u1 = u2 then [] else pmul (bA u1 u2) B1)), some (fr u1), some (fr u2), s7, none] ∧ h' = h) ?_ ?_ ?_
    · intro hq
      have hne : u1 ≠ u2 := by simpa using hq
      have hd : u2 - u1 ≠ 0 := by grind
      simp (disch := first | omega | assumption) [fr1, less_i, over_i, negative_i, times_i, e1, r1, hA, m1 hne, hne]
    · intro hq
      have hne : u1 = u2 := by simpa using hq
      simp [hne, hpl]
    · rintro f h' ⟨s7, rfl, rfl⟩
      have hX : AllB 220 (if u1 = u2 then [] else pmul (bA u1 u2) B1) := by
        split
        · intro q hq; simp at hq
        · rename_i hne; exact b1 hne
      have hXl : (if u1 = u2 then [] else pmul (bA u1 u2) B1).length ≤ 90000 := by
        split
        · simp
        · omega
      generalize (if u1 = u2 then [] else pmul (bA u1 u2) B1) = X at *
      simp [i3, i4, eqD_fr]
      refine br_mono (P := fun f h'' => ∃ s7 s8, f = Fl.nx [some (.int ((e : Int) + 1)), some (pol T), some (.int (i : Nat)), some (.int (p : Nat)), some (pol (if u3 = u4 then X else trim (padd X (pmul (bB u3 u4) B2)))), some (fr u3), some (fr u4), s7, s8] ∧ h'' = h') ?_ ?_ ?_
      · intro hq
        have hne : u3 ≠ u4 := by simpa using hq
        have hd : u4 - u3 ≠ 0 := by grind
        have ep := fun H => p_plus_ok (k := k + e + 1) (h := H) hX (b2 hne) (by decide) hXl (by omega)
        simp (disch := first | omega | assumption) [fr1, less_i, over_i, negative_i, times_i, e1, r2, hB, m2 hne, hne, ep]
      · intro hq
        have hne : u3 = u4 := by simpa using hq
        simp [hne]
      · rintro f h'' ⟨s7, s8, rfl, rfl⟩
        simp
theorem basis_poly_ok (hs : Spn d T p) (e i k : Nat) (h : PH) (he : e ≤ d) (hi : i + e + 1 < T.length) : callF G (k + e + 4) 155 [.int (e : Nat), pol T, .int (i : Nat), .int (p : Nat)] h = .ok (pol (bP T p e i)) h :=
  basis_poly_gen hs.tb hs.dl (fun e i he _ => bP_cd hs he i) e i k h he hi
/-! ### pieces -/
def pcN (T R : List Rat) (d p : Nat) : Nat → List Rat
  | 0 => []
  | s + 1 => trim (padd (pcN T R d p s) (trim ((bP T p d (p - d + s)).map (· * R.getD (p - d + s) 0))))
def pcP (T R : List Rat) (d p : Nat) : List Rat := pcN T R d p (d + 1)
theorem pcN_pe (x : Rat) : ∀ s, pe (pcN T R d p s) x = sumTo (fun s => pe (bP T p d (p - d + s)) x * R.getD (p - d + s) 0) s
  | 0 => rfl
  | s + 1 => by
    rw [pcN, pe_trim, pe_padd, pe_trim, pe_times, pcN_pe x s]; rfl
theorem pcN_can (s : Nat) : Can (pcN T R d p s) := by
  cases s with
  | zero => simp [pcN, Can]
  | succ s => exact trim_can _
theorem pcN_len : ∀ s, (pcN T R d p s).length ≤ d + 1
  | 0 => by simp [pcN]
  | s + 1 => by
    have h1 := pcN_len s
    have h2 := bP_len (T := T) (p := p) d (p - d + s)
    have h3 := trim_len_le ((bP T p d (p - d + s)).map (· * R.getD (p - d + s) 0))
    have h4 := trim_len_le (padd (pcN T R d p s) (trim ((bP T p d (p - d + s)).map (· * R.getD (p - d + s) 0))))
    rw [List.length_map] at h3
    rw [padd_len] at h4
    rw [pcN]; omega
/-- one denominator for all sums -/
theorem pcN_cn (hs : Spn d T p) (hR : ∀ q ∈ R, Fq 1 15 q) : ∃ D : Int, D ≠ 0 ∧ D.natAbs < 2 ^ 200 ∧ ∀ s, CN (s * 2 ^ 209) D (pcN T R d p s) := by
  obtain ⟨D, d0, d1, hD⟩ := bP_fam hs.up hs.tb hs.lt d hs.ge (by have := hs.le; omega)
  have h1 := sA_le d hs.dl
  refine ⟨D * 420, Int.mul_ne_zero d0 (by decide), ?_, fun s => ?_⟩
  · rw [Int.natAbs_mul]
    have h2 : D.natAbs ≤ 2 ^ 190 := Nat.le_trans d1 (Nat.pow_le_pow_right (by decide) h1.2)
    have h3 := Nat.mul_le_mul_right ((420 : Int).natAbs) h2
    exact Nat.lt_of_le_of_lt h3 (by decide)
  · induction s with
    | zero => intro q hq; simp [pcN] at hq
    | succ s ih =>
      have hterm : CN (2 ^ 209) (D * 420) (trim ((bP T p d (p - d + s)).map (· * R.getD (p - d + s) 0))) := cn_trim fun q hq => by
        obtain ⟨z, hz, rfl⟩ := List.mem_map.mp hq
        obtain ⟨A, a1, a2⟩ := hD (p - d + s) z hz
        obtain ⟨B, b1, b2⟩ := getD_fq hR (p - d + s)
        rw [Rat.pow_one] at b1
        refine ⟨A * B, ?_, ?_⟩
        · rw [Rat.intCast_mul, Rat.intCast_mul, ← a1, ← b1]
          have : ((420 : Int) : Rat) = 420 := rfl
          rw [this]; grind
        · rw [Int.natAbs_mul]
          have hA : A.natAbs ≤ 2 ^ 194 := by
            have : sA d ≤ 194 := by
              have : ∀ d, d ≤ 4 → sA d ≤ 194 := by decide
              exact this d hs.dl
            exact Nat.le_trans a2 (Nat.pow_le_pow_right (by decide) this)
          have := Nat.mul_le_mul hA (Nat.le_of_lt b2)
          have e : 2 ^ 194 * 2 ^ 15 = 2 ^ 209 := by decide
          omega
      rw [pcN, Nat.succ_mul]
      exact cn_trim (cn_padd ih hterm)
theorem pcN_cd (hs : Spn d T p) (hR : ∀ q ∈ R, Fq 1 15 q) {s : Nat} (h5 : s ≤ 5) : CD 213 200 (pcN T R d p s) := by
  obtain ⟨D, d0, d1, hD⟩ := pcN_cn hs hR
  refine CN.cd d0 d1 (hD s) ?_
  have := Nat.mul_le_mul_right (2 ^ 209) h5
  exact Nat.lt_of_le_of_lt this (by decide)
/-- what stands for a piece -/
def pcE (T R : List Rat) (d p : Nat) : PV := .tup [.tup [fr (T.getD p 0), fr (T.getD (p + 1) 0)], pol (pcP T R d p)]
def spL (T : List Rat) (n : Nat) : List Nat := (List.range n).filter fun p => decide (T.getD p 0 ≠ T.getD (p + 1) 0)
def pcV (T R : List Rat) (d : Nat) : PV := .tup ((spL T (T.length - 1)).map (pcE T R d))
theorem low_pcE (m : Nat) : ∀ L : List Nat, PV.lows m (L.map (pcE T R d)) = true
  | [] => rfl
  | p :: r => by
    rw [List.map_cons, PV.lows, low_pcE m r]
    simp [pcE, PV.low, PV.lows]
theorem low_pcV (m : Nat) : PV.low m (pcV T R d) = true := by
  rw [pcV, PV.low]; exact low_pcE m _
theorem Spl.up' (hs : Spl d T R) : Up T := fun i j hij hj => hs.kn.mono hij hj
theorem Spl.spn (hs : Spl d T R) (h1 : p + 1 < T.length) (hne : T.getD p 0 ≠ T.getD (p + 1) 0) : Spn d T p := by
  have hu := hs.up'
  have hge : d ≤ p := by
    refine Classical.byContradiction fun hc => hne ?_
    have a1 := hu 0 p (by omega) (by omega)
    have a2 := hu p (p + 1) (by omega) h1
    have a3 := hu (p + 1) d (by omega) (by have := hs.lo; omega)
    have a4 := hs.fst
    grind
  have hle : p + d + 1 < T.length := by
    refine Classical.byContradiction fun hc => hne ?_
    have a1 := hu (T.length - d - 1) p (by omega) (by omega)
    have a2 := hu p (p + 1) (by omega) h1
    have a3 := hu (p + 1) (T.length - 1) (by omega) (by omega)
    have a4 := hs.lst
    grind
  refine ⟨hu, hs.tb, ?_, hge, hle, hs.dl, hs.hi⟩
  have := hu p (p + 1) (by omega) h1
  grind
theorem pieces_of_ok (hs : Spl d T R) (hk : 10 ≤ k) : callF G k 166 [splv d T R] h = .ok (pcV T R d) h := by
  obtain ⟨k, rfl⟩ := Nat.exists_eq_add_of_le hk
  rw [Nat.add_comm]
  have hR : ∀ q ∈ R, Fq 1 15 q := fun q hq => (hs.rb q hq).up (by omega) (by omega)
  have hTl := hs.hi
  have hlo := hs.lo
  have hrl := hs.rl
  have hdl := hs.dl
  refine of_to ?_
  rw [callF_eq (f := f_pieces_of) rfl rfl, to_bind]
  simp only [f_pieces_of, c_pieces_of]
  simp [List.replicate, splv, alloc]
  refine forR_to0 (T.length - 1) (S := fun i s h' => ∃ s2 s6 s7, s = [some (splv d T R), some (.ref h.length), s2, some (.int d), some (pol T), some (pol R), s6, s7] ∧ h' = h ++ [.lst ((spL T i).map (pcE T R d))]) (by omega) (by omega) ?_ ?_ ?_
  · exact ⟨none, none, none, rfl, rfl⟩
  · rintro i s h' hi ⟨s2, s6, s7, rfl, rfl⟩
    have i1 : ∀ H, idxop (pol T) (.int (i : Nat)) H = .ok (fr (T.getD i 0)) H := fun H => idx_pol (by omega)
    have i2 : ∀ H, idxop (pol T) (.int ((i : Int) + 1)) H = .ok (fr (T.getD (i + 1) 0)) H := fun H => idx_pol (i := i + 1) (by omega)
    have hsp : T.getD i 0 ≠ T.getD (i + 1) 0 → Spn d T i := fun hne => hs.spn (by omega) hne
    have hpe : pcE T R d i = .tup [.tup [fr (T.getD i 0), fr (T.getD (i + 1) 0)], pol (pcP T R d i)] := rfl
    have hspl : spL T (i + 1) = spL T i ++ if T.getD i 0 ≠ T.getD (i + 1) 0 then [i] else [] := by
      rw [spL, List.range_succ, List.filter_append, spL]
      congr 1
      by_cases hz : T.getD i 0 = T.getD (i + 1) 0
      · have e : decide (T.getD i 0 ≠ T.getD (i + 1) 0) = false := decide_eq_false fun w => w hz
        rw [if_neg (fun w => w hz), List.filter_cons, e]; rfl
      · have e : decide (T.getD i 0 ≠ T.getD (i + 1) 0) = true := decide_eq_true hz
        rw [if_pos hz, List.filter_cons, e]; rfl
    have hll : (spL T i).length ≤ 16 := by
      have := List.length_filter_le (fun p => decide (T.getD p 0 ≠ T.getD (p + 1) 0)) (List.range i)
      rw [List.length_range] at this
      rw [spL]; omega
    have hLl : ((spL T i).map (pcE T R d)).length ≤ 16 := by rw [List.length_map]; exact hll
    rw [hspl]
    simp only [List.map_append]
    generalize (spL T i).map (pcE T R d) = L at *
    generalize hu1 : T.getD i 0 = u1 at *
    generalize hu2 : T.getD (i + 1) 0 = u2 at *
    simp [i1, i2, eqD_fr]
    refine br_to (fun hq => ?_) (fun hq => ?_)
    · have hne : u1 ≠ u2 := by simpa using hq
      have hS := hsp hne
      have hge := hS.ge
      have hle := hS.le
      have hpl : PV.tup [] = pol [] := rfl
      have z1 : (i : Int) - (d : Int) = ((i - d : Nat) : Int) := by omega
      simp [hpl, hne]
      refine forR_to (i - d) (i + 1) (S := fun j s h' => ∃ s7, s = [some (splv d T R), some (.ref h.length), some (.int i), some (.int d), some (pol T), some (pol R), some (pol (pcN T R d i (j - (i - d)))), s7] ∧ h' = h ++ [.lst L]) z1 (by omega) (by omega) (by omega) ?_ ?_ ?_
      · exact ⟨s7, by simp [pcN, splv], rfl⟩
      · rintro j s h' hj1 hj2 ⟨s7', rfl, rfl⟩
        have eb := fun H => basis_poly_ok hS d j (k + 5 - d) H (Nat.le_refl _) (by omega)
        have ek : k + 5 - d + d + 4 = k + 9 := by omega
        rw [ek] at eb
        have ir : ∀ H, idxop (pol R) (.int (j : Nat)) H = .ok (fr (R.getD j 0)) H := fun H => idx_pol (by omega)
        have c1 := bP_cd hS (e := d) (Nat.le_refl _) j
        have bR : Bd 15 (R.getD j 0) := (getD_fq hR j).bd (by decide) (by decide)
        have es := fun H => p_scaled_ok (k := k + 6) (h := H) bR (c1.all (n := 195) (by decide) (by decide)) (by decide) (by have := bP_len (T := T) (p := i) d j; omega)
        have b1 : AllB 220 (pcN T R d i (j - (i - d))) := (pcN_cd hS hR (by omega)).all (by decide) (by decide)
        have b2 : AllB 220 (trim ((bP T i d j).map (· * R.getD j 0))) := ((c1.scale bR).trim).all (by decide) (by decide)
        have ea := fun H => p_plus_ok (k := k + 6) (h := H) b1 b2 (by decide) (by have := pcN_len (T := T) (R := R) (d := d) (p := i) (j - (i - d)); omega) (by
          have h1 := trim_len_le ((bP T i d j).map (· * R.getD j 0))
          have h2 := bP_len (T := T) (p := i) d j
          rw [List.length_map] at h1; omega)
        have e1 : j + 1 - (i - d) = (j - (i - d)) + 1 := by omega
        have e2 : i - d + (j - (i - d)) = j := by omega
        have hst : pcN T R d i (j + 1 - (i - d)) = trim (padd (pcN T R d i (j - (i - d))) (trim ((bP T i d j).map (· * R.getD j 0)))) := by
          rw [e1, pcN, e2]
        simp only [hst]
        generalize R.getD j 0 = rj at *
        simp [eb, ir, es, ea]
      · rintro s h' ⟨s7', rfl, rfl⟩
        have e1 : i + 1 - (i - d) = d + 1 := by omega
        have hpc : pcN T R d i (d + 1) = pcP T R d i := rfl
        rw [e1, hpc]
        simp [i1, i2, mth]
        exact ⟨by omega, by rw [if_neg hne]; simp [hpe]⟩
    · have hne : u1 = u2 := by simpa using hq
      simp [hne]
  · rintro s h' ⟨s2, s6, s7, rfl, rfl⟩
    simp
    exact ⟨rfl, keep_app' (low_pcV _)⟩
theorem spline_pieces_ok (hs : Spl d T R) (hk : 11 ≤ k) : callF G k 170 [splv d T R] h = .ok (pcV T R d) h := by
  obtain ⟨k, rfl⟩ := Nat.exists_eq_add_of_le hk
  rw [Nat.add_comm]
  have e1 := fun H => need_spline_ok (k := k + 10) (h := H) hs (by omega)
  have e2 := fun H => pieces_of_ok (k := k + 10) (h := H) hs (by omega)
  refine of_to ?_
  rw [callF_eq (f := f_spline_pieces) rfl rfl, to_bind]
  simp only [f_spline_pieces, c_spline_pieces]
  simp [List.replicate, e1, e2, keepP_len]
end
end PB
set_option Elab.async false
set_option linter.all false
set_option maxRecDepth 100000
set_option maxHeartbeats 1000000
set_option exponentiation.threshold 100000
namespace PB
section
/-! divided differences of polynomials, by synthetic division -/
def qd : List Rat → Rat → List Rat
  | [], _ => []
  | [_], _ => []
  | _ :: b :: r, a => pe (b :: r) a :: qd (b :: r) a
theorem pe_qd : ∀ (p : List Rat) (a X : Rat), pe p X = pe p a + (X - a) * pe (qd p a) X
  | [], a, X => by simp only [qd, pe]; grind
  | [c], a, X => by simp only [qd, pe]; grind
  | c :: b :: r, a, X => by
    have ih := pe_qd (b :: r) a X
    have e1 : pe (c :: b :: r) X = c + X * pe (b :: r) X := rfl
    have e2 : pe (c :: b :: r) a = c + a * pe (b :: r) a := rfl
    have e3 : pe (qd (c :: b :: r) a) X = pe (b :: r) a + X * pe (qd (b :: r) a) X := rfl
    rw [e1, e2, e3, ih]; grind
def ddp : List Rat → List Rat → Rat
  | _, [] => 0
  | p, [a] => pe p a
  | p, a :: b :: r => ddp (qd p a) (b :: r)
theorem pe_li0 (z : Rat) (q : List Rat) (X : Rat) : pe (pmul [-z, 1] q) X = (X - z) * pe q X := by
  rw [pe_pmul]; simp only [pe]; grind
/-! derivatives -/
def Dn : Nat → List Rat → List Rat
  | 0, p => p
  | n + 1, p => pder (Dn n p)
theorem dv_comb {u v w : List Rat} {c a s : Rat} (h : ∀ X, pe u X = c + (X - a) * pe v X + s * pe w X) (X : Rat) : pe (pder u) X = pe v X + (X - a) * pe (pder v) X + s * pe (pder w) X := by
  have e : ∀ X, pe u X = pe (padd (padd [c] (pmul [-a, 1] v)) (w.map (s * ·))) X := fun X => by
    rw [h, pe_padd, pe_padd, pe_li0, pe_scaled]; simp only [pe]; grind
  have h1 : pe (pder u) X = dv u X := rfl
  rw [h1, dv_congr e, dv_padd, dv_padd, dv_pmul, dv_scaled]
  have h2 : dv v X = pe (pder v) X := rfl
  have h3 : dv w X = pe (pder w) X := rfl
  simp only [dv_cons, dv_nil, pe, ← h2, ← h3]; grind
theorem Dn_lin {p q : List Rat} {c a : Rat} (h : ∀ X, pe p X = c + (X - a) * pe q X) : ∀ (j : Nat) (X : Rat), pe (Dn (j + 1) p) X = (X - a) * pe (Dn (j + 1) q) X + ((j + 1 : Nat) : Rat) * pe (Dn j q) X
  | 0, X => by
    have := dv_comb (u := p) (v := q) (w := []) (c := c) (a := a) (s := 0) (fun X => by rw [h]; grind) X
    have h0 : ((0 + 1 : Nat) : Rat) = 1 := rfl
    simp only [Dn]
    rw [this, h0]; grind
  | j + 1, X => by
    have ih := Dn_lin h j
    have := dv_comb (u := Dn (j + 1) p) (v := Dn (j + 1) q) (w := Dn j q) (c := 0) (a := a) (s := ((j + 1 : Nat) : Rat)) (fun X => by rw [ih]; grind) X
    have e1 : ((j + 1 + 1 : Nat) : Rat) = ((j + 1 : Nat) : Rat) + 1 := Rat.natCast_add _ 1
    have e2 : Dn (j + 1 + 1) p = pder (Dn (j + 1) p) := rfl
    have e3 : Dn (j + 1 + 1) q = pder (Dn (j + 1) q) := rfl
    have e4 : Dn (j + 1) q = pder (Dn j q) := rfl
    rw [e2, this, e1, e3, ← e4]; grind
theorem Dn_comb {p q r : List Rat} {s : Rat} (h : ∀ X, pe r X = pe p X + s * pe q X) : ∀ (j : Nat) (X : Rat), pe (Dn j r) X = pe (Dn j p) X + s * pe (Dn j q) X
  | 0, X => h X
  | j + 1, X => by
    have ih := Dn_comb h j
    have e : ∀ X, pe (Dn j r) X = pe (padd (Dn j p) ((Dn j q).map (s * ·))) X := fun X => by rw [ih, pe_padd, pe_scaled]
    have h1 : pe (Dn (j + 1) r) X = dv (Dn j r) X := rfl
    rw [h1, dv_congr e, dv_padd, dv_scaled]; rfl
theorem Dn_congr {p q : List Rat} (h : ∀ X, pe p X = pe q X) (j : Nat) (X : Rat) : pe (Dn j p) X = pe (Dn j q) X := by
  have := Dn_comb (r := p) (p := q) (q := []) (s := 0) (fun X => by rw [h]; grind) j X
  rw [this]; grind
/-! products of differences -/
def pnl : List Rat → List Rat
  | [] => [1]
  | x :: r => pmul [-x, 1] (pnl r)
theorem pnl_cons (x : Rat) (r : List Rat) (X : Rat) : pe (pnl (x :: r)) X = (X - x) * pe (pnl r) X := pe_li0 x _ X
theorem pnl_app : ∀ (xs ys : List Rat) (X : Rat), pe (pnl (xs ++ ys)) X = pe (pnl xs) X * pe (pnl ys) X
  | [], ys, X => by
    show pe (pnl ys) X = pe [1] X * _
    simp only [pe]; grind
  | x :: r, ys, X => by
    rw [List.cons_append, pnl_cons, pnl_cons, pnl_app r ys]; grind
theorem pnl_one (y X : Rat) : pe (pnl [y]) X = X - y := by rw [pnl_cons]; show (X - y) * pe [1] X = _; simp only [pe]; grind
theorem ddp_snoc : ∀ (xs : List Rat) (y : Rat) (p : List Rat), ddp p (xs ++ [y]) = pe (xs.foldl qd p) y
  | [], y, p => rfl
  | [x], y, p => rfl
  | x :: z :: r, y, p => ddp_snoc (z :: r) y (qd p x)
/-- the sum of coefficients times products of differences -/
def nwt (c : Nat → Rat) (xs : List Rat) (m : Nat) (X : Rat) : Rat := sumTo (fun k => c k * pe (pnl (xs.take k)) X) m
theorem newton (p xs : List Rat) (X : Rat) : ∀ m, m ≤ xs.length → pe p X = nwt (fun k => ddp p (xs.take (k + 1))) xs m X + pe (pnl (xs.take m)) X * pe ((xs.take m).foldl qd p) X
  | 0, _ => by
    show pe p X = 0 + pe [1] X * pe p X
    simp only [pe]; grind
  | m + 1, h => by
    have ih := newton p xs X m (by omega)
    have hm : m < xs.length := h
    have e1 : xs.take (m + 1) = xs.take m ++ [xs[m]] := by rw [List.take_append_getElem]
    have h1 := pe_qd ((xs.take m).foldl qd p) xs[m] X
    have h2 : nwt (fun k => ddp p (xs.take (k + 1))) xs (m + 1) X = nwt (fun k => ddp p (xs.take (k + 1))) xs m X + ddp p (xs.take (m + 1)) * pe (pnl (xs.take m)) X := rfl
    rw [ih, h2, e1, ddp_snoc, pnl_app, pnl_one, List.foldl_append, List.foldl_cons, List.foldl_nil, h1]
    grind
/-! zeros with their multiplicity -/
def Zd (a : Rat) (m : Nat) (p : List Rat) : Prop := ∀ j, j < m → pe (Dn j p) a = 0
theorem Zd.lin {a c : Rat} {m : Nat} {p q : List Rat} (h : ∀ X, pe p X = (X - c) * pe q X) (z : Zd a m q) : Zd a m p ∧ (c = a → Zd a (m + 1) p) := by
  have hl := Dn_lin (p := p) (q := q) (c := 0) (a := c) (fun X => by rw [h]; grind)
  constructor
  · intro j hj
    cases j with
    | zero => show pe p a = 0; rw [h, show pe q a = 0 from z 0 hj]; grind
    | succ j => rw [hl, z (j + 1) hj, z j (by omega)]; grind
  · rintro rfl
    intro j hj
    cases j with
    | zero => show pe p c = 0; rw [h]; grind
    | succ j => rw [hl, z j (by omega)]; grind
theorem Zd.prod (a : Rat) : ∀ (xs : List Rat) (p q : List Rat), (∀ X, pe p X = pe (pnl xs) X * pe q X) → Zd a (xs.count a) p
  | [], p, q, h => fun j hj => by simp at hj
  | x :: r, p, q, h => by
    have ih := Zd.prod a r (pmul (pnl r) q) q (fun X => pe_pmul _ _)
    have h' : ∀ X, pe p X = (X - x) * pe (pmul (pnl r) q) X := fun X => by rw [h, pnl_cons, pe_pmul]; grind
    obtain ⟨z1, z2⟩ := Zd.lin h' ih
    by_cases e : x = a
    · subst e; rw [List.count_cons_self]; exact z2 rfl
    · rw [List.count_cons_of_ne e]; exact z1
/-- p has the data ds at the nodes xs -/
def Hdt (p xs ds : List Rat) : Prop := ∀ i a d, xs[i]? = some a → ds[i]? = some d → pe (Dn ((xs.take i).count a) p) a = d
theorem Hdt.congr {p q xs ds : List Rat} (h : Hdt p xs ds) (e : ∀ X, pe q X = pe p X) : Hdt q xs ds := fun i a d h1 h2 => by rw [Dn_congr e, h i a d h1 h2]
theorem Hdt.take {p xs ds : List Rat} (h : Hdt p xs ds) (m : Nat) : Hdt p (xs.take m) (ds.take m) := fun i a d h1 h2 => by
  by_cases hi : i < m
  · rw [List.getElem?_take_of_lt hi] at h1 h2
    rw [List.take_take, Nat.min_eq_left (by omega)]
    exact h i a d h1 h2
  · rw [List.getElem?_take_eq_none (by omega)] at h1; cases h1
theorem count_lt {xs : List Rat} {i m : Nat} {a : Rat} (hi : xs[i]? = some a) (hm : i < m) : (xs.take i).count a < (xs.take m).count a := by
  obtain ⟨hl, rfl⟩ := List.getElem?_eq_some_iff.mp hi
  have e1 : xs.take (i + 1) = xs.take i ++ [xs[i]] := by rw [List.take_append_getElem]
  have h1 : (xs.take (i + 1)).count xs[i] = (xs.take i).count xs[i] + 1 := by rw [e1, List.count_append, List.count_singleton_self]
  have h2 : (xs.take (i + 1)).count xs[i] ≤ (xs.take m).count xs[i] := by
    have : xs.take (i + 1) = (xs.take m).take (i + 1) := by rw [List.take_take, Nat.min_eq_left (by omega)]
    rw [this]
    exact List.Sublist.count_le _ (List.take_sublist _ _)
  omega
/-- the sum has the data, too -/
theorem Hdt.sum {p W xs ds : List Rat} (h : Hdt p xs ds) (hW : ∀ X, pe W X = nwt (fun k => ddp p (xs.take (k + 1))) xs xs.length X) : Hdt W xs ds := fun i a d h1 h2 => by
  have hr : ∀ X, pe p X = pe W X + 1 * pe (pmul (pnl xs) (xs.foldl qd p)) X := fun X => by
    have := newton p xs X xs.length (Nat.le_refl _)
    rw [List.take_length] at this
    rw [this, hW, pe_pmul]; grind
  have hD := Dn_comb hr ((xs.take i).count a) a
  have hc : (xs.take i).count a < xs.count a := by
    have := count_lt h1 (List.getElem?_eq_some_iff.mp h1).1
    rwa [List.take_length] at this
  have z := Zd.prod a xs (pmul (pnl xs) (xs.foldl qd p)) (xs.foldl qd p) (fun X => pe_pmul _ _) _ hc
  rw [h i a d h1 h2, z] at hD
  grind
/-! facts on polynomials -/
end
end PB
set_option Elab.async false
set_option linter.all false
set_option maxRecDepth 100000
set_option maxHeartbeats 1000000
set_option exponentiation.threshold 100000
namespace PB
section
/-! the table of differences -/
def nd (T : List Rat) (i : Nat) : Rat := T.getD i 0
theorem nd_get {T : List Rat} {i : Nat} (h : i < T.length) : T[i]? = some (nd T i) := by
  rw [nd, List.getD_eq_getElem?_getD, List.getElem?_eq_getElem h]; rfl
theorem nd_of {T : List Rat} {i : Nat} {a : Rat} (h : T[i]? = some a) : nd T i = a := by
  rw [nd, List.getD_eq_getElem?_getD, h]; rfl
def AscL (T : List Rat) : Prop := ∀ i j, i ≤ j → j < T.length → nd T i ≤ nd T j
theorem AscL.take {T : List Rat} (h : AscL T) (m : Nat) : AscL (T.take m) := fun i j hij hj => by
  rw [List.length_take] at hj
  have e : ∀ i, i < m → nd (T.take m) i = nd T i := fun i hi => by
    rw [nd, nd, List.getD_eq_getElem?_getD, List.getD_eq_getElem?_getD, List.getElem?_take_of_lt hi]
  rw [e i (by omega), e j (by omega)]
  exact h i j hij (by omega)
theorem AscL.drop {T : List Rat} (h : AscL T) (m : Nat) : AscL (T.drop m) := fun i j hij hj => by
  rw [List.length_drop] at hj
  have e : ∀ i, nd (T.drop m) i = nd T (m + i) := fun i => by
    rw [nd, nd, List.getD_eq_getElem?_getD, List.getD_eq_getElem?_getD, List.getElem?_drop]
  rw [e i, e j]
  exact h _ _ (by omega) (by omega)
theorem AscL.rep (n : Nat) (x : Rat) : AscL (List.replicate n x) := fun i j hij hj => by
  have e : ∀ i, i < n → nd (List.replicate n x) i = x := fun i hi => nd_of (by rw [List.getElem?_replicate, if_pos hi])
  rw [List.length_replicate] at hj
  rw [e i (by omega), e j hj]; exact Rat.le_refl
/-- the first place of the number at i -/
def fi (T : List Rat) (i : Nat) : Nat := T.idxOf (nd T i)
def wnd (T : List Rat) (i k : Nat) : List Rat := (List.range' i k).map (nd T)
theorem wnd_snoc (T : List Rat) (i k : Nat) : wnd T i (k + 1) = wnd T i k ++ [nd T (i + k)] := by
  rw [wnd, List.range'_concat, List.map_append, Nat.one_mul]; rfl
theorem wnd_take {T : List Rat} : ∀ k, k ≤ T.length → wnd T 0 k = T.take k
  | 0, _ => by rw [List.take_zero]; rfl
  | k + 1, h => by
    rw [wnd_snoc, wnd_take k (by omega), Nat.zero_add]
    have hk : k < T.length := h
    have e := nd_get hk
    rw [List.getElem?_eq_getElem hk] at e
    rw [← Option.some.inj e, List.take_append_getElem]
/-! sizes of the table -/
theorem abs_mul_le {a b : Int} {m n : Nat} (ha : a.natAbs < 2 ^ m) (hb : b.natAbs ≤ 2 ^ n) : (a * b).natAbs < 2 ^ (m + n) := by
  rw [Int.natAbs_mul, Nat.pow_add]
  exact Nat.lt_of_le_of_lt (Nat.mul_le_mul_left _ hb) (Nat.mul_lt_mul_of_pos_right ha (Nat.pow_pos (by decide)))
/-! the sum: as the program and the law add it up -/
theorem CN.padd : ∀ {xs ys : List Rat} {N M : Nat} {D : Int}, CN N D xs → CN M D ys → CN (N + M) D (padd xs ys)
  | [], ys, N, M, D, _, h2 => h2.mono (by omega)
  | a :: r, [], N, M, D, h1, _ => h1.mono (by omega)
  | a :: r, b :: q, N, M, D, h1, h2 => fun z hz => by
    rcases List.mem_cons.mp hz with hz | hz
    · subst hz
      obtain ⟨A, a1, a2⟩ := h1 a (by simp)
      obtain ⟨B, b1, b2⟩ := h2 b (by simp)
      exact ⟨A + B, by rw [Rat.intCast_add, ← a1, ← b1]; grind, by omega⟩
    · exact CN.padd (fun q hq => h1 q (by simp [hq])) (fun q hq => h2 q (by simp [hq])) z hz
end
end PB
set_option Elab.async false
set_option linter.all false
set_option maxRecDepth 100000
set_option maxHeartbeats 1000000
set_option exponentiation.threshold 100000
namespace PB
open PySem
section
variable {k : Nat} {h t : PH} {o : PO} {T xs p : List Rat} {x : Rat} {a b c d m n : Nat}
/-! tuple.count, tuple.index -/
theorem seqD_pol : seqD h (pol T) = some (dats (frs T)) := by
  unfold seqD
  rw [toD_plain 12 (pol T) plain_pol]; rfl
theorem eqv_fr (y : Rat) : PyData.eqv (dat (fr y)) (dat (fr x)) = decide (y = x) := by
  rw [eqv_dat 12 12 _ _ plain_fr plain_fr, same_dec]
  simp only [fr_inj]
theorem toD_fr : toD h 12 (fr x) = some (dat (fr x)) := toD_plain 12 _ plain_fr
theorem count_dats : ∀ T : List Rat, (dats (frs T)).countP (fun z => PyData.eqv z (dat (fr x))) = T.count x
  | [] => rfl
  | y :: r => by
    rw [frs_cons, dats, List.countP_cons, count_dats r, eqv_fr, List.count_cons]
    by_cases e : y = x <;> simp [e]
theorem mth_count : mth .count (pol T) [fr x] h = .ok (.int (T.count x : Nat)) h := by
  simp only [mth, seqD_pol, toD_fr, count_dats]
/-! derivatives: sizes -/
/-! the data of a polynomial -/
end
end PB
set_option Elab.async false
set_option linter.all false
set_option maxRecDepth 100000
set_option maxHeartbeats 2000000
set_option exponentiation.threshold 100000
namespace PB
open PySem
section
variable {k : Nat} {h t : PH} {o : PO} {T xs p ds : List Rat} {x : Rat} {a b c d m n : Nat}
/-- sizes that data may have -/
structure Nds (E N : Nat) (T ds : List Rat) : Prop where
  asc : AscL T
  fT : ∀ x ∈ T, Fq 1 12 x
  fd : ∀ x ∈ ds, Fq E N x
  len : ds.length = T.length
  one : 1 ≤ T.length
  five : T.length ≤ 5
  hE : 9 * E ≤ 500
  hN : N ≤ 500
theorem Nds.take {E N : Nat} (h : Nds E N T ds) (hm : 1 ≤ m) : Nds E N (T.take m) (ds.take m) :=
  ⟨h.asc.take m, fun x hx => h.fT x (List.mem_of_mem_take hx), fun x hx => h.fd x (List.mem_of_mem_take hx), by rw [List.length_take, List.length_take, h.len], by have := h.one; rw [List.length_take]; omega, by have := h.five; rw [List.length_take]; omega, h.hE, h.hN⟩
end
end PB
set_option Elab.async false
set_option linter.all false
set_option maxRecDepth 100000
set_option maxHeartbeats 2000000
set_option exponentiation.threshold 100000
namespace PB
open PySem
section
variable {k : Nat} {h t : PH} {o : PO} {T xs p ds : List Rat} {x : Rat} {a b c d m n : Nat}
/-- a number is put in its place -/
theorem AscL.put {F : List Rat} (hA : AscL F) {i : Nat} (hi : i ≤ F.length) (h1 : ∀ j, j < i → nd F j ≤ x) (h2 : i < F.length → x ≤ nd F i) : AscL (F.take i ++ [x] ++ F.drop i) := fun a b hab hb => by
  have e : ∀ j, j < (F.take i ++ [x] ++ F.drop i).length → nd (F.take i ++ [x] ++ F.drop i) j = if j < i then nd F j else if j = i then x else nd F (j - 1) := fun j hj => by
    have hti : (F.take i).length = i := by rw [List.length_take]; omega
    refine nd_of ?_
    rw [List.append_assoc]
    by_cases c1 : j < i
    · rw [if_pos c1, List.getElem?_append_left (by omega), List.getElem?_take_of_lt c1, nd_get (by omega)]
    · rw [if_neg c1, List.getElem?_append_right (by omega), hti]
      by_cases c2 : j = i
      · subst c2; rw [if_pos rfl, Nat.sub_self]; rfl
      · rw [if_neg c2]
        have hl : (F.take i ++ [x] ++ F.drop i).length = F.length + 1 := by simp; omega
        rw [show j - i = (j - 1 - i) + 1 from by omega, List.singleton_append, List.getElem?_cons_succ, List.getElem?_drop, show i + (j - 1 - i) = j - 1 from by omega, nd_get (by omega)]
  have hl : (F.take i ++ [x] ++ F.drop i).length = F.length + 1 := by simp; omega
  rw [hl] at hb
  rw [e a (by omega), e b (by omega)]
  by_cases a1 : a < i
  · rw [if_pos a1]
    by_cases b1 : b < i
    · rw [if_pos b1]; exact hA a b hab (by omega)
    · rw [if_neg b1]
      by_cases b2 : b = i
      · rw [if_pos b2]; exact h1 a a1
      · rw [if_neg b2]; exact hA a (b - 1) (by omega) (by omega)
  · have b1 : ¬ b < i := by omega
    rw [if_neg a1, if_neg b1]
    by_cases a2 : a = i
    · rw [if_pos a2]
      by_cases b2 : b = i
      · rw [if_pos b2]; exact Rat.le_refl
      · rw [if_neg b2]
        exact Rat.le_trans (h2 (by omega)) (hA i (b - 1) (by omega) (by omega))
    · have b2 : ¬ b = i := by omega
      rw [if_neg a2, if_neg b2]
      exact hA (a - 1) (b - 1) (by omega) (by omega)
theorem comp0_to {F : PV → PH → Res (Option PV)} {Q : List PV → PH → Prop} {w : Int} (L : List Rat) (hw : w = L.length) (hn : L.length ≤ 1000) (hF : ∀ i, i < L.length → F (.int (i : Nat)) h = .ok (some (fr (nd L i))) h) (hq : Q (frs L) h) : (compR 0 w F h).To Q := by
  have e := compR_pure (F := F) (h := h) (z := 0) (w := w) 0 L.length (fun i => fr (nd L i)) rfl (by omega) (by omega) fun i _ hi => hF i (by omega)
  rw [e, to_ok]
  have hrow : (List.range' 0 L.length).map (fun i => fr (nd L i)) = frs L := by
    have := wnd_take (T := L) L.length (by omega)
    rw [List.take_of_length_le (by omega), wnd] at this
    conv => rhs; rw [← this]
    rw [← map_fr, List.map_map]; rfl
  rw [hrow]; exact hq
end
end PB
set_option Elab.async false
set_option linter.all false
set_option maxRecDepth 100000
set_option maxHeartbeats 1000000
set_option exponentiation.threshold 100000
namespace PB
open PySem
section
variable {T : List Rat} {b : Rat} {p p' d i j : Nat} {X : Rat}
/-! derivatives of a basis function's polynomials -/
def hh (T : List Rat) (d i : Nat) : Rat := nd T (i + d + 1) - nd T i
theorem frac_a (lo hi P X : Rat) : (-lo * (1 / (hi - lo)) + X * (1 / (hi - lo) + X * 0)) * P = (X - lo) * (P / (hi - lo)) := by
  rw [Rat.div_def, Rat.div_def]
  generalize (hi - lo)⁻¹ = u
  grind
theorem frac_b (lo hi P X : Rat) : (hi * (1 / (hi - lo)) + X * (-(1 / (hi - lo)) + X * 0)) * P = (hi - X) * (P / (hi - lo)) := by
  rw [Rat.div_def, Rat.div_def]
  generalize (hi - lo)⁻¹ = u
  grind
theorem div_self0 (P a : Rat) : P / (a - a) = 0 := by
  have : a - a = 0 := by grind
  rw [this, Rat.div_def, Rat.inv_zero, Rat.mul_zero]
theorem Bv_succ (T : List Rat) (p d i : Nat) (X : Rat) : pe (bP T p (d + 1) i) X = (X - nd T i) * (pe (bP T p d i) X / hh T d i) + (nd T (i + d + 2) - X) * (pe (bP T p d (i + 1)) X / hh T d (i + 1)) := by
  have e1 : nd T (i + d + 1) = T.getD (i + (d + 1)) 0 := rfl
  have e2 : nd T (i + 1 + d + 1) = T.getD (i + (d + 1) + 1) 0 := by rw [nd]; congr 1; omega
  have e3 : nd T (i + d + 2) = T.getD (i + (d + 1) + 1) 0 := rfl
  have e4 : nd T i = T.getD i 0 := rfl
  have e5 : nd T (i + 1) = T.getD (i + 1) 0 := rfl
  rw [bP, hh, hh, e1, e2, e3, e4, e5]
  generalize T.getD i 0 = u1
  generalize T.getD (i + 1) 0 = u2
  generalize T.getD (i + (d + 1)) 0 = u3
  generalize T.getD (i + (d + 1) + 1) 0 = u4
  have A : pe (if u1 = u3 then [] else pmul (bA u1 u3) (bP T p d i)) X = (X - u1) * (pe (bP T p d i) X / (u3 - u1)) := by
    by_cases z : u1 = u3
    · subst z
      rw [if_pos rfl, div_self0, Rat.mul_zero]; rfl
    · rw [if_neg z, pe_pmul, ← frac_a]; rfl
  by_cases z : u2 = u4
  · subst z
    rw [if_pos rfl, A, div_self0, Rat.mul_zero, Rat.add_zero]
  · rw [if_neg z, pe_trim, pe_padd, A, pe_pmul, ← frac_b]; rfl
theorem dv_lin2 (u v a c : Rat) (P Q : List Rat) {W : List Rat} (h : ∀ X, pe W X = (X - a) * (u * pe P X) + (c - X) * (v * pe Q X)) (X : Rat) : dv W X = u * pe P X - v * pe Q X + (X - a) * (u * dv P X) + (c - X) * (v * dv Q X) := by
  have e : ∀ X, pe W X = pe (padd (pmul [-a, 1] (P.map (u * ·))) (pmul [c, -1] (Q.map (v * ·)))) X := fun X => by
    rw [h, pe_padd, pe_pmul, pe_pmul, pe_scaled, pe_scaled]; simp only [pe]; grind
  rw [dv_congr e, dv_padd, dv_pmul, dv_pmul, dv_scaled, dv_scaled, pe_scaled, pe_scaled]
  simp only [dv_cons, dv_nil, pe]; grind
theorem dBv_alg {X a0 a1 c0 c1 g0 g1 g2 n u v : Rat} (hu : u * (c0 - a0) * g1 = g1) (hv : v * (c1 - a1) * g1 = g1) :
    u * ((X - a0) * g0 + (c0 - X) * g1) - v * ((X - a1) * g1 + (c1 - X) * g2) + (X - a0) * (u * (n * (g0 - g1))) + (c1 - X) * (v * (n * (g1 - g2))) = (n + 1) * (((X - a0) * g0 + (c0 - X) * g1) * u - ((X - a1) * g1 + (c1 - X) * g2) * v) := by
  have h : n * (u * (c0 - a0) * g1) = n * (v * (c1 - a1) * g1) := by rw [hu, hv]
  grind
theorem mid_zero {T : List Rat} (hT : Up T) {a a' e e' : Nat} (h1 : a ≤ a') (h2 : a' ≤ e') (h3 : e' ≤ e) (hl : e < T.length) (P : Rat) : 1 / (nd T e - nd T a) * (nd T e - nd T a) * (P / (nd T e' - nd T a')) = P / (nd T e' - nd T a') := by
  by_cases z : nd T e - nd T a = 0
  · have x1 : nd T a ≤ nd T a' := hT a a' h1 (by omega)
    have x2 : nd T a' ≤ nd T e' := hT a' e' h2 (by omega)
    have x3 : nd T e' ≤ nd T e := hT e' e h3 hl
    have x4 : nd T e' = nd T a' := by grind
    rw [x4, div_self0, Rat.mul_zero]
  · rw [Rat.div_mul_cancel z, Rat.one_mul]
theorem dBv (hT : Up T) (p : Nat) : ∀ (d i : Nat) (X : Rat), i + d + 2 < T.length → dv (bP T p (d + 1) i) X = ((d + 1 : Nat) : Rat) * (pe (bP T p d i) X / hh T d i - pe (bP T p d (i + 1)) X / hh T d (i + 1))
  | 0, i, X, _ => by
    have h := dv_lin2 (1 / hh T 0 i) (1 / hh T 0 (i + 1)) (nd T i) (nd T (i + 0 + 2)) (bP T p 0 i) (bP T p 0 (i + 1)) (W := bP T p (0 + 1) i) (fun X => by rw [Bv_succ, Rat.div_def, Rat.div_def, Rat.div_def, Rat.div_def]; grind) X
    have z : ∀ k, dv (bP T p 0 k) X = 0 := fun k => by
      rw [bP]; split
      · rw [dv_cons, dv_nil]; simp only [pe]; grind
      · rfl
    rw [h, z, z]
    have e : ((0 + 1 : Nat) : Rat) = 1 := rfl
    rw [e, Rat.div_def, Rat.div_def, Rat.div_def, Rat.div_def]; grind
  | d + 1, i, X, hl => by
    have h := dv_lin2 (1 / hh T (d + 1) i) (1 / hh T (d + 1) (i + 1)) (nd T i) (nd T (i + (d + 1) + 2)) (bP T p (d + 1) i) (bP T p (d + 1) (i + 1)) (W := bP T p (d + 1 + 1) i) (fun X => by rw [Bv_succ, Rat.div_def, Rat.div_def, Rat.div_def, Rat.div_def]; grind) X
    rw [h, dBv hT p d i X (by omega), dBv hT p d (i + 1) X (by omega), Bv_succ, Bv_succ]
    have e : ((d + 1 + 1 : Nat) : Rat) = ((d + 1 : Nat) : Rat) + 1 := Rat.natCast_add _ 1
    have i1 : i + 1 + d + 2 = i + (d + 1) + 2 := by omega
    have i2 : i + 1 + 1 = i + 2 := rfl
    have q1 : hh T (d + 1) i = nd T (i + d + 2) - nd T i := rfl
    have q2 : hh T (d + 1) (i + 1) = nd T (i + (d + 1) + 2) - nd T (i + 1) := by rw [hh, show i + 1 + (d + 1) + 1 = i + (d + 1) + 2 by omega]
    have q3 : hh T d (i + 1) = nd T (i + d + 2) - nd T (i + 1) := by rw [hh, show i + 1 + d + 1 = i + d + 2 by omega]
    have m1 := mid_zero hT (a := i) (a' := i + 1) (e' := i + d + 2) (e := i + d + 2) (by omega) (by omega) (by omega) (by omega) (pe (bP T p d (i + 1)) X)
    have m2 := mid_zero hT (a := i + 1) (a' := i + 1) (e' := i + d + 2) (e := i + (d + 1) + 2) (by omega) (by omega) (by omega) (by omega) (pe (bP T p d (i + 1)) X)
    rw [← q3] at m1 m2
    rw [e, i1, i2, q1, q2]
    generalize pe (bP T p d i) X / hh T d i = g0
    generalize pe (bP T p d (i + 2)) X / hh T d (i + 2) = g2
    generalize pe (bP T p d (i + 1)) X / hh T d (i + 1) = g1 at *
    generalize ((d + 1 : Nat) : Rat) = n
    have := dBv_alg (X := X) (g0 := g0) (g2 := g2) (n := n) m1 m2
    rw [this, Rat.div_def (_ + _), Rat.div_def (_ + _)]
    rw [Rat.div_def 1, Rat.div_def 1, Rat.one_mul, Rat.one_mul]
/-! windows: how often b stands there, the product of the other differences -/
theorem zero_div' (a : Rat) : 0 / a = 0 := by rw [Rat.div_def, Rat.zero_mul]
end
end PB
set_option Elab.async false
set_option linter.all false
set_option maxRecDepth 100000
set_option maxHeartbeats 1000000
set_option exponentiation.threshold 100000
namespace PB
open PySem
section
variable {k : Nat} {h t : PH} {o : PO} {T : List Rat} {b : Rat} {p p' d i j n : Nat} {X : Rat}
/-! the jumps of basis functions -/
/-! places where the knots change -/
def chL (T : List Rat) (i n : Nat) : List Nat := (List.range' i n).filter fun p => decide (nd T p ≠ nd T (p + 1))
theorem chL_succ (T : List Rat) (i n : Nat) : chL T i (n + 1) = if nd T i ≠ nd T (i + 1) then i :: chL T (i + 1) n else chL T (i + 1) n := by
  rw [chL, List.range'_succ, List.filter_cons]
  by_cases e : nd T i ≠ nd T (i + 1)
  · rw [if_pos e, if_pos (by simpa using e)]; rfl
  · rw [if_neg e, if_neg (by simpa using e)]; rfl
theorem chL_snoc (T : List Rat) (i n : Nat) : chL T i (n + 1) = chL T i n ++ if nd T (i + n) ≠ nd T (i + n + 1) then [i + n] else [] := by
  rw [chL, List.range'_concat, List.filter_append, Nat.one_mul]
  congr 1
  by_cases e : nd T (i + n) ≠ nd T (i + n + 1)
  · rw [if_pos e, List.filter_cons, if_pos (by simpa using e)]; rfl
  · rw [if_neg e, List.filter_cons, if_neg (by simpa using e)]; rfl
def loL (i : Nat) (L : List Nat) : Nat → Nat
  | 0 => i
  | s + 1 => L.getD s 0 + 1
def hiL (e : Nat) (L : List Nat) (s : Nat) : Nat := if s < L.length then L.getD s 0 else e
theorem chL_mem {q : Nat} (h : q ∈ chL T i n) : i ≤ q ∧ q < i + n ∧ nd T q ≠ nd T (q + 1) := by
  rw [chL, List.mem_filter, List.mem_range'_1] at h
  exact ⟨h.1.1, h.1.2, by simpa using h.2⟩
theorem chL_spec (T : List Rat) : ∀ (n i s : Nat), s ≤ (chL T i n).length → loL i (chL T i n) s ≤ hiL (i + n) (chL T i n) s ∧ ∀ k, loL i (chL T i n) s ≤ k → k < hiL (i + n) (chL T i n) s → nd T k = nd T (k + 1)
  | 0, i, s, hs => by
    have e : chL T i 0 = [] := rfl
    rw [e] at hs ⊢
    obtain rfl : s = 0 := by simpa using hs
    exact ⟨Nat.le_refl _, fun k h1 h2 => absurd h2 (by simp [hiL, loL] at h1 ⊢; omega)⟩
  | n + 1, i, s, hs => by
    have ih := chL_spec T n (i + 1)
    have he : i + 1 + n = i + (n + 1) := by omega
    rw [he] at ih
    rw [chL_succ] at hs ⊢
    by_cases e : nd T i ≠ nd T (i + 1)
    · rw [if_pos e] at hs ⊢
      cases s with
      | zero => exact ⟨by simp [loL, hiL], fun k h1 h2 => by simp [loL, hiL] at h1 h2; omega⟩
      | succ s =>
        have := ih s (by simpa using hs)
        have e1 : loL i (i :: chL T (i + 1) n) (s + 1) = loL (i + 1) (chL T (i + 1) n) s := by
          cases s with
          | zero => simp [loL]
          | succ s => simp [loL]
        have e2 : hiL (i + (n + 1)) (i :: chL T (i + 1) n) (s + 1) = hiL (i + (n + 1)) (chL T (i + 1) n) s := by
          simp [hiL]
        rw [e1, e2]; exact this
    · rw [if_neg e] at hs ⊢
      have ei : nd T i = nd T (i + 1) := Classical.byContradiction e
      have := ih s hs
      cases s with
      | zero =>
        obtain ⟨g1, g2⟩ := this
        refine ⟨by simp only [loL] at g1 ⊢; omega, fun k h1 h2 => ?_⟩
        by_cases hk : k = i
        · subst hk; exact ei
        · exact g2 k (by simp only [loL] at h1 ⊢; omega) h2
      | succ s => exact this
theorem const_run : ∀ (m lo : Nat), (∀ k, lo ≤ k → k < lo + m → nd T k = nd T (k + 1)) → nd T lo = nd T (lo + m)
  | 0, _, _ => rfl
  | m + 1, lo, h => by
    rw [const_run m lo fun k h1 h2 => h k h1 (by omega), h (lo + m) (by omega) (by omega)]; rfl
theorem chL_const {s : Nat} (hs : s ≤ (chL T i n).length) : nd T (loL i (chL T i n) s) = nd T (hiL (i + n) (chL T i n) s) := by
  obtain ⟨h1, h2⟩ := chL_spec T n i s hs
  have := const_run (T := T) (hiL (i + n) (chL T i n) s - loL i (chL T i n) s) (loL i (chL T i n) s) fun k k1 k2 => h2 k k1 (by omega)
  rw [this]; congr 1; omega
end
end PB
set_option Elab.async false
set_option linter.all false
set_option maxRecDepth 100000
set_option maxHeartbeats 2000000
set_option exponentiation.threshold 100000
namespace PB
open PySem
section
variable {k : Nat} {h t : PH} {o : PO} {T T' : List Rat} {b : Rat} {p d e i j n c : Nat} {x : Rat}
/-! sizes of the polynomials of a basis function on any span -/
/-! pieces of a basis function -/
end
end PB
set_option Elab.async false
set_option linter.all false
set_option maxRecDepth 100000
set_option maxHeartbeats 1000000
set_option exponentiation.threshold 100000
namespace PB
open PySem
section
variable {T : List Rat} {b : Rat} {p p' d i j n : Nat} {X : Rat}
/-! integrals over all spans -/
/-! the values right of a knot -/
end
end PB
set_option Elab.async false
set_option linter.all false
set_option maxRecDepth 100000
set_option maxHeartbeats 1000000
set_option exponentiation.threshold 100000
namespace PB
open PySem
section
variable {k : Nat} {h t : PH} {o : PO} {T M P : List Rat} {x y : Rat} {p d i j n a e c : Nat}
/-! sizes of integrals -/
end
end PB
set_option Elab.async false
set_option linter.all false
set_option maxRecDepth 100000
set_option maxHeartbeats 4000000
set_option exponentiation.threshold 100000
namespace PB
open PySem
section
variable {k : Nat} {h t : PH} {o : PO} {T M P : List Rat} {x y : Rat} {p d i j n m a e c : Nat}
/-! things, each once -/
def ones : List Rat → List Rat → List Rat
  | F, [] => F
  | F, x :: r => ones (if x ∈ F then F else F ++ [x]) r
theorem ones_app : ∀ (xs ys F : List Rat), ones F (xs ++ ys) = ones (ones F xs) ys
  | [], _, _ => rfl
  | x :: r, ys, F => by rw [List.cons_append, ones, ones_app r ys, ones]
theorem ones_mem : ∀ (xs F : List Rat), x ∈ ones F xs ↔ x ∈ F ∨ x ∈ xs
  | [], F => by simp [ones]
  | y :: r, F => by
    rw [ones, ones_mem r]
    by_cases e : y ∈ F
    · rw [if_pos e]
      constructor
      · rintro (h | h)
        · exact .inl h
        · exact .inr (by simp [h])
      · rintro (h | h)
        · exact .inl h
        · rcases List.mem_cons.mp h with rfl | h
          · exact .inl e
          · exact .inr h
    · rw [if_neg e]; simp [or_assoc]
theorem in_dats (x : Rat) : ∀ F : List Rat, (dats (frs F)).any (fun z => PyData.eqv z (dat (fr x))) = decide (x ∈ F)
  | [] => rfl
  | y :: r => by
    rw [frs_cons, dats, List.any_cons, in_dats x r, eqv_fr]
    by_cases e : y = x
    · subst e; simp
    · have e2 : x ≠ y := fun z => e z.symm
      simp [e, e2]
theorem seqD_ref {q : Nat} {F : List Rat} (hq : h[q]? = some (.lst (frs F))) : seqD h (.ref q) = some (dats (frs F)) := by
  have e : toD h 12 (.ref q) = some (.list (dats (frs F))) := by
    have z := toDs_plain (h := h) 11 (frs F) plains_frs
    simp only [toD, hq, z, Option.map_some]
  unfold seqD
  rw [e]
theorem notIn_ref {q : Nat} {F : List Rat} (hq : h[q]? = some (.lst (frs F))) : cmpop .notIn (fr x) (.ref q) h = .ok (.bl (!decide (x ∈ F))) h := by
  simp only [cmpop, toD_fr, seqD_ref hq, in_dats]
theorem low_ones (n : Nat) (F : List Rat) : PO.low n (.lst (frs F)) = true := by simp only [PO.low]; exact lows_frs
theorem lonce_to {Q : PV → PH → Prop} {xs : List Rat} (hl : xs.length ≤ 100) (hk : 1 ≤ k) (q : ∀ u : PH, (∀ c ∈ u, PO.low 0 c = true) → Q (.ref (h.length + u.length)) (h ++ (u ++ [.lst (frs (ones [] xs))]))) : (callF G k 127 [pol xs] h).To Q := by
  obtain ⟨k, rfl⟩ := Nat.exists_eq_add_of_le hk
  rw [Nat.add_comm]
  rw [callF_eq (f := f__law_once) rfl rfl, to_bind]
  simp only [f__law_once, c__law_once]
  simp [alloc, List.replicate]
  refine frL_l fr xs (S := fun r s h' => ∃ u F s2, ones F r = ones [] xs ∧ s = [some (pol xs), some (.ref (h.length + u.length)), s2] ∧ h' = h ++ (u ++ [.lst (frs F)]) ∧ (∀ c ∈ u, PO.low 0 c = true) ∧ F.length + r.length ≤ 100) ⟨[], [], none, rfl, by simp, by simp [frs], by simp, by simpa using hl⟩ (fun r s h' _ => rfl) ?_ ?_
  · rintro x r s h' ⟨u, F, s2, e1, rfl, rfl, hu, hn⟩
    have g1 : ∀ w : PH, (h ++ (u ++ PO.lst (frs F) :: w))[h.length + u.length]? = some (.lst (frs F)) := fun w => by
      rw [List.getElem?_append_right (by omega), List.getElem?_append_right (by omega), show h.length + u.length - h.length - u.length = 0 by omega]; rfl
    have e2 := notIn_ref (x := x) (g1 [])
    have hM : many = 1000000 := rfl
    rw [List.length_cons] at hn
    have keep : ∀ (X : List Rat) (y : PO), (∀ n, PO.low n y = true) → ∀ c ∈ u ++ [PO.lst (frs F), y], PO.low 0 c = true := fun X y hy c hc => by
      rcases List.mem_append.mp hc with hc | hc
      · exact hu c hc
      · simp at hc
        rcases hc with rfl | rfl
        · exact low_ones _ _
        · exact hy 0
    by_cases hx : x ∈ F
    · have g2 : (h ++ (u ++ [PO.lst (frs F), PO.lst []]))[h.length + (u.length + 1)]? = some (.lst []) := by
        rw [List.getElem?_append_right (by omega), List.getElem?_append_right (by omega), show h.length + (u.length + 1) - h.length - u.length = 1 by omega]; rfl
      simp [e2, hx, alloc, binop, g1, g2, hM]
      refine ⟨by omega, u ++ [.lst (frs F), .lst []], F, ?_, by simp, by simp, keep F (.lst []) (fun n => by simp [PO.low, PV.lows]), by omega⟩
      rw [← e1, ones, if_pos hx]
    · have g2 : (h ++ (u ++ [PO.lst (frs F), PO.lst [fr x]]))[h.length + (u.length + 1)]? = some (.lst [fr x]) := by
        rw [List.getElem?_append_right (by omega), List.getElem?_append_right (by omega), show h.length + (u.length + 1) - h.length - u.length = 1 by omega]; rfl
      have hf : frs F ++ [fr x] = frs (F ++ [x]) := by
        show F.map fr ++ [fr x] = (F ++ [x]).map fr
        rw [List.map_append]; rfl
      simp [e2, hx, alloc, binop, g1, g2, hM, hf]
      refine ⟨by omega, u ++ [.lst (frs F), .lst [fr x]], F ++ [x], ?_, by simp, by simp, keep F (.lst [fr x]) (fun n => by simp [PO.low, PV.lows]), by simp; omega⟩
      rw [← e1, ones, if_neg hx]
  · rintro s h' ⟨u, F, s2, e1, rfl, rfl, hu, hn⟩
    simp only [ones] at e1
    subst e1
    simp
    have hkp : keepP h (h ++ (u ++ [PO.lst (frs (ones [] xs))])) (PV.ref (h.length + u.length)) = h ++ (u ++ [PO.lst (frs (ones [] xs))]) := by
      unfold keepP
      rw [if_neg (by simp only [PV.low, decide_eq_true_eq]; omega)]
    rw [hkp]
    exact q u hu
theorem ltimes_raw (hy : Bd n y) {a b : Int} (ha : a.natAbs < 2 ^ m) (hb : b.natAbs < 2 ^ m) (h0 : b ≠ 0) (hz : m + n < 4900) : callF G (k + 2) 21 [.tup [.int a, .int b], fr y] h = .ok (fr (Rat.divInt a b * y)) h := by
  rw [callF_eq (f := f__law_times) rfl rfl]
  have m1 := mulOk_of ha hy.1 (by omega)
  have m3 := mulOk_of hb (den_lt hy) (by omega)
  have hne : b * (y.den : Int) ≠ 0 := Int.mul_ne_zero h0 (by have := y.den_nz; omega)
  have hd := lmade_ok (k := k) (h := h) (a := a * y.num) hne (lt_pow (natAbs_mul_lt hb (den_lt hy)) (by omega))
  have e : Rat.divInt (a * y.num) (b * (y.den : Int)) = Rat.divInt a b * y := by
    conv => rhs; rw [← Rat.num_divInt_den y]
    rw [Rat.divInt_mul_divInt]
  rw [e] at hd
  simp only [f__law_times, c__law_times]
  simp [binop, m1, m3, hd]
theorem lmiddle_raw (hx : Bd m x) (hy : Bd m y) {a b : Int} (ha : a.natAbs < 2 ^ 4) (hb : b.natAbs < 2 ^ 4) (h0 : b ≠ 0) (hz : 4 * m + 20 < 4900) : callF G (k + 3) 80 [fr x, fr y, .tup [.int a, .int b]] h = .ok (fr (x + Rat.divInt a b * (y - x))) h := by
  rw [callF_eq (f := f__law_middle) rfl rfl]
  have b1 := bd_sub hy hx
  have bz : Bd 4 (Rat.divInt a b) := bd_divInt h0 ha hb
  have h1 := lminus_ok (k := k) (h := h) hy hx (by omega)
  have h2 := ltimes_raw (k := k) (h := h) b1 ha hb h0 (by omega)
  have h3 := lplus_ok (k := k) (h := h) hx (bd_mul bz b1) (by omega)
  simp only [f__law_middle, c__law_middle]
  simp [h1, h2, h3]
/-! windows, each knot once -/
theorem wnd_mem {i n : Nat} : x ∈ wnd T i n ↔ ∃ k, i ≤ k ∧ k < i + n ∧ nd T k = x := by
  rw [wnd, List.mem_map]
  constructor
  · rintro ⟨k, h1, h2⟩
    rw [List.mem_range'_1] at h1
    exact ⟨k, h1.1, h1.2, h2⟩
  · rintro ⟨k, h1, h2, h3⟩
    exact ⟨k, by rw [List.mem_range'_1]; exact ⟨h1, h2⟩, h3⟩
theorem once_wnd (hT : Up T) (i : Nat) : ∀ n, i + n < T.length → ones [] (wnd T i (n + 1)) = nd T i :: (chL T i n).map fun q => nd T (q + 1)
  | 0, _ => by
    rw [wnd_snoc]
    simp [wnd, ones, chL]
  | n + 1, hi => by
    rw [wnd_snoc, ones_app, once_wnd hT i n (by omega), chL_snoc, List.map_append]
    have hm : nd T (i + (n + 1)) ∈ nd T i :: (chL T i n).map (fun q => nd T (q + 1)) ↔ nd T (i + n) = nd T (i + n + 1) := by
      rw [← once_wnd hT i n (by omega), ones_mem]
      simp only [List.not_mem_nil, false_or]
      rw [wnd_mem]
      constructor
      · rintro ⟨k, h1, h2, h3⟩
        have u1 : nd T k ≤ nd T (i + n) := hT _ _ (by omega) (by omega)
        have u2 : nd T (i + n) ≤ nd T (i + n + 1) := hT _ _ (by omega) (by omega)
        have h3' : nd T k = nd T (i + n + 1) := h3
        grind
      · intro e
        exact ⟨i + n, by omega, by omega, e⟩
    rw [ones, ones]
    by_cases e : nd T (i + n) = nd T (i + n + 1)
    · rw [if_pos (hm.mpr e), if_neg (fun z => z e)]; simp
    · rw [if_neg (fun z => e (hm.mp z)), if_pos e]; rfl
/-! the integral of a basis function -/
end
end PB
set_option Elab.async false
set_option linter.all false
set_option maxRecDepth 100000
set_option maxHeartbeats 1000000
set_option exponentiation.threshold 100000
namespace PB
open PySem
section
variable {k : Nat} {h t : PH} {o : PO} {e n m a b c d p : Nat} {x y : Rat} {xs ys T R P : List Rat}
theorem lwithin_ok (hs : Spl d T R) (hr : Row o) (hw : Wf t) (hk : 6 ≤ k) : ∃ x o', Fq 2 40 x ∧ T.getD 0 0 ≤ x ∧ x ≤ T.getD (T.length - 1) 0 ∧ Row o' ∧ callF G k 172 [.ref 0, splv d T R] (o :: t) = .ok (fr x) (o' :: t) := by
  obtain ⟨k, rfl⟩ := Nat.exists_eq_add_of_le hk
  rw [Nat.add_comm]
  have hlo := hs.lo
  have hhi := hs.hi
  have hu := hs.up'
  have key : (callF G (k + 6) 172 [.ref 0, splv d T R] (o :: t)).To (fun v h' => ∃ x o', Fq 2 40 x ∧ T.getD 0 0 ≤ x ∧ x ≤ T.getD (T.length - 1) 0 ∧ Row o' ∧ v = fr x ∧ h' = o' :: t) := by
    rw [callF_eq (f := f__law_within) rfl rfl, to_bind]
    simp only [f__law_within, c__law_within]
    have i0 : ∀ H, idxop (pol T) (.int 0) H = .ok (fr (T.getD 0 0)) H := fun H => idx_polz (by omega) (by omega)
    have i1 : ∀ H, idxop (pol T) (.int (-1)) H = .ok (fr (T.getD (T.length - 1) 0)) H := fun H => by
      rw [idx_poln (by omega) (by omega)]
      congr 3; omega
    have f0 := getD_fq hs.tb 0
    have f1 := getD_fq hs.tb (T.length - 1)
    have h01 := hu 0 (T.length - 1) (by omega) (by omega)
    have hpick : ∀ o, Row o → ∃ x o', x ∈ T ∧ Row o' ∧ callF G (k + 5) 17 [.ref 0, pol T] (o :: t) = .ok (fr x) (o' :: t) := fun o hr => by
      obtain ⟨v, o', hv, hr', e⟩ := pick_tup (k := k + 3) (t := t) (xs := frs T) (List.ne_nil_of_length_pos (by rw [frs_len]; omega)) (by rw [frs_len]; omega) hr
      rw [frs] at hv
      obtain ⟨x, hx, rfl⟩ := List.mem_map.mp hv
      exact ⟨x, o', hx, hr', e⟩
    have hmem : ∀ x ∈ T, T.getD 0 0 ≤ x ∧ x ≤ T.getD (T.length - 1) 0 := fun x hx => by
      obtain ⟨i, hi, rfl⟩ := List.mem_iff_getElem.mp hx
      have e : T[i] = T.getD i 0 := by rw [List.getD_eq_getElem?_getD, List.getElem?_eq_getElem hi]; rfl
      rw [e]
      exact ⟨hu 0 i (by omega) hi, hu i (T.length - 1) (by omega) (by omega)⟩
    generalize hv0 : T.getD 0 0 = v0 at *
    generalize hv1 : T.getD (T.length - 1) 0 = v1 at *
    simp [List.replicate, splv, i0, i1]
    refine taken_to (by omega) (by omega) hr (by omega) fun z o1 hz r1 => ?_
    simp
    refine br_to (fun hq => ?_) (fun hq => ?_)
    · obtain ⟨x, o2, hx, r2, e2⟩ := hpick o1 r1
      simp [e2]
      obtain ⟨g1, g2⟩ := hmem x hx
      exact ⟨x, (hs.tb x hx).up (by omega) (by omega), g1, g2, o2, r2, rfl, keepP_len rfl⟩
    · simp
      refine taken_to (by omega) (by omega) r1 (by omega) fun z o2 hz r2 => ?_
      have em := fun H => lmade_i (k := k + 5) (h := H) (a := (z : Int)) (b := 12) (by omega) (by decide) (by decide)
      have fz : Fq 1 13 (Rat.divInt (z : Int) 12) := ⟨(z : Int) * 35, by
        rw [Rat.divInt_eq_div, Rat.pow_one, Rat.intCast_mul]
        have : ((12 : Int) : Rat) = 12 := rfl
        have h35 : ((35 : Int) : Rat) = 35 := rfl
        rw [this, h35]; grind, by omega⟩
      have b3 := fz.bd (m := 13) (by decide) (by decide)
      have el := fun H => lmiddle_ok (k := k + 2) (h := H) (f0.bd (m := 18) (by decide) (by decide)) (f1.bd (m := 18) (by decide) (by decide)) b3 (by decide)
      have z0 : 0 ≤ Rat.divInt (z : Int) 12 ∧ Rat.divInt (z : Int) 12 ≤ 1 := by
        rw [Rat.divInt_eq_div]
        have hz0 : (0 : Rat) ≤ ((z : Int) : Rat) := by exact_mod_cast Int.natCast_nonneg z
        have hz1 : ((z : Int) : Rat) ≤ 12 := by
          have : (z : Int) ≤ 12 := by omega
          exact_mod_cast this
        have : ((12 : Int) : Rat) = 12 := rfl
        rw [this]
        constructor <;> grind
      generalize Rat.divInt (z : Int) 12 = w at *
      simp [em, el]
      refine ⟨v0 + w * (v1 - v0), ?_, ?_, ?_, o2, r2, rfl, keepP_len rfl⟩
      · exact ((f0.up (e' := 2) (n' := 38) (by omega) (by omega)).add ((fz.mul (f1.sub f0)).up (e' := 2) (n' := 38) (by omega) (by omega))).up (by omega) (by omega)
      · have := Rat.mul_nonneg z0.1 (show 0 ≤ v1 - v0 by grind)
        grind
      · have := Rat.mul_nonneg (show 0 ≤ 1 - w by grind) (show 0 ≤ v1 - v0 by grind)
        grind
  obtain ⟨v, h', e, x, o', h1, h2, h3, h4, rfl, rfl⟩ := to_ex key
  exact ⟨x, o', h1, h2, h3, h4, e⟩
/-! ### the averages lie between the numbers nearby -/
/-! the spans that lie at or before a place -/
/-! what one number changes -/
end
end PB
set_option Elab.async false
set_option linter.all false
set_option maxRecDepth 100000
set_option maxHeartbeats 4000000
set_option exponentiation.threshold 100000
namespace PB
open PySem
section
variable {k : Nat} {h t : PH} {o : PO} {T R M P : List Rat} {x y : Rat} {p d i j n m a e c b : Nat}
/-! sizes -/
/-! de Boor's averages give the sum -/
end
end PB
set_option Elab.async false
set_option linter.all false
set_option maxRecDepth 100000
set_option maxHeartbeats 4000000
set_option exponentiation.threshold 100000
namespace PB
open PySem
section
variable {k : Nat} {h t : PH} {o : PO} {T R M P : List Rat} {x y : Rat} {p d i j n m a e c b : Nat}
theorem lsum_sup {v : PV} {xs : List Rat} (hs : items h v = some (frs xs)) (hb : AllB b xs) (hp : ∀ j, j ≤ xs.length → Bd m (xs.take j).sum) (hz : m + b < 4900) : callF G (k + 3) 68 [v] h = .ok (fr xs.sum) h := by
  rw [callF_eq (f := f__law_sum) rfl rfl]
  obtain ⟨s', h', e1, ⟨s2, ds, d1, rfl, rfl⟩⟩ := frL_inv (g := asT (callF G (k + 2)) (.v 2)) (b := evB (callF G (k + 2)) (.cons (.asg (.v 1) (.call 20 (.cons (.var 1) (.cons (.var 2) .nil)))) .nil)) (l := leanOf h v) fr
    (fun r s h' => ∃ s2 ds, ds ++ r = xs ∧ s = [some v, some (fr ds.sum), s2] ∧ h' = h) (fun r s h' ⟨_, _, _, _, e⟩ => by subst e; simpa using leans_apq h' [] v)
    (fun a r s h' ⟨s2, ds, d1, e1, e2⟩ => by
      subst e1; subst e2
      have hl : ds.length + 1 ≤ xs.length := by rw [← d1]; simp
      have ha : Bd b a := hb a (by rw [← d1]; simp)
      have h0 : Bd m ds.sum := by
        have := hp ds.length (by omega)
        rw [← d1, List.take_append_of_le_length (Nat.le_refl _), List.take_length] at this
        exact this
      have h1 := lplus_ok (k := k) (h := h') h0 ha (by omega)
      rw [← sum_snoc] at h1
      refine ⟨_, h', ?_, some (fr a), ds ++ [a], by simpa using d1, rfl, rfl⟩
      simp [h1]) xs [some v, some (fr 0), none] h ⟨none, [], rfl, by simp, rfl⟩
  rw [List.append_nil] at d1; subst d1
  rw [map_fr] at e1
  have hM : (2 : Nat) ≤ many := by decide
  simp only [f__law_sum, c__law_sum]
  simp [List.replicate, hs, fr0, hM, e1]
theorem sumTo_take {f : Nat → Rat} : ∀ {n j : Nat}, j ≤ n → ((tbl f n).take j).sum = sumTo f j := fun {n j} hj => by
  obtain ⟨r, rfl⟩ : ∃ r, n = j + r := ⟨n - j, by omega⟩
  have e : (tbl f (j + r)).take j = tbl f j := by
    rw [tbl, tbl, ← List.map_take]
    congr 1
    apply List.ext_getElem?
    intro q
    by_cases hq : q < j
    · rw [List.getElem?_take_of_lt hq, List.getElem?_range' (by omega), List.getElem?_range' hq]
    · rw [List.getElem?_eq_none (by simp; omega), List.getElem?_eq_none (by simp; omega)]
  rw [e]
  have key : ∀ m, (tbl f m).sum = sumTo f m := by
    intro m
    induction m with
    | zero => rfl
    | succ m ih => rw [tbl_succ, List.sum_append, ih]; simp [sumTo]; grind
  exact key j
/-! integrals -/
theorem tbl_sum' (f : Nat → Rat) (n : Nat) : (tbl f n).sum = sumTo f n := by
  have := sumTo_take (f := f) (Nat.le_refl n)
  rw [List.take_of_length_le (by rw [tbl_len]; omega)] at this
  exact this
theorem spL_chL (T : List Rat) (n : Nat) : spL T n = chL T 0 n := by
  rw [spL, chL, List.range_eq_range']; rfl
end
end PB
set_option Elab.async false
set_option linter.all false
set_option maxRecDepth 100000
set_option maxHeartbeats 4000000
set_option exponentiation.threshold 100000
namespace PB
open PySem
section
variable {T P P1 P2 Q us vs : List Rat} {x y t : Rat} {p q d i j n m r : Nat}
/-! blossoms of pieces that join -/
/-! the blossom is linear -/
/-! rows from pieces -/
theorem win_app (T : List Rat) (a m n : Nat) : win T a (m + n) = win T a m ++ win T (a + m) n := by
  rw [win, win, win, ← List.map_append, List.range'_append_1]
theorem win_rep {a n : Nat} {t : Rat} (h : ∀ k, a ≤ k → k < a + n → T.getD k 0 = t) : win T a n = List.replicate n t := by
  rw [List.eq_replicate_iff]
  refine ⟨win_len, fun x hx => ?_⟩
  rw [win, List.mem_map] at hx
  obtain ⟨k, hk, rfl⟩ := hx
  rw [List.mem_range'_1] at hk
  exact h k hk.1 hk.2
end
end PB
set_option Elab.async false
set_option linter.all false
set_option maxRecDepth 100000
set_option maxHeartbeats 4000000
set_option exponentiation.threshold 100000
namespace PB
open PySem
section
variable {k : Nat} {h t : PH} {o : PO} {T R : List Rat} {x y : Rat} {p d i j n m b c : Nat}
/-! splines with any sizes: knots below 2^b, numbers below 2^c -/
structure Spw (b c d : Nat) (T R : List Rat) : Prop where
  dl : d ≤ 4
  kn : Kn d T
  lo : 2 * d + 2 ≤ T.length
  hi : T.length ≤ 16
  fst : T.getD 0 0 = T.getD d 0
  lst : T.getD (T.length - 1) 0 = T.getD (T.length - d - 1) 0
  rl : R.length + d + 1 = T.length
  tb : AllB b T
  rb : AllB c R
theorem Spl.w (hs : Spl d T R) : Spw 20 20 d T R := ⟨hs.dl, hs.kn, hs.lo, hs.hi, hs.fst, hs.lst, hs.rl, fun q hq => (hs.tb q hq).bd (by omega) (by omega), fun q hq => (hs.rb q hq).bd (by omega) (by omega)⟩
theorem Spw.up (hs : Spw b c d T R) : Up T := fun i j hij hj => hs.kn.mono hij hj
theorem need_spline_w (hs : Spw b c d T R) (hb : b ≤ 2900) (hk : 4 ≤ k) : callF G k 165 [splv d T R] h = .ok .non h := by
  obtain ⟨k, rfl⟩ := Nat.exists_eq_add_of_le hk
  rw [Nat.add_comm]
  refine of_to ?_
  rw [callF_eq (f := f_need_spline) rfl rfl, to_bind]
  simp only [f_need_spline, c_need_spline, splv]
  have hlo := hs.lo
  have hhi := hs.hi
  have hd := hs.dl
  have e1 := is_from_ok (k := k + 1) (h := h) (i := (d : Int)) (lo := 0) (hi := 4) (by omega) (by omega)
  have e2 := faults_of_ok (k := k) (h := h) (d := d) (T := T) (b := b) hs.tb (by omega) hs.kn (by omega) hhi
  have e3 := fun H => are_ratios_ok (k := k) (h := H) (xs := R) (by have := hs.rl; omega)
  have hrl := hs.rl
  have er : (T.length : Int) - (d : Int) - 1 = (R.length : Int) := by omega
  have ee : eqD (h ++ [PO.lst [], PO.lst []]) (.ref h.length) (.ref (h.length + 1)) = some true := by
    rw [eqD_lst (xs := []) (ys := []) (by simp) (by simp) (by simp [plains]) (by simp [plains])]; simp
  have hlt : ¬ (T.length : Int) < 2 * (d : Int) + 2 := by omega
  have f1 : T.getD 0 0 = T.getD d 0 := hs.fst
  have f2 : T.getD (T.length - 1) 0 = T.getD (T.length - d - 1) 0 := hs.lst
  have z0 : mulOk 2 (d : Int) = true := mulOk_of (m := 3) (n := 3) (by decide) (by omega) (by decide)
  have i1 := fun H => idx_polz (h := H) (T := T) (z := 0) (by decide) (by omega)
  have i2 := fun H => idx_polz (h := H) (T := T) (z := (d : Int)) (by omega) (by omega)
  have i3 := fun H => idx_poln (h := H) (T := T) (z := -1) (by decide) (by omega)
  have i4 := fun H => idx_poln (h := H) (T := T) (z := -(d : Int) - 1) (by omega) (by omega)
  have w3 : (-1 + (T.length : Int)).toNat = T.length - 1 := by omega
  have w4 : (-(d : Int) - 1 + (T.length : Int)).toNat = T.length - d - 1 := by omega
  rw [w3] at i3
  rw [w4] at i4
  have i1' : ∀ H, idxop (pol T) (.int 0) H = .ok (fr (T.getD 0 0)) H := i1
  rw [Int.toNat_natCast, ← f1] at i2
  rw [← f2] at i4
  generalize T.getD 0 0 = a0 at *
  generalize T.getD (T.length - 1) 0 = a1 at *
  simp [e1, e2, eqD_int, ee, z0, hlt, i1', i2, i3, i4, eqD_fr, er, e3]
theorem span_of_w (hT : AllB b T) (hx : Bd b x) (hb : b ≤ 2900) (hb1 : 1 ≤ b) (h1 : 1 ≤ T.length) (h2 : T.length ≤ 100) (hk : 2 ≤ k) : callF G k 163 [pol T, fr x] h = .ok (.int (spn T x (T.length - 1) : Nat)) h := by
  obtain ⟨k, rfl⟩ := Nat.exists_eq_add_of_le hk
  rw [Nat.add_comm]
  refine of_to ?_
  rw [callF_eq (f := f_span_of) rfl rfl, to_bind]
  simp only [f_span_of, c_span_of]
  simp [List.replicate]
  refine forR_to0 (T.length - 1) (S := fun i s h' => h' = h ∧ ∃ s3, s = [some (pol T), some (fr x), some (.int (spn T x i : Nat)), s3]) (by omega) (by omega) ?_ ?_ ?_
  · exact ⟨rfl, none, rfl⟩
  · rintro i s h' hi ⟨rfl, s3, rfl⟩
    have i1 := fun H => idx_polz (h := H) (T := T) (z := (i : Int)) (by omega) (by omega)
    have i2 := fun H => idx_polz (h := H) (T := T) (z := (i : Int) + 1) (by omega) (by omega)
    have w1 : ((i : Int) + 1).toNat = i + 1 := by omega
    rw [w1] at i2
    have eb := fun H => below_ok (k := k) (h := H) hx (getD_bd hT hb1 i) (by omega)
    rw [Int.toNat_natCast] at i1
    have es : spn T x (i + 1) = if T.getD i 0 ≠ T.getD (i + 1) 0 ∧ ¬ x < T.getD i 0 then i else spn T x i := rfl
    generalize T.getD i 0 = a at *
    generalize T.getD (i + 1) 0 = a2 at *
    simp [i1, i2, eqD_fr]
    refine br_to (fun hp => ?_) (fun hp => ?_)
    · simp at hp
      simp [i1, eb]
      refine br_to (fun hq => ?_) (fun hq => ?_)
      · simp at hq
        have hc : ¬ x < a := by grind
        simp [es, hp, hc]
      · simp at hq
        simp [es, hq]
    · simp at hp
      simp [es, hp]
  · rintro s h' ⟨rfl, s3, rfl⟩
    simp
/-- a place in a span, at any spline -/
theorem inSpw (hs : Spw b c d T R) (h0 : T.getD 0 0 ≤ x) (h1 : x ≤ T.getD (T.length - 1) 0) : InSp T x (spn T x (T.length - 1)) d := by
  have hlo := hs.lo
  have hup := hs.up
  have hgd : goodS T x d := by
    have := hs.kn.2 0 (by omega)
    rw [hs.fst, show 0 + d + 1 = d + 1 by omega] at this
    rw [hs.fst] at h0
    exact ⟨by grind, by grind⟩
  obtain ⟨a1, a2, a3⟩ := spn_spec T x (T.length - 1) ⟨d, by omega, hgd⟩
  have hge : d ≤ spn T x (T.length - 1) := by
    rcases Nat.lt_or_ge (spn T x (T.length - 1)) d with z | z
    · exact absurd hgd (a3 d z (by omega))
    · exact z
  generalize spn T x (T.length - 1) = p at *
  have hlt : T.getD p 0 < T.getD (p + 1) 0 := by
    have := hup p (p + 1) (by omega) (by omega)
    have := a2.1
    grind
  have hle : p + d + 1 < T.length := by
    rcases Nat.lt_or_ge (p + d + 1) T.length with z | z
    · exact z
    · have u1 := hup (T.length - d - 1) p (by omega) (by omega)
      have u2 := hup (p + 1) (T.length - 1) (by omega) (by omega)
      have := hs.lst
      grind
  refine ⟨hge, hle, hlt, by have := a2.2; grind, ?_⟩
  refine Rat.not_lt.mp fun z => ?_
  have all : ∀ m, p + 1 + m < T.length → T.getD (p + 1 + m) 0 = T.getD (p + 1) 0 := by
    intro m
    induction m with
    | zero => intro _; rfl
    | succ m ih =>
      intro hm
      have e := ih (by omega)
      have hn := a3 (p + 1 + m) (by omega) (by omega)
      have : T.getD (p + 1 + m) 0 = T.getD (p + 1 + m + 1) 0 := by
        refine Classical.byContradiction fun hne => hn ⟨hne, ?_⟩
        rw [e]; grind
      rw [show p + 1 + (m + 1) = p + 1 + m + 1 by omega, ← this, e]
  have := all (T.length - 1 - (p + 1)) (by omega)
  rw [show p + 1 + (T.length - 1 - (p + 1)) = T.length - 1 by omega] at this
  grind
/-! one knot more -/
def wknC (T R : List Rat) (d p : Nat) (x : Rat) (i : Nat) : Rat :=
  if i ≤ p - d then R.getD i 0 else if p < i then R.getD (i - 1) 0 else R.getD (i - 1) 0 + (x - T.getD i 0) / (T.getD (i + d) 0 - T.getD i 0) * (R.getD i 0 - R.getD (i - 1) 0)
def wknR (T R : List Rat) (d p : Nat) (x : Rat) : List Rat := tbl (wknC T R d p x) (R.length + 1)
def wknT (T : List Rat) (p : Nat) (x : Rat) : List Rat := T.take (p + 1) ++ x :: T.drop (p + 1)
theorem with_knot_ok (hs : Spw b c d T R) (hp : InSp T x p d) (hsp : spn T x (T.length - 1) = p) (hx : Bd b x) (hb1 : 1 ≤ b) (hc1 : 1 ≤ c) (hb : 4 * b + 4 * c + 20 < 4800) (hk : 4 ≤ k) : callF G k 176 [splv d T R, fr x] h = .ok (splv d (wknT T p x) (wknR T R d p x)) h := by
  obtain ⟨k, rfl⟩ := Nat.exists_eq_add_of_le hk
  rw [Nat.add_comm]
  have hlo := hs.lo
  have hhi := hs.hi
  have hrl := hs.rl
  have hdl := hs.dl
  have hge := hp.ge
  have hle := hp.le
  have hup := hs.up
  refine of_to ?_
  rw [callF_eq (f := f_with_knot) rfl rfl, to_bind]
  simp only [f_with_knot, c_with_knot]
  have e1 := fun H => span_of_w (k := k + 3) (h := H) hs.tb hx (by omega) hb1 (by omega) (by omega) (by omega)
  rw [hsp] at e1
  have hM : many = 1000000 := rfl
  have hspl : ∀ H s, (asT (callF G (k + 3)) (.cons (.v 3) (.cons (.v 4) (.cons (.v 5) .nil))) (splv d T R) s H) = .ok (((s.set 3 (some (.int d))).set 4 (some (pol T))).set 5 (some (pol R))) H := fun H s => by simp [splv]
  simp [List.replicate, hspl, e1, alloc]
  have gF : ∀ F : List PV, (h ++ [PO.lst F])[h.length]? = some (.lst F) := fun F => by simp
  refine forR_to0 (R.length + 1) (S := fun i st h' => ∃ s2 s8, st = [some (splv d T R), some (fr x), s2, some (.int (d : Nat)), some (pol T), some (pol R), some (.int (p : Nat)), some (.ref h.length), s8] ∧ h' = h ++ [.lst (frs (tbl (wknC T R d p x) i))]) (by omega) (by omega) ⟨none, none, rfl, rfl⟩ ?_ ?_
  · rintro i st h' hi ⟨s2, s8, rfl, rfl⟩
    have hsucc : frs (tbl (wknC T R d p x) (i + 1)) = frs (tbl (wknC T R d p x) i) ++ [fr (wknC T R d p x i)] := by
      show (tbl (wknC T R d p x) (i + 1)).map fr = (tbl (wknC T R d p x) i).map fr ++ [fr _]
      rw [tbl_succ, List.map_append]; rfl
    have hlen : (tbl (wknC T R d p x) i).length = i := tbl_len _ _
    rw [hsucc]
    have hw : wknC T R d p x i = if i ≤ p - d then R.getD i 0 else if p < i then R.getD (i - 1) 0 else R.getD (i - 1) 0 + (x - T.getD i 0) / (T.getD (i + d) 0 - T.getD i 0) * (R.getD i 0 - R.getD (i - 1) 0) := rfl
    generalize tbl (wknC T R d p x) i = F at *
    rw [hw]
    by_cases c1 : i ≤ p - d
    · have i1 : ∀ H, idxop (pol R) (.int (i : Nat)) H = .ok (fr (R.getD i 0)) H := fun H => idx_pol (by omega)
      have z1 : (i : Int) ≤ (p : Int) - (d : Int) := by omega
      rw [if_pos c1]
      generalize R.getD i 0 = v at *
      simp [z1, i1, mth, gF]
      omega
    · have z1 : ¬ (i : Int) ≤ (p : Int) - (d : Int) := by omega
      rw [if_neg c1]
      have i0 : ∀ H, idxop (pol R) (.int ((i : Int) - 1)) H = .ok (fr (R.getD (i - 1) 0)) H := fun H => by
        have := idx_pol (T := R) (h := H) (i := i - 1) (by omega)
        rw [show ((i - 1 : Nat) : Int) = (i : Int) - 1 by omega] at this
        exact this
      by_cases c2 : p < i
      · rw [if_pos c2]
        generalize R.getD (i - 1) 0 = v at *
        simp [z1, c2, i0, mth, gF]
        omega
      · rw [if_neg c2]
        have i1 : ∀ H, idxop (pol R) (.int (i : Nat)) H = .ok (fr (R.getD i 0)) H := fun H => idx_pol (by omega)
        have i2 : ∀ H, idxop (pol T) (.int (i : Nat)) H = .ok (fr (T.getD i 0)) H := fun H => idx_pol (by omega)
        have i3 : ∀ H, idxop (pol T) (.int ((i : Int) + (d : Int))) H = .ok (fr (T.getD (i + d) 0)) H := fun H => idx_pol (i := i + d) (by omega)
        have bR1 := getD_bd hs.rb hc1 i
        have bR0 := getD_bd hs.rb hc1 (i - 1)
        have bT1 := getD_bd hs.tb hb1 i
        have bT2 := getD_bd hs.tb hb1 (i + d)
        have hne : T.getD (i + d) 0 - T.getD i 0 ≠ 0 := by
          have u1 := hup i p (by omega) (by omega)
          have u2 := hup (p + 1) (i + d) (by omega) (by omega)
          have := hp.lt
          grind
        generalize R.getD (i - 1) 0 = v0 at *
        generalize R.getD i 0 = v1 at *
        generalize T.getD (i + d) 0 = t2 at *
        generalize T.getD i 0 = t1 at *
        have e2 := fun H => less_ok (k := k + 1) (h := H) hx bT1 (by omega)
        have e3 := fun H => less_ok (k := k + 1) (h := H) bT2 bT1 (by omega)
        have e4 := fun H => over_ok (k := k + 1) (h := H) (bd_sub hx bT1) (bd_sub bT2 bT1) hne (by omega)
        have e5 := fun H => between_ok (k := k) (h := H) bR0 bR1 (bd_div (bd_sub hx bT1) (bd_sub bT2 bT1) hne) (by omega)
        simp [z1, c2, i0, i1, i2, i3, e2, e3, e4, e5, mth, gF]
        omega
  · rintro st h' ⟨s2, s8, rfl, rfl⟩
    have c1 : cut (frs T) none (some ((p : Int) + 1)) = frs (T.take (p + 1)) := by
      have := cut_to (xs := frs T) (c := p + 1) (by rw [frs_len]; omega)
      rw [frs_take] at this
      exact this
    have c2 : cut (frs T) (some ((p : Int) + 1)) none = frs (T.drop (p + 1)) := by
      have := cut_from (zs := frs T) (c := p + 1)
      rw [frs_drop] at this
      exact this
    have s1 : ∀ H, slcop (pol T) none (some ((p : Int) + 1)) H = .ok (pol (T.take (p + 1))) H := fun H => by simp only [slcop, pol, c1]
    have s2 : ∀ H, slcop (pol T) (some ((p : Int) + 1)) none H = .ok (pol (T.drop (p + 1))) H := fun H => by simp only [slcop, pol, c2]
    have hj : frs (T.take (p + 1)) ++ fr x :: frs (T.drop (p + 1)) = frs (wknT T p x) := by
      show (T.take (p + 1)).map fr ++ fr x :: (T.drop (p + 1)).map fr = (T.take (p + 1) ++ x :: T.drop (p + 1)).map fr
      rw [List.map_append, List.map_cons]
    simp [s1, s2, gF]

    refine ⟨by omega, by rw [hj]; rfl, ?_⟩
    rw [hj]
    exact keep_app' (v := splv d (wknT T p x) (wknR T R d p x)) (by simp [splv, PV.low, PV.lows, pol])
end
end PB
set_option Elab.async false
set_option linter.all false
set_option maxRecDepth 100000
set_option maxHeartbeats 4000000
set_option exponentiation.threshold 100000
namespace PB
open PySem
section
variable {k : Nat} {h t : PH} {o : PO} {T R P : List Rat} {x y : Rat} {p q d i j n m b c : Nat}
/-! sums of polynomials -/
def lcm' (c : Nat → Rat) (L : Nat → List Rat) : Nat → List Rat
  | 0 => []
  | n + 1 => padd (lcm' c L n) ((L n).map (c n * ·))
theorem pe_lcm (c : Nat → Rat) (L : Nat → List Rat) (X : Rat) : ∀ n, pe (lcm' c L n) X = sumTo (fun a => c a * pe (L a) X) n
  | 0 => rfl
  | n + 1 => by rw [lcm', pe_padd, pe_lcm c L X n, pe_scaled]; rfl
theorem dv_lcm (c : Nat → Rat) (L : Nat → List Rat) (X : Rat) : ∀ n, dv (lcm' c L n) X = sumTo (fun a => c a * dv (L a) X) n
  | 0 => rfl
  | n + 1 => by rw [lcm', dv_padd, dv_lcm c L X n, dv_scaled]; rfl
theorem sum_parts (c u : Nat → Rat) : ∀ n, sumTo (fun a => c a * (u a - u (a + 1))) (n + 1) = c 0 * u 0 + sumTo (fun a => (c (a + 1) - c a) * u (a + 1)) n - c n * u (n + 1)
  | 0 => by simp only [sumTo]; grind
  | n + 1 => by
    have e1 : sumTo (fun a => c a * (u a - u (a + 1))) (n + 1 + 1) = sumTo (fun a => c a * (u a - u (a + 1))) (n + 1) + c (n + 1) * (u (n + 1) - u (n + 1 + 1)) := rfl
    have e2 : sumTo (fun a => (c (a + 1) - c a) * u (a + 1)) (n + 1) = sumTo (fun a => (c (a + 1) - c a) * u (a + 1)) n + (c (n + 1) - c n) * u (n + 1) := rfl
    rw [e1, sum_parts c u n, e2]
    grind
theorem pe_allz {L : List Rat} (h : ∀ q ∈ L, q = 0) (x : Rat) : pe L x = 0 := by
  induction L with
  | nil => rfl
  | cons a r ih => rw [pe, h a (by simp), ih fun q hq => h q (by simp [hq])]; grind
/-- a polynomial that is 0 on an interval -/
theorem zero_between {u v : Rat} (huv : u < v) (h : ∀ X, u ≤ X → X < v → pe P X = 0) (X : Rat) : pe P X = 0 := by
  have hn : (0 : Rat) < ((P.length + 1 : Nat) : Rat) := by
    have : (0 : Int) < ((P.length + 1 : Nat) : Int) := by omega
    exact_mod_cast this
  have hw : 0 < (v - u) / ((P.length + 1 : Nat) : Rat) := by
    rw [Rat.div_def]
    exact Rat.mul_pos (by grind) (Rat.inv_pos.mpr hn)
  have hww : (v - u) / ((P.length + 1 : Nat) : Rat) * ((P.length + 1 : Nat) : Rat) = v - u := by
    rw [Rat.div_def, Rat.mul_assoc, Rat.inv_mul_cancel _ (by grind), Rat.mul_one]
  generalize (v - u) / ((P.length + 1 : Nat) : Rat) = w at *
  refine pe_allz (zero_of_roots P.length P ((List.range P.length).map fun i : Nat => u + w * (i : Rat)) (Nat.le_refl _) ?_ (by simp) ?_) X
  · unfold List.Nodup
    rw [List.pairwise_map]
    refine List.nodup_range.imp fun {a b} hne e => hne ?_
    have h1 : w * ((a : Rat) - (b : Rat)) = 0 := by grind
    rcases Rat.mul_eq_zero.mp h1 with z | z
    · grind
    · have : (a : Rat) = (b : Rat) := by grind
      exact_mod_cast this
  · intro c hc
    obtain ⟨i, hi, rfl⟩ := List.mem_map.mp hc
    have hi := List.mem_range.mp hi
    have h0 : (0 : Rat) ≤ (i : Rat) := by
      have : (0 : Int) ≤ (i : Int) := by omega
      exact_mod_cast this
    have h1 : (i : Rat) < ((P.length + 1 : Nat) : Rat) := by
      have : (i : Int) < ((P.length + 1 : Nat) : Int) := by omega
      exact_mod_cast this
    have h2 : 0 ≤ w * (i : Rat) := Rat.mul_nonneg (by grind) h0
    have h3 : w * (i : Rat) < w * ((P.length + 1 : Nat) : Rat) := (Rat.mul_lt_mul_left hw).mpr h1
    exact h _ (by grind) (by grind)
/-! the polynomials of basis functions over a span are independent -/
theorem bP_ind (hT : Up T) (hlt : T.getD p 0 < T.getD (p + 1) 0) : ∀ d, d ≤ p → p + d + 1 < T.length → ∀ c : Nat → Rat, (∀ X, sumTo (fun a => c a * pe (bP T p d (p - d + a)) X) (d + 1) = 0) → ∀ a, a ≤ d → c a = 0
  | 0, hd, hl, c, h, a, ha => by
    have := h 0
    obtain rfl : a = 0 := by omega
    simp only [sumTo, bP, Nat.sub_zero, Nat.add_zero, if_true, pe] at this
    grind
  | d + 1, hd, hl, c, h, a, ha => by
    obtain ⟨j, hj⟩ : ∃ j, p - (d + 1) = j := ⟨_, rfl⟩
    rw [hj] at h
    have hj2 : j + d + 1 = p := by omega
    have dz : ∀ X, sumTo (fun a => c a * dv (bP T p (d + 1) (j + a)) X) (d + 1 + 1) = 0 := fun X => by
      rw [← dv_lcm c (fun a => bP T p (d + 1) (j + a)) X]
      rw [dv_congr (ys := []) fun X => by rw [pe_lcm]; exact h X]
      rfl
    have hu0 : ∀ X, pe (bP T p d (j + 0)) X = 0 := fun X => by rw [bP_nil d (j + 0) (.inl (by omega))]; rfl
    have hun : ∀ X, pe (bP T p d (j + (d + 1 + 1))) X = 0 := fun X => by rw [bP_nil d (j + (d + 1 + 1)) (.inr (by omega))]; rfl
    have hd0 : ((d + 1 : Nat) : Rat) ≠ 0 := fun z => by
      have : ((d + 1 : Nat) : Rat) = ((0 : Nat) : Rat) := by rw [z]; rfl
      have : d + 1 = 0 := by exact_mod_cast this
      omega
    have dz2 : ∀ X, sumTo (fun a => (c (a + 1) - c a) * (pe (bP T p d (j + (a + 1))) X / hh T d (j + (a + 1)))) (d + 1) = 0 := fun X => by
      have e1 : sumTo (fun a => c a * dv (bP T p (d + 1) (j + a)) X) (d + 1 + 1) = ((d + 1 : Nat) : Rat) * sumTo (fun a => c a * (pe (bP T p d (j + a)) X / hh T d (j + a) - pe (bP T p d (j + (a + 1))) X / hh T d (j + (a + 1)))) (d + 1 + 1) := by
        rw [← sumTo_mul]
        refine sumTo_congr fun a ha => ?_
        rw [dBv hT p d (j + a) X (by omega), show j + a + 1 = j + (a + 1) by omega]
        grind
      rw [dz X, sum_parts c (fun a => pe (bP T p d (j + a)) X / hh T d (j + a)) (d + 1)] at e1
      rw [hu0, hun, zero_div', zero_div'] at e1
      rcases Rat.mul_eq_zero.mp e1.symm with z | z
      · exact absurd z hd0
      · grind
    have hc := bP_ind hT hlt d (by omega) (by omega) (fun b => (c (b + 1) - c b) / hh T d (j + (b + 1))) fun X => by
      rw [← dz2 X]
      refine sumTo_congr fun b hb => ?_
      rw [show p - d + b = j + (b + 1) by omega, Rat.div_def, Rat.div_def]
      grind
    have hs : ∀ b, b ≤ d → c (b + 1) = c b := fun b hb => by
      have h1 := hc b hb
      have hne : hh T d (j + (b + 1)) ≠ 0 := by
        have u1 := hT (j + (b + 1)) p (by omega) (by omega)
        have u2 := hT (p + 1) (j + (b + 1) + d + 1) (by omega) (by omega)
        show T.getD (j + (b + 1) + d + 1) 0 - T.getD (j + (b + 1)) 0 ≠ 0
        grind
      simp only [Rat.div_def] at h1
      rcases Rat.mul_eq_zero.mp h1 with z | z
      · grind
      · have hi := Rat.mul_inv_cancel _ hne
        rw [z] at hi
        grind
    have hall : ∀ a, a ≤ d + 1 → c a = c 0 := fun a => by
      induction a with
      | zero => intro _; rfl
      | succ a ih => intro ha; rw [hs a (by omega), ih (by omega)]
    have hsum := h (T.getD p 0)
    have e2 : sumTo (fun a => c a * pe (bP T p (d + 1) (j + a)) (T.getD p 0)) (d + 1 + 1) = c 0 * sumTo (fun a => bN T (T.getD p 0) (d + 1) (j + a)) (d + 1 + 1) := by
      rw [← sumTo_mul]
      refine sumTo_congr fun a ha => ?_
      rw [hall a (by omega), pe_bP hT (by omega) (by grind) hlt (d + 1) (j + a) (by omega)]
    rw [e2, bN_sum hT (d + 1) j (d + 1 + 1) (by omega) (by rw [show j + (d + 1) = p by omega]; grind) (by rw [show j + (d + 1 + 1) = p + 1 by omega]; exact hlt)] at hsum
    rw [hall a ha]
    grind
/-- the numbers of a spline over a span are the blossom's values -/
theorem dual (hT : Up T) (hlt : T.getD p 0 < T.getD (p + 1) 0) (hd : d ≤ p) (hl : p + d + 1 < T.length) (hP : P.length ≤ d + 1) {c : Nat → Rat} (h : ∀ x, T.getD p 0 ≤ x → x < T.getD (p + 1) 0 → sumTo (fun a => c a * bN T x d (p - d + a)) (d + 1) = pe P x) :
    ∀ a, a ≤ d → c a = blo P (win T (p - d + a + 1) d) := by
  intro a ha
  have key := bP_ind hT hlt d hd hl (fun a => c a - blo P (win T (p - d + a + 1) d)) (fun X => by
    rw [← pe_lcm (fun a => c a - blo P (win T (p - d + a + 1) d)) (fun a => bP T p d (p - d + a))]
    refine zero_between hlt (fun X h0 h1 => ?_) X
    rw [pe_lcm]
    have hm := marsden (x := X) (P := P) hT d (p - d) (d + 1) [] (by simpa using hP) (by omega) (by rw [Nat.sub_add_cancel hd]; grind) (by rw [show p - d + (d + 1) = p + 1 by omega]; exact h1)
    rw [List.append_nil, blo_equal X d hP, ← h X h0 h1] at hm
    have e : sumTo (fun a => (c a - blo P (win T (p - d + a + 1) d)) * pe (bP T p d (p - d + a)) X) (d + 1) = sumTo (fun a => c a * bN T X d (p - d + a)) (d + 1) - sumTo (fun a => blo P (win T (p - d + a + 1) d ++ []) * bN T X d (p - d + a)) (d + 1) := by
      have : ∀ u v : Rat, u - v = u + (-1) * v := fun u v => by grind
      rw [this, ← sumTo_mul, ← sumTo_add]
      refine sumTo_congr fun a ha => ?_
      rw [pe_bP hT (by omega) (by grind) h1 d (p - d + a) (by omega), List.append_nil]
      grind
    rw [e, hm]
    grind) a ha
  grind
/-! one knot more: W. Boehm -/
theorem wkn_len (hp : p + 1 ≤ T.length) : (wknT T p y).length = T.length + 1 := by
  simp only [wknT, List.length_append, List.length_take, List.length_cons, List.length_drop]; omega
theorem wkn_lo (hp : p + 1 ≤ T.length) (hi : i ≤ p) : (wknT T p y).getD i 0 = T.getD i 0 := by
  rw [wknT, List.getD_eq_getElem?_getD, List.getD_eq_getElem?_getD, List.getElem?_append_left (by rw [List.length_take]; omega), List.getElem?_take_of_lt (by omega)]
theorem wkn_at (hp : p + 1 ≤ T.length) : (wknT T p y).getD (p + 1) 0 = y := by
  rw [wknT, List.getD_eq_getElem?_getD, List.getElem?_append_right (by rw [List.length_take]; omega), List.length_take, show p + 1 - min (p + 1) T.length = 0 by omega]; rfl
theorem wkn_hi (hp : p + 1 ≤ T.length) (hi : p < i) : (wknT T p y).getD (i + 1) 0 = T.getD i 0 := by
  rw [wknT, List.getD_eq_getElem?_getD, List.getD_eq_getElem?_getD, List.getElem?_append_right (by rw [List.length_take]; omega), List.length_take, show i + 1 - min (p + 1) T.length = (i - p - 1) + 1 by omega, List.getElem?_cons_succ, List.getElem?_drop]
  congr 2; omega
theorem wkn_win_lo (hp : p + 1 ≤ T.length) {a : Nat} (h : a + n ≤ p + 1) : win (wknT T p y) a n = win T a n := by
  refine List.map_congr_left fun i hi => ?_
  have := List.mem_range'_1.mp hi
  exact wkn_lo hp (by omega)
theorem wkn_win_hi (hp : p + 1 ≤ T.length) {a : Nat} (h : p < a) : win (wknT T p y) (a + 1) n = win T a n := by
  rw [win, win]
  apply List.ext_getElem?
  intro m
  rw [List.getElem?_map, List.getElem?_map]
  by_cases hm : m < n
  · rw [List.getElem?_range' hm, List.getElem?_range' hm]
    simp only [Option.map_some, Nat.one_mul]
    rw [show a + 1 + m = a + m + 1 by omega, wkn_hi hp (by omega)]
  · rw [List.getElem?_eq_none (by simp; omega), List.getElem?_eq_none (by simp; omega)]; rfl
theorem wkn_up (hT : Up T) (hp : p + 1 < T.length) (h1 : T.getD p 0 ≤ y) (h2 : y ≤ T.getD (p + 1) 0) : Up (wknT T p y) := by
  have step : ∀ i, i < T.length → (wknT T p y).getD i 0 ≤ (wknT T p y).getD (i + 1) 0 := fun i hi => by
    rcases Nat.lt_trichotomy i p with c | c | c
    · rw [wkn_lo (by omega) (by omega), wkn_lo (by omega) (by omega)]
      exact hT i (i + 1) (by omega) (by omega)
    · subst c
      rw [wkn_lo (by omega) (by omega), wkn_at (by omega)]
      exact h1
    · rw [wkn_hi (by omega) c]
      by_cases e : i = p + 1
      · subst e; rw [wkn_at (by omega)]; exact h2
      · obtain ⟨m, rfl⟩ : ∃ m, i = m + 1 := ⟨i - 1, by omega⟩
        rw [wkn_hi (by omega) (by omega)]
        exact hT m (m + 1) (by omega) (by omega)
  intro i j hij
  obtain ⟨m, rfl⟩ : ∃ m, j = i + m := ⟨j - i, by omega⟩
  rw [wkn_len (by omega)]
  clear hij
  induction m with
  | zero => intro _; exact Rat.le_refl
  | succ m ih =>
    intro hj
    have u1 := ih (by omega)
    have u2 := step (i + m) (by omega)
    rw [show i + (m + 1) = i + m + 1 by omega]
    grind
/-- the spline's function -/
def spF (d : Nat) (T R : List Rat) (x : Rat) : Rat := sumTo (fun i => R.getD i 0 * bN T x d i) R.length
theorem spF_span (hT : Up T) (hR : R.length + d + 1 = T.length) (hd : d ≤ q) (hl : q + d + 1 < T.length) (h1 : T.getD q 0 ≤ x) (h2 : x < T.getD (q + 1) 0) :
    spF d T R x = sumTo (fun a => R.getD (q - d + a) 0 * bN T x d (q - d + a)) (d + 1) := by
  refine sumTo_window (f := fun i => R.getD i 0 * bN T x d i) (lo := q - d) (cnt := d + 1) (by omega) (fun i hi => ?_) (fun i hi1 hi2 => ?_)
  · rw [bN_out hT d i (by omega) (.inr (by
      have u1 := hT (i + d + 1) q (by omega) (by omega)
      grind)), Rat.mul_zero]
  · rw [bN_out hT d i (by omega) (.inl (by
      have u1 := hT (q + 1) i (by omega) (by omega)
      grind)), Rat.mul_zero]
theorem spF_piece (hT : Up T) (hR : R.length + d + 1 = T.length) (hd : d ≤ q) (hl : q + d + 1 < T.length) (h1 : T.getD q 0 ≤ x) (h2 : x < T.getD (q + 1) 0) : spF d T R x = pe (pcP T R d q) x := by
  rw [spF_span hT hR hd hl h1 h2, pcP, pcN_pe]
  refine sumTo_congr fun a ha => ?_
  rw [pe_bP hT (by omega) (by grind) h2 d (q - d + a) (by omega)]
  grind
/-- a row with blossom's values makes its polynomial -/
theorem spF_row (hT : Up T) (hR : R.length + d + 1 = T.length) (hd : d ≤ q) (hl : q + d + 1 < T.length) (h1 : T.getD q 0 ≤ x) (h2 : x < T.getD (q + 1) 0) (hP : P.length ≤ d + 1)
    (hc : ∀ j, q - d ≤ j → j ≤ q → R.getD j 0 = blo P (win T (j + 1) d)) : spF d T R x = pe P x := by
  rw [spF_span hT hR hd hl h1 h2]
  have hm := marsden (x := x) (P := P) hT d (q - d) (d + 1) [] (by simpa using hP) (by omega) (by rw [Nat.sub_add_cancel hd]; grind) (by rw [show q - d + (d + 1) = q + 1 by omega]; exact h2)
  rw [List.append_nil, blo_equal x d hP] at hm
  rw [← hm]
  refine sumTo_congr fun a ha => ?_
  rw [List.append_nil, hc (q - d + a) (by omega) (by omega)]
theorem spF_dual (hT : Up T) (hR : R.length + d + 1 = T.length) (hd : d ≤ q) (hl : q + d + 1 < T.length) (hlt : T.getD q 0 < T.getD (q + 1) 0) (hP : P.length ≤ d + 1)
    (h : ∀ x, T.getD q 0 ≤ x → x < T.getD (q + 1) 0 → spF d T R x = pe P x) : ∀ j, q - d ≤ j → j ≤ q → R.getD j 0 = blo P (win T (j + 1) d) := fun j h1 h2 => by
  have := dual hT hlt hd hl hP (c := fun a => R.getD (q - d + a) 0) (fun x g1 g2 => by rw [← h x g1 g2, spF_span hT hR hd hl g1 g2]) (j - (q - d)) (by omega)
  rw [show q - d + (j - (q - d)) = j by omega] at this
  exact this
theorem boehm (hT : Up T) (hR : R.length + d + 1 = T.length) (hd : d ≤ p) (hl : p + d + 1 < T.length) (hy1 : T.getD p 0 ≤ y) (hy2 : y < T.getD (p + 1) 0)
    (hq : d ≤ q) (hql : q + d + 1 < T.length) (h1 : T.getD q 0 ≤ x) (h2 : x < T.getD (q + 1) 0) : spF d (wknT T p y) (wknR T R d p y) x = spF d T R x := by
  have hlen := wkn_len (T := T) (p := p) (y := y) (by omega)
  have hT' := wkn_up hT (by omega) hy1 (by grind)
  have hRl : (wknR T R d p y).length = R.length + 1 := tbl_len _ _
  have hR' : (wknR T R d p y).length + d + 1 = (wknT T p y).length := by omega
  have hg : ∀ j, j < R.length + 1 → (wknR T R d p y).getD j 0 = wknC T R d p y j := fun j hj => by
    rw [wknR, List.getD_eq_getElem?_getD, tbl, List.getElem?_map, List.getElem?_range' hj]
    simp
  have hD := spF_dual (P := pcP T R d q) hT hR hq hql (by grind) (pcN_len (d + 1)) (fun x g1 g2 => spF_piece hT hR hq hql g1 g2)
  rw [spF_piece hT hR hq hql h1 h2]
  have hP : (pcP T R d q).length ≤ d + 1 := pcN_len (d + 1)
  generalize pcP T R d q = P at *
  have hmid : ∀ j, p - d < j → j ≤ p → q - d + 1 ≤ j → j ≤ q → wknC T R d p y j = blo P (win (wknT T p y) (j + 1) d) := fun j g1 g2 g3 g4 => by
    rw [wknC, if_neg (by omega), if_neg (by omega), hD (j - 1) (by omega) (by omega), hD j (by omega) g4]
    obtain ⟨m, rfl⟩ : ∃ m, j = m + 1 := ⟨j - 1, by omega⟩
    rw [show m + 1 - 1 = m by omega]
    obtain ⟨e, he⟩ : ∃ e, p - (m + 1) = e := ⟨_, rfl⟩
    obtain ⟨f, hf⟩ : ∃ f, d - 1 - e = f := ⟨_, rfl⟩
    have hde : d = e + (1 + f) := by omega
    have hpe : p = m + 1 + e := by omega
    have w1 : win T (m + 1) d = T.getD (m + 1) 0 :: (win T (m + 1 + 1) e ++ win T (p + 1) f) := by
      rw [hde, show e + (1 + f) = (e + f) + 1 by omega, win_cons, win_app, show m + 1 + 1 + e = p + 1 by omega]
    have w2 : win T (m + 1 + 1) d = win T (m + 1 + 1) e ++ win T (p + 1) f ++ [T.getD (m + 1 + d) 0] := by
      rw [hde, show e + (1 + f) = (e + f) + 1 by omega, win_snoc, win_app, show m + 1 + 1 + e = p + 1 by omega]
      congr 3; omega
    have w3 : win (wknT T p y) (m + 1 + 1) d = win T (m + 1 + 1) e ++ y :: win T (p + 1) f := by
      rw [hde, win_app, show (1 : Nat) + f = f + 1 by omega, win_cons, wkn_win_lo (by omega) (by omega), show m + 1 + 1 + e = p + 1 by omega, wkn_at (by omega), wkn_win_hi (by omega) (by omega)]
    rw [w1, w2, w3]
    have u1 := hT (m + 1) p (by omega) (by omega)
    have u2 := hT (p + 1) (m + 1 + d) (by omega) (by omega)
    have hwl : (win T (m + 1 + 1) e).length + (win T (p + 1) f).length + 1 = d := by rw [win_len, win_len]; omega
    generalize win T (m + 1 + 1) e = ps at *
    generalize win T (p + 1) f = qs at *
    have hne : T.getD (m + 1 + d) 0 - T.getD (m + 1) 0 ≠ 0 := by grind
    generalize T.getD (m + 1) 0 = u at *
    generalize T.getD (m + 1 + d) 0 = v at *
    have pm : blo P (u :: (ps ++ qs)) = blo P (ps ++ u :: qs) := blo_perm (List.perm_middle.symm)
    have pm2 : blo P (ps ++ qs ++ [v]) = blo P (ps ++ v :: qs) := blo_perm (by
      rw [List.append_assoc]
      exact List.Perm.append_left ps (List.perm_append_singleton v qs))
    have hb := blo_mid (xs := P) ps qs u v ((y - u) / (v - u)) (by omega)
    have hyu : u + (y - u) / (v - u) * (v - u) = y := by
      rw [Rat.div_def, Rat.mul_assoc, Rat.inv_mul_cancel _ hne]; grind
    rw [hyu] at hb
    rw [pm, pm2, hb]
  by_cases hxy : x < y
  · have hqp : q ≤ p := by
      refine Classical.byContradiction fun z => ?_
      have u1 := hT (p + 1) q (by omega) (by omega)
      grind
    refine spF_row (q := q) hT' hR' hq (by omega) (by rw [wkn_lo (by omega) hqp]; exact h1) ?_ hP (fun j g1 g2 => ?_)
    · rcases Nat.lt_or_ge q p with c | c
      · rw [wkn_lo (by omega) (by omega)]; exact h2
      · obtain rfl : q = p := by omega
        rw [wkn_at (by omega)]; exact hxy
    · rw [hg j (by omega)]
      by_cases c1 : j ≤ p - d
      · rw [wknC, if_pos c1, hD j g1 g2, wkn_win_lo (by omega) (by omega)]
      · exact hmid j (by omega) (by omega) (by omega) g2
  · have hqp : p ≤ q := by
      refine Classical.byContradiction fun z => ?_
      have u1 := hT (q + 1) p (by omega) (by omega)
      grind
    refine spF_row (q := q + 1) hT' hR' (by omega) (by omega) ?_ (by rw [wkn_hi (by omega) (by omega)]; exact h2) hP (fun j g1 g2 => ?_)
    · rcases Nat.lt_or_ge p q with c | c
      · rw [wkn_hi (by omega) c]; exact h1
      · obtain rfl : q = p := by omega
        rw [wkn_at (by omega)]; grind
    · rw [hg j (by omega)]
      by_cases c1 : j ≤ p
      · exact hmid j (by omega) c1 (by omega) (by omega)
      · rw [wknC, if_neg (by omega), if_pos (by omega), hD (j - 1) (by omega) (by omega)]
        obtain ⟨m, rfl⟩ : ∃ m, j = m + 1 := ⟨j - 1, by omega⟩
        rw [show m + 1 - 1 = m by omega, wkn_win_hi (by omega) (by omega)]
end
end PB
set_option Elab.async false
set_option linter.all false
set_option maxRecDepth 100000
set_option maxHeartbeats 4000000
set_option exponentiation.threshold 100000
namespace PB
open PySem
section
variable {k : Nat} {h t : PH} {o : PO} {e n m a b c d p : Nat} {x y : Rat} {xs ys T R P : List Rat}
/-! sizes with finer knots -/
theorem q420s : (420 : Rat) ^ 2 = 176400 := by decide +kernel
/-- a difference of knots, over 420 * 420 -/
def kz2 (lo hi : Rat) : Int := ((hi - lo) * (420 : Rat) ^ 2).num
theorem kz_eq2 {lo hi : Rat} (h1 : Fq 2 40 lo) (h2 : Fq 2 40 hi) : (hi - lo) * (420 : Rat) ^ 2 = (kz2 lo hi : Rat) ∧ (kz2 lo hi).natAbs ≤ 2 ^ 41 := by
  obtain ⟨A, a1, a2⟩ := h2.sub h1
  have : kz2 lo hi = A := by rw [kz2, a1]; rfl
  rw [this]
  exact ⟨a1, by omega⟩
theorem kz_ne2 {lo hi : Rat} (h1 : Fq 2 40 lo) (h2 : Fq 2 40 hi) (hne : lo ≠ hi) : kz2 lo hi ≠ 0 := by
  intro hz
  have := (kz_eq2 h1 h2).1
  rw [hz, q420s] at this
  have h3 : (hi - lo) * 176400 = 0 := this
  rcases Rat.mul_eq_zero.mp h3 with h3 | h3
  · exact hne (by grind)
  · exact absurd h3 (by decide)
theorem cn_bA2 {lo hi : Rat} (h1 : Fq 2 40 lo) (h2 : Fq 2 40 hi) (hne : lo ≠ hi) : CN (2 ^ 40) (kz2 lo hi) (bA lo hi) := by
  obtain ⟨A, a1, a2⟩ := h1
  have hk := (kz_eq2 (lo := lo) (hi := hi) ⟨A, a1, a2⟩ h2).1
  have hd : hi - lo ≠ 0 := by grind
  have hi1 : 1 / (hi - lo) * (kz2 lo hi : Rat) = 176400 := by
    rw [← hk, q420s, ← Rat.mul_assoc, Rat.div_mul_cancel hd, Rat.one_mul]
  rw [q420s] at a1
  intro q hq
  simp only [bA, List.mem_cons, List.not_mem_nil, or_false] at hq
  rcases hq with rfl | rfl
  · refine ⟨-A, ?_, by omega⟩
    rw [Rat.mul_assoc, hi1, Rat.intCast_neg, ← a1]; grind
  · exact ⟨176400, hi1, by decide⟩
theorem cn_bB2 {lo hi : Rat} (h1 : Fq 2 40 lo) (h2 : Fq 2 40 hi) (hne : lo ≠ hi) : CN (2 ^ 40) (kz2 lo hi) (bB lo hi) := by
  have hk := (kz_eq2 h1 h2).1
  obtain ⟨A, a1, a2⟩ := h2
  have hd : hi - lo ≠ 0 := by grind
  have hi1 : 1 / (hi - lo) * (kz2 lo hi : Rat) = 176400 := by
    rw [← hk, q420s, ← Rat.mul_assoc, Rat.div_mul_cancel hd, Rat.one_mul]
  rw [q420s] at a1
  intro q hq
  simp only [bB, List.mem_cons, List.not_mem_nil, or_false] at hq
  rcases hq with rfl | rfl
  · refine ⟨A, ?_, by omega⟩
    rw [Rat.mul_assoc, hi1, ← a1]
  · exact ⟨-176400, by rw [Rat.neg_mul, hi1]; rfl, by decide⟩
def sA2 : Nat → Nat
  | 0 => 0
  | d + 1 => sA2 d + 42 + 41 * d
def sD2 : Nat → Nat
  | 0 => 0
  | d + 1 => sD2 d + 41 * (d + 1)
theorem bP_fam2 (hT : Up T) (hf : ∀ q ∈ T, Fq 2 40 q) (hlt : T.getD p 0 < T.getD (p + 1) 0) : ∀ d : Nat, d ≤ p → p + d + 1 ≤ T.length → ∃ D : Int, D ≠ 0 ∧ D.natAbs ≤ 2 ^ sD2 d ∧ ∀ i, CN (2 ^ sA2 d) D (bP T p d i)
  | 0, _, _ => ⟨1, by decide, by decide, fun i q hq => by
      rw [bP] at hq
      split at hq
      · simp at hq; subst hq; exact ⟨1, by decide +kernel, by decide⟩
      · simp at hq⟩
  | d + 1, hd, hl => by
    obtain ⟨D, d0, d1, hD⟩ := bP_fam2 hT hf hlt d (by omega) (by omega)
    have hF : ∀ i, Fq 2 40 (T.getD i 0) := fun i => getD_fq hf i
    have hne : ∀ i, p - d ≤ i → i ≤ p → T.getD i 0 ≠ T.getD (i + (d + 1)) 0 := fun i h1 h2 z => by
      have g1 := hT i p h2 (by omega)
      have g2 := hT (p + 1) (i + (d + 1)) (by omega) (by omega)
      grind
    generalize hL : (List.range (d + 1)).map (fun j => kz2 (T.getD (p - d + j) 0) (T.getD (p - d + j + (d + 1)) 0)) = L
    have hLl : L.length = d + 1 := by rw [← hL]; simp
    have hLm : ∀ k ∈ L, k ≠ 0 ∧ k.natAbs ≤ 2 ^ 41 := fun k hk => by
      rw [← hL] at hk
      obtain ⟨j, hj, rfl⟩ := List.mem_map.mp hk
      have hj := List.mem_range.mp hj
      exact ⟨kz_ne2 (hF _) (hF _) (hne _ (by omega) (by omega)), (kz_eq2 (hF _) (hF _)).2⟩
    have hin : ∀ i, p - d ≤ i → i ≤ p → kz2 (T.getD i 0) (T.getD (i + (d + 1)) 0) ∈ L := fun i h1 h2 => by
      rw [← hL]
      refine List.mem_map.mpr ⟨i - (p - d), List.mem_range.mpr (by omega), ?_⟩
      have : p - d + (i - (p - d)) = i := by omega
      rw [this]
    obtain ⟨s1, s2⟩ := prod_split (B := 41) L fun k hk => (hLm k hk).2
    have bAl : ∀ lo hi : Rat, (bA lo hi).length = 2 := fun _ _ => rfl
    have bBl : ∀ lo hi : Rat, (bB lo hi).length = 2 := fun _ _ => rfl
    have bound : 2 * (2 ^ 40 * 2 ^ sA2 d) * 2 ^ (41 * d) = 2 ^ (sA2 d + 41 + 41 * d) := by
      rw [Nat.pow_add, Nat.pow_add, Nat.mul_comm (2 ^ 40), ← Nat.mul_assoc, Nat.mul_comm 2, Nat.mul_assoc (2 ^ sA2 d)]
    have hA : ∀ i, CN (2 ^ (sA2 d + 41 + 41 * d)) (D * L.prod) (if T.getD i 0 = T.getD (i + (d + 1)) 0 then [] else pmul (bA (T.getD i 0) (T.getD (i + (d + 1)) 0)) (bP T p d i)) := fun i => by
      split
      · intro q hq; simp at hq
      · by_cases hi : p - d ≤ i ∧ i ≤ p
        · have c1 := cn_pmul (cn_bA2 (hF i) (hF (i + (d + 1))) (hne i hi.1 hi.2)) (hD i)
          obtain ⟨m, m1, m2⟩ := s1 _ (hin i hi.1 hi.2)
          have c2 := cn_times c1 m2
          rw [bAl, hLl, Nat.add_sub_cancel, bound] at c2
          have e : D * L.prod = kz2 (T.getD i 0) (T.getD (i + (d + 1)) 0) * D * m := by rw [m1, ← Int.mul_assoc, Int.mul_comm D]
          rw [e]; exact c2
        · rw [bP_nil d i (by omega), pmul_nil_r]; intro q hq; simp at hq
    have hB : ∀ i, CN (2 ^ (sA2 d + 41 + 41 * d)) (D * L.prod) (if T.getD (i + 1) 0 = T.getD (i + (d + 1) + 1) 0 then [] else pmul (bB (T.getD (i + 1) 0) (T.getD (i + (d + 1) + 1) 0)) (bP T p d (i + 1))) := fun i => by
      have ei : i + (d + 1) + 1 = i + 1 + (d + 1) := by omega
      rw [ei]
      split
      · intro q hq; simp at hq
      · by_cases hi : p - d ≤ i + 1 ∧ i + 1 ≤ p
        · have c1 := cn_pmul (cn_bB2 (hF (i + 1)) (hF (i + 1 + (d + 1))) (hne (i + 1) hi.1 hi.2)) (hD (i + 1))
          obtain ⟨m, m1, m2⟩ := s1 _ (hin (i + 1) hi.1 hi.2)
          have c2 := cn_times c1 m2
          rw [bBl, hLl, Nat.add_sub_cancel, bound] at c2
          have e : D * L.prod = kz2 (T.getD (i + 1) 0) (T.getD (i + 1 + (d + 1)) 0) * D * m := by rw [m1, ← Int.mul_assoc, Int.mul_comm D]
          rw [e]; exact c2
        · rw [bP_nil d (i + 1) (by omega), pmul_nil_r]; intro q hq; simp at hq
    refine ⟨D * L.prod, Int.mul_ne_zero d0 (prod_nz L fun k hk => (hLm k hk).1), ?_, fun i => ?_⟩
    · rw [Int.natAbs_mul, sD2, Nat.pow_add]
      rw [hLl] at s2
      exact Nat.mul_le_mul d1 s2
    · have b2 : 2 ^ (sA2 d + 41 + 41 * d) + 2 ^ (sA2 d + 41 + 41 * d) = 2 ^ sA2 (d + 1) := by
        have : sA2 (d + 1) = (sA2 d + 41 + 41 * d) + 1 := by rw [sA2]; omega
        rw [this, Nat.pow_succ]; omega
      have h1 := hA i
      have h2 := hB i
      rw [bP]
      split
      · exact h1.mono (by omega)
      · rename_i hz
        rw [if_neg hz] at h2
        have := cn_trim (cn_padd h1 h2)
        rw [b2] at this
        exact this
end
end PB
set_option Elab.async false
set_option linter.all false
set_option maxRecDepth 100000
set_option maxHeartbeats 4000000
set_option exponentiation.threshold 100000
namespace PB
open PySem
section
variable {k : Nat} {h t : PH} {o : PO} {n m b c d e p i j : Nat} {x y q : Rat} {xs ys us T R P : List Rat}
theorem lbasis_gen {B : Nat} (hT : AllB b T) (hb : 1 ≤ b) (hx : Bd c x) : ∀ (d i : Nat), i + d + 1 < T.length → (∀ e i, e ≤ d → i + e + 1 < T.length → Bd B (bN T x e i)) → 2 * (3 * b + c + 2 + B) + 1 < 4800 ∧ 5 * b + c < 4000 → callF G (k + 3 + d) 151 [.int (d : Nat), pol T, .int (i : Nat), fr x] h = .ok (fr (bN T x d i)) h
  | 0, i, hi, hB, hbc => by
    have hbc := hbc.2
    rw [callF_eq (f := f__law_basis) rfl rfl]
    have i1 := idx_pol (T := T) (h := h) (i := i) (by omega)
    have i2 := idx_pol (T := T) (h := h) (i := i + 1) (by omega)
    have b1 := lbelow_ok (k := k + 1) (h := h) hx (getD_bd hT hb i) (by omega)
    have b2 := lbelow_ok (k := k + 1) (h := h) hx (getD_bd hT hb (i + 1)) (by omega)
    have ec : ((i + 1 : Nat) : Int) = (i : Int) + 1 := by omega
    rw [ec] at i2
    simp only [bN]
    generalize T.getD i 0 = u1 at *
    generalize T.getD (i + 1) 0 = u2 at *
    have f0 : PV.tup [.int 0, .int 1] = fr 0 := rfl
    have f1 : PV.tup [.int 1, .int 1] = fr 1 := rfl
    simp only [Nat.add_zero, f__law_basis, c__law_basis]
    by_cases z1 : x < u1
    · simp [i1, i2, b1, b2, z1, f0, f1, List.replicate, many]
    · by_cases z2 : x < u2
      · simp [i1, i2, b1, b2, z1, z2, f0, f1, List.replicate, many]
      · simp [i1, i2, b1, b2, z1, z2, f0, f1, List.replicate, many]
  | d + 1, i, hi, hB, hbc0 => by
    have hbc := hbc0.2
    have ek1 : k + 3 + (d + 1) = k + 3 + d + 1 := by omega
    rw [ek1, callF_eq (f := f__law_basis) rfl rfl]
    have hB' : ∀ e i, e ≤ d → i + e + 1 < T.length → Bd B (bN T x e i) := fun e i he => hB e i (by omega)
    have r1 := lbasis_gen hT hb hx d i (by omega) hB' hbc0
    have r2 := lbasis_gen hT hb hx d (i + 1) (by omega) hB' hbc0
    have ek : k + 3 + d = k + 1 + d + 2 := by omega
    have n1 := hB' d i (by omega) (by omega)
    have n2 := hB' d (i + 1) (by omega) (by omega)
    have i1 := idx_pol (T := T) (h := h) (i := i) (by omega)
    have i2 := idx_pol (T := T) (h := h) (i := i + 1) (by omega)
    have i3 := idx_pol (T := T) (h := h) (i := i + (d + 1)) (by omega)
    have i4 := idx_pol (T := T) (h := h) (i := i + (d + 1) + 1) (by omega)
    have ec : ((i + 1 : Nat) : Int) = (i : Int) + 1 := by omega
    have ec3 : ((i + (d + 1) : Nat) : Int) = (i : Int) + ((d : Int) + 1) := by omega
    have ec4 : ((i + (d + 1) + 1 : Nat) : Int) = (i : Int) + ((d : Int) + 1) + 1 := by omega
    have ecd : ((d + 1 : Nat) : Int) = (d : Int) + 1 := by omega
    have ecd1 : (d : Int) + 1 - 1 = (d : Int) := by omega
    have ecd0 : ¬ ((d : Int) + 1 = 0) := by omega
    rw [ec] at i2 r2
    rw [ec3] at i3
    rw [ec4] at i4
    have g1 := getD_bd hT hb i
    have g2 := getD_bd hT hb (i + 1)
    have g3 := getD_bd hT hb (i + (d + 1))
    have g4 := getD_bd hT hb (i + (d + 1) + 1)
    have hzz : 2 * (3 * b + c + 2 + B) + 1 < 4800 := hbc0.1
    have s1 := lminus_ok (k := k + 1 + d) (h := h) hx g1 (by omega)
    have s2 := lminus_ok (k := k + 1 + d) (h := h) g3 g1 (by omega)
    have s3 := lminus_ok (k := k + 1 + d) (h := h) g4 hx (by omega)
    have s4 := lminus_ok (k := k + 1 + d) (h := h) g4 g2 (by omega)
    have v1 := bd_sub hx g1
    have v2 := bd_sub g3 g1
    have v3 := bd_sub g4 hx
    have v4 := bd_sub g4 g2
    simp only [bN, ecd, f__law_basis, c__law_basis]
    rw [ek] at r1 r2 ⊢
    generalize bN T x d i = w1 at *
    generalize bN T x d (i + 1) = w2 at *
    generalize T.getD i 0 = u1 at *
    generalize T.getD (i + 1) 0 = u2 at *
    generalize T.getD (i + (d + 1)) 0 = u3 at *
    generalize T.getD (i + (d + 1) + 1) 0 = u4 at *
    have f0 : PV.tup [.int 0, .int 1] = fr 0 := rfl
    by_cases z1 : u1 = u3
    · by_cases z2 : u2 = u4
      · simp [ecd0, f0, i1, i2, i3, i4, z1, z2, eqD_fr, List.replicate, many]
        rw [Rat.add_zero]
      · have n4 : u4 - u2 ≠ 0 := fun z => z2 (by grind)
        have q3 := lover_ok (k := k + 1 + d) (h := h) v3 v4 n4 (by omega)
        have q4 := ltimes_ok (k := k + 1 + d) (h := h) (bd_div v3 v4 n4) n2 (by omega)
        have q5 := lplus_ok (k := k + 1 + d) (h := h) (bd0 0) (bd_mul (bd_div v3 v4 n4) n2) (by omega)
        simp [ecd0, ecd1, f0, i1, i2, i3, i4, z1, z2, eqD_fr, List.replicate, many, s3, s4, q3, r2, q4, q5]
    · have n3 : u3 - u1 ≠ 0 := fun z => z1 (by grind)
      have q1 := lover_ok (k := k + 1 + d) (h := h) v1 v2 n3 (by omega)
      have q2 := ltimes_ok (k := k + 1 + d) (h := h) (bd_div v1 v2 n3) n1 (by omega)
      by_cases z2 : u2 = u4
      · simp [ecd0, ecd1, f0, i1, i2, i3, i4, z1, z2, eqD_fr, List.replicate, many, s1, s2, q1, r1, q2]
        rw [Rat.add_zero]
      · have n4 : u4 - u2 ≠ 0 := fun z => z2 (by grind)
        have q3 := lover_ok (k := k + 1 + d) (h := h) v3 v4 n4 (by omega)
        have q4 := ltimes_ok (k := k + 1 + d) (h := h) (bd_div v3 v4 n4) n2 (by omega)
        have q5 := lplus_ok (k := k + 1 + d) (h := h) (bd_mul (bd_div v1 v2 n3) n1) (bd_mul (bd_div v3 v4 n4) n2) (by omega)
        simp [ecd0, ecd1, f0, i1, i2, i3, i4, z1, z2, eqD_fr, List.replicate, many, s1, s2, q1, r1, q2, s3, s4, q3, r2, q4, q5]
/-! values of basis functions: one denominator -/
theorem pe_fq60 (hx : Fq 3 60 x) : ∀ {p : List Rat}, (∀ q ∈ p, Fq e n q) → Fq (e + 3 * p.length) (n + 61 * p.length + 1) (pe p x)
  | [], _ => Fq.zero'
  | a :: r, h => by
    have ih := pe_fq60 hx (p := r) fun q hq => h q (by simp [hq])
    have h1 := hx.mul ih
    have h2 := (h a (by simp)).up (e' := 3 + (e + 3 * r.length)) (n' := 60 + (n + 61 * r.length + 1)) (by omega) (by omega)
    rw [List.length_cons]
    exact (h2.add h1).up (by omega) (by omega)
theorem s2_le : ∀ d, d ≤ 4 → sA2 d ≤ 414 ∧ sD2 d ≤ 410 := fun d hd => by
  have : d = 0 ∨ d = 1 ∨ d = 2 ∨ d = 3 ∨ d = 4 := by omega
  rcases this with rfl | rfl | rfl | rfl | rfl <;> simp [sA2, sD2]
theorem fq_scale {D : Int} {N : Nat} (h : CN N D P) (hN : N < 2 ^ n) : ∀ q ∈ P.map ((D : Rat) * ·), Fq 0 n q := fun q hq => by
  obtain ⟨w, hw, rfl⟩ := List.mem_map.mp hq
  obtain ⟨A, a1, a2⟩ := h w hw
  exact ⟨A, by rw [Rat.pow_zero, Rat.mul_one, ← a1]; grind, by omega⟩
theorem bN_fam (hT : Up T) (hf : ∀ q ∈ T, Fq 2 40 q) (hd : d ≤ 4) (hp : d ≤ p) (hl : p + d + 1 < T.length) (hx : Fq 3 60 x) (h1 : T.getD p 0 ≤ x) (h2 : x < T.getD (p + 1) 0) : ∃ D : Int, D ≠ 0 ∧ D.natAbs < 2 ^ 411 ∧ ∀ i, i + d + 1 < T.length → Fq 15 722 ((D : Rat) * bN T x d i) := by
  obtain ⟨D, d0, d1, hD⟩ := bP_fam2 hT hf (by grind) d hp (by omega)
  obtain ⟨s1, s2⟩ := s2_le d hd
  refine ⟨D, d0, Nat.lt_of_le_of_lt d1 (Nat.pow_lt_pow_right (by decide) (by omega)), fun i hi => ?_⟩
  have hc := fq_scale (hD i) (Nat.pow_lt_pow_right (by decide) (show sA2 d < 415 by omega))
  have h3 := pe_fq60 hx hc
  have hlen := bP_len (T := T) (p := p) d i
  rw [List.length_map, pe_scaled, pe_bP hT (by omega) (by grind) h2 d i hi] at h3
  exact h3.up (by omega) (by omega)
theorem bd_fam {D : Int} (d0 : D ≠ 0) (d1 : D.natAbs < 2 ^ m) (h : Fq e n ((D : Rat) * q)) (h1 : n ≤ b) (h2 : 9 * e + m ≤ b) : Bd b q := by
  obtain ⟨A, a1, a2⟩ := h
  have hE : (420 ^ e * D : Int) ≠ 0 := Int.mul_ne_zero (Int.pow_ne_zero (by decide)) d0
  refine bd_of_frac hE (A := A) ?_ (lt_pow a2 h1) ?_
  · rw [← a1, Rat.intCast_mul, Rat.intCast_pow]
    have e1 : ((420 : Int) : Rat) = 420 := rfl
    rw [e1]; grind
  · rw [Int.mul_comm]
    have h420 : (420 ^ e : Int).natAbs ≤ 2 ^ (9 * e) := by
      rw [Int.natAbs_pow, Nat.pow_mul]
      exact Nat.pow_le_pow_left (by decide) e
    exact lt_pow (abs_mul_le d1 h420) (by omega)
/-- the numbers of a spline over each span, one denominator -/
def Rfam (d : Nat) (T R : List Rat) : Prop := ∀ p, d ≤ p → p + d + 1 < T.length → T.getD p 0 < T.getD (p + 1) 0 → ∃ D : Int, D ≠ 0 ∧ D.natAbs < 2 ^ 300 ∧ ∀ j, p - d ≤ j → j ≤ p → Fq 9 400 ((D : Rat) * R.getD j 0)
/-- the value that a spline's law finds -/
def spW (d : Nat) (T R : List Rat) (x : Rat) : Rat := if x = T.getD (T.length - 1) 0 then R.getD (R.length - 1) 0 else spF d T R x
theorem spn_lt (hs : Spw b c d T R) (h0 : T.getD 0 0 ≤ x) (h1 : x < T.getD (T.length - 1) 0) : x < T.getD (spn T x (T.length - 1) + 1) 0 := by
  have hsp := inSpw hs h0 (by grind)
  refine Classical.byContradiction fun z => ?_
  have hle := hsp.le
  have a3 := (spn_spec T x (T.length - 1) ⟨spn T x (T.length - 1), by omega, by have := hsp.lt; exact ⟨by grind, by have := hsp.lo; grind⟩⟩).2.2
  have all : ∀ m, spn T x (T.length - 1) + 1 + m < T.length → T.getD (spn T x (T.length - 1) + 1 + m) 0 ≤ x := by
    intro m
    induction m with
    | zero => intro _; rw [Nat.add_zero]; grind
    | succ m ih =>
      intro hm
      have e := ih (by omega)
      have hn := a3 (spn T x (T.length - 1) + 1 + m) (by omega) (by omega)
      have : T.getD (spn T x (T.length - 1) + 1 + m) 0 = T.getD (spn T x (T.length - 1) + 1 + m + 1) 0 := Classical.byContradiction fun hne => hn ⟨hne, by grind⟩
      rw [show spn T x (T.length - 1) + 1 + (m + 1) = spn T x (T.length - 1) + 1 + m + 1 by omega, ← this]
      exact e
  have := all (T.length - 1 - (spn T x (T.length - 1) + 1)) (by omega)
  rw [show spn T x (T.length - 1) + 1 + (T.length - 1 - (spn T x (T.length - 1) + 1)) = T.length - 1 by omega] at this
  grind
theorem lspline_at_w (hs : Spw b c d T R) (hf : ∀ q ∈ T, Fq 2 40 q) (hR : Rfam d T R) (hx : Fq 3 60 x) (h0 : T.getD 0 0 ≤ x) (h1 : x ≤ T.getD (T.length - 1) 0) (hc1 : 1 ≤ c) (hc : c < 3000) (hk : 10 ≤ k) : callF G k 168 [splv d T R, fr x] h = .ok (fr (spW d T R x)) h := by
  obtain ⟨k, rfl⟩ := Nat.exists_eq_add_of_le hk
  rw [Nat.add_comm]
  have hlo := hs.lo
  have hrl := hs.rl
  have hdl := hs.dl
  have hTl := hs.hi
  have i3 := fun H => idx_poln (h := H) (T := T) (z := -1) (by decide) (by omega)
  rw [show (-1 + (T.length : Int)).toNat = T.length - 1 by omega] at i3
  have i4 := fun H => idx_poln (h := H) (T := R) (z := -1) (by decide) (by omega)
  rw [show (-1 + (R.length : Int)).toNat = R.length - 1 by omega] at i4
  refine of_to ?_
  rw [callF_eq (f := f__law_spline_at) rfl rfl, to_bind]
  simp only [f__law_spline_at, c__law_spline_at]
  have hTb : AllB 40 T := fun q hq => (hf q hq).bd (by omega) (by omega)
  by_cases hlast : x = T.getD (T.length - 1) 0
  · rw [spW, if_pos hlast]
    generalize T.getD (T.length - 1) 0 = tl at *
    generalize R.getD (R.length - 1) 0 = rl at *
    simp [splv, List.replicate, i3, i4, eqD_fr, hlast]
  · rw [spW, if_neg hlast]
    have hsp := inSpw hs h0 h1
    have hlt := spn_lt hs h0 (by grind)
    have hge := hsp.ge
    have hle := hsp.le
    have hu := hs.up
    have hspl := hsp.lo
    have hslt := hsp.lt
    have hz : ∀ i, i < R.length → (i < spn T x (T.length - 1) - d ∨ spn T x (T.length - 1) < i) → bN T x d i = 0 := fun i hi hc => by
      rcases hc with hc | hc
      · exact bN_out hu d i (by omega) (.inr (by
          have u1 := hu (i + d + 1) (spn T x (T.length - 1)) (by omega) (by omega)
          grind))
      · exact bN_out hu d i (by omega) (.inl (by
          have u1 := hu (spn T x (T.length - 1) + 1) i (by omega) (by omega)
          grind))
    have hBe : ∀ e i, e ≤ d → i + e + 1 < T.length → Bd 722 (bN T x e i) := fun e i he hi => by
      obtain ⟨D, d0, d1, hD⟩ := bN_fam hu hf (d := e) (by omega) (by omega) (by omega) hx hspl hlt
      exact bd_fam d0 d1 (hD i hi) (by omega) (by omega)
    obtain ⟨D1, a0, a1, hD1⟩ := bN_fam hu hf hdl hge hle hx hspl hlt
    obtain ⟨D2, b0, b1, hD2⟩ := hR _ hge hle hslt
    generalize spn T x (T.length - 1) = p at *
    have hRb : ∀ i, Bd c (R.getD i 0) := fun i => getD_bd hs.rb hc1 i
    obtain ⟨f, hff⟩ : ∃ f : Nat → Rat, f = fun i => if i < R.length then R.getD i 0 * bN T x d i else 0 := ⟨_, rfl⟩
    have hD0 : D1 * D2 ≠ 0 := Int.mul_ne_zero a0 b0
    have hDl : (D1 * D2).natAbs < 2 ^ 711 := abs_mul_le a1 (Nat.le_of_lt b1)
    have hfq : ∀ i, Fq 24 1122 (((D1 * D2 : Int) : Rat) * f i) := fun i => by
      rw [hff]
      simp only
      split
      · by_cases hw : i < p - d ∨ p < i
        · rw [hz i (by assumption) hw, Rat.mul_zero, Rat.mul_zero]; exact Fq.zero'
        · have := (hD2 i (by omega) (by omega)).mul (hD1 i (by omega))
          rw [Rat.intCast_mul]
          have e : (D1 : Rat) * (D2 : Rat) * (R.getD i 0 * bN T x d i) = (D2 : Rat) * R.getD i 0 * ((D1 : Rat) * bN T x d i) := by grind
          rw [e]; exact this
      · rw [Rat.mul_zero]; exact Fq.zero'
    have hfb : ∀ i, Bd 1140 (f i) := fun i => bd_fam hD0 hDl (hfq i) (by omega) (by omega)
    have hfe : sumTo (fun i => R.getD i 0 * bN T x d i) R.length = (tbl f R.length).sum := by
      rw [tbl_sum']
      exact sumTo_congr fun i hi => by rw [hff]; simp only; rw [if_pos hi]
    rw [spF, hfe]
    have hal : AllB 1140 (tbl f R.length) := fun q hq => by
      rw [tbl, List.mem_map] at hq
      obtain ⟨i, _, rfl⟩ := hq
      exact hfb i
    have hpb : ∀ j, j ≤ (tbl f R.length).length → Bd 1140 ((tbl f R.length).take j).sum := fun j hj => by
      rw [tbl_len] at hj
      rw [sumTo_take hj]
      have := sumTo_fq (g := fun i => ((D1 * D2 : Int) : Rat) * f i) (m := j) (fun i _ => hfq i)
      rw [sumTo_mul] at this
      exact bd_fam hD0 hDl this (by omega) (by omega)
    have e1 : ∀ (i : Nat) (H : PH), i < R.length → callF G (k + 9) 151 [.int (d : Nat), pol T, .int (i : Nat), fr x] H = .ok (fr (bN T x d i)) H := fun i H hi => by
      have := lbasis_gen (k := k + 6 - d) (h := H) hTb (by omega) (hx.bd (m := 60) (by omega) (by omega)) d i (by omega) hBe (by omega)
      rw [show k + 6 - d + 3 + d = k + 9 by omega] at this
      exact this
    have e2 := fun i (H : PH) (hi : i < R.length) => ltimes_ok (k := k + 7) (h := H) (hRb i) (hBe d i (by omega) (by omega)) (by omega)
    have e3 := fun i (H : PH) (hi : i < R.length) => idx_pol (T := R) (h := H) (i := i) hi
    have hM : many = 1000000 := rfl
    have hls := lsum_sup (k := k + 6) (h := h ++ [.lst (frs (tbl f R.length))]) (v := .ref h.length) (xs := tbl f R.length) (by simp) hal hpb (by omega)
    generalize T.getD (T.length - 1) 0 = tl at *
    simp [splv, List.replicate, i3, eqD_fr, hlast]
    refine comp0_to (tbl f R.length) (by rw [tbl_len]) (by rw [tbl_len]; omega) (fun i hi => ?_) ?_
    · rw [tbl_len] at hi
      have hg : nd (tbl f R.length) i = R.getD i 0 * bN T x d i := by
        show (tbl f R.length).getD i 0 = _
        rw [List.getD_eq_getElem?_getD, tbl_getD _ hi, hff]
        simp only
        rw [if_pos hi]
      have e2' := e2 i h hi
      have e3' := e3 i h hi
      have e1' := e1 i h hi
      rw [hg]
      generalize R.getD i 0 = ri at *
      generalize bN T x d i = bi at *
      simp [compF, wipe, e1', e2', e3']
    · simp [alloc, hls]
end
end PB
set_option Elab.async false
set_option linter.all false
set_option maxRecDepth 100000
set_option maxHeartbeats 4000000
set_option exponentiation.threshold 100000
namespace PB
open PySem
section
variable {k : Nat} {h t : PH} {o : PO} {n m b c d e p i j q : Nat} {x y : Rat} {us T R T0 R0 R1 P : List Rat}
/-! sizes of blossoms -/
theorem est_fq {F : List Rat} {u : Rat} (hu : Fq 2 40 u) (hF : ∀ j : Nat, Fq e n (F[j]?.getD 0)) (j : Nat) : Fq (e + 2) (n + 41) ((est F u)[j]?.getD 0) := by
  by_cases hj : j ≤ F.length
  · rw [est_getD F u j hj]
    have h1 : Fq e n ((0 :: F)[j]?.getD 0) := by
      cases j with
      | zero => exact Fq.zero'
      | succ j => rw [List.getElem?_cons_succ]; exact hF j
    have h2 := hu.mul h1
    exact (((hF j).up (e' := e + 2) (n' := n + 40) (by omega) (by omega)).add (h2.up (e' := e + 2) (n' := n + 40) (by omega) (by omega))).up (by omega) (by omega)
  · rw [List.getElem?_eq_none (by rw [est_len]; omega)]; exact Fq.zero'
theorem esy_fq : ∀ (us F : List Rat) (e n : Nat), (∀ u ∈ us, Fq 2 40 u) → (∀ j : Nat, Fq e n (F[j]?.getD 0)) → ∀ j : Nat, Fq (e + 2 * us.length) (n + 41 * us.length) ((esy F us)[j]?.getD 0)
  | [], F, e, n, _, hF => hF
  | u :: r, F, e, n, hu, hF => fun j => by
    have := esy_fq r (est F u) (e + 2) (n + 41) (fun v hv => hu v (by simp [hv])) (est_fq (hu u (by simp)) hF) j
    rw [esy, List.length_cons]
    exact this.up (by omega) (by omega)
theorem bin4 : ∀ d, d ≤ 4 → ∀ i, i ≤ d → Fq 1 9 (Rat.divInt 1 (bin d i : Nat)) := by
  have key : ∀ d, d < 5 → ∀ i, i < 5 → i ≤ d → (Rat.divInt 1 (bin d i : Nat)) * (420 : Rat) ^ 1 = ((((Rat.divInt 1 (bin d i : Nat)) * (420 : Rat) ^ 1).num : Int) : Rat) ∧ ((Rat.divInt 1 (bin d i : Nat)) * (420 : Rat) ^ 1).num.natAbs < 2 ^ 9 := by decide +kernel
  intro d hd i hi
  obtain ⟨h1, h2⟩ := key d (by omega) i (by omega) hi
  exact ⟨_, h1, h2⟩
theorem blo_fq {D : Rat} (hP : ∀ j : Nat, Fq 0 213 (D * P[j]?.getD 0)) (hu : ∀ u ∈ us, Fq 2 40 u) (hl : P.length ≤ us.length + 1) (h4 : us.length ≤ 4) : Fq 9 400 (D * blo P us) := by
  have hF := esy_fq us [1] 0 1 hu (fun j => by
    cases j with
    | zero => exact Fq.one
    | succ j => exact Fq.zero')
  have key : ∀ i, i ≤ us.length + 1 → Fq 9 (388 + i) (D * bto P (esy [1] us) us.length i) := by
    intro i
    induction i with
    | zero => intro _; rw [bto, Rat.mul_zero]; exact Fq.zero'
    | succ i ih =>
      intro hi
      have h1 := ih (by omega)
      have h2 := ((hP i).mul ((hF i).mul (bin4 us.length h4 i (by omega)))).up (e' := 9) (n' := 388) (by omega) (by omega)
      rw [bto]
      have e : D * (bto P (esy [1] us) us.length i + P[i]?.getD 0 * ((esy [1] us)[i]?.getD 0 * Rat.divInt 1 (bin us.length i : Nat))) = D * bto P (esy [1] us) us.length i + D * P[i]?.getD 0 * ((esy [1] us)[i]?.getD 0 * Rat.divInt 1 (bin us.length i : Nat)) := by grind
      rw [e]
      exact (h1.add (h2.up (e' := 9) (n' := 388 + i) (by omega) (by omega))).up (by omega) (by omega)
  exact (key P.length hl).up (by omega) (by omega)
/-! knots put in -/
theorem Kn.wkn (hk : Kn d T) (hd : d ≤ p) (hl : p + d + 1 < T.length) (h1 : T.getD p 0 ≤ y) (h2 : y < T.getD (p + 1) 0) (hc : T.getD (p - d) 0 < y) : Kn d (wknT T p y) := by
  have hT : Up T := fun i j hij hj => hk.mono hij hj
  have hu := wkn_up hT (by omega) h1 (by grind)
  have hlen := wkn_len (T := T) (p := p) (y := y) (by omega)
  refine ⟨fun i hi => hu i (i + 1) (by omega) hi, fun i hi => ?_⟩
  rw [hlen] at hi
  rcases Nat.lt_or_ge (i + d) p with c1 | c1
  · rw [wkn_lo (by omega) (by omega), wkn_lo (by omega) (by omega)]
    exact hk.2 i (by omega)
  · by_cases c2 : i + d = p
    · rw [wkn_lo (by omega) (by omega), c2, wkn_at (by omega), show i = p - d by omega]
      exact hc
    · rcases Nat.lt_or_ge p i with c3 | c3
      · rw [wkn_hi (by omega) (by omega)]
        by_cases c4 : i = p + 1
        · subst c4
          rw [wkn_at (by omega)]
          have := hT (p + 1) (p + 1 + d) (by omega) (by omega)
          grind
        · obtain ⟨m, rfl⟩ : ∃ m, i = m + 1 := ⟨i - 1, by omega⟩
          rw [wkn_hi (by omega) (by omega), show m + 1 + d = m + d + 1 by omega]
          exact hk.2 m (by omega)
      · rw [wkn_lo (by omega) c3, wkn_hi (by omega) (by omega)]
        have u1 := hT i p c3 (by omega)
        have u2 := hT (p + 1) (i + d) (by omega) (by omega)
        grind
/-- a spline that came of another one by knots put in -/
structure Ref (d : Nat) (T0 R0 T R : List Rat) : Prop where
  kn : Kn d T
  lo : 2 * d + 2 ≤ T.length
  hi : T.length ≤ 16
  fst : T.getD 0 0 = T.getD d 0
  lst : T.getD (T.length - 1) 0 = T.getD (T.length - d - 1) 0
  rl : R.length + d + 1 = T.length
  sub : ∀ v ∈ T0, v ∈ T
  e0 : T.getD 0 0 = T0.getD 0 0
  e1 : T.getD (T.length - 1) 0 = T0.getD (T0.length - 1) 0
  fq : ∀ v ∈ T, Fq 2 40 v
  fn : ∀ x, T0.getD 0 0 ≤ x → x < T0.getD (T0.length - 1) 0 → spF d T R x = spF d T0 R0 x
  fin : R.getD (R.length - 1) 0 = R0.getD (R0.length - 1) 0
theorem Ref.refl (hs : Spl d T R) : Ref d T R T R := ⟨hs.kn, hs.lo, hs.hi, hs.fst, hs.lst, hs.rl, fun _ h => h, rfl, rfl, fun v hv => (hs.tb v hv).up (by omega) (by omega), fun _ _ _ => rfl, rfl⟩
theorem Ref.up (hr : Ref d T0 R0 T R) : Up T := fun i j hij hj => hr.kn.mono hij hj
/-- each number belongs to a span -/
theorem Ref.active (hr : Ref d T0 R0 T R) (hj : j < R.length) : ∃ q, j ≤ q ∧ q ≤ j + d ∧ d ≤ q ∧ q + d + 1 < T.length ∧ T.getD q 0 < T.getD (q + 1) 0 := by
  have hT := hr.up
  have hrl := hr.rl
  have hlo := hr.lo
  have key : ∀ n, T.getD j 0 < T.getD (j + n) 0 → j + n < T.length → ∃ q, j ≤ q ∧ q < j + n ∧ T.getD q 0 < T.getD (q + 1) 0 := by
    intro n
    induction n with
    | zero => intro h _; rw [Nat.add_zero] at h; grind
    | succ n ih =>
      intro h hn
      by_cases c : T.getD j 0 < T.getD (j + n) 0
      · obtain ⟨q, a, b, c⟩ := ih c (by omega)
        exact ⟨q, a, by omega, c⟩
      · exact ⟨j + n, by omega, by omega, by rw [show j + n + 1 = j + (n + 1) by omega]; grind⟩
  obtain ⟨q, a, b, c⟩ := key (d + 1) (by have := hr.kn.2 j (by omega); rw [show j + (d + 1) = j + d + 1 by omega]; exact this) (by omega)
  refine ⟨q, a, by omega, ?_, ?_, c⟩
  · rcases Nat.lt_or_ge q d with z | z
    · have u1 := hT 0 q (by omega) (by omega)
      have u2 := hT (q + 1) d (by omega) (by omega)
      have := hr.fst
      grind
    · exact z
  · rcases Nat.lt_or_ge (q + d + 1) T.length with z | z
    · exact z
    · have u1 := hT (T.length - d - 1) q (by omega) (by omega)
      have u2 := hT (q + 1) (T.length - 1) (by omega) (by omega)
      have := hr.lst
      grind
theorem Ref.piece (hs : Spl d T0 R0) (hr : Ref d T0 R0 T R) (hq : d ≤ q) (hql : q + d + 1 < T.length) (hlt : T.getD q 0 < T.getD (q + 1) 0) :
    InSp T0 (T.getD q 0) (spn T0 (T.getD q 0) (T0.length - 1)) d ∧ T.getD (q + 1) 0 ≤ T0.getD (spn T0 (T.getD q 0) (T0.length - 1) + 1) 0 := by
  have hT := hr.up
  have hrl := hr.rl
  have hlo := hr.lo
  have u1 := hT 0 q (by omega) (by omega)
  have u2 := hT (q + 1) (T.length - 1) (by omega) (by omega)
  have he0 := hr.e0
  have he1 := hr.e1
  have hsp := inSpw hs.w (x := T.getD q 0) (by grind) (by grind)
  have hlt0 := spn_lt hs.w (x := T.getD q 0) (by grind) (by grind)
  refine ⟨hsp, ?_⟩
  have hle := hsp.le
  generalize spn T0 (T.getD q 0) (T0.length - 1) = r at *
  have hm : T0.getD (r + 1) 0 ∈ T := hr.sub _ (by
    rw [List.getD_eq_getElem?_getD, List.getElem?_eq_getElem (by omega)]
    exact List.getElem_mem _)
  obtain ⟨m, hml, hme⟩ := List.mem_iff_getElem.mp hm
  have hg : T.getD m 0 = T0.getD (r + 1) 0 := by
    rw [← hme, List.getD_eq_getElem?_getD, List.getElem?_eq_getElem hml]; rfl
  rw [← hg]
  refine hT (q + 1) m ?_ hml
  refine Classical.byContradiction fun z => ?_
  have := hT m q (by omega) (by omega)
  grind
theorem Ref.fnp (hs : Spl d T0 R0) (hr : Ref d T0 R0 T R) (hq : d ≤ q) (hql : q + d + 1 < T.length) (hlt : T.getD q 0 < T.getD (q + 1) 0) (h1 : T.getD q 0 ≤ x) (h2 : x < T.getD (q + 1) 0) :
    spF d T R x = pe (pcP T0 R0 d (spn T0 (T.getD q 0) (T0.length - 1))) x := by
  obtain ⟨hsp, hle⟩ := hr.piece hs hq hql hlt
  have hT := hr.up
  have hrl := hr.rl
  have hlo := hr.lo
  have u1 := hT 0 q (by omega) (by omega)
  have u2 := hT (q + 1) (T.length - 1) (by omega) (by omega)
  have he0 := hr.e0
  have he1 := hr.e1
  have hlo' := hsp.lo
  rw [hr.fn x (by grind) (by grind)]
  exact spF_piece hs.up' hs.rl hsp.ge hsp.le (by grind) (by grind)
theorem Ref.row (hs : Spl d T0 R0) (hr : Ref d T0 R0 T R) (hq : d ≤ q) (hql : q + d + 1 < T.length) (hlt : T.getD q 0 < T.getD (q + 1) 0) :
    ∀ j, q - d ≤ j → j ≤ q → R.getD j 0 = blo (pcP T0 R0 d (spn T0 (T.getD q 0) (T0.length - 1))) (win T (j + 1) d) :=
  spF_dual hr.up hr.rl hq hql hlt (pcN_len (d + 1)) fun x h1 h2 => hr.fnp hs hq hql hlt h1 h2
/-- the knots tell the numbers -/
theorem Ref.uniq (hs : Spl d T0 R0) (h1 : Ref d T0 R0 T R) (h2 : Ref d T0 R0 T R1) : R = R1 := by
  have l1 := h1.rl
  have l2 := h2.rl
  apply List.ext_getElem?
  intro j
  by_cases hj : j < R.length
  · obtain ⟨q, a, b, c, e, f⟩ := h1.active hj
    have r1 := h1.row hs c e f j (by omega) a
    have r2 := h2.row hs c e f j (by omega) a
    rw [← r2] at r1
    rw [List.getD_eq_getElem?_getD, List.getD_eq_getElem?_getD, List.getElem?_eq_getElem hj, List.getElem?_eq_getElem (by omega : j < R1.length)] at r1
    rw [List.getElem?_eq_getElem hj, List.getElem?_eq_getElem (by omega : j < R1.length)]
    exact congrArg some r1
  · rw [List.getElem?_eq_none (by omega), List.getElem?_eq_none (by omega)]
theorem Ref.rfam (hs : Spl d T0 R0) (hr : Ref d T0 R0 T R) : Rfam d T R := fun q hq hql hlt => by
  obtain ⟨hsp, hle⟩ := hr.piece hs hq hql hlt
  have hrow := hr.row hs hq hql hlt
  have hdl := hs.dl
  generalize spn T0 (T.getD q 0) (T0.length - 1) = r at *
  have hsl := hsp.le
  obtain ⟨D, d0, d1, hD⟩ := pcN_cn (R := R0) (hs.spn (p := r) (by omega) (by have := hsp.lt; grind)) (fun q hq => (hs.rb q hq).up (by omega) (by omega))
  refine ⟨D, d0, lt_pow d1 (by omega), fun j h1 h2 => ?_⟩
  rw [hrow j h1 h2]
  refine blo_fq (fun i => ?_) (win_mem fun i => getD_fq hr.fq i) (by rw [win_len]; exact pcN_len (d + 1)) (by rw [win_len]; exact hdl)
  cases hi : (pcP T0 R0 d r)[i]? with
  | none => rw [Option.getD_none, Rat.mul_zero]; exact Fq.zero'
  | some v =>
    have hb : (d + 1) * 2 ^ 209 < 2 ^ 213 := by
      have := Nat.mul_le_mul_right (2 ^ 209) (show d + 1 ≤ 5 by omega)
      omega
    exact fq_scale (hD (d + 1)) hb _ (List.mem_map.mpr ⟨v, List.mem_of_getElem? hi, rfl⟩)
theorem Ref.spw (hs : Spl d T0 R0) (hr : Ref d T0 R0 T R) : Spw 40 400 d T R := by
  refine ⟨hs.dl, hr.kn, hr.lo, hr.hi, hr.fst, hr.lst, hr.rl, fun q hq => (hr.fq q hq).bd (by omega) (by omega), fun v hv => ?_⟩
  obtain ⟨j, hj, rfl⟩ := List.mem_iff_getElem.mp hv
  obtain ⟨q, a, b, c, e, f⟩ := hr.active hj
  obtain ⟨D, d0, d1, hD⟩ := hr.rfam hs q c e f
  have := hD j (by omega) a
  rw [List.getD_eq_getElem?_getD, List.getElem?_eq_getElem hj] at this
  exact bd_fam d0 d1 this (by omega) (by omega)
theorem rep_count {v : Rat} : ∀ (L : List Rat) (a n : Nat), (∀ i, a ≤ i → i < a + n → L[i]? = some v) → n ≤ L.count v
  | L, a, 0, _ => Nat.zero_le _
  | [], a, n + 1, h => by have := h a (by omega) (by omega); simp at this
  | w :: L, 0, n + 1, h => by
    have h0 := h 0 (by omega) (by omega)
    simp at h0
    subst h0
    have := rep_count (v := w) L 0 n fun i _ hi => by
      have := h (i + 1) (by omega) (by omega)
      simpa using this
    rw [List.count_cons_self]; omega
  | w :: L, a + 1, n + 1, h => by
    have := rep_count (v := v) L a (n + 1) fun i h1 h2 => by
      have := h (i + 1) (by omega) (by omega)
      simpa using this
    exact Nat.le_trans this List.count_le_count_cons
theorem Ref.step (hs : Spl d T0 R0) (hr : Ref d T0 R0 T R) (hy : Fq 2 40 y) (h0 : T.getD 0 0 < y) (h1 : y < T.getD (T.length - 1) 0) (hc : T.count y ≤ d) (hl : T.length ≤ 15) (hk : 4 ≤ k) :
    ∃ p, InSp T y p d ∧ y < T.getD (p + 1) 0 ∧ Ref d T0 R0 (wknT T p y) (wknR T R d p y) ∧ callF G k 176 [splv d T R, fr y] h = .ok (splv d (wknT T p y) (wknR T R d p y)) h := by
  have hw := hr.spw hs
  have hsp := inSpw hw (x := y) (by grind) (by grind)
  have hlt := spn_lt hw (x := y) (by grind) h1
  have hwk := with_knot_ok (k := k) (h := h) hw hsp rfl (hy.bd (by omega) (by omega)) (by omega) (by omega) (by omega) hk
  refine ⟨spn T y (T.length - 1), hsp, hlt, ?_, hwk⟩
  generalize spn T y (T.length - 1) = p at *
  have hge := hsp.ge
  have hle := hsp.le
  have hT := hr.up
  have hrl := hr.rl
  have hlo := hr.lo
  have hplo := hsp.lo
  have hlen := wkn_len (T := T) (p := p) (y := y) (by omega)
  have hRl : (wknR T R d p y).length = R.length + 1 := tbl_len _ _
  have hcy : T.getD (p - d) 0 < y := by
    refine Classical.byContradiction fun z => ?_
    have := rep_count (v := y) T (p - d) (d + 1) fun i g1 g2 => by
      have u1 := hT (p - d) i g1 (by omega)
      have u2 := hT i p (by omega) (by omega)
      rw [List.getD_eq_getElem?_getD, List.getD_eq_getElem?_getD] at u1 u2
      rw [List.getD_eq_getElem?_getD] at z hplo
      rw [List.getElem?_eq_getElem (by omega : i < T.length)] at u1 u2 ⊢
      simp only [Option.getD_some] at u1 u2
      congr 1
      grind
    omega
  refine ⟨hr.kn.wkn hge hle hplo hlt hcy, by omega, by omega, ?_, ?_, by omega, fun v hv => ?_, ?_, ?_, fun v hv => ?_, fun x g1 g2 => ?_, ?_⟩
  · rw [wkn_lo (by omega) (by omega), wkn_lo (by omega) (by omega)]; exact hr.fst
  · rw [hlen, show T.length + 1 - 1 = (T.length - 1) + 1 by omega, wkn_hi (by omega) (by omega), show T.length + 1 - d - 1 = (T.length - d - 1) + 1 by omega, wkn_hi (by omega) (by omega)]
    exact hr.lst
  · have := hr.sub v hv
    rw [← List.take_append_drop (p + 1) T] at this
    rw [wknT]
    simp only [List.mem_append, List.mem_cons] at this ⊢
    grind
  · rw [wkn_lo (by omega) (by omega)]; exact hr.e0
  · rw [hlen, show T.length + 1 - 1 = (T.length - 1) + 1 by omega, wkn_hi (by omega) (by omega)]; exact hr.e1
  · rw [wknT] at hv
    rcases List.mem_append.mp hv with hv | hv
    · exact hr.fq v (List.mem_of_mem_take hv)
    · rcases List.mem_cons.mp hv with rfl | hv
      · exact hy
      · exact hr.fq v (List.mem_of_mem_drop hv)
  · rw [← hr.fn x g1 g2]
    have he0 := hr.e0
    have he1 := hr.e1
    have hq := inSpw hw (x := x) (by grind) (by grind)
    exact boehm hT hrl hge hle hplo hlt hq.ge hq.le hq.lo (spn_lt hw (by grind) (by grind))
  · rw [hRl, ← hr.fin, wknR, List.getD_eq_getElem?_getD, tbl, List.getElem?_map, List.getElem?_range' (by omega)]
    simp only [Option.map_some, Option.getD_some]
    rw [wknC, if_neg (by omega), if_pos (by omega)]
    congr 1; omega
end
end PB
set_option Elab.async false
set_option linter.all false
set_option maxRecDepth 100000
set_option maxHeartbeats 4000000
set_option exponentiation.threshold 100000
namespace PB
open PySem
section
variable {k : Nat} {h t : PH} {o : PO} {n m b c d e p i j : Nat} {x y q : Rat} {xs ys us T R T0 R0 P : List Rat}
theorem lsorted_pol (hb : AllB b xs) (hz : b < 3000) (h1 : 1 ≤ b) (hl : xs.length ≤ 500) :
    ∃ r u, h.length ≤ r ∧ callF G (k + 3) 150 [pol xs] h = .ok (.ref r) (h ++ u) ∧ (h ++ u)[r]? = some (.lst (frs (isort xs))) ∧ ∀ c ∈ u, PO.low 0 c = true := by
  obtain ⟨s', h', e1, r, s2, s3, ds, u, d1, d2, d3, d4, d5, d6⟩ := frL_inv (g := asT (callF G (k + 2)) (.v 2)) (b := evB (callF G (k + 2)) soL) (l := []) fr
    (fun rest s H => ∃ r s2 s3 ds u, ds ++ rest = xs ∧ s = [some (pol xs), some (.ref r), s2, s3] ∧ H = h ++ u ∧ H[r]? = some (.lst (frs (isort ds))) ∧ (∀ c ∈ u, PO.low 0 c = true) ∧ h.length ≤ r)
    (fun rest s H ⟨r, s2, s3, ds, u, d1, d2, d3, d4, d5, d6⟩ => by
      subst d3
      rfl)
    (fun q rest s H ⟨r, s2, s3, ds, u, d1, d2, d3, d4, d5, d6⟩ => by
      subst d2
      have hq : Bd b q := hb q (by rw [← d1]; simp)
      have hds : AllB b (isort ds) := fun z hz => hb z (by rw [← d1]; exact List.mem_append_left _ ((isort_perm ds).mem_iff.mp hz))
      have hll : (isort ds).length = ds.length := (isort_perm ds).length_eq
      have hdl : ds.length + 1 ≤ xs.length := by rw [← d1]; simp
      have w := so_while (k := k) (s0 := some (pol xs)) d4 hds hq hz h1 (by omega)
      have hle := insN_le q (isort ds)
      have hrl := (List.getElem?_eq_some_iff.mp d4).1
      have hM : many = 1000000 := rfl
      obtain ⟨F, hF⟩ : ∃ F, F = isort ds := ⟨_, rfl⟩
      rw [← hF] at d4 w hle hll hds
      obtain ⟨j, hj⟩ : ∃ j, j = insN q F := ⟨_, rfl⟩
      rw [← hj] at w hle
      have hf1 : frs (F.take j) ++ [fr q] = frs (F.take j ++ [q]) := by
        show (F.take j).map fr ++ [fr q] = (F.take j ++ [q]).map fr
        rw [List.map_append]; rfl
      have hfin : frs (F.take j ++ [q]) ++ frs (F.drop j) = frs (isort (ds ++ [q])) := by
        rw [isort_snoc, ← hF, ins_eq, ← hj, frs_app, List.append_assoc]; try rfl
      refine ⟨[some (pol xs), some (.ref (H.length + 4)), some (fr q), some (.int (j : Nat))], H ++ [.lst (frs (F.take j)), .lst [fr q], .lst (frs (F.take j ++ [q])), .lst (frs (F.drop j)), .lst (frs (isort (ds ++ [q])))], ?_, H.length + 4, _, _, ds ++ [q], u ++ [.lst (frs (F.take j)), .lst [fr q], .lst (frs (F.take j ++ [q])), .lst (frs (F.drop j)), .lst (frs (isort (ds ++ [q])))], by simpa using d1, rfl, by rw [d3, List.append_assoc], by simp, fun c hc => ?_, by rw [d3]; simp; omega⟩
      · have s1 : slcop (.ref r) none (some (j : Int)) H = .ok (.ref H.length) (H ++ [.lst (frs (F.take j))]) := by
          simp only [slcop, d4, alloc]; rw [cut_to (by simpa using hle), frs_take]
        have d4' : (H ++ [PO.lst (frs (F.take j)), .lst [fr q], .lst (frs (F.take j ++ [q]))])[r]? = some (.lst (frs F)) := by rw [List.getElem?_append_left hrl]; exact d4
        have s2' : slcop (.ref r) (some (j : Int)) none (H ++ [PO.lst (frs (F.take j)), .lst [fr q], .lst (frs (F.take j ++ [q]))]) = .ok (.ref (H.length + 3)) (H ++ [PO.lst (frs (F.take j)), .lst [fr q], .lst (frs (F.take j ++ [q])), .lst (frs (F.drop j))]) := by
          simp only [slcop, d4', alloc]; rw [cut_from, frs_drop]; simp
        have a1 : binop .add (.ref H.length) (.ref (H.length + 1)) (H ++ [PO.lst (frs (F.take j)), .lst [fr q]]) = .ok (.ref (H.length + 2)) (H ++ [PO.lst (frs (F.take j)), .lst [fr q], .lst (frs (F.take j ++ [q]))]) := by
          have g1 : (H ++ [PO.lst (frs (F.take j)), .lst [fr q]])[H.length]? = some (.lst (frs (F.take j))) := by simp
          have g2 : (H ++ [PO.lst (frs (F.take j)), .lst [fr q]])[H.length + 1]? = some (.lst [fr q]) := by simp
          simp only [binop, g1, g2, alloc, hf1]
          rw [if_pos (by simp [many]; omega)]; simp
        have a2 : binop .add (.ref (H.length + 2)) (.ref (H.length + 3)) (H ++ [PO.lst (frs (F.take j)), .lst [fr q], .lst (frs (F.take j ++ [q])), .lst (frs (F.drop j))]) = .ok (.ref (H.length + 4)) (H ++ [PO.lst (frs (F.take j)), .lst [fr q], .lst (frs (F.take j ++ [q])), .lst (frs (F.drop j)), .lst (frs (isort (ds ++ [q])))]) := by
          have g1 : (H ++ [PO.lst (frs (F.take j)), .lst [fr q], .lst (frs (F.take j ++ [q])), .lst (frs (F.drop j))])[H.length + 2]? = some (.lst (frs (F.take j ++ [q]))) := by simp
          have g2 : (H ++ [PO.lst (frs (F.take j)), .lst [fr q], .lst (frs (F.take j ++ [q])), .lst (frs (F.drop j))])[H.length + 3]? = some (.lst (frs (F.drop j))) := by simp
          simp only [binop, g1, g2, alloc, hfin]
          rw [if_pos (by simp [many]; omega)]; simp
        generalize callF G (k + 2) = cf at *
        simp only [soL, asT_v, bind_ok', List.set_cons_succ, List.set_cons_zero, evB_cons, evB_nil, evS_asg, evE_con, evS_whl, w, evE_bin, evE_slc, evO_none, evO_some, evE_vs, evE_v0, optI, s1, evE_lst, evA_cons, evA_nil]
        simp [hM, alloc, a1, s2', a2, optI, evE_vs]
      · rcases List.mem_append.mp hc with hc | hc
        · exact d5 c hc
        · simp only [List.mem_cons, List.mem_nil_iff, or_false] at hc
          rcases hc with rfl | rfl | rfl | rfl | rfl <;> first | exact low_lst_frs | exact low_lst_frs (xs := [q]) | exact lows_frs) xs [some (pol xs), some (.ref h.length), none, none] (h ++ [.lst []]) ⟨h.length, none, none, [], [.lst []], rfl, rfl, rfl, by simp [isort], by simp [PO.low, PV.lows], Nat.le_refl _⟩
  rw [List.append_nil] at d1
  subst d2; subst d3
  rw [d1] at d4
  rw [map_fr] at e1
  refine ⟨r, u, d6, ?_, d4, d5⟩
  rw [callF_eq (f := f__law_sorted) rfl rfl]
  have hM : many = 1000000 := rfl
  have hk : keepP h (h ++ u) (.ref r) = h ++ u := by
    unfold keepP
    rw [if_neg]
    simp only [PV.low, decide_eq_true_eq]
    omega
  simp only [soL, soC, soB] at e1
  simp only [f__law_sorted, c__law_sorted]
  simp [hM, alloc, List.replicate, e1]
  exact hk
/-! the law's and the program's walks -/
theorem eqD_one {x : PV} (hx : plain 12 x = true) : eqD h x x = some true := by rw [eqD_plain hx hx]; simp
theorem isort_id (hs : xs.Pairwise (· ≤ ·)) : isort xs = xs :=
  (isort_perm xs).eq_of_pairwise (fun a b _ _ h1 h2 => Rat.le_antisymm h1 h2) (isort_sorted xs) hs
theorem up_pw (hT : Up T) : T.Pairwise (· ≤ ·) := by
  rw [List.pairwise_iff_getElem]
  intro i j hi hj hij
  have := hT i j (by omega) hj
  rw [List.getD_eq_getElem?_getD, List.getD_eq_getElem?_getD, List.getElem?_eq_getElem hi, List.getElem?_eq_getElem hj] at this
  exact this
theorem need_inner_ok (hT : AllB b T) (hx : Bd b x) (hb : b ≤ 2000) (hb1 : 1 ≤ b) (h1 : 1 ≤ T.length) (h2 : T.length ≤ 100) (g0 : T.getD 0 0 < x) (g1 : x < T.getD (T.length - 1) 0) (hk : 4 ≤ k) : callF G k 177 [splv d T R, fr x] h = .ok .non h := by
  obtain ⟨k, rfl⟩ := Nat.exists_eq_add_of_le hk
  rw [Nat.add_comm]
  have i0 : ∀ H, idxop (pol T) (.int 0) H = .ok (fr (T.getD 0 0)) H := fun H => idx_pol (T := T) (h := H) (i := 0) (by omega)
  have i1 := fun H => idx_poln (h := H) (T := T) (z := -1) (by decide) (by omega)
  rw [show (-1 + (T.length : Int)).toNat = T.length - 1 by omega] at i1
  have b0 := getD_bd hT hb1 0
  have b1 := getD_bd hT hb1 (T.length - 1)
  have e : callF G (k + 3) 175 [splv d T R, fr x] h = .ok (.bl true) h := by
    refine of_to ?_
    rw [callF_eq (f := f_is_inner) rfl rfl, to_bind]
    simp only [f_is_inner, c_is_inner]
    generalize T.getD 0 0 = a at *
    generalize T.getD (T.length - 1) 0 = z at *
    have e0 := fun H => is_ratio_ok (k := k) (h := H) (x := x)
    have e1 := fun H => below_ok (k := k + 1) (h := H) b0 hx (by omega)
    have e2 := fun H => below_ok (k := k + 1) (h := H) hx b1 (by omega)
    simp [splv, i0, i1, e0, e1, e2, g0, g1]
  refine of_to ?_
  rw [callF_eq (f := f_need_inner) rfl rfl, to_bind]
  simp only [f_need_inner, c_need_inner]
  simp [e]
/-- a knot is put in -/
theorem inserted_ok (hs : Spl d T0 R0) (hr : Ref d T0 R0 T R) (hy : Fq 2 40 y) (h0 : T.getD 0 0 < y) (h1 : y < T.getD (T.length - 1) 0) (hc : T.count y ≤ d) (hl : T.length ≤ 15) (hk : 5 ≤ k) :
    ∃ T' R', Ref d T0 R0 T' R' ∧ T'.Perm (y :: T) ∧ T'.length = T.length + 1 ∧ callF G k 178 [splv d T R, fr y] h = .ok (splv d T' R') h := by
  obtain ⟨k, rfl⟩ := Nat.exists_eq_add_of_le hk
  rw [Nat.add_comm 5 k]
  obtain ⟨p, hp, hlt, hr', e⟩ := hr.step (k := k + 4) (h := h) hs hy h0 h1 hc hl (by omega)
  have hle := hp.le
  refine ⟨_, _, hr', ?_, wkn_len (T := T) (p := p) (y := y) (by omega), ?_⟩
  · rw [wknT]
    refine List.perm_middle.trans ?_
    rw [List.take_append_drop]
  have hw := hr.spw hs
  have hlo := hr.lo
  have e1 := need_spline_w (k := k + 4) (h := h) hw (by omega) (by omega)
  have e2 := need_inner_ok (k := k + 4) (h := h) (d := d) (R := R) hw.tb (hy.bd (m := 40) (by omega) (by omega)) (by omega) (by omega) (by omega) (by omega) h0 h1 (by omega)
  have hspl : ∀ H s, (asT (callF G (k + 4)) (.cons (.v 2) (.cons (.v 3) (.cons (.v 4) .nil))) (splv d T R) s H) = .ok (((s.set 2 (some (.int d))).set 3 (some (pol T))).set 4 (some (pol R))) H := fun H s => by simp [splv]
  refine of_to ?_
  rw [callF_eq (f := f_inserted) rfl rfl, to_bind]
  simp only [f_inserted, c_inserted]
  have c1 : ¬ (d : Int) < (T.count y : Int) := by omega
  have c2 : ¬ (T.length : Int) = 16 := by omega
  simp [e1, e2, hspl, List.replicate, mth_count, c1, eqD_int, c2, e]
  exact keepP_len rfl
theorem tpl_same {a b c d : Rat} (h1 : a = c) (h2 : b = d) : ∀ H, eqD H (.tup [fr a, fr b]) (.tup [fr c, fr d]) = some true := fun H => by
  subst h1; subst h2
  refine eqD_one ?_
  show plain 12 (pol [a, b]) = true
  exact plain_pol
/-- the law's test of a spline's form -/
theorem lfits_spline_ok (hw : Spw b c d T R) (hb : b < 3000) (hb1 : 1 ≤ b) (hk : 4 ≤ k) : callF G k 180 [splv d T R] h = .ok (.bl true) h := by
  obtain ⟨k, rfl⟩ := Nat.exists_eq_add_of_le hk
  rw [Nat.add_comm]
  have hlo := hw.lo
  have hhi := hw.hi
  have hrl := hw.rl
  have hdl := hw.dl
  refine of_to ?_
  rw [callF_eq (f := f__law_fits_spline) rfl rfl, to_bind]
  simp only [f__law_fits_spline, c__law_fits_spline]
  have hspl : ∀ H s, (asT (callF G (k + 3)) (.cons (.v 1) (.cons (.v 2) (.cons (.v 3) .nil))) (splv d T R) s H) = .ok (((s.set 1 (some (.int d))).set 2 (some (pol T))).set 3 (some (pol R))) H := fun H s => by simp [splv]
  obtain ⟨r, u, hrl', e1, e2, e3⟩ := lsorted_pol (k := k) (h := h ++ [.lst (frs T)]) (xs := T) hw.tb hb hb1 (by omega)
  rw [isort_id (up_pw hw.up)] at e2
  have c0 : ∀ H, blt .isTup [splv d T R] H = .ok (.bl true) H := fun H => rfl
  have c2 : ∀ H (L : List Rat), blt .isTup [pol L] H = .ok (.bl true) H := fun H L => rfl
  have c3 : ∀ H, blt .list [pol T] H = .ok (.ref H.length) (H ++ [.lst (frs T)]) := fun H => rfl
  have c4 : ∀ H (L : List Rat), blt .len [pol L] H = .ok (.int (L.length : Nat)) H := fun H L => by simp [blt]
  have hM : many = 1000000 := rfl
  have c1 : (R.length : Int) = (T.length : Int) - (d : Int) - 1 := by omega
  have g1 : (h ++ [PO.lst (frs T)] ++ u)[h.length]? = some (.lst (frs T)) := by simp
  have q1 : eqD (h ++ [PO.lst (frs T)] ++ u) (.ref h.length) (.ref r) = some true := by
    rw [eqD_lst g1 e2 plains_frs plains_frs]; simp
  have i0 : ∀ H, idxop (pol T) (.int 0) H = .ok (fr (T.getD 0 0)) H := fun H => idx_pol (T := T) (h := H) (i := 0) (by omega)
  have i1 := fun H => idx_poln (h := H) (T := T) (z := -1) (by decide) (by omega)
  rw [show (-1 + (T.length : Int)).toNat = T.length - 1 by omega] at i1
  have i2 : ∀ H, idxop (pol T) (.int (d : Nat)) H = .ok (fr (T.getD d 0)) H := fun H => idx_pol (T := T) (h := H) (i := d) (by omega)
  have i3 := fun H => idx_pol (T := T) (h := H) (i := T.length - d - 1) (by omega)
  rw [show ((T.length - d - 1 : Nat) : Int) = (T.length : Int) - 1 - (d : Int) by omega, ← hw.lst] at i3
  rw [← hw.fst] at i2
  generalize T.getD 0 0 = a at *
  generalize T.getD (T.length - 1) 0 = z at *
  have k1 : keepP h (h ++ [PO.lst (frs T)] ++ u) (.bl true) = h := by rw [List.append_assoc]; exact keep_app' rfl
  simp only [List.append_assoc, List.cons_append, List.nil_append] at e1 q1 k1
  simp [hspl, List.replicate, c0, c1, c2, c3, c4, e1, q1, i0, i1, i2, i3, eqD_fr, eqD_int, k1]
end
end PB
set_option Elab.async false
set_option linter.all false
set_option maxRecDepth 100000
set_option maxHeartbeats 4000000
set_option exponentiation.threshold 100000
namespace PB
open PySem
section
variable {k : Nat} {h t : PH} {o : PO} {n m b c d e p i j : Nat} {x y q : Rat} {xs ys us T R T0 R0 P O L F M : List Rat}
/-! sorted lists within sorted lists -/
theorem sub_sorted : ∀ (O T : List Rat), O.Pairwise (· ≤ ·) → T.Pairwise (· ≤ ·) → (∀ v, T.count v ≤ O.count v) → T.Sublist O
  | [], T, _, _, hc => by
    cases T with
    | nil => exact List.Sublist.slnil
    | cons a l => have := hc a; simp at this
  | x :: r, [], _, _, _ => List.nil_sublist _
  | x :: r, a :: l, hO, hT, hc => by
    rw [List.pairwise_cons] at hO
    by_cases e : a = x
    · subst e
      refine List.Sublist.cons_cons a (sub_sorted r l hO.2 (List.pairwise_cons.mp hT).2 fun v => ?_)
      have := hc v
      rw [List.count_cons, List.count_cons] at this
      omega
    · refine List.Sublist.cons x (sub_sorted r (a :: l) hO.2 hT fun v => ?_)
      have h1 := hc v
      by_cases hv : v = x
      · subst hv
        have ha : a ∈ v :: r := List.count_pos_iff.mp (Nat.lt_of_lt_of_le (List.count_pos_iff.mpr (by simp)) (hc a))
        have hva : v < a := by
          rcases List.mem_cons.mp ha with z | z
          · exact absurd z e
          · have := hO.1 a z
            grind
        have : (a :: l).count v = 0 := List.count_eq_zero.mpr fun hm => by
          rcases List.mem_cons.mp hm with z | z
          · exact e z.symm
          · have := (List.pairwise_cons.mp hT).1 v z
            grind
        omega
      · rw [List.count_cons_of_ne (fun z => hv z.symm)] at h1
        exact h1
theorem miss_step (hs : L.Sublist (x :: xs)) : (∃ l, L = x :: l ∧ l.Sublist xs) ∨ ((∀ l, L ≠ x :: l) ∧ L.Sublist xs) := by
  cases L with
  | nil => exact .inr ⟨fun l z => by simp at z, List.nil_sublist _⟩
  | cons a l =>
    by_cases e : a = x
    · subst e
      exact .inl ⟨l, rfl, List.Sublist.of_cons_cons hs⟩
    · refine .inr ⟨fun l' z => e (List.cons.inj z).1, ?_⟩
      cases hs with
      | cons _ h => exact h
      | cons_cons _ h => exact absurd rfl e
theorem frs_nil_iff : frs L = [] ↔ L = [] := List.map_eq_nil_iff
theorem missing_to {Q : PV → PH → Prop} (hs : T.Sublist O) (hl : O.length ≤ 100) (hk : 1 ≤ k) (q : ∀ (M : List Rat) (u : PH), (T ++ M).Perm O → (∀ c ∈ u, PO.low 0 c = true) → Q (.ref (h.length + 1)) (h ++ .lst [] :: .lst (frs M) :: u)) : (callF G k 181 [pol T, pol O] h).To Q := by
  obtain ⟨k, rfl⟩ := Nat.exists_eq_add_of_le hk
  rw [Nat.add_comm]
  rw [callF_eq (f := f_missing) rfl rfl, to_bind]
  simp only [f_missing, c_missing]
  have hTl : T.length ≤ 100 := Nat.le_trans hs.length_le hl
  have hM : many = 1000000 := rfl
  have c3 : ∀ H, blt .list [pol T] H = .ok (.ref H.length) (H ++ [.lst (frs T)]) := fun H => rfl
  have G0 : ∀ (A : PO) (w : PH), (h ++ A :: w)[h.length]? = some A := fun A w => by simp
  have G1 : ∀ (A B : PO) (w : PH), (h ++ A :: B :: w)[h.length + 1]? = some B := fun A B w => by simp
  have S0 : ∀ (A X : PO) (w : PH), (h ++ A :: w).set h.length X = h ++ X :: w := fun A X w => by simp
  have S1 : ∀ (A B X : PO) (w : PH), (h ++ A :: B :: w).set (h.length + 1) X = h ++ A :: X :: w := fun A B X w => by simp
  have GE : ∀ (A B : PO) (w : PH), (h ++ A :: B :: (w ++ [.lst []]))[h.length + (w.length + 1 + 1)]? = some (.lst []) := fun A B w => by
    rw [List.getElem?_append_right (by omega), show h.length + (w.length + 1 + 1) - h.length = w.length + 1 + 1 by omega]
    simp
  have EQ : ∀ (L : List Rat) (B : PO) (w : PH), eqD (h ++ PO.lst (frs L) :: B :: (w ++ [.lst []])) (.ref h.length) (.ref (h.length + (w.length + 1 + 1))) = some (decide (L = [])) := fun L B w => by
    rw [eqD_lst (G0 _ _) (GE _ _ _) plains_frs (by simp [plains])]
    by_cases e : L = []
    · subst e; simp
    · rw [decide_eq_false e, decide_eq_false fun z => e (frs_nil_iff.mp z)]
  have EQc : ∀ (a : Rat) (l : List Rat) (B : PO) (w : PH), eqD (h ++ PO.lst (fr a :: frs l) :: B :: (w ++ [.lst []])) (.ref h.length) (.ref (h.length + (w.length + 1 + 1))) = some false := fun a l B w => by
    have := EQ (a :: l) B w
    rw [frs_cons, decide_eq_false (by simp)] at this
    exact this
  have EQn : ∀ (B : PO) (w : PH), eqD (h ++ PO.lst [] :: B :: (w ++ [.lst []])) (.ref h.length) (.ref (h.length + (w.length + 1 + 1))) = some true := fun B w => by
    have := EQ [] B w
    rw [frs_nil, decide_eq_true rfl] at this
    exact this
  have IX : ∀ (a : Rat) (l : List Rat) (w : PH), idxop (.ref h.length) (.int 0) (h ++ PO.lst (fr a :: frs l) :: w) = .ok (fr a) (h ++ PO.lst (fr a :: frs l) :: w) := fun a l w => by
    simp [idxop, items, L2.atI, L2.ixN]
  simp [alloc, List.replicate, c3]
  refine frL_l fr O (S := fun r s h' => ∃ u L F C s2, L.Sublist r ∧ T = C ++ L ∧ (C ++ F ++ r).Perm O ∧ s = [some (pol T), some (pol O), s2, some (.ref h.length), some (.ref (h.length + 1))] ∧ h' = h ++ .lst (frs L) :: .lst (frs F) :: u ∧ (∀ c ∈ u, PO.low 0 c = true) ∧ F.length + r.length ≤ 100) ⟨[], T, [], [], none, hs, rfl, by simp, rfl, by simp, by simp, by simpa using hl⟩ (fun r s h' _ => rfl) ?_ ?_
  · rintro x r s h' ⟨u, L, F, C, s2, a1, a2, a3, rfl, rfl, hu, hn⟩
    rw [List.length_cons] at hn
    have hu' : ∀ c ∈ u ++ [PO.lst []], PO.low 0 c = true := fun c hc => by
      rcases List.mem_append.mp hc with hc | hc
      · exact hu c hc
      · rw [List.mem_singleton] at hc; subst hc; rfl
    rcases miss_step a1 with ⟨l, rfl, hl2⟩ | ⟨hne, hl2⟩
    · simp [alloc, mth, G0, G1, S0, S1, EQc, EQn, hM, IX, eqD_fr]
      refine ⟨_, l, hl2, F, C ++ [x], by rw [a2, List.append_assoc]; rfl, ?_, ⟨rfl, rfl, rfl⟩, hu', by omega⟩
      refine List.Perm.trans ?_ a3
      rw [List.append_assoc, List.append_assoc]
      exact List.Perm.append_left C (show (x :: (F ++ r)).Perm (F ++ x :: r) from List.perm_middle.symm)
    · by_cases hL : L = []
      · subst hL
        simp [alloc, mth, G0, G1, S0, S1, EQc, EQn, hM, IX, eqD_fr]
        exact ⟨by omega, _, [], hl2, F ++ [x], C, a2, by simpa using a3, ⟨rfl, rfl, rfl⟩, hu', by simp; omega⟩
      · obtain ⟨a, l, rfl⟩ := List.exists_cons_of_ne_nil hL
        have hax : ¬ a = x := fun z => hne l (by rw [z])
        simp [alloc, mth, G0, G1, S0, S1, EQc, EQn, hM, IX, eqD_fr, hax]
        exact ⟨by omega, _, a :: l, hl2, F ++ [x], C, a2, by simpa using a3, ⟨rfl, rfl, rfl⟩, hu', by simp; omega⟩
  · rintro s h' ⟨u, L, F, C, s2, a1, a2, a3, rfl, rfl, hu, hn⟩
    have hu' : ∀ c ∈ u ++ [PO.lst []], PO.low 0 c = true := fun c hc => by
      rcases List.mem_append.mp hc with hc | hc
      · exact hu c hc
      · rw [List.mem_singleton] at hc; subst hc; rfl
    have hL : L = [] := List.sublist_nil.mp a1
    subst hL
    have hkp : keepP h (h ++ PO.lst [] :: PO.lst (frs F) :: (u ++ [PO.lst []])) (PV.ref (h.length + 1)) = h ++ PO.lst [] :: PO.lst (frs F) :: (u ++ [PO.lst []]) := by
      unfold keepP
      rw [if_neg (by simp only [PV.low, decide_eq_true_eq]; omega)]
    simp [alloc, EQn]
    rw [hkp]
    refine q F _ ?_ hu'
    rw [a2, List.append_nil]
    simpa using a3
theorem cnt_count (v : Rat) : ∀ F : List Rat, cnt v F = F.count v
  | [] => rfl
  | a :: r => by
    rw [cnt_cons, cnt_count v r, List.count_cons]
    by_cases e : a = v <;> simp [e]
theorem sorted_perm (h1 : xs.Pairwise (· ≤ ·)) (h2 : ys.Pairwise (· ≤ ·)) (h : xs.Perm ys) : xs = ys := h.eq_of_pairwise (fun a b _ _ u v => Rat.le_antisymm u v) h1 h2
theorem Ref.first_count (hr : Ref d T0 R0 T R) : d + 1 ≤ T.count (T.getD 0 0) ∧ d + 1 ≤ T.count (T.getD (T.length - 1) 0) := by
  have hT := hr.up
  have hlo := hr.lo
  have get : ∀ i, i < T.length → T[i]? = some (T.getD i 0) := fun i hi => by
    rw [List.getD_eq_getElem?_getD, List.getElem?_eq_getElem hi]; rfl
  refine ⟨rep_count T 0 (d + 1) fun i _ hi => ?_, rep_count T (T.length - d - 1) (d + 1) fun i h1 hi => ?_⟩
  · rw [get i (by omega)]
    have u1 := hT 0 i (by omega) (by omega)
    have u2 := hT i d (by omega) (by omega)
    have := hr.fst
    congr 1; grind
  · rw [get i (by omega)]
    have u1 := hT (T.length - d - 1) i (by omega) (by omega)
    have u2 := hT i (T.length - 1) (by omega) (by omega)
    have := hr.lst
    congr 1; grind
theorem refined_ok (hs : Spl d T0 R0) (hr : Ref d T0 R0 T R) (hO : O.Pairwise (· ≤ ·)) (hc : ∀ v, O.count v ≤ d + 1) (hsub : ∀ v, T.count v ≤ O.count v) (hl : O.length ≤ 16) (hf : ∀ v ∈ O, Fq 2 40 v)
    (hb : ∀ v ∈ O, T.getD 0 0 ≤ v ∧ v ≤ T.getD (T.length - 1) 0) (hk : 6 ≤ k) : ∃ R', Ref d T0 R0 O R' ∧ callF G k 182 [splv d T R, pol O] h = .ok (splv d O R') h := by
  obtain ⟨k, rfl⟩ := Nat.exists_eq_add_of_le hk
  rw [Nat.add_comm 6 k]
  have hw := hr.spw hs
  have hlo := hr.lo
  have hSub := sub_sorted O T hO (up_pw hr.up) hsub
  have hTO := hSub.length_le
  have hOb : AllB 40 O := fun v hv => (hf v hv).bd (by omega) (by omega)
  have hKn : Kn d O := by
    have := kn_sort (d := d) (F := O) fun q => by rw [cnt_count]; exact hc q
    rwa [isort_id hO] at this
  have hfc := hr.first_count
  have key : (callF G (k + 6) 182 [splv d T R, pol O] h).To (fun v h' => ∃ R', Ref d T0 R0 O R' ∧ v = splv d O R' ∧ h' = h) := by
    rw [callF_eq (f := f_refined) rfl rfl, to_bind]
    simp only [f_refined, c_refined]
    have e1 := need_spline_w (k := k + 5) (h := h) hw (by omega) (by omega)
    have e2 := need_knots_ok (k := k + 1) (h := h) hOb (by omega) hKn (by omega) hl
    have i0 : ∀ H, idxop (splv d T R) (.int 0) H = .ok (.int d) H := fun H => rfl
    have i1 : ∀ H, idxop (splv d T R) (.int 1) H = .ok (pol T) H := fun H => rfl
    simp [e1, e2, i0, i1, List.replicate]
    refine missing_to hSub (by omega) (by omega) fun M u hM hu => ?_
    have hMin : ∀ v ∈ M, T.getD 0 0 < v ∧ v < T.getD (T.length - 1) 0 := fun v hv => by
      have hvO : v ∈ O := hM.mem_iff.mp (List.mem_append_right _ hv)
      obtain ⟨b1, b2⟩ := hb v hvO
      have cv : 1 ≤ M.count v := List.count_pos_iff.mpr hv
      have ct : T.count v + M.count v ≤ d + 1 := by
        rw [← List.count_append, hM.count_eq]; exact hc v
      refine ⟨Rat.lt_of_le_of_ne b1 fun z => ?_, Rat.lt_of_le_of_ne b2 fun z => ?_⟩
      · rw [← z] at ct cv; omega
      · rw [z] at ct cv; omega
    have G1 : (h ++ PO.lst [] :: PO.lst (frs M) :: u)[h.length + 1]? = some (.lst (frs M)) := by simp
    have G1' : ∀ w, (h ++ PO.lst [] :: PO.lst (frs M) :: (u ++ w))[h.length + 1]? = some (.lst (frs M)) := fun w => by simp
    have hMl : T.length + M.length = O.length := by rw [← List.length_append, hM.length_eq]
    obtain ⟨H1, hH1⟩ : ∃ H1, H1 = h ++ PO.lst [] :: PO.lst (frs M) :: u := ⟨_, rfl⟩
    rw [← hH1] at G1 ⊢
    have j0 : ∀ H, idxop (pol T) (.int 0) H = .ok (fr (T.getD 0 0)) H := fun H => idx_pol (T := T) (h := H) (i := 0) (by omega)
    have j1 := fun H => idx_poln (h := H) (T := T) (z := -1) (by decide) (by omega)
    rw [show (-1 + (T.length : Int)).toNat = T.length - 1 by omega] at j1
    have b0 := getD_bd hw.tb (by omega) 0
    have b1 := getD_bd hw.tb (by omega) (T.length - 1)
    have hMb : ∀ v ∈ M, Bd 40 v := fun v hv => hOb v (hM.mem_iff.mp (List.mem_append_right _ hv))
    have isN : ∀ n H, cmpop .isN (.ref n) .non H = .ok (.bl false) H := fun n H => rfl
    have lo1 : leanOf H1 (.ref (h.length + 1)) = [(h.length + 1, .lst (frs M))] := by simp [leanOf, G1]
    have it1 : items H1 (.ref (h.length + 1)) = some (frs M) := by simp [items, G1]
    have le1 : leans [(h.length + 1, .lst (frs M))] H1 = true := by simp [leans, G1, PO.same_rfl]
    have hMany : many = 1000000 := rfl
    simp [isN, it1, lo1]
    refine ⟨by omega, ?_⟩
    have le1' : leans [(h.length + 1, .lst (M.map fr))] H1 = true := le1
    rw [← map_fr, compL_map (h := H1) fr (fun _ => PV.bl true) le1' M (fun v hv => ?_)]
    · have gT : (H1 ++ [PO.lst (M.map fun _ => PV.bl true)])[H1.length]? = some (.lst (M.map fun _ => PV.bl true)) := by simp
      obtain ⟨H2, hH2⟩ : ∃ H2, H2 = H1 ++ [PO.lst (M.map fun _ => PV.bl true)] := ⟨_, rfl⟩
      have al : alloc (M.map fun _ => PV.bl true) H1 = .ok (.ref H1.length) H2 := by rw [hH2]; rfl
      rw [← hH2] at gT
      have bl1 : blt .all [.ref H1.length] H2 = .ok (.bl true) H2 := by
        simp only [blt, gT, truths_rep]
      have G2 : H2[h.length + 1]? = some (.lst (frs M)) := by
        rw [hH2, List.getElem?_append_left (List.getElem?_eq_some_iff.mp G1).1]; exact G1
      have lo2 : leanOf H2 (.ref (h.length + 1)) = [(h.length + 1, .lst (frs M))] := by simp [leanOf, G2]
      have it2 : items H2 (.ref (h.length + 1)) = some (frs M) := by simp [items, G2]
      have le2 : leans [(h.length + 1, .lst (frs M))] H2 = true := by simp [leans, G2, PO.same_rfl]
      have hk2 : ∀ L1 L2 : List Rat, keepP h H2 (splv d L1 L2) = h := fun L1 L2 => by
        rw [hH2, hH1, List.append_assoc]
        exact keep_app' (by simp [splv, PV.low, PV.lows, pol])
      simp [alloc, truths_rep]
      rw [← hH2]
      simp [G2]
      rw [← map_fr]
      refine frL_l fr M (S := fun r s h' => ∃ T1 R1 s4, Ref d T0 R0 T1 R1 ∧ (T1 ++ r).Perm O ∧ T1.getD 0 0 = T.getD 0 0 ∧ T1.getD (T1.length - 1) 0 = T.getD (T.length - 1) 0 ∧ (∀ v ∈ r, v ∈ M) ∧ s = [some (splv d T R), some (pol O), some (.ref (h.length + 1)), some (splv d T1 R1), s4] ∧ h' = H2) ⟨T, R, none, hr, hM, rfl, rfl, fun _ h => h, rfl, rfl⟩ (fun r s h' ⟨_, _, _, _, _, _, _, _, _, e⟩ => by rw [e]; exact le2) ?_ ?_
      · rintro v r s h' ⟨T1, R1, s4, hr1, hp1, z0, z1, hrm, rfl, rfl⟩
        obtain ⟨m0, m1⟩ := hMin v (hrm v (by simp))
        have hpl := hp1.length_eq
        rw [List.length_append, List.length_cons] at hpl
        have hcv := hc v
        rw [← hp1.count_eq, List.count_append, List.count_cons_self] at hcv
        obtain ⟨p, hp, hlt, hr2, e3⟩ := hr1.step (k := k + 5) (h := h') (y := v) hs (hf v (hM.mem_iff.mp (List.mem_append_right _ (hrm v (by simp))))) (by rw [z0]; exact m0) (by rw [z1]; exact m1) (by omega) (by omega) (by omega)
        have hle := hp.le
        simp [e3]
        refine ⟨_, _, hr2, ?_, ?_, ?_, fun w hw => hrm w (by simp [hw]), rfl⟩
        · refine List.Perm.trans ?_ hp1
          rw [wknT]
          have e : List.take (p + 1) T1 ++ v :: List.drop (p + 1) T1 ++ r = List.take (p + 1) T1 ++ (v :: (List.drop (p + 1) T1 ++ r)) := by simp
          have e2 : T1 ++ v :: r = List.take (p + 1) T1 ++ (List.drop (p + 1) T1 ++ v :: r) := by rw [← List.append_assoc, List.take_append_drop]
          rw [e, e2]
          exact List.Perm.append_left _ List.perm_middle.symm
        · show (wknT T1 p v).getD 0 0 = T.getD 0 0
          rw [hr2.e0, ← hr1.e0]; exact z0
        · show (wknT T1 p v).getD ((wknT T1 p v).length - 1) 0 = T.getD (T.length - 1) 0
          rw [hr2.e1, ← hr1.e1]; exact z1
      · rintro s h' ⟨T1, R1, s4, hr1, hp1, z0, z1, hrm, rfl, rfl⟩
        rw [List.append_nil] at hp1
        have e : T1 = O := sorted_perm (up_pw hr1.up) hO hp1
        subst e
        simp [hk2]
        exact ⟨R1, hr1, rfl⟩
    · obtain ⟨m0, m1⟩ := hMin v hv
      have e3 := fun H => below_ok (k := k + 4) (h := H) b0 (hMb v hv) (by omega)
      have e4 := fun H => below_ok (k := k + 4) (h := H) (hMb v hv) b1 (by omega)
      generalize T.getD 0 0 = a at *
      generalize T.getD (T.length - 1) 0 = z at *
      simp [compF, wipe, i1, j0, j1, e3, e4, m0, m1]
  obtain ⟨v, h', e, R', hr', rfl, rfl⟩ := to_ex key
  exact ⟨R', hr', e⟩
end
end PB
set_option Elab.async false
set_option linter.all false
set_option maxRecDepth 100000
set_option maxHeartbeats 4000000
set_option exponentiation.threshold 100000
namespace PB
open PySem
section
variable {k : Nat} {h t : PH} {o : PO} {n m b c d d1 d2 e p i j r : Nat} {x y q lo hi : Rat} {xs ys us T R T1 R1 T2 R2 : List Rat}
theorem lonce_ref {Q : PV → PH → Prop} {xs : List Rat} (hr : h[r]? = some (.lst (frs xs))) (hl : xs.length ≤ 100) (hk : 1 ≤ k) (q : ∀ u : PH, (∀ c ∈ u, PO.low 0 c = true) → Q (.ref (h.length + u.length)) (h ++ (u ++ [.lst (frs (ones [] xs))]))) : (callF G k 127 [.ref r] h).To Q := by
  obtain ⟨k, rfl⟩ := Nat.exists_eq_add_of_le hk
  rw [Nat.add_comm]
  rw [callF_eq (f := f__law_once) rfl rfl, to_bind]
  simp only [f__law_once, c__law_once]
  have hrl := (List.getElem?_eq_some_iff.mp hr).1
  have gA : ∀ w : PH, (h ++ w)[r]? = some (.lst (frs xs)) := fun w => by rw [List.getElem?_append_left hrl]; exact hr
  have le : ∀ w : PH, leans [(r, .lst (frs xs))] (h ++ w) = true := fun w => by simp [leans, gA, PO.same_rfl]
  simp [alloc, List.replicate, gA]
  rw [← map_fr]
  refine frL_l fr xs (S := fun rs s h' => ∃ u F s2, ones F rs = ones [] xs ∧ s = [some (.ref r), some (.ref (h.length + u.length)), s2] ∧ h' = h ++ (u ++ [.lst (frs F)]) ∧ (∀ c ∈ u, PO.low 0 c = true) ∧ F.length + rs.length ≤ 100) ⟨[], [], none, rfl, by simp, by simp [frs], by simp, by simpa using hl⟩ (fun rs s h' ⟨_, _, _, _, _, e, _⟩ => by rw [e]; exact le _) ?_ ?_
  · rintro x rs s h' ⟨u, F, s2, e1, rfl, rfl, hu, hn⟩
    have g1 : ∀ w : PH, (h ++ (u ++ PO.lst (frs F) :: w))[h.length + u.length]? = some (.lst (frs F)) := fun w => by
      rw [List.getElem?_append_right (by omega), List.getElem?_append_right (by omega), show h.length + u.length - h.length - u.length = 0 by omega]; rfl
    have e2 := notIn_ref (x := x) (g1 [])
    have hM : many = 1000000 := rfl
    rw [List.length_cons] at hn
    have keep : ∀ (X : List Rat) (y : PO), (∀ n, PO.low n y = true) → ∀ c ∈ u ++ [PO.lst (frs F), y], PO.low 0 c = true := fun X y hy c hc => by
      rcases List.mem_append.mp hc with hc | hc
      · exact hu c hc
      · simp at hc
        rcases hc with rfl | rfl
        · exact low_ones _ _
        · exact hy 0
    by_cases hx : x ∈ F
    · have g2 : (h ++ (u ++ [PO.lst (frs F), PO.lst []]))[h.length + (u.length + 1)]? = some (.lst []) := by
        rw [List.getElem?_append_right (by omega), List.getElem?_append_right (by omega), show h.length + (u.length + 1) - h.length - u.length = 1 by omega]; rfl
      simp [e2, hx, alloc, binop, g1, g2, hM]
      refine ⟨by omega, u ++ [.lst (frs F), .lst []], F, ?_, by simp, by simp, keep F (.lst []) (fun n => by simp [PO.low, PV.lows]), by omega⟩
      rw [← e1, ones, if_pos hx]
    · have g2 : (h ++ (u ++ [PO.lst (frs F), PO.lst [fr x]]))[h.length + (u.length + 1)]? = some (.lst [fr x]) := by
        rw [List.getElem?_append_right (by omega), List.getElem?_append_right (by omega), show h.length + (u.length + 1) - h.length - u.length = 1 by omega]; rfl
      have hf : frs F ++ [fr x] = frs (F ++ [x]) := by
        show F.map fr ++ [fr x] = (F ++ [x]).map fr
        rw [List.map_append]; rfl
      simp [e2, hx, alloc, binop, g1, g2, hM, hf]
      refine ⟨by omega, u ++ [.lst (frs F), .lst [fr x]], F ++ [x], ?_, by simp, by simp, keep F (.lst [fr x]) (fun n => by simp [PO.low, PV.lows]), by simp; omega⟩
      rw [← e1, ones, if_neg hx]
  · rintro s h' ⟨u, F, s2, e1, rfl, rfl, hu, hn⟩
    simp only [ones] at e1
    subst e1
    simp
    have hkp : keepP h (h ++ (u ++ [PO.lst (frs (ones [] xs))])) (PV.ref (h.length + u.length)) = h ++ (u ++ [PO.lst (frs (ones [] xs))]) := by
      unfold keepP
      rw [if_neg (by simp only [PV.low, decide_eq_true_eq]; omega)]
    rw [hkp]
    exact q u hu
theorem ones_leng : ∀ (xs F : List Rat), (ones F xs).length ≤ F.length + xs.length
  | [], F => by simp [ones]
  | x :: r, F => by
    rw [ones, List.length_cons]
    split
    · have := ones_leng r F; omega
    · have := ones_leng r (F ++ [x]); simp at this; omega
/-- a part of a way -/
theorem part_i {d j : Nat} (hd : d ≤ 4) (hj : j ≤ d) : Fq 1 12 (Rat.divInt (j : Int) ((d : Int) + 1)) ∧ 0 ≤ Rat.divInt (j : Int) ((d : Int) + 1) ∧ Rat.divInt (j : Int) ((d : Int) + 1) ≤ 1 := by
  have key : ∀ d : Nat, d < 5 → ∀ j : Nat, j < 5 → j ≤ d → (Rat.divInt (j : Int) ((d : Int) + 1) * (420 : Rat) ^ 1 = (((Rat.divInt (j : Int) ((d : Int) + 1) * (420 : Rat) ^ 1).num : Int) : Rat) ∧ (Rat.divInt (j : Int) ((d : Int) + 1) * (420 : Rat) ^ 1).num.natAbs < 2 ^ 12) ∧ 0 ≤ Rat.divInt (j : Int) ((d : Int) + 1) ∧ Rat.divInt (j : Int) ((d : Int) + 1) ≤ 1 := by decide +kernel
  obtain ⟨⟨h1, h2⟩, h3⟩ := key d (by omega) j (by omega) hj
  exact ⟨⟨_, h1, h2⟩, h3⟩
theorem btwn_i {u v w : Rat} (h0 : 0 ≤ w) (h1 : w ≤ 1) (hu : lo ≤ u ∧ u ≤ hi) (hv : lo ≤ v ∧ v ≤ hi) : lo ≤ u + w * (v - u) ∧ u + w * (v - u) ≤ hi := by
  have a1 : 0 ≤ w * (v - lo) := Rat.mul_nonneg h0 (by grind)
  have a2 : 0 ≤ (1 - w) * (u - lo) := Rat.mul_nonneg (by grind) (by grind)
  have a3 : 0 ≤ w * (hi - v) := Rat.mul_nonneg h0 (by grind)
  have a4 : 0 ≤ (1 - w) * (hi - u) := Rat.mul_nonneg (by grind) (by grind)
  constructor <;> grind
/-- the law's test that two splines are the same function -/
theorem lsame_ok {f : Rat → Rat} (h1 : d1 ≤ 4) (h2 : d2 ≤ 4) (l1 : 1 ≤ T1.length) (l2 : 1 ≤ T2.length) (m1 : T1.length ≤ 16) (m2 : T2.length ≤ 16) (n1 : 1 ≤ R1.length) (n2 : 1 ≤ R2.length)
    (e0 : T1.getD 0 0 = T2.getD 0 0) (e1 : T1.getD (T1.length - 1) 0 = T2.getD (T2.length - 1) 0) (g1 : ∀ v ∈ T1, Fq 2 40 v ∧ T1.getD 0 0 ≤ v ∧ v ≤ T1.getD (T1.length - 1) 0) (g2 : ∀ v ∈ T2, Fq 2 40 v ∧ T1.getD 0 0 ≤ v ∧ v ≤ T1.getD (T1.length - 1) 0)
    (hk : 5 ≤ k) (v1 : ∀ x H, Fq 3 60 x → T1.getD 0 0 ≤ x → x ≤ T1.getD (T1.length - 1) 0 → callF G k 168 [splv d1 T1 R1, fr x] H = .ok (fr (f x)) H)
    (v2 : ∀ x H, Fq 3 60 x → T1.getD 0 0 ≤ x → x ≤ T1.getD (T1.length - 1) 0 → callF G k 168 [splv d2 T2 R2, fr x] H = .ok (fr (f x)) H)
    (er : R1.getD (R1.length - 1) 0 = R2.getD (R2.length - 1) 0) : callF G (k + 1) 179 [splv d1 T1 R1, splv d2 T2 R2] h = .ok (.bl true) h := by
  obtain ⟨k, rfl⟩ := Nat.exists_eq_add_of_le hk
  rw [Nat.add_comm 5 k] at *
  refine of_to ?_
  rw [callF_eq (f := f__law_same) rfl rfl, to_bind]
  simp only [f__law_same, c__law_same]
  have a0 : ∀ H, idxop (splv d1 T1 R1) (.int 0) H = .ok (.int d1) H := fun H => rfl
  have a1 : ∀ H, idxop (splv d1 T1 R1) (.int 1) H = .ok (pol T1) H := fun H => rfl
  have a2 : ∀ H, idxop (splv d1 T1 R1) (.int 2) H = .ok (pol R1) H := fun H => rfl
  have b0 : ∀ H, idxop (splv d2 T2 R2) (.int 0) H = .ok (.int d2) H := fun H => rfl
  have b1 : ∀ H, idxop (splv d2 T2 R2) (.int 1) H = .ok (pol T2) H := fun H => rfl
  have b2 : ∀ H, idxop (splv d2 T2 R2) (.int 2) H = .ok (pol R2) H := fun H => rfl
  have i0 : ∀ H, idxop (pol T1) (.int 0) H = .ok (fr (T1.getD 0 0)) H := fun H => idx_pol (T := T1) (h := H) (i := 0) (by omega)
  have i1 := fun H => idx_poln (h := H) (T := T1) (z := -1) (by decide) (by omega)
  rw [show (-1 + (T1.length : Int)).toNat = T1.length - 1 by omega] at i1
  have j0 : ∀ H, idxop (pol T2) (.int 0) H = .ok (fr (T2.getD 0 0)) H := fun H => idx_pol (T := T2) (h := H) (i := 0) (by omega)
  have j1 := fun H => idx_poln (h := H) (T := T2) (z := -1) (by decide) (by omega)
  rw [show (-1 + (T2.length : Int)).toNat = T2.length - 1 by omega, ← e1] at j1
  rw [← e0] at j0
  have r1 := fun H => idx_poln (h := H) (T := R1) (z := -1) (by decide) (by omega)
  rw [show (-1 + (R1.length : Int)).toNat = R1.length - 1 by omega] at r1
  have r2 := fun H => idx_poln (h := H) (T := R2) (z := -1) (by decide) (by omega)
  rw [show (-1 + (R2.length : Int)).toNat = R2.length - 1 by omega, ← er] at r2
  have q1 := tpl_same (a := T1.getD 0 0) (b := T1.getD (T1.length - 1) 0) rfl rfl
  have hg : ∀ v ∈ T1 ++ T2, Fq 2 40 v ∧ T1.getD 0 0 ≤ v ∧ v ≤ T1.getD (T1.length - 1) 0 := fun v hv => by
    rcases List.mem_append.mp hv with hv | hv
    · exact g1 v hv
    · exact g2 v hv
  have hal : AllB 40 (T1 ++ T2) := fun v hv => (hg v hv).1.bd (by omega) (by omega)
  obtain ⟨r, u, hrl, es, es2, hu⟩ := lsorted_pol (k := k + 2) (h := h) (xs := T1 ++ T2) hal (by omega) (by omega) (by rw [List.length_append]; omega)
  have hM : many = 1000000 := rfl
  generalize T1.getD 0 0 = lo at *
  generalize T1.getD (T1.length - 1) 0 = hi at *
  generalize R1.getD (R1.length - 1) 0 = rz at *
  have hsl : (isort (T1 ++ T2)).length = T1.length + T2.length := by rw [(isort_perm _).length_eq, List.length_append]
  have ba : ∀ H, binop .add (pol T1) (pol T2) H = .ok (pol (T1 ++ T2)) H := fun H => by
    have hl : (frs T1).length + (frs T2).length ≤ many := by rw [frs_len, frs_len, hM]; omega
    show (if (frs T1).length + (frs T2).length ≤ many then Res.ok (PV.tup (frs T1 ++ frs T2)) H else .bad) = _
    rw [if_pos hl, frs_app]; rfl
  simp [a1, b1, i0, i1, j0, j1, q1, ba, es, List.replicate]
  refine lonce_ref es2 (by rw [hsl]; omega) (by omega) fun u2 hu2 => ?_
  have hL : ∀ v ∈ ones [] (isort (T1 ++ T2)), Fq 2 40 v ∧ lo ≤ v ∧ v ≤ hi := fun v hv => by
    rcases (ones_mem _ _).mp hv with hv | hv
    · simp at hv
    · exact hg v ((isort_perm _).mem_iff.mp hv)
  have hLl : (ones [] (isort (T1 ++ T2))).length ≤ 32 := by
    have := ones_leng (isort (T1 ++ T2)) []
    rw [hsl] at this
    simp at this
    omega
  have hL1 : 1 ≤ (ones [] (isort (T1 ++ T2))).length := by
    have hm : T1[0]'(by omega) ∈ ones [] (isort (T1 ++ T2)) := (ones_mem _ _).mpr (.inr ((isort_perm _).mem_iff.mpr (List.mem_append_left _ (List.getElem_mem _))))
    exact List.length_pos_of_mem hm
  have G1 : (h ++ u ++ (u2 ++ [PO.lst (frs (ones [] (isort (T1 ++ T2))))]))[(h ++ u).length + u2.length]? = some (.lst (frs (ones [] (isort (T1 ++ T2))))) := by simp
  have hkp : keepP h (h ++ u ++ (u2 ++ [PO.lst (frs (ones [] (isort (T1 ++ T2))))])) (.bl true) = h := by
    rw [List.append_assoc]; exact keep_app' rfl
  generalize h ++ u ++ (u2 ++ [PO.lst (frs (ones [] (isort (T1 ++ T2))))]) = H at *
  generalize (h ++ u).length + u2.length = pl at *
  generalize ones [] (isort (T1 ++ T2)) = L at *
  simp [G1]
  obtain ⟨D, hD, hDl⟩ : ∃ D : Nat, (if (d1 : Int) < (d2 : Int) then (d2 : Int) else (d1 : Int)) = (D : Int) ∧ D ≤ 4 := by
    by_cases c : (d1 : Int) < (d2 : Int)
    · exact ⟨d2, if_pos c, h2⟩
    · exact ⟨d1, if_neg c, h1⟩
  have mx : ∀ H, blt .max2 [.int (d1 : Nat), .int (d2 : Nat)] H = .ok (.int (D : Nat)) H := fun H => by
    show Res.ok (PV.int (if (d1 : Int) < (d2 : Int) then (d2 : Int) else (d1 : Int))) H = _
    rw [hD]
  refine forR_to 1 L.length (S := fun i s h' => h' = H ∧ ∃ s3 s4 s5 s6, s = [some (splv d1 T1 R1), some (splv d2 T2 R2), some (.ref pl), s3, s4, s5, s6]) rfl rfl hL1 (by omega) ⟨rfl, none, none, none, none, rfl⟩ ?_ ?_
  · rintro i s h' hi1 hi ⟨rfl, s3, s4, s5, s6, rfl⟩
    simp [a0, b0, mx]
    refine forR_to0 (D + 1) (S := fun j s h'' => h'' = h' ∧ ∃ s5 s6, s = [some (splv d1 T1 R1), some (splv d2 T2 R2), some (.ref pl), some (.int (i : Nat)), some (.int ((D : Int) + 1)), s5, s6]) (by omega) (by omega) ⟨rfl, _, _, rfl⟩ ?_ ?_
    · rintro j s h'' hj ⟨rfl, s5, s6, rfl⟩
      have x1 := idx_lst (h := h'') G1 (i := i - 1) (by omega)
      rw [show ((i - 1 : Nat) : Int) = (i : Int) - 1 by omega] at x1
      have x2 := idx_lst (h := h'') G1 (i := i) hi
      have m1 : ∀ i, i < L.length → L.getD i 0 ∈ L := fun i hi => by
        rw [List.getD_eq_getElem?_getD, List.getElem?_eq_getElem hi]; exact List.getElem_mem _
      obtain ⟨f1, c1⟩ := hL _ (m1 (i - 1) (by omega))
      obtain ⟨f2, c2⟩ := hL _ (m1 i hi)
      obtain ⟨f3, p0, p1⟩ := part_i (d := D) (j := j) hDl (by omega)
      have em := lmiddle_raw (k := k + 2) (h := h'') (f1.bd (m := 40) (by omega) (by omega)) (f2.bd (m := 40) (by omega) (by omega)) (a := (j : Int)) (b := (D : Int) + 1) (by omega) (by omega) (by omega) (by omega)
      obtain ⟨z0, z1⟩ := btwn_i p0 p1 c1 c2
      have fx := ((f1.up (e' := 3) (n' := 53) (by omega) (by omega)).add ((f3.mul (f2.sub f1)).up (e' := 3) (n' := 53) (by omega) (by omega))).up (e' := 3) (n' := 60) (by omega) (by omega)
      generalize L.getD (i - 1) 0 = ua at *
      generalize L.getD i 0 = ub at *
      generalize Rat.divInt (j : Int) ((D : Int) + 1) = w at *
      generalize ua + w * (ub - ua) = X at *
      have w1 := v1 X h'' fx z0 z1
      have w2 := v2 X h'' fx z0 z1
      generalize f X = V at *
      simp [x1, x2, em, w1, w2, eqD_fr]
    · rintro s h'' ⟨rfl, s5, s6, rfl⟩
      simp
  · rintro s h' ⟨rfl, s3, s4, s5, s6, rfl⟩
    simp [a2, b2, r1, r2, eqD_fr, hkp]
end
end PB
set_option Elab.async false
set_option linter.all false
set_option maxRecDepth 100000
set_option maxHeartbeats 4000000
set_option exponentiation.threshold 100000
namespace PB
open PySem
section
variable {k : Nat} {h t : PH} {o : PO} {n m b c d e p i j r s : Nat} {x y q v lo hi : Rat} {xs ys us T R T1 R1 T2 R2 B F : List Rat}
/-- a number stands at most d + 1 times among knots -/
theorem seg_count : ∀ (L : List Rat), L.Pairwise (· ≤ ·) → ∀ n, n + 1 ≤ L.count v → ∃ i, L[i]? = some v ∧ L[i + n]? = some v
  | [], _, n, h => by simp at h
  | a :: l, hs, n, h => by
    rw [List.pairwise_cons] at hs
    by_cases e : a = v
    · rw [e, List.count_cons_self] at h
      cases n with
      | zero => exact ⟨0, by rw [e]; rfl, by rw [e]; rfl⟩
      | succ m =>
        obtain ⟨i, h1, h2⟩ := seg_count l hs.2 m (by omega)
        refine ⟨0, by rw [e]; rfl, ?_⟩
        rw [show 0 + (m + 1) = m + 1 by omega, List.getElem?_cons_succ]
        obtain ⟨z1, z2⟩ := List.getElem?_eq_some_iff.mp h2
        rw [List.getElem?_eq_getElem (by omega : m < l.length)]
        congr 1
        have u1 := hs.1 _ (List.getElem_mem (show m < l.length by omega))
        have u2 : l[m] ≤ l[i + m] := by
          rcases Nat.eq_zero_or_pos i with w | w
          · subst w; simp only [Nat.zero_add]; exact Rat.le_refl
          · exact List.pairwise_iff_getElem.mp hs.2 m (i + m) (by omega) z1 (by omega)
        rw [z2] at u2
        rw [e] at u1
        exact Rat.le_antisymm u2 u1
    · rw [List.count_cons_of_ne e] at h
      obtain ⟨i, h1, h2⟩ := seg_count l hs.2 n h
      exact ⟨i + 1, by rw [List.getElem?_cons_succ]; exact h1, by rw [show i + 1 + n = (i + n) + 1 by omega, List.getElem?_cons_succ]; exact h2⟩
theorem kn_count (hk : Kn d T) (v : Rat) : T.count v ≤ d + 1 := by
  refine Classical.byContradiction fun z => ?_
  have hT : Up T := fun i j hij hj => hk.mono hij hj
  obtain ⟨i, h1, h2⟩ := seg_count (v := v) T (up_pw hT) (d + 1) (by omega)
  have hl := (List.getElem?_eq_some_iff.mp h2).1
  have := hk.2 i (by omega)
  rw [List.getD_eq_getElem?_getD, List.getD_eq_getElem?_getD, h1, show i + d + 1 = i + (d + 1) by omega, h2] at this
  simp only [Option.getD_some] at this
  grind
/-! the breaks -/
theorem ones_sorted : ∀ (xs F : List Rat), F.Pairwise (· < ·) → xs.Pairwise (· ≤ ·) → (∀ a ∈ F, ∀ b ∈ xs, a ≤ b) → (ones F xs).Pairwise (· < ·)
  | [], F, h, _, _ => h
  | x :: r, F, h, hx, hF => by
    rw [List.pairwise_cons] at hx
    rw [ones]
    split
    · exact ones_sorted r F h hx.2 fun a ha b hb => hF a ha b (by simp [hb])
    · rename_i hn
      refine ones_sorted r (F ++ [x]) ?_ hx.2 fun a ha b hb => ?_
      · rw [List.pairwise_append]
        refine ⟨h, by simp, fun a ha b hb => ?_⟩
        rw [List.mem_singleton] at hb
        subst hb
        have := hF a ha b (by simp)
        exact Rat.lt_of_le_of_ne this fun z => hn (by rw [← z]; exact ha)
      · rcases List.mem_append.mp ha with ha | ha
        · exact hF a ha b (by simp [hb])
        · rw [List.mem_singleton] at ha; subst ha; exact hx.1 b hb
/-- each break d + 1 times -/
def fulL (d : Nat) (B : List Rat) : List Rat := (B.map (List.replicate (d + 1))).flatten
theorem ful_snoc (d : Nat) (B : List Rat) (v : Rat) : fulL d (B ++ [v]) = fulL d B ++ List.replicate (d + 1) v := by simp [fulL]
theorem ful_cons (d : Nat) (B : List Rat) (v : Rat) : fulL d (v :: B) = List.replicate (d + 1) v ++ fulL d B := by simp [fulL]
theorem ful_len (d : Nat) : ∀ B : List Rat, (fulL d B).length = B.length * (d + 1)
  | [] => by simp [fulL]
  | v :: r => by rw [ful_cons, List.length_append, ful_len d r, List.length_replicate, List.length_cons, Nat.succ_mul]; omega
theorem ful_get {a : Nat} (ha : a ≤ d) : ∀ (B : List Rat) (s : Nat), s < B.length → (fulL d B).getD (s * (d + 1) + a) 0 = B.getD s 0
  | [], s, hs => by simp at hs
  | v :: r, 0, _ => by
    rw [ful_cons, List.getD_eq_getElem?_getD, List.getElem?_append_left (by simp; omega), List.getElem?_replicate, if_pos (by omega)]; rfl
  | v :: r, s + 1, hs => by
    rw [List.length_cons] at hs
    rw [ful_cons, List.getD_eq_getElem?_getD, List.getElem?_append_right (by simp [Nat.succ_mul]; omega), List.length_replicate, show (s + 1) * (d + 1) + a - (d + 1) = s * (d + 1) + a by rw [Nat.succ_mul]; omega, ← List.getD_eq_getElem?_getD, ful_get ha r s (by omega)]
    rfl
theorem ful_mem : ∀ {B : List Rat}, v ∈ fulL d B ↔ v ∈ B
  | [] => by simp [fulL]
  | w :: r => by
    rw [ful_cons, List.mem_append, ful_mem (B := r), List.mem_replicate, List.mem_cons]
    constructor
    · rintro (⟨_, h⟩ | h)
      · exact .inl h
      · exact .inr h
    · rintro (h | h)
      · exact .inl ⟨by omega, h⟩
      · exact .inr h
theorem ful_sorted : ∀ {B : List Rat}, B.Pairwise (· < ·) → (fulL d B).Pairwise (· ≤ ·)
  | [], _ => by simp [fulL]
  | w :: r, h => by
    rw [List.pairwise_cons] at h
    rw [ful_cons, List.pairwise_append]
    refine ⟨?_, ful_sorted h.2, fun a ha b hb => ?_⟩
    · rw [List.pairwise_replicate]; exact .inr Rat.le_refl
    · rw [(List.mem_replicate.mp ha).2]
      have := h.1 b (ful_mem.mp hb)
      grind
theorem ful_count (hv : v ∈ B) : B.Pairwise (· < ·) → (fulL d B).count v = d + 1 := by
  induction B with
  | nil => simp at hv
  | cons w r ih =>
    intro h
    rw [List.pairwise_cons] at h
    rw [ful_cons, List.count_append]
    by_cases e : w = v
    · subst e
      rw [List.count_replicate_self, List.count_eq_zero.mpr fun z => ?_]
      have := h.1 w (ful_mem.mp z)
      grind
    · rcases List.mem_cons.mp hv with z | z
      · exact absurd z.symm e
      · rw [ih z h.2, List.count_replicate, if_neg (by simpa using e)]; omega
theorem ful_count_le (d : Nat) (h : B.Pairwise (· < ·)) (v : Rat) : (fulL d B).count v ≤ d + 1 := by
  by_cases hv : v ∈ B
  · rw [ful_count hv h]; exact Nat.le_refl _
  · rw [List.count_eq_zero.mpr fun z => hv (ful_mem.mp z)]; omega
theorem spn_is (hT : Up T) (hq : p + 1 < T.length) (h0 : T.getD p 0 ≤ x) (h1 : x < T.getD (p + 1) 0) : spn T x (T.length - 1) = p := by
  have hg : goodS T x p := ⟨by grind, by grind⟩
  obtain ⟨a1, a2, a3⟩ := spn_spec T x (T.length - 1) ⟨p, by omega, hg⟩
  generalize spn T x (T.length - 1) = r at *
  rcases Nat.lt_trichotomy r p with z | z | z
  · exact absurd hg (a3 p z (by omega))
  · exact z
  · have u1 := hT (p + 1) r (by omega) (by omega)
    exact absurd a2.2 (by
      intro w
      exact w (by grind))
/-- the breaks of a spline -/
theorem breaks (hT : Up T) (h1 : 1 ≤ T.length) : ones [] T = T.getD 0 0 :: (chL T 0 (T.length - 1)).map fun q => T.getD (q + 1) 0 := by
  have how := once_wnd hT 0 (T.length - 1) (by omega)
  rw [show T.length - 1 + 1 = T.length by omega, wnd_take _ (Nat.le_refl _), List.take_length] at how
  exact how
theorem break_at (hT : Up T) (h1 : 1 ≤ T.length) (hs : s < (chL T 0 (T.length - 1)).length) :
    (ones [] T).getD s 0 = T.getD ((chL T 0 (T.length - 1)).getD s 0) 0 ∧ (ones [] T).getD (s + 1) 0 = T.getD ((chL T 0 (T.length - 1)).getD s 0 + 1) 0 := by
  have hc := chL_const (T := T) (i := 0) (n := T.length - 1) (s := s) (by omega)
  rw [breaks hT h1]
  generalize chL T 0 (T.length - 1) = L at *
  have e2 : ∀ s, s < L.length → (T.getD 0 0 :: L.map fun q => T.getD (q + 1) 0).getD (s + 1) 0 = T.getD (L.getD s 0 + 1) 0 := fun s hs => by
    rw [List.getD_cons_succ, List.getD_eq_getElem?_getD, List.getElem?_map, List.getD_eq_getElem?_getD, List.getElem?_eq_getElem hs]
    simp [List.getD_eq_getElem?_getD, List.getElem?_eq_getElem hs]
  refine ⟨?_, e2 s hs⟩
  rw [hiL, if_pos hs] at hc
  cases s with
  | zero => rw [List.getD_cons_zero]; exact hc
  | succ s => rw [e2 s (by omega)]; exact hc
theorem rows_ful (hs : Spl d T R) (hr : Ref d T R (fulL d (ones [] T)) R2) (hj : s < (chL T 0 (T.length - 1)).length) :
    (R2.drop (s * (d + 1))).take (d + 1) = crow (pcP T R d ((chL T 0 (T.length - 1)).getD s 0)) d (T.getD ((chL T 0 (T.length - 1)).getD s 0) 0) (T.getD ((chL T 0 (T.length - 1)).getD s 0 + 1) 0) := by
  have hT := hs.up'
  have hlo := hs.lo
  obtain ⟨b1, b2⟩ := break_at hT (by omega) hj
  have hBl : (ones [] T).length = (chL T 0 (T.length - 1)).length + 1 := by rw [breaks hT (by omega)]; simp
  have hm := chL_mem (T := T) (i := 0) (n := T.length - 1) (q := (chL T 0 (T.length - 1)).getD s 0) (by
    rw [List.getD_eq_getElem?_getD, List.getElem?_eq_getElem hj]; exact List.getElem_mem _)
  have hFl := ful_len d (ones [] T)
  generalize chL T 0 (T.length - 1) = L at *
  generalize hLs : L.getD s 0 = l at *
  have hlt : T.getD l 0 < T.getD (l + 1) 0 := by
    have := hT l (l + 1) (by omega) (by omega)
    exact Rat.lt_of_le_of_ne this hm.2.2
  have g1 : ∀ a, a ≤ d → (fulL d (ones [] T)).getD (s * (d + 1) + a) 0 = T.getD l 0 := fun a ha => by rw [ful_get ha _ _ (by omega), b1]
  have g2 : ∀ a, a ≤ d → (fulL d (ones [] T)).getD ((s + 1) * (d + 1) + a) 0 = T.getD (l + 1) 0 := fun a ha => by rw [ful_get ha _ _ (by omega), b2]
  have hmul : (s + 1) * (d + 1) = s * (d + 1) + (d + 1) := Nat.succ_mul _ _
  have hmul2 : (s + 2) * (d + 1) ≤ (L.length + 1) * (d + 1) := Nat.mul_le_mul_right _ (by omega)
  have hmul3 : (s + 2) * (d + 1) = s * (d + 1) + 2 * (d + 1) := by rw [Nat.add_mul]
  rw [hBl] at hFl
  generalize hF : fulL d (ones [] T) = F at *
  have hrow := hr.row hs (q := s * (d + 1) + d) (by omega) (by omega) (by
    rw [g1 d (Nat.le_refl _), show s * (d + 1) + d + 1 = (s + 1) * (d + 1) + 0 by omega, g2 0 (by omega)]; exact hlt)
  rw [g1 d (Nat.le_refl _), spn_is hT (by omega) Rat.le_refl hlt] at hrow
  have hrl := hr.rl
  apply List.ext_getElem?
  intro j
  by_cases hj2 : j < d + 1
  · rw [List.getElem?_take_of_lt hj2, List.getElem?_drop, crow, tbl, List.getElem?_map, List.getElem?_range' hj2]
    simp only [Option.map_some, Nat.one_mul, Nat.zero_add]
    have e := hrow (s * (d + 1) + j) (by omega) (by omega)
    rw [List.getD_eq_getElem?_getD, List.getElem?_eq_getElem (by omega)] at e
    rw [List.getElem?_eq_getElem (by omega)]
    simp only [Option.getD_some] at e
    rw [e]
    congr 2
    have hw : win F (s * (d + 1) + j + 1) ((d - j) + j) = List.replicate (d - j) (T.getD l 0) ++ List.replicate j (T.getD (l + 1) 0) := by
      rw [win_app, win_rep fun k hk1 hk2 => ?_, win_rep fun k hk1 hk2 => ?_]
      · have := g2 (k - (s + 1) * (d + 1)) (by omega)
        rw [show (s + 1) * (d + 1) + (k - (s + 1) * (d + 1)) = k by omega] at this
        exact this
      · have := g1 (k - s * (d + 1)) (by omega)
        rw [show s * (d + 1) + (k - s * (d + 1)) = k by omega] at this
        exact this
    rw [show d - j + j = d by omega] at hw
    exact hw
  · rw [List.getElem?_eq_none (by simp; omega), List.getElem?_eq_none (by rw [crow_len]; omega)]
end
end PB
set_option Elab.async false
set_option linter.all false
set_option maxRecDepth 100000
set_option maxHeartbeats 4000000
set_option exponentiation.threshold 100000
namespace PB
open PySem
section
variable {T R : List Rat} {x : Rat} {d p : Nat}
theorem math31 (ns : List Int) (hl : ns.length ≤ 63) : ∃ h', callF G 40 183 [.scr (ns.map PV.int)] [] = .ok (.bl true) h' := by
  apply of_law
  have w0 : Wf [] := rfl
  rw [callF_eq (f := f_law_27) rfl rfl, to_bind]
  simp only [f_law_27, c_law_27]
  simp [alloc, List.replicate]
  obtain ⟨d, T, R, o1, hd, hs, hRb, r1, e1⟩ := lspline_ok (k := 39) (most := 3) (by decide) (row0 (ns := ns) (s := 4131) hl (by decide) (by decide)) w0 (by decide)
  have e1' : callF G 39 171 [.ref 0, .int 3] [.lst [.scr (ns.map PV.int), .int 0, .int 4131, .int 0]] = .ok (splv d T R) [o1] := e1
  have hlo := hs.lo
  have hhi := hs.hi
  have hrl := hs.rl
  have hdl := hs.dl
  have hu := hs.up'
  have hr0 := Ref.refl hs
  have hspl : ∀ H s, (asT (callF G 39) (.cons (.v 14) (.cons (.v 15) (.cons (.v 16) .nil))) (splv d T R) s H) = .ok (((s.set 14 (some (.int d))).set 15 (some (pol T))).set 16 (some (pol R))) H := fun H s => by simp [splv]
  have i0 : ∀ H, idxop (pol T) (.int 0) H = .ok (fr (T.getD 0 0)) H := fun H => idx_pol (T := T) (h := H) (i := 0) (by omega)
  have i1 := fun H => idx_poln (h := H) (T := T) (z := -1) (by decide) (by omega)
  rw [show (-1 + (T.length : Int)).toNat = T.length - 1 by omega] at i1
  have hM : many = 1000000 := rfl
  obtain ⟨ta, hta⟩ : ∃ ta, ta = T.getD 0 0 := ⟨_, rfl⟩
  obtain ⟨tz, htz⟩ : ∃ tz, tz = T.getD (T.length - 1) 0 := ⟨_, rfl⟩
  rw [← hta] at i0
  rw [← htz] at i1
  simp [e1', hspl]
  refine taken_to (by omega) (by omega) r1 (by omega) fun z o2 hz r2 => ?_
  simp
  refine forR_to0 z (S := fun i s h' => ∃ o' Mo u s4 s8 s17, Row o' ∧ (∀ v ∈ Mo, Fq 2 40 v ∧ ta < v ∧ v < tz) ∧ (∀ v, (T ++ Mo).count v ≤ d + 1) ∧ T.length + Mo.length ≤ 16 ∧ (∀ c ∈ u, PO.low 0 c = true) ∧
    s = [some (.scr (ns.map PV.int)), some (.ref 0), some (splv d T R), some (.ref 1), s4, none, none, none, s8, none, none, none, none, none, some (.int (d : Nat)), some (pol T), some (pol R), s17, none] ∧ h' = o' :: .lst (frs Mo) :: u) rfl (by omega)
    ⟨o2, [], [], none, none, none, r2, by simp, fun v => by rw [List.append_nil]; exact kn_count hs.kn v, by simpa using hhi, by simp, rfl, rfl⟩ ?_ ?_
  · rintro i s h' hi ⟨o', Mo, u, s4, s8, s17, ro, hMo, hcn, hln, hul, rfl, rfl⟩
    have hlw : ∀ c ∈ PO.lst (frs Mo) :: u, PO.low 0 c = true := fun c hc => by
      rcases List.mem_cons.mp hc with rfl | hc
      · exact low_ones _ _
      · exact hul c hc
    obtain ⟨x, o3, hx, hx0, hx1, r3, e2⟩ := lwithin_ok (k := 39) hs ro (wf_of (N := 0) (by omega) hlw) (by decide)
    have ba : ∀ H, binop .add (pol T) (.tup (frs Mo)) H = .ok (pol (T ++ Mo)) H := fun H => by
      have hl : (frs T).length + (frs Mo).length ≤ many := by rw [frs_len, frs_len, hM]; omega
      show (if (frs T).length + (frs Mo).length ≤ many then Res.ok (PV.tup (frs T ++ frs Mo)) H else .bad) = _
      rw [if_pos hl, frs_app]; rfl
    have gq : (o3 :: PO.lst (frs Mo) :: (u ++ [PO.lst [fr ta, fr tz]]))[u.length + 2]? = some (.lst (frs [ta, tz])) := by
      rw [List.getElem?_cons_succ, List.getElem?_cons_succ]; simp
    have n1 := notIn_ref (x := x) gq
    have hcm : mth .count (pol (T ++ Mo)) [fr x] (o3 :: PO.lst (frs Mo) :: (u ++ [PO.lst [fr ta, fr tz]])) = .ok (.int ((T ++ Mo).count x : Nat)) (o3 :: PO.lst (frs Mo) :: (u ++ [PO.lst [fr ta, fr tz]])) := mth_count
    have hul2 : ∀ c ∈ u ++ [PO.lst [fr ta, fr tz]], PO.low 0 c = true := fun c hc => by
      rcases List.mem_append.mp hc with hc | hc
      · exact hul c hc
      · rw [List.mem_singleton] at hc; subst hc; exact low_ones 0 [ta, tz]
    rw [← hta] at hx0
    rw [← htz] at hx1
    have c4 : ∀ H, blt .len [pol (T ++ Mo)] H = .ok (.int ((T ++ Mo).length : Nat)) H := fun H => by simp [blt]
    rw [List.length_append] at c4
    obtain ⟨cc, hcc⟩ : ∃ cc, cc = (T ++ Mo).count x := ⟨_, rfl⟩
    rw [← hcc] at hcm
    simp [e2, ba, i0, i1, alloc, n1, hcm, c4]
    refine br_to (fun hp => ?_) (fun hp => ?_)
    · simp only [Bool.and_eq_true, Bool.not_eq_true', decide_eq_false_iff_not] at hp
      simp [hcm, c4]
      refine br_to (fun hq => ?_) (fun hq => ?_)
      · simp only [decide_eq_true_eq] at hq
        simp [ba, c4]
        refine br_to (fun hw => ?_) (fun hw => ?_)
        · simp only [decide_eq_true_eq] at hw
          simp [mth, hM]
          have hxM : ∀ v ∈ Mo ++ [x], Fq 2 40 v ∧ ta < v ∧ v < tz := fun v hv => by
            rcases List.mem_append.mp hv with hv | hv
            · exact hMo v hv
            · rw [List.mem_singleton] at hv; subst hv
              exact ⟨hx, Rat.lt_of_le_of_ne hx0 fun w => hp.1 w.symm, Rat.lt_of_le_of_ne hx1 hp.2⟩
          refine ⟨by omega, o3, r3, Mo ++ [x], hxM, fun v => ?_, by simp; omega, _, hul2, rfl, rfl, rfl⟩
          have hv := hcn v
          rw [List.count_append] at hv ⊢
          by_cases e : v = x
          · subst e
            rw [List.count_append] at hcc
            rw [List.count_singleton_self]
            omega
          · rw [List.count_singleton, if_neg (by simpa using fun z => e z.symm)]
            omega
        · simp
          exact ⟨o3, r3, Mo, hMo, fun v => by simpa [List.count_append] using hcn v, hln, _, hul2, rfl, rfl, rfl⟩
      · simp
        exact ⟨o3, r3, Mo, hMo, fun v => by simpa [List.count_append] using hcn v, hln, _, hul2, rfl, rfl, rfl⟩
    · simp
      exact ⟨o3, r3, Mo, hMo, fun v => by simpa [List.count_append] using hcn v, hln, _, hul2, rfl, rfl, rfl⟩
  · rintro s h' ⟨o', Mo, u, s4, s8, s17, ro, hMo, hcn, hln, hul, rfl, rfl⟩
    have ba : ∀ H, binop .add (pol T) (.tup (frs Mo)) H = .ok (pol (T ++ Mo)) H := fun H => by
      have hl : (frs T).length + (frs Mo).length ≤ many := by rw [frs_len, frs_len, hM]; omega
      show (if (frs T).length + (frs Mo).length ≤ many then Res.ok (PV.tup (frs T ++ frs Mo)) H else .bad) = _
      rw [if_pos hl, frs_app]; rfl
    have hTq : ∀ v ∈ T ++ Mo, Fq 2 40 v ∧ ta ≤ v ∧ v ≤ tz := fun v hv => by
      rcases List.mem_append.mp hv with hv | hv
      · obtain ⟨j, hj, rfl⟩ := List.mem_iff_getElem.mp hv
        have e : T[j] = T.getD j 0 := by rw [List.getD_eq_getElem?_getD, List.getElem?_eq_getElem hj]; rfl
        refine ⟨(hs.tb _ hv).up (by omega) (by omega), ?_⟩
        rw [e, hta, htz]
        exact ⟨hu 0 j (by omega) hj, hu j (T.length - 1) (by omega) (by omega)⟩
      · obtain ⟨a1, a2, a3⟩ := hMo v hv
        exact ⟨a1, by grind, by grind⟩
    obtain ⟨r, u2, hr2, e3, g3, hu2⟩ := lsorted_pol (k := 36) (h := o' :: PO.lst (frs Mo) :: u) (xs := T ++ Mo) (b := 40) (fun v hv => (hTq v hv).1.bd (by omega) (by omega)) (by omega) (by omega) (by rw [List.length_append]; omega)
    obtain ⟨O, hO⟩ : ∃ O, O = isort (T ++ Mo) := ⟨_, rfl⟩
    have hOp : O.Perm (T ++ Mo) := by rw [hO]; exact isort_perm _
    have hOs : O.Pairwise (· ≤ ·) := by rw [hO]; exact isort_sorted _
    have hOl : O.length = T.length + Mo.length := by rw [hOp.length_eq, List.length_append]
    rw [← hO] at g3
    obtain ⟨H2, hH2⟩ : ∃ H2, H2 = o' :: PO.lst (frs Mo) :: u ++ u2 := ⟨_, rfl⟩
    rw [← hH2] at e3 g3
    have e3' : callF G 39 150 [pol (T ++ Mo)] (o' :: PO.lst (frs Mo) :: u) = .ok (.ref r) H2 := e3
    have gM : H2[1]? = some (.lst (frs Mo)) := by rw [hH2]; rfl
    have bt : blt .tuple [.ref r] H2 = .ok (pol O) H2 := by
      simp only [blt, items, g3]; rfl
    obtain ⟨R', hr', e4⟩ := refined_ok (k := 39) (h := H2) (O := O) hs hr0 hOs (fun v => by rw [hOp.count_eq]; exact hcn v) (fun v => by rw [hOp.count_eq, List.count_append]; omega) (by omega) (fun v hv => (hTq v (hOp.mem_iff.mp hv)).1) (fun v hv => by rw [← hta, ← htz]; exact (hTq v (hOp.mem_iff.mp hv)).2) (by omega)
    have hw' := hr'.spw hs
    have hw0 := hr0.spw hs
    have e5 := lfits_spline_ok (k := 39) (h := H2) hw' (by omega) (by omega) (by omega)
    have hval : ∀ X, ta ≤ X → X ≤ tz → spW d O R' X = spW d T R X := fun X h0 h1 => by
      rw [spW, spW, hr'.e1]
      by_cases z : X = T.getD (T.length - 1) 0
      · rw [if_pos z, if_pos z, hr'.fin]
      · rw [if_neg z, if_neg z]
        exact hr'.fn X (by rw [← hta]; exact h0) (by rw [← htz]; rw [← htz] at z; grind)
    have hrl' := hr'.rl
    have hO0 : O.getD 0 0 = ta := by rw [hr'.e0, hta]
    have hO1 : O.getD (O.length - 1) 0 = tz := by rw [hr'.e1, htz]
    have e6 := lsame_ok (k := 38) (h := H2) (f := spW d T R) (d1 := d) (d2 := d) (T1 := O) (R1 := R') (T2 := T) (R2 := R) hdl hdl (by omega) (by omega) (by omega) (by omega) (by omega) (by omega) hr'.e0 hr'.e1
      (fun v hv => ⟨hr'.fq v hv, by rw [hO0, hO1]; exact (hTq v (hOp.mem_iff.mp hv)).2⟩) (fun v hv => ⟨hr0.fq v hv, by rw [hO0, hO1]; exact (hTq v (List.mem_append_left _ hv)).2⟩) (by omega)
      (fun X H fX h0 h1 => by
        have := lspline_at_w (k := 38) (h := H) hw' hr'.fq (hr'.rfam hs) fX h0 h1 (by omega) (by omega) (by omega)
        rw [hval X (by rw [← hO0]; exact h0) (by rw [← hO1]; exact h1)] at this
        exact this)
      (fun X H fX h0 h1 => lspline_at_w (k := 38) (h := H) hw0 hr0.fq (hr0.rfam hs) fX (by rw [← hr'.e0]; exact h0) (by rw [← hr'.e1]; exact h1) (by omega) (by omega) (by omega)) hr'.fin
    have a1 : ∀ H, idxop (splv d O R') (.int 1) H = .ok (pol O) H := fun H => rfl
    simp [ba, e3', bt, e4, e5, a1, eqD_pol, e6]
    simp [gM]
    rw [← map_fr]
    have le2 : leans [(1, .lst (frs Mo))] H2 = true := by simp [leans, gM, PO.same_rfl]
    refine frL_l fr Mo (S := fun rs s h' => ∃ T1 R1 s8, Ref d T R T1 R1 ∧ (T1 ++ rs).Perm O ∧ (∀ v ∈ rs, v ∈ Mo) ∧ s = [some (.scr (ns.map PV.int)), some (.ref 0), some (splv d T R), some (.ref 1), s4, some (pol O), some (splv d O R'), some (splv d T1 R1), s8, none, none, none, none, none, some (.int (d : Nat)), some (pol T), some (pol R), s17, none] ∧ h' = H2)
      ⟨T, R, s8, hr0, hOp.symm, fun _ h => h, rfl, rfl⟩ (fun rs s h' ⟨_, _, _, _, _, _, _, e⟩ => by rw [e]; exact le2) ?_ ?_
    · rintro v rs s h' ⟨T1, R1, s8, hr1, hp1, hrm, rfl, rfl⟩
      obtain ⟨a1, a2, a3⟩ := hMo v (hrm v (by simp))
      have hpl := hp1.length_eq
      rw [List.length_append, List.length_cons] at hpl
      have hcv := hcn v
      rw [← hOp.count_eq, ← hp1.count_eq, List.count_append, List.count_cons_self] at hcv
      obtain ⟨T2, R2, hr2, hp2, _, e7⟩ := inserted_ok (k := 39) (h := h') hs hr1 a1 (by rw [hr1.e0, ← hta]; exact a2) (by rw [hr1.e1, ← htz]; exact a3) (by omega) (by omega) (by omega)
      simp [e7]
      refine ⟨T2, R2, hr2, ?_, fun w hw => hrm w (by simp [hw]), rfl⟩
      refine ((hp2.append_right rs).trans ?_).trans hp1
      rw [List.cons_append]
      exact List.perm_middle.symm
    · rintro s h' ⟨T1, R1, s8, hr1, hp1, hrm, rfl, rfl⟩
      rw [List.append_nil] at hp1
      have eT : T1 = O := sorted_perm (up_pw hr1.up) hOs hp1
      subst eT
      have eR : R1 = R' := hr1.uniq hs hr'
      subst eR
      have q1 : eqD h' (splv d T1 R1) (splv d T1 R1) = some true := eqD_one (by simp [splv, plain, plains, pol, plains_frs])
      simp [q1]
      refine lonce_to (by omega) (by decide) fun u3 hu3 => ?_
      obtain ⟨B, hB⟩ : ∃ B, B = ones [] T := ⟨_, rfl⟩
      have hBs : B.Pairwise (· < ·) := by rw [hB]; exact ones_sorted T [] (by simp) (up_pw hu) (by simp)
      have hBm : ∀ v, v ∈ B ↔ v ∈ T := fun v => by rw [hB, ones_mem]; simp
      have hBl : B.length = (chL T 0 (T.length - 1)).length + 1 := by rw [hB, breaks hu (by omega)]; simp
      have hLl : (chL T 0 (T.length - 1)).length ≤ 15 := by
        have : (chL T 0 (T.length - 1)).length ≤ (List.range' 0 (T.length - 1)).length := List.length_filter_le _ _
        rw [List.length_range'] at this
        omega
      rw [← hB]
      obtain ⟨pb, hpb⟩ : ∃ pb, pb = h'.length + u3.length := ⟨_, rfl⟩
      obtain ⟨H3, hH3⟩ : ∃ H3, H3 = h' ++ (u3 ++ [PO.lst (frs B)]) := ⟨_, rfl⟩
      have gB : H3[pb]? = some (.lst (frs B)) := by rw [hH3, hpb]; simp
      rw [← hpb, ← hH3]
      have hmk : mulOk (B.length : Int) ((d : Int) + 1) = true := mulOk_of (m := 6) (n := 4) (by omega) (by omega) (by decide)
      simp [gB, binop, hmk]
      refine br_to (fun hq => ?_) (fun hq => ?_)
      · simp
      · simp only [decide_eq_false_iff_not] at hq
        simp
        have gB' : ∀ w : PH, (H3 ++ w)[pb]? = some (.lst (frs B)) := fun w => by rw [List.getElem?_append_left (List.getElem?_eq_some_iff.mp gB).1]; exact gB
        simp [gB']
        rw [← map_fr]
        refine frL_l fr B (S := fun rs s h' => ∃ C w f s11, C ++ rs = B ∧ s = [some (.scr (ns.map PV.int)), some (.ref 0), some (splv d T R), some (.ref 1), s4, some (pol T1), some (splv d T1 R1), some (splv d T1 R1), s8, some (.ref pb), some (.ref f), s11, none, none, some (.int (d : Nat)), some (pol T), some (pol R), s17, none] ∧ h' = H3 ++ w ∧ h'[f]? = some (.lst (frs (fulL d C))))
          ⟨[], [.lst []], H3.length, none, rfl, rfl, rfl, by simp [fulL]⟩ (fun rs s h' ⟨_, _, _, _, _, _, e, _⟩ => by rw [e]; simp [leans, gB', PO.same_rfl]) ?_ ?_
        · rintro v rs s K ⟨C, w, f, s11, hC, rfl, hK, gf⟩
          have hfl := (List.getElem?_eq_some_iff.mp gf).1
          have hCl : C.length + 1 ≤ B.length := by rw [← hC]; simp
          have hful := ful_len d C
          have hful2 := ful_len d (C ++ [v])
          rw [List.length_append, List.length_singleton, Nat.succ_mul] at hful2
          have hsm : C.length * (d + 1) ≤ 16 * 5 := Nat.mul_le_mul (by omega) (by omega)
          have m1 : binop .mul (.ref K.length) (.int ((d : Int) + 1)) (K ++ [.lst [fr v]]) = .ok (.ref (K.length + 1)) (K ++ [.lst [fr v], .lst (frs (List.replicate (d + 1) v))]) := by
            have g : (K ++ [PO.lst [fr v]])[K.length]? = some (.lst [fr v]) := by simp
            have e : (List.replicate ((d : Int) + 1).toNat [fr v]).flatten = frs (List.replicate (d + 1) v) := by
              rw [show ((d : Int) + 1).toNat = d + 1 by omega]
              show _ = (List.replicate (d + 1) v).map fr
              simp
            simp only [binop, g, e, alloc]
            rw [if_pos ⟨by omega, by rw [hM]; omega, by rw [hM]; simp; omega⟩]
            simp
          have a1 : binop .add (.ref f) (.ref (K.length + 1)) (K ++ [.lst [fr v], .lst (frs (List.replicate (d + 1) v))]) = .ok (.ref (K.length + 2)) (K ++ [.lst [fr v], .lst (frs (List.replicate (d + 1) v)), .lst (frs (fulL d (C ++ [v])))]) := by
            have g1 : (K ++ [PO.lst [fr v], .lst (frs (List.replicate (d + 1) v))])[f]? = some (.lst (frs (fulL d C))) := by rw [List.getElem?_append_left hfl]; exact gf
            have g2 : (K ++ [PO.lst [fr v], .lst (frs (List.replicate (d + 1) v))])[K.length + 1]? = some (.lst (frs (List.replicate (d + 1) v))) := by simp
            simp only [binop, g1, g2, alloc, frs_app, ← ful_snoc]
            rw [if_pos (by rw [hM, frs_len, frs_len, List.length_replicate]; omega)]
            simp
          simp [alloc, m1, a1]
          exact ⟨C ++ [v], by simpa using hC, ⟨w ++ [PO.lst [fr v], .lst (frs (List.replicate (d + 1) v)), .lst (frs (fulL d (C ++ [v])))], by rw [hK, List.append_assoc]⟩, rfl⟩
        · rintro s K ⟨C, w, f, s11, hC, rfl, hK, gf⟩
          rw [List.append_nil] at hC
          subst hC
          have hFs := ful_sorted (d := d) hBs
          have hFl := ful_len d C
          have hF16 : C.length * (d + 1) ≤ 16 := by
            have e : ((C.length * (d + 1) : Nat) : Int) = (C.length : Int) * ((d : Int) + 1) := by
              rw [Int.natCast_mul]; rfl
            omega
          have hTm : ∀ v ∈ C, v ∈ T := fun v hv => (hBm v).mp hv
          obtain ⟨R2, hr2, e8⟩ := refined_ok (k := 39) (h := K) (O := fulL d C) hs hr0 hFs (ful_count_le d hBs) (fun v => by
              by_cases hv : v ∈ T
              · rw [ful_count ((hBm v).mpr hv) hBs]; exact kn_count hs.kn v
              · rw [List.count_eq_zero.mpr hv]; omega) (by omega) (fun v hv => (hTq v (List.mem_append_left _ (hTm v (ful_mem.mp hv)))).1) (fun v hv => by rw [← hta, ← htz]; exact (hTq v (List.mem_append_left _ (hTm v (ful_mem.mp hv)))).2) (by omega)
          have e8' : callF G 39 182 [splv d T R, .tup (frs (fulL d C))] K = .ok (splv d (fulL d C) R2) K := e8
          have e9 := fun H => spline_pieces_ok (k := 39) (h := H) hs (by decide)
          have hR2 := hr2.rl
          have hl9 : ∀ H, blt .len [pcV T R d] H = .ok (.int ((chL T 0 (T.length - 1)).length : Nat)) H := fun H => by
            simp [blt, pcV, spL_chL]
          have hix : ∀ i H, i < (chL T 0 (T.length - 1)).length → idxop (pcV T R d) (.int (i : Nat)) H = .ok (pcE T R d ((chL T 0 (T.length - 1)).getD i 0)) H := fun i H hi => by
            have hit : items H (pcV T R d) = some ((chL T 0 (T.length - 1)).map (pcE T R d)) := by rw [pcV, spL_chL]; rfl
            simp only [idxop, hit, atI_nn (show (0 : Int) ≤ (i : Nat) by omega), Int.toNat_natCast, List.getElem?_map, List.getElem?_eq_getElem hi, Option.map_some, List.getD_eq_getElem?_getD, Option.getD_some]
          have hrows := fun s (hs2 : s < (chL T 0 (T.length - 1)).length) => rows_ful (s := s) hs (by rw [← hB]; exact hr2) hs2
          generalize hLL : chL T 0 (T.length - 1) = L at *
          simp [gf, e8', e9, hl9]
          have mo : ∀ i : Nat, i < L.length → mulOk (i : Int) ((d : Int) + 1) = true := fun i hi => mulOk_of (m := 6) (n := 4) (by omega) (by omega) (by decide)
          have f2 : ∀ H, idxop (splv d (fulL d C) R2) (.int 2) H = .ok (pol R2) H := fun H => rfl
          have hRf : ∀ q ∈ R, Fq 1 15 q := fun q hq => (hs.rb q hq).up (by omega) (by omega)
          refine forR_to0 L.length (S := fun i s h'' => h'' = K ∧ ∃ s13 s18, s = [some (.scr (ns.map PV.int)), some (.ref 0), some (splv d T R), some (.ref 1), s4, some (pol T1), some (splv d T1 R1), some (splv d (fulL d C) R2), s8, some (.ref pb), some (.ref f), s11, some (pcV T R d), s13, some (.int (d : Nat)), some (pol T), some (pol R), s17, s18]) rfl (by omega) ⟨rfl, _, _, rfl⟩ ?_ ?_
          · rintro i s h'' hi ⟨rfl, s13, s18, rfl⟩
            have hrow := hrows i hi
            have hx := hix i h'' hi
            have hm := chL_mem (T := T) (i := 0) (n := T.length - 1) (q := L.getD i 0) (by
              rw [hLL, List.getD_eq_getElem?_getD, List.getElem?_eq_getElem hi]; exact List.getElem_mem _)
            generalize L.getD i 0 = l at *
            have hsp := hs.spn (p := l) (by omega) hm.2.2
            have hcd : AllB 213 (pcP T R d l) := (pcN_cd hsp hRf (s := d + 1) (by omega)).all (by omega) (by omega)
            have hP1 : (pcP T R d l).length ≤ d + 1 := pcN_len (d + 1)
            have hP2 : Can (pcP T R d l) := pcN_can (d + 1)
            have er := row_of_ok (k := 33) (h := h'') (P := pcP T R d l) (d := d) (b := 19) (by omega) ((getD_fq hs.tb l).bd (by omega) (by omega)) ((getD_fq hs.tb (l + 1)).bd (by omega) (by omega)) hsp.lt (by omega) hcd hP2 hP1 (by omega) (M := 100) (by have := Nat.mul_le_mul_right 20 hdl; omega) (by have := Nat.mul_le_mul (show (pcP T R d l).length + 2 ≤ 7 by omega) (show 213 + 100 + d + 2 ≤ 319 by omega); omega)
            have er' : callF G 39 95 [pol (pcP T R d l), .int (d : Nat), .tup [fr (T.getD l 0), fr (T.getD (l + 1) 0)]] h'' = .ok (pol (crow (pcP T R d l) d (T.getD l 0) (T.getD (l + 1) 0))) h'' := er
            have hsl : slcop (pol R2) (some ((i : Int) * ((d : Int) + 1))) (some ((i : Int) * ((d : Int) + 1) + (d : Int) + 1)) h'' = .ok (pol ((R2.drop (i * (d + 1))).take (d + 1))) h'' := by
              have hmul : (i + 1) * (d + 1) ≤ L.length * (d + 1) := Nat.mul_le_mul_right _ (by omega)
              rw [Nat.succ_mul] at hmul
              have hfl : (fulL d C).length = L.length * (d + 1) + (d + 1) := by rw [hFl, hBl, Nat.succ_mul]
              have hc := cut_mid (zs := frs R2) (i := i * (d + 1)) (j := i * (d + 1) + (d + 1)) (by omega) (by rw [frs_len]; omega)
              rw [frs_drop, frs_take, show i * (d + 1) + (d + 1) - i * (d + 1) = d + 1 by omega] at hc
              have e1 : ((i * (d + 1) : Nat) : Int) = (i : Int) * ((d : Int) + 1) := by rw [Int.natCast_mul]; rfl
              have e2 : ((i * (d + 1) + (d + 1) : Nat) : Int) = (i : Int) * ((d : Int) + 1) + (d : Int) + 1 := by omega
              rw [e1, e2] at hc
              simp only [slcop, pol, hc]
            rw [hrow] at hsl
            have hpc : pcE T R d l = .tup [.tup [fr (T.getD l 0), fr (T.getD (l + 1) 0)], pol (pcP T R d l)] := rfl
            rw [hpc] at hx
            have hmo := mo i hi
            generalize crow (pcP T R d l) d (T.getD l 0) (T.getD (l + 1) 0) = CR at *
            generalize pcP T R d l = P at *
            generalize T.getD l 0 = la at *
            generalize T.getD (l + 1) 0 = lb at *
            simp [hx, er', hsl, f2, hmo, eqD_pol, binop]
          · rintro s h'' ⟨rfl, s13, s18, rfl⟩
            have hfin : (R2.length : Int) = (L.length : Int) * ((d : Int) + 1) := by
              have hfl : (fulL d C).length = L.length * (d + 1) + (d + 1) := by rw [hFl, hBl, Nat.succ_mul]
              have : R2.length = L.length * (d + 1) := by omega
              rw [this, Int.natCast_mul]; rfl
            have hmo : mulOk (L.length : Int) ((d : Int) + 1) = true := mulOk_of (m := 6) (n := 4) (by omega) (by omega) (by decide)
            simp [f2, hl9, hmo, binop, hfin, eqD_int]
end
end PB
set_option Elab.async false
set_option linter.all false
set_option maxRecDepth 100000
set_option maxHeartbeats 4000000
namespace PB
open PySem PySem.Spec L2
def topS (i : Nat) : Stmt := PySem.Challenge.pw_blendcurves_k31_whole_refined_splines.main.body.getD i (.Pass ⟨0, 0, 0, 0⟩)
abbrev t_is_int : Stmt := topS 14
abbrev N_is_int : List Str := ["value"]
abbrev P_is_int : List Str := ["value"]
theorem sc_is_int : FnScope N_is_int P_is_int (C8.fnScope t_is_int) := C8.fnScope_by (by decide +kernel)
abbrev t_is_from : Stmt := topS 15
abbrev N_is_from : List Str := ["value", "least", "most"]
abbrev P_is_from : List Str := ["value", "least", "most"]
theorem sc_is_from : FnScope N_is_from P_is_from (C8.fnScope t_is_from) := C8.fnScope_by (by decide +kernel)
abbrev t_is_ratio : Stmt := topS 16
abbrev N_is_ratio : List Str := ["value"]
abbrev P_is_ratio : List Str := ["value"]
theorem sc_is_ratio : FnScope N_is_ratio P_is_ratio (C8.fnScope t_is_ratio) := C8.fnScope_by (by decide +kernel)
abbrev t_made : Stmt := topS 17
abbrev N_made : List Str := ["top", "low", "part"]
abbrev P_made : List Str := ["top", "low"]
theorem sc_made : FnScope N_made P_made (C8.fnScope t_made) := C8.fnScope_by (by decide +kernel)
abbrev t_plus : Stmt := topS 18
abbrev N_plus : List Str := ["one", "other"]
abbrev P_plus : List Str := ["one", "other"]
theorem sc_plus : FnScope N_plus P_plus (C8.fnScope t_plus) := C8.fnScope_by (by decide +kernel)
abbrev t_less : Stmt := topS 19
abbrev N_less : List Str := ["one", "other"]
abbrev P_less : List Str := ["one", "other"]
theorem sc_less : FnScope N_less P_less (C8.fnScope t_less) := C8.fnScope_by (by decide +kernel)
abbrev t_times : Stmt := topS 20
abbrev N_times : List Str := ["one", "other"]
abbrev P_times : List Str := ["one", "other"]
theorem sc_times : FnScope N_times P_times (C8.fnScope t_times) := C8.fnScope_by (by decide +kernel)
abbrev t_over : Stmt := topS 21
abbrev N_over : List Str := ["one", "other"]
abbrev P_over : List Str := ["one", "other"]
theorem sc_over : FnScope N_over P_over (C8.fnScope t_over) := C8.fnScope_by (by decide +kernel)
abbrev t_negative : Stmt := topS 22
abbrev N_negative : List Str := ["one"]
abbrev P_negative : List Str := ["one"]
theorem sc_negative : FnScope N_negative P_negative (C8.fnScope t_negative) := C8.fnScope_by (by decide +kernel)
abbrev t_is_below : Stmt := topS 23
abbrev N_is_below : List Str := ["one", "other"]
abbrev P_is_below : List Str := ["one", "other"]
theorem sc_is_below : FnScope N_is_below P_is_below (C8.fnScope t_is_below) := C8.fnScope_by (by decide +kernel)
abbrev t_between : Stmt := topS 24
abbrev N_between : List Str := ["one", "other", "part"]
abbrev P_between : List Str := ["one", "other", "part"]
theorem sc_between : FnScope N_between P_between (C8.fnScope t_between) := C8.fnScope_by (by decide +kernel)
abbrev t_are_ratios : Stmt := topS 25
abbrev N_are_ratios : List Str := ["value", "many", "one"]
abbrev P_are_ratios : List Str := ["value", "many"]
theorem sc_are_ratios : FnScope N_are_ratios P_are_ratios (C8.fnScope t_are_ratios) := C8.fnScope_by (by decide +kernel)
abbrev t_is_poly : Stmt := topS 28
abbrev N_is_poly : List Str := ["value", "one"]
abbrev P_is_poly : List Str := ["value"]
theorem sc_is_poly : FnScope N_is_poly P_is_poly (C8.fnScope t_is_poly) := C8.fnScope_by (by decide +kernel)
abbrev t_need_poly : Stmt := topS 29
abbrev N_need_poly : List Str := ["value"]
abbrev P_need_poly : List Str := ["value"]
theorem sc_need_poly : FnScope N_need_poly P_need_poly (C8.fnScope t_need_poly) := C8.fnScope_by (by decide +kernel)
abbrev t_trimmed : Stmt := topS 30
abbrev N_trimmed : List Str := ["row", "many"]
abbrev P_trimmed : List Str := ["row"]
theorem sc_trimmed : FnScope N_trimmed P_trimmed (C8.fnScope t_trimmed) := C8.fnScope_by (by decide +kernel)
abbrev t_p_plus : Stmt := topS 31
abbrev N_p_plus : List Str := ["one", "other", "size", "first", "second", "x", "y"]
abbrev P_p_plus : List Str := ["one", "other"]
theorem sc_p_plus : FnScope N_p_plus P_p_plus (C8.fnScope t_p_plus) := C8.fnScope_by (by decide +kernel)
abbrev t_p_scaled : Stmt := topS 32
abbrev N_p_scaled : List Str := ["poly", "number", "one"]
abbrev P_p_scaled : List Str := ["poly", "number"]
theorem sc_p_scaled : FnScope N_p_scaled P_p_scaled (C8.fnScope t_p_scaled) := C8.fnScope_by (by decide +kernel)
abbrev t_p_times : Stmt := topS 33
abbrev N_p_times : List Str := ["one", "other", "found", "place", "x", "more", "y"]
abbrev P_p_times : List Str := ["one", "other"]
theorem sc_p_times : FnScope N_p_times P_p_times (C8.fnScope t_p_times) := C8.fnScope_by (by decide +kernel)
abbrev t_choose : Stmt := topS 36
abbrev N_choose : List Str := ["many", "few", "found", "turn"]
abbrev P_choose : List Str := ["many", "few"]
theorem sc_choose : FnScope N_choose P_choose (C8.fnScope t_choose) := C8.fnScope_by (by decide +kernel)
abbrev t_need_degree : Stmt := topS 37
abbrev N_need_degree : List Str := ["poly", "degree"]
abbrev P_need_degree : List Str := ["poly", "degree"]
theorem sc_need_degree : FnScope N_need_degree P_need_degree (C8.fnScope t_need_degree) := C8.fnScope_by (by decide +kernel)
abbrev t_symmetric : Stmt := topS 38
abbrev N_symmetric : List Str := ["places", "found", "place", "longer", "at"]
abbrev P_symmetric : List Str := ["places"]
theorem sc_symmetric : FnScope N_symmetric P_symmetric (C8.fnScope t_symmetric) := C8.fnScope_by (by decide +kernel)
abbrev t_blossom_of : Stmt := topS 39
abbrev N_blossom_of : List Str := ["poly", "places", "found", "told", "power", "number"]
abbrev P_blossom_of : List Str := ["poly", "places"]
theorem sc_blossom_of : FnScope N_blossom_of P_blossom_of (C8.fnScope t_blossom_of) := C8.fnScope_by (by decide +kernel)
abbrev t_faults_of : Stmt := topS 43
abbrev N_faults_of : List Str := ["degree", "value", "index", "one"]
abbrev P_faults_of : List Str := ["degree", "value"]
theorem sc_faults_of : FnScope N_faults_of P_faults_of (C8.fnScope t_faults_of) := C8.fnScope_by (by decide +kernel)
abbrev t_need_knots : Stmt := topS 44
abbrev N_need_knots : List Str := ["degree", "value", "faults"]
abbrev P_need_knots : List Str := ["degree", "value"]
theorem sc_need_knots : FnScope N_need_knots P_need_knots (C8.fnScope t_need_knots) := C8.fnScope_by (by decide +kernel)
abbrev t_basis_poly : Stmt := topS 45
abbrev N_basis_poly : List Str := ["degree", "knots", "index", "place", "found", "low", "high", "part", "line"]
abbrev P_basis_poly : List Str := ["degree", "knots", "index", "place"]
theorem sc_basis_poly : FnScope N_basis_poly P_basis_poly (C8.fnScope t_basis_poly) := C8.fnScope_by (by decide +kernel)
abbrev t_need_spline : Stmt := topS 47
abbrev N_need_spline : List Str := ["value", "degree", "knots", "row"]
abbrev P_need_spline : List Str := ["value"]
theorem sc_need_spline : FnScope N_need_spline P_need_spline (C8.fnScope t_need_spline) := C8.fnScope_by (by decide +kernel)
abbrev t_is_inner : Stmt := topS 48
abbrev N_is_inner : List Str := ["spline", "x"]
abbrev P_is_inner : List Str := ["spline", "x"]
theorem sc_is_inner : FnScope N_is_inner P_is_inner (C8.fnScope t_is_inner) := C8.fnScope_by (by decide +kernel)
abbrev t_need_inner : Stmt := topS 49
abbrev N_need_inner : List Str := ["spline", "x"]
abbrev P_need_inner : List Str := ["spline", "x"]
theorem sc_need_inner : FnScope N_need_inner P_need_inner (C8.fnScope t_need_inner) := C8.fnScope_by (by decide +kernel)
abbrev t_span_of : Stmt := topS 50
abbrev N_span_of : List Str := ["knots", "x", "found", "place"]
abbrev P_span_of : List Str := ["knots", "x"]
theorem sc_span_of : FnScope N_span_of P_span_of (C8.fnScope t_span_of) := C8.fnScope_by (by decide +kernel)
abbrev t_pieces_of : Stmt := topS 51
abbrev N_pieces_of : List Str := ["spline", "found", "place", "degree", "knots", "row", "poly", "index"]
abbrev P_pieces_of : List Str := ["spline"]
theorem sc_pieces_of : FnScope N_pieces_of P_pieces_of (C8.fnScope t_pieces_of) := C8.fnScope_by (by decide +kernel)
abbrev t_spline_pieces : Stmt := topS 52
abbrev N_spline_pieces : List Str := ["spline"]
abbrev P_spline_pieces : List Str := ["spline"]
theorem sc_spline_pieces : FnScope N_spline_pieces P_spline_pieces (C8.fnScope t_spline_pieces) := C8.fnScope_by (by decide +kernel)
abbrev t_with_knot : Stmt := topS 54
abbrev N_with_knot : List Str := ["spline", "x", "index", "degree", "knots", "row", "span", "found", "part"]
abbrev P_with_knot : List Str := ["spline", "x"]
theorem sc_with_knot : FnScope N_with_knot P_with_knot (C8.fnScope t_with_knot) := C8.fnScope_by (by decide +kernel)
abbrev t_inserted : Stmt := topS 55
abbrev N_inserted : List Str := ["spline", "x", "degree", "knots", "row"]
abbrev P_inserted : List Str := ["spline", "x"]
theorem sc_inserted : FnScope N_inserted P_inserted (C8.fnScope t_inserted) := C8.fnScope_by (by decide +kernel)
abbrev t_missing : Stmt := topS 56
abbrev N_missing : List Str := ["knots", "others", "one", "left", "found"]
abbrev P_missing : List Str := ["knots", "others"]
theorem sc_missing : FnScope N_missing P_missing (C8.fnScope t_missing) := C8.fnScope_by (by decide +kernel)
abbrev t_refined : Stmt := topS 57
abbrev N_refined : List Str := ["spline", "knots", "told", "found", "x"]
abbrev P_refined : List Str := ["spline", "knots"]
theorem sc_refined : FnScope N_refined P_refined (C8.fnScope t_refined) := C8.fnScope_by (by decide +kernel)
abbrev t_is_interval : Stmt := topS 59
abbrev N_is_interval : List Str := ["value"]
abbrev P_is_interval : List Str := ["value"]
theorem sc_is_interval : FnScope N_is_interval P_is_interval (C8.fnScope t_is_interval) := C8.fnScope_by (by decide +kernel)
abbrev t_need_interval : Stmt := topS 60
abbrev N_need_interval : List Str := ["value"]
abbrev P_need_interval : List Str := ["value"]
theorem sc_need_interval : FnScope N_need_interval P_need_interval (C8.fnScope t_need_interval) := C8.fnScope_by (by decide +kernel)
abbrev t_control_row : Stmt := topS 61
abbrev N_control_row : List Str := ["poly", "degree", "interval", "low", "high", "at"]
abbrev P_control_row : List Str := ["poly", "degree", "interval"]
theorem sc_control_row : FnScope N_control_row P_control_row (C8.fnScope t_control_row) := C8.fnScope_by (by decide +kernel)
abbrev t_row_of : Stmt := topS 62
abbrev N_row_of : List Str := ["poly", "degree", "interval"]
abbrev P_row_of : List Str := ["poly", "degree", "interval"]
theorem sc_row_of : FnScope N_row_of P_row_of (C8.fnScope t_row_of) := C8.fnScope_by (by decide +kernel)
abbrev t__law_taken : Stmt := topS 64
abbrev N__law_taken : List Str := ["_law_row", "_law_many", "_law_cell", "_law_found"]
abbrev P__law_taken : List Str := ["_law_row", "_law_many"]
theorem sc__law_taken : FnScope N__law_taken P__law_taken (C8.fnScope t__law_taken) := C8.fnScope_by (by decide +kernel)
abbrev t__law_pick : Stmt := topS 65
abbrev N__law_pick : List Str := ["_law_row", "_law_things"]
abbrev P__law_pick : List Str := ["_law_row", "_law_things"]
theorem sc__law_pick : FnScope N__law_pick P__law_pick (C8.fnScope t__law_pick) := C8.fnScope_by (by decide +kernel)
abbrev t__law_made : Stmt := topS 66
abbrev N__law_made : List Str := ["_law_top", "_law_low", "_law_turn", "_law_one", "_law_other"]
abbrev P__law_made : List Str := ["_law_top", "_law_low"]
theorem sc__law_made : FnScope N__law_made P__law_made (C8.fnScope t__law_made) := C8.fnScope_by (by decide +kernel)
abbrev t__law_plus : Stmt := topS 67
abbrev N__law_plus : List Str := ["_law_one", "_law_other"]
abbrev P__law_plus : List Str := ["_law_one", "_law_other"]
theorem sc__law_plus : FnScope N__law_plus P__law_plus (C8.fnScope t__law_plus) := C8.fnScope_by (by decide +kernel)
abbrev t__law_minus : Stmt := topS 68
abbrev N__law_minus : List Str := ["_law_one", "_law_other"]
abbrev P__law_minus : List Str := ["_law_one", "_law_other"]
theorem sc__law_minus : FnScope N__law_minus P__law_minus (C8.fnScope t__law_minus) := C8.fnScope_by (by decide +kernel)
abbrev t__law_times : Stmt := topS 69
abbrev N__law_times : List Str := ["_law_one", "_law_other"]
abbrev P__law_times : List Str := ["_law_one", "_law_other"]
theorem sc__law_times : FnScope N__law_times P__law_times (C8.fnScope t__law_times) := C8.fnScope_by (by decide +kernel)
abbrev t__law_over : Stmt := topS 70
abbrev N__law_over : List Str := ["_law_one", "_law_other"]
abbrev P__law_over : List Str := ["_law_one", "_law_other"]
theorem sc__law_over : FnScope N__law_over P__law_over (C8.fnScope t__law_over) := C8.fnScope_by (by decide +kernel)
abbrev t__law_below : Stmt := topS 71
abbrev N__law_below : List Str := ["_law_one", "_law_other"]
abbrev P__law_below : List Str := ["_law_one", "_law_other"]
theorem sc__law_below : FnScope N__law_below P__law_below (C8.fnScope t__law_below) := C8.fnScope_by (by decide +kernel)
abbrev t__law_sum : Stmt := topS 72
abbrev N__law_sum : List Str := ["_law_some", "_law_found", "_law_one"]
abbrev P__law_sum : List Str := ["_law_some"]
theorem sc__law_sum : FnScope N__law_sum P__law_sum (C8.fnScope t__law_sum) := C8.fnScope_by (by decide +kernel)
abbrev t__law_draw : Stmt := topS 73
abbrev N__law_draw : List Str := ["_law_row", "_law_low"]
abbrev P__law_draw : List Str := ["_law_row"]
theorem sc__law_draw : FnScope N__law_draw P__law_draw (C8.fnScope t__law_draw) := C8.fnScope_by (by decide +kernel)
abbrev t__law_middle : Stmt := topS 74
abbrev N__law_middle : List Str := ["_law_one", "_law_other", "_law_part"]
abbrev P__law_middle : List Str := ["_law_one", "_law_other", "_law_part"]
theorem sc__law_middle : FnScope N__law_middle P__law_middle (C8.fnScope t__law_middle) := C8.fnScope_by (by decide +kernel)
abbrev t__law_once : Stmt := topS 75
abbrev N__law_once : List Str := ["_law_some", "_law_found", "_law_one"]
abbrev P__law_once : List Str := ["_law_some"]
theorem sc__law_once : FnScope N__law_once P__law_once (C8.fnScope t__law_once) := C8.fnScope_by (by decide +kernel)
abbrev t__law_sorted : Stmt := topS 76
abbrev N__law_sorted : List Str := ["_law_some", "_law_found", "_law_one", "_law_at"]
abbrev P__law_sorted : List Str := ["_law_some"]
theorem sc__law_sorted : FnScope N__law_sorted P__law_sorted (C8.fnScope t__law_sorted) := C8.fnScope_by (by decide +kernel)
abbrev t__law_basis : Stmt := topS 77
abbrev N__law_basis : List Str := ["_law_degree", "_law_knots", "_law_i", "_law_x", "_law_found", "_law_part"]
abbrev P__law_basis : List Str := ["_law_degree", "_law_knots", "_law_i", "_law_x"]
theorem sc__law_basis : FnScope N__law_basis P__law_basis (C8.fnScope t__law_basis) := C8.fnScope_by (by decide +kernel)
abbrev t__law_spline : Stmt := topS 78
abbrev N__law_spline : List Str := ["_law_row", "_law_most", "_law_turn", "_law_knots", "_law_degree", "_law_low", "_law_now", "_law_at"]
abbrev P__law_spline : List Str := ["_law_row", "_law_most"]
theorem sc__law_spline : FnScope N__law_spline P__law_spline (C8.fnScope t__law_spline) := C8.fnScope_by (by decide +kernel)
abbrev t__law_spline_at : Stmt := topS 79
abbrev N__law_spline_at : List Str := ["_law_spline_here", "_law_x", "_law_degree", "_law_knots", "_law_some", "_law_i"]
abbrev P__law_spline_at : List Str := ["_law_spline_here", "_law_x"]
theorem sc__law_spline_at : FnScope N__law_spline_at P__law_spline_at (C8.fnScope t__law_spline_at) := C8.fnScope_by (by decide +kernel)
abbrev t__law_within : Stmt := topS 80
abbrev N__law_within : List Str := ["_law_row", "_law_spline_here", "_law_low", "_law_high"]
abbrev P__law_within : List Str := ["_law_row", "_law_spline_here"]
theorem sc__law_within : FnScope N__law_within P__law_within (C8.fnScope t__law_within) := C8.fnScope_by (by decide +kernel)
abbrev t__law_same : Stmt := topS 81
abbrev N__law_same : List Str := ["_law_one", "_law_other", "_law_places", "_law_at", "_law_many", "_law_step", "_law_x"]
abbrev P__law_same : List Str := ["_law_one", "_law_other"]
theorem sc__law_same : FnScope N__law_same P__law_same (C8.fnScope t__law_same) := C8.fnScope_by (by decide +kernel)
abbrev t__law_fits_spline : Stmt := topS 82
abbrev N__law_fits_spline : List Str := ["_law_value", "_law_degree", "_law_knots", "_law_some"]
abbrev P__law_fits_spline : List Str := ["_law_value"]
theorem sc__law_fits_spline : FnScope N__law_fits_spline P__law_fits_spline (C8.fnScope t__law_fits_spline) := C8.fnScope_by (by decide +kernel)
abbrev t_law : Stmt := topS 83
abbrev N_law : List Str := ["_law_script", "_law_row", "_law_spline_here", "_law_more", "_law_turn", "_law_due", "_law_found", "_law_told", "_law_x", "_law_breaks", "_law_full", "_law_one", "_law_pieces", "_law_at", "_law_degree", "_law_knots", "_law_some", "_law_held", "_law_start"]
abbrev P_law : List Str := ["_law_script"]
theorem sc_law : FnScope N_law P_law (C8.fnScope t_law) := C8.fnScope_by (by decide +kernel)
structure Wld (mg : Str → Option Value) (K : PySem.W.Frag) (fv : Nat → Option Addr) : Prop where
  m_abs : mg "abs" = none
  m_all : mg "all" = none
  m_bool : mg "bool" = none
  m_enumerate : mg "enumerate" = none
  m_gcd : mg "gcd" = some (.builtin "math.gcd")
  m_int : mg "int" = none
  m_isinstance : mg "isinstance" = none
  m_len : mg "len" = none
  m_list : mg "list" = none
  m_max : mg "max" = none
  m_range : mg "range" = none
  m_tuple : mg "tuple" = none
  m_zip : mg "zip" = none
  z_MOST_DEGREE_knots : GC mg K fv "MOST_DEGREE_knots" (.int 4)
  z_MOST_DEGREE_polys : GC mg K fv "MOST_DEGREE_polys" (.int 12)
  z_MOST_KNOTS : GC mg K fv "MOST_KNOTS" (.int 16)
  z_MOST_ROW : GC mg K fv "MOST_ROW" (.int 8)
  z_ONE : GC mg K fv "ONE" (.tup [(.int 1), (.int 1)])
  z_ZERO : GC mg K fv "ZERO" (.tup [(.int 0), (.int 1)])
structure Cals (P : Program) (w : World) (K : PySem.W.Frag) (mg : Str → Option Value) (base : Heap) (fv : Nat → Option Addr) (k : Nat) : Prop where
  c_is_int : C8.Cal P w K mg base k "is_int" (spI K fv G k 0) []
  c_is_from : C8.Cal P w K mg base k "is_from" (spI K fv G k 75) []
  c_is_ratio : C8.Cal P w K mg base k "is_ratio" (spI K fv G k 1) []
  c_made : C8.Cal P w K mg base k "made" (spI K fv G k 2) []
  c_plus : C8.Cal P w K mg base k "plus" (spI K fv G k 4) []
  c_less : C8.Cal P w K mg base k "less" (spI K fv G k 31) []
  c_times : C8.Cal P w K mg base k "times" (spI K fv G k 5) []
  c_over : C8.Cal P w K mg base k "over" (spI K fv G k 32) []
  c_negative : C8.Cal P w K mg base k "negative" (spI K fv G k 52) []
  c_is_below : C8.Cal P w K mg base k "is_below" (spI K fv G k 49) []
  c_between : C8.Cal P w K mg base k "between" (spI K fv G k 100) []
  c_are_ratios : C8.Cal P w K mg base k "are_ratios" (spI K fv G k 50) []
  c_is_poly : C8.Cal P w K mg base k "is_poly" (spI K fv G k 3) []
  c_need_poly : C8.Cal P w K mg base k "need_poly" (spI K fv G k 8) []
  c_trimmed : C8.Cal P w K mg base k "trimmed" (spI K fv G k 9) []
  c_p_plus : C8.Cal P w K mg base k "p_plus" (spI K fv G k 10) []
  c_p_scaled : C8.Cal P w K mg base k "p_scaled" (spI K fv G k 33) []
  c_p_times : C8.Cal P w K mg base k "p_times" (spI K fv G k 13) []
  c_choose : C8.Cal P w K mg base k "choose" (spI K fv G k 76) []
  c_need_degree : C8.Cal P w K mg base k "need_degree" (spI K fv G k 79) []
  c_symmetric : C8.Cal P w K mg base k "symmetric" (spI K fv G k 77) []
  c_blossom_of : C8.Cal P w K mg base k "blossom_of" (spI K fv G k 78) []
  c_faults_of : C8.Cal P w K mg base k "faults_of" (spI K fv G k 145) []
  c_need_knots : C8.Cal P w K mg base k "need_knots" (spI K fv G k 148) []
  c_basis_poly : C8.Cal P w K mg base k "basis_poly" (spI K fv G k 155) []
  c_need_spline : C8.Cal P w K mg base k "need_spline" (spI K fv G k 165) []
  c_is_inner : C8.Cal P w K mg base k "is_inner" (spI K fv G k 175) []
  c_need_inner : C8.Cal P w K mg base k "need_inner" (spI K fv G k 177) []
  c_span_of : C8.Cal P w K mg base k "span_of" (spI K fv G k 163) []
  c_pieces_of : C8.Cal P w K mg base k "pieces_of" (spI K fv G k 166) []
  c_spline_pieces : C8.Cal P w K mg base k "spline_pieces" (spI K fv G k 170) []
  c_with_knot : C8.Cal P w K mg base k "with_knot" (spI K fv G k 176) []
  c_inserted : C8.Cal P w K mg base k "inserted" (spI K fv G k 178) []
  c_missing : C8.Cal P w K mg base k "missing" (spI K fv G k 181) []
  c_refined : C8.Cal P w K mg base k "refined" (spI K fv G k 182) []
  c_is_interval : C8.Cal P w K mg base k "is_interval" (spI K fv G k 84) []
  c_need_interval : C8.Cal P w K mg base k "need_interval" (spI K fv G k 88) []
  c_control_row : C8.Cal P w K mg base k "control_row" (spI K fv G k 87) []
  c_row_of : C8.Cal P w K mg base k "row_of" (spI K fv G k 95) []
  c__law_taken : C8.Cal P w K mg base k "_law_taken" (spI K fv G k 14) []
  c__law_pick : C8.Cal P w K mg base k "_law_pick" (spI K fv G k 17) []
  c__law_made : C8.Cal P w K mg base k "_law_made" (spI K fv G k 16) []
  c__law_plus : C8.Cal P w K mg base k "_law_plus" (spI K fv G k 20) []
  c__law_minus : C8.Cal P w K mg base k "_law_minus" (spI K fv G k 43) []
  c__law_times : C8.Cal P w K mg base k "_law_times" (spI K fv G k 21) []
  c__law_over : C8.Cal P w K mg base k "_law_over" (spI K fv G k 69) []
  c__law_below : C8.Cal P w K mg base k "_law_below" (spI K fv G k 58) []
  c__law_sum : C8.Cal P w K mg base k "_law_sum" (spI K fv G k 68) []
  c__law_draw : C8.Cal P w K mg base k "_law_draw" (spI K fv G k 19) []
  c__law_middle : C8.Cal P w K mg base k "_law_middle" (spI K fv G k 80) []
  c__law_once : C8.Cal P w K mg base k "_law_once" (spI K fv G k 127) []
  c__law_sorted : C8.Cal P w K mg base k "_law_sorted" (spI K fv G k 150) []
  c__law_basis : C8.Cal P w K mg base k "_law_basis" (spI K fv G k 151) []
  c__law_spline : C8.Cal P w K mg base k "_law_spline" (spI K fv G k 171) []
  c__law_spline_at : C8.Cal P w K mg base k "_law_spline_at" (spI K fv G k 168) []
  c__law_within : C8.Cal P w K mg base k "_law_within" (spI K fv G k 172) []
  c__law_same : C8.Cal P w K mg base k "_law_same" (spI K fv G k 179) []
  c__law_fits_spline : C8.Cal P w K mg base k "_law_fits_spline" (spI K fv G k 180) []
  c_law : C8.Cal P w K mg base k "law" (spI K fv G k 183) []
section
variable {P : Program} {w : World} {K : PySem.W.Frag} {mg : Str → Option Value} {base : Heap} {fv : Nat → Option Addr} {k : Nat}
theorem d_is_int (W : Wld mg K fv) (C : Cals P w K mg base fv k) (f : Addr) (cdv : Value) (A : Around) (outer : List Env) (s : Shared) (H : Hp) (E : XK) (hr : Room k (A.deeper (PyProof.Rows.envOfC "is_int" (C8.fnScope t_is_int) s.heap.objs.size f cdv))) :
    PSs (cxOf CX0 P w K mg base N_is_int "is_int" (C8.fnScope t_is_int) f cdv A outer s H E).nox (C8.fnBody t_is_int) (tK K fv (callF G k) c_is_int) :=
  have nd := sc_is_int.nd
  (k_cons (s_ret (e_and (e_isInt (by rfl) W.m_isinstance (by rfl) W.m_int (e_var (pv 0))) (e_one (e_not (e_isBool (by rfl) W.m_isinstance (by rfl) W.m_bool (e_var (pv 0)))))))
      k_nil)
theorem d_is_from (W : Wld mg K fv) (C : Cals P w K mg base fv k) (f : Addr) (cdv : Value) (A : Around) (outer : List Env) (s : Shared) (H : Hp) (E : XK) (hr : Room k (A.deeper (PyProof.Rows.envOfC "is_from" (C8.fnScope t_is_from) s.heap.objs.size f cdv))) :
    PSs (cxOf CX0 P w K mg base N_is_from "is_from" (C8.fnScope t_is_from) f cdv A outer s H E).nox (C8.fnBody t_is_from) (tK K fv (callF G k) c_is_from) :=
  have nd := sc_is_from.nd
  (k_cons (s_ret (e_and (e_call C.c_is_int hr (by rfl) (a_cons (e_var (pv 0)) a_nil)) (e_one (e_chn c_le c_le (e_var (pv 1)) (e_var (pv 0)) (e_var (pv 2))))))
      k_nil)
theorem d_is_ratio (W : Wld mg K fv) (C : Cals P w K mg base fv k) (f : Addr) (cdv : Value) (A : Around) (outer : List Env) (s : Shared) (H : Hp) (E : XK) (hr : Room k (A.deeper (PyProof.Rows.envOfC "is_ratio" (C8.fnScope t_is_ratio) s.heap.objs.size f cdv))) :
    PSs (cxOf CX0 P w K mg base N_is_ratio "is_ratio" (C8.fnScope t_is_ratio) f cdv A outer s H E).nox (C8.fnBody t_is_ratio) (tK K fv (callF G k) c_is_ratio) :=
  have nd := sc_is_ratio.nd
  (k_cons (s_if (PW.pt (t_or (t_not (t_val (e_isTup (by rfl) W.m_isinstance (by rfl) W.m_tuple (e_var (pv 0))))) (t_or (t_cmp (c_ne hr) (e_len (by rfl) W.m_len (a_cons (e_var (pv 0)) a_nil)) e_int) (t_or (t_not (t_val (e_call C.c_is_int hr (by rfl) (a_cons (e_idx (e_var (pv 0)) e_int) a_nil)))) (t_or1 (t_not (t_val (e_call C.c_is_int hr (by rfl) (a_cons (e_idx (e_var (pv 0)) e_int) a_nil))))))))) (k_cons (s_ret e_bl)
      k_nil) k_nil)
      (k_cons (s_ret (e_and (e_cmp c_gt (e_idx (e_var (pv 0)) e_int) e_int) (e_one (e_cmp (c_eq hr) (e_gcd (by rfl) W.m_gcd (a_cons (e_idx (e_var (pv 0)) e_int) (a_cons (e_idx (e_var (pv 0)) e_int) a_nil))) e_int))))
      k_nil))
theorem d_made (W : Wld mg K fv) (C : Cals P w K mg base fv k) (f : Addr) (cdv : Value) (A : Around) (outer : List Env) (s : Shared) (H : Hp) (E : XK) (hr : Room k (A.deeper (PyProof.Rows.envOfC "made" (C8.fnScope t_made) s.heap.objs.size f cdv))) :
    PSs (cxOf CX0 P w K mg base N_made "made" (C8.fnScope t_made) f cdv A outer s H E).nox (C8.fnBody t_made) (tK K fv (callF G k) c_made) :=
  have nd := sc_made.nd
  (k_cons (s_set (i := 2) nd rfl (by first | exact .inl rfl | exact .inr rfl) (e_gcd (by rfl) W.m_gcd (a_cons (e_var (pv 0)) (a_cons (e_var (pv 1)) a_nil))))
      (k_cons (s_if (t_cmp c_lt (e_var (pv 1)) e_int) (k_cons (s_set (i := 2) nd rfl (by first | exact .inl rfl | exact .inr rfl) (e_neg (e_var (pv 2))))
      k_nil) k_nil)
      (k_cons (s_ret (e_tup (a_cons (e_fdiv (e_var (pv 0)) (e_var (pv 2))) (a_cons (e_fdiv (e_var (pv 1)) (e_var (pv 2))) a_nil))))
      k_nil)))
theorem d_plus (W : Wld mg K fv) (C : Cals P w K mg base fv k) (f : Addr) (cdv : Value) (A : Around) (outer : List Env) (s : Shared) (H : Hp) (E : XK) (hr : Room k (A.deeper (PyProof.Rows.envOfC "plus" (C8.fnScope t_plus) s.heap.objs.size f cdv))) :
    PSs (cxOf CX0 P w K mg base N_plus "plus" (C8.fnScope t_plus) f cdv A outer s H E).nox (C8.fnBody t_plus) (tK K fv (callF G k) c_plus) :=
  have nd := sc_plus.nd
  (k_cons (s_ret (e_call C.c_made hr (by rfl) (a_cons (e_add (e_mul (e_idx (e_var (pv 0)) e_int) (e_idx (e_var (pv 1)) e_int)) (e_mul (e_idx (e_var (pv 1)) e_int) (e_idx (e_var (pv 0)) e_int))) (a_cons (e_mul (e_idx (e_var (pv 0)) e_int) (e_idx (e_var (pv 1)) e_int)) a_nil))))
      k_nil)
theorem d_less (W : Wld mg K fv) (C : Cals P w K mg base fv k) (f : Addr) (cdv : Value) (A : Around) (outer : List Env) (s : Shared) (H : Hp) (E : XK) (hr : Room k (A.deeper (PyProof.Rows.envOfC "less" (C8.fnScope t_less) s.heap.objs.size f cdv))) :
    PSs (cxOf CX0 P w K mg base N_less "less" (C8.fnScope t_less) f cdv A outer s H E).nox (C8.fnBody t_less) (tK K fv (callF G k) c_less) :=
  have nd := sc_less.nd
  (k_cons (s_ret (e_call C.c_made hr (by rfl) (a_cons (e_sub (e_mul (e_idx (e_var (pv 0)) e_int) (e_idx (e_var (pv 1)) e_int)) (e_mul (e_idx (e_var (pv 1)) e_int) (e_idx (e_var (pv 0)) e_int))) (a_cons (e_mul (e_idx (e_var (pv 0)) e_int) (e_idx (e_var (pv 1)) e_int)) a_nil))))
      k_nil)
theorem d_times (W : Wld mg K fv) (C : Cals P w K mg base fv k) (f : Addr) (cdv : Value) (A : Around) (outer : List Env) (s : Shared) (H : Hp) (E : XK) (hr : Room k (A.deeper (PyProof.Rows.envOfC "times" (C8.fnScope t_times) s.heap.objs.size f cdv))) :
    PSs (cxOf CX0 P w K mg base N_times "times" (C8.fnScope t_times) f cdv A outer s H E).nox (C8.fnBody t_times) (tK K fv (callF G k) c_times) :=
  have nd := sc_times.nd
  (k_cons (s_ret (e_call C.c_made hr (by rfl) (a_cons (e_mul (e_idx (e_var (pv 0)) e_int) (e_idx (e_var (pv 1)) e_int)) (a_cons (e_mul (e_idx (e_var (pv 0)) e_int) (e_idx (e_var (pv 1)) e_int)) a_nil))))
      k_nil)
theorem d_over (W : Wld mg K fv) (C : Cals P w K mg base fv k) (f : Addr) (cdv : Value) (A : Around) (outer : List Env) (s : Shared) (H : Hp) (E : XK) (hr : Room k (A.deeper (PyProof.Rows.envOfC "over" (C8.fnScope t_over) s.heap.objs.size f cdv))) :
    PSs (cxOf CX0 P w K mg base N_over "over" (C8.fnScope t_over) f cdv A outer s H E).nox (C8.fnBody t_over) (tK K fv (callF G k) c_over) :=
  have nd := sc_over.nd
  (k_cons (s_ret (e_call C.c_made hr (by rfl) (a_cons (e_mul (e_idx (e_var (pv 0)) e_int) (e_idx (e_var (pv 1)) e_int)) (a_cons (e_mul (e_idx (e_var (pv 0)) e_int) (e_idx (e_var (pv 1)) e_int)) a_nil))))
      k_nil)
theorem d_negative (W : Wld mg K fv) (C : Cals P w K mg base fv k) (f : Addr) (cdv : Value) (A : Around) (outer : List Env) (s : Shared) (H : Hp) (E : XK) (hr : Room k (A.deeper (PyProof.Rows.envOfC "negative" (C8.fnScope t_negative) s.heap.objs.size f cdv))) :
    PSs (cxOf CX0 P w K mg base N_negative "negative" (C8.fnScope t_negative) f cdv A outer s H E).nox (C8.fnBody t_negative) (tK K fv (callF G k) c_negative) :=
  have nd := sc_negative.nd
  (k_cons (s_ret (e_tup (a_cons (e_neg (e_idx (e_var (pv 0)) e_int)) (a_cons (e_idx (e_var (pv 0)) e_int) a_nil))))
      k_nil)
theorem d_is_below (W : Wld mg K fv) (C : Cals P w K mg base fv k) (f : Addr) (cdv : Value) (A : Around) (outer : List Env) (s : Shared) (H : Hp) (E : XK) (hr : Room k (A.deeper (PyProof.Rows.envOfC "is_below" (C8.fnScope t_is_below) s.heap.objs.size f cdv))) :
    PSs (cxOf CX0 P w K mg base N_is_below "is_below" (C8.fnScope t_is_below) f cdv A outer s H E).nox (C8.fnBody t_is_below) (tK K fv (callF G k) c_is_below) :=
  have nd := sc_is_below.nd
  (k_cons (s_ret (e_cmp c_lt (e_mul (e_idx (e_var (pv 0)) e_int) (e_idx (e_var (pv 1)) e_int)) (e_mul (e_idx (e_var (pv 1)) e_int) (e_idx (e_var (pv 0)) e_int))))
      k_nil)
theorem d_between (W : Wld mg K fv) (C : Cals P w K mg base fv k) (f : Addr) (cdv : Value) (A : Around) (outer : List Env) (s : Shared) (H : Hp) (E : XK) (hr : Room k (A.deeper (PyProof.Rows.envOfC "between" (C8.fnScope t_between) s.heap.objs.size f cdv))) :
    PSs (cxOf CX0 P w K mg base N_between "between" (C8.fnScope t_between) f cdv A outer s H E).nox (C8.fnBody t_between) (tK K fv (callF G k) c_between) :=
  have nd := sc_between.nd
  (k_cons (s_ret (e_call C.c_plus hr (by rfl) (a_cons (e_var (pv 0)) (a_cons (e_call C.c_times hr (by rfl) (a_cons (e_var (pv 2)) (a_cons (e_call C.c_less hr (by rfl) (a_cons (e_var (pv 1)) (a_cons (e_var (pv 0)) a_nil))) a_nil))) a_nil))))
      k_nil)
theorem d_are_ratios (W : Wld mg K fv) (C : Cals P w K mg base fv k) (f : Addr) (cdv : Value) (A : Around) (outer : List Env) (s : Shared) (H : Hp) (E : XK) (hr : Room k (A.deeper (PyProof.Rows.envOfC "are_ratios" (C8.fnScope t_are_ratios) s.heap.objs.size f cdv))) :
    PSs (cxOf CX0 P w K mg base N_are_ratios "are_ratios" (C8.fnScope t_are_ratios) f cdv A outer s H E).nox (C8.fnBody t_are_ratios) (tK K fv (callF G k) c_are_ratios) :=
  have nd := sc_are_ratios.nd
  (k_cons (s_ret (e_and (e_isTup (by rfl) W.m_isinstance (by rfl) W.m_tuple (e_var (pv 0))) (e_and (e_cmp (c_eq hr) (e_len (by rfl) W.m_len (a_cons (e_var (pv 0)) a_nil)) (e_var (pv 1))) (e_one (e_all rfl (by rfl) W.m_all (a_cons (e_comp [("one", 2)] rfl nd (i_seq (e_var (pv 0))) (blkOk_by (by rfl)) (fun _ _ _ _ _ => (g_v (pg_name (i := 2) nd rfl (by first | exact .inl rfl | exact .inr rfl)))) (fun _ _ _ _ _ => w_nil) (fun _ _ _ _ _ => (e_call C.c_is_ratio hr (by rfl) (a_cons (e_var (pv 2)) a_nil)))) a_nil))))))
      k_nil)
theorem d_is_poly (W : Wld mg K fv) (C : Cals P w K mg base fv k) (f : Addr) (cdv : Value) (A : Around) (outer : List Env) (s : Shared) (H : Hp) (E : XK) (hr : Room k (A.deeper (PyProof.Rows.envOfC "is_poly" (C8.fnScope t_is_poly) s.heap.objs.size f cdv))) :
    PSs (cxOf CX0 P w K mg base N_is_poly "is_poly" (C8.fnScope t_is_poly) f cdv A outer s H E).nox (C8.fnBody t_is_poly) (tK K fv (callF G k) c_is_poly) :=
  have nd := sc_is_poly.nd
  (k_cons (s_if (PW.pt (t_or (t_not (t_val (e_isTup (by rfl) W.m_isinstance (by rfl) W.m_tuple (e_var (pv 0))))) (t_or (t_cmp c_gt (e_len (by rfl) W.m_len (a_cons (e_var (pv 0)) a_nil)) (e_add (e_gc W.z_MOST_DEGREE_polys (by rfl)) e_int)) (t_or1 (t_not (t_val (e_all rfl (by rfl) W.m_all (a_cons (e_comp [("one", 1)] rfl nd (i_seq (e_var (pv 0))) (blkOk_by (by rfl)) (fun _ _ _ _ _ => (g_v (pg_name (i := 1) nd rfl (by first | exact .inl rfl | exact .inr rfl)))) (fun _ _ _ _ _ => w_nil) (fun _ _ _ _ _ => (e_call C.c_is_ratio hr (by rfl) (a_cons (e_var (pv 1)) a_nil)))) a_nil)))))))) (k_cons (s_ret e_bl)
      k_nil) k_nil)
      (k_cons (s_ret (e_or (e_cmp (c_eq hr) (e_var (pv 0)) (e_tup a_nil)) (e_one (e_cmp (c_ne hr) (e_idx (e_var (pv 0)) (e_neg e_int)) (e_gc W.z_ZERO (by rfl))))))
      k_nil))
theorem d_need_poly (W : Wld mg K fv) (C : Cals P w K mg base fv k) (f : Addr) (cdv : Value) (A : Around) (outer : List Env) (s : Shared) (H : Hp) (E : XK) (hr : Room k (A.deeper (PyProof.Rows.envOfC "need_poly" (C8.fnScope t_need_poly) s.heap.objs.size f cdv))) :
    PSs (cxOf CX0 P w K mg base N_need_poly "need_poly" (C8.fnScope t_need_poly) f cdv A outer s H E).nox (C8.fnBody t_need_poly) (tK K fv (callF G k) c_need_poly) :=
  have nd := sc_need_poly.nd
  (k_cons (s_if (t_not (t_val (e_call C.c_is_poly hr (by rfl) (a_cons (e_var (pv 0)) a_nil)))) (k_cons s_raise
      k_nil) k_nil)
      k_nil)
theorem d_trimmed (W : Wld mg K fv) (C : Cals P w K mg base fv k) (f : Addr) (cdv : Value) (A : Around) (outer : List Env) (s : Shared) (H : Hp) (E : XK) (hr : Room k (A.deeper (PyProof.Rows.envOfC "trimmed" (C8.fnScope t_trimmed) s.heap.objs.size f cdv))) :
    PSs (cxOf CX0 P w K mg base N_trimmed "trimmed" (C8.fnScope t_trimmed) f cdv A outer s H E).nox (C8.fnBody t_trimmed) (tK K fv (callF G k) c_trimmed) :=
  have nd := sc_trimmed.nd
  (k_cons (s_set (i := 1) nd rfl (by first | exact .inl rfl | exact .inr rfl) (e_len (by rfl) W.m_len (a_cons (e_var (pv 0)) a_nil)))
      (k_cons (s_while PassesOwn.never (PW.pt (t_and (t_cmp c_gt (e_var (pv 1)) e_int) (t_and1 (t_cmp (c_eq hr) (e_idx (e_var (pv 0)) (e_sub (e_var (pv 1)) e_int)) (e_gc W.z_ZERO (by rfl)))))) (k_cons (s_isub (i := 1) nd rfl (by first | exact .inl rfl | exact .inr rfl) e_int)
      k_nil))
      (k_cons (s_ret (e_tuple (by rfl) W.m_tuple (a_cons (e_slc (e_var (pv 0)) o_none (o_some (e_var (pv 1)))) a_nil)))
      k_nil)))
theorem d_p_plus (W : Wld mg K fv) (C : Cals P w K mg base fv k) (f : Addr) (cdv : Value) (A : Around) (outer : List Env) (s : Shared) (H : Hp) (E : XK) (hr : Room k (A.deeper (PyProof.Rows.envOfC "p_plus" (C8.fnScope t_p_plus) s.heap.objs.size f cdv))) :
    PSs (cxOf CX0 P w K mg base N_p_plus "p_plus" (C8.fnScope t_p_plus) f cdv A outer s H E).nox (C8.fnBody t_p_plus) (tK K fv (callF G k) c_p_plus) :=
  have nd := sc_p_plus.nd
  (k_cons (s_set (i := 2) nd rfl (by first | exact .inl rfl | exact .inr rfl) (e_max2 rfl (by rfl) W.m_max (a_cons (e_len (by rfl) W.m_len (a_cons (e_var (pv 0)) a_nil)) (a_cons (e_len (by rfl) W.m_len (a_cons (e_var (pv 1)) a_nil)) a_nil))))
      (k_cons (s_set (i := 3) nd rfl (by first | exact .inl rfl | exact .inr rfl) (e_lst (a_star (e_var (pv 0)) (a_star (e_mul (e_lst (a_cons (e_gc W.z_ZERO (by rfl)) a_nil)) (e_sub (e_var (pv 2)) (e_len (by rfl) W.m_len (a_cons (e_var (pv 0)) a_nil)))) a_nil))))
      (k_cons (s_set (i := 4) nd rfl (by first | exact .inl rfl | exact .inr rfl) (e_lst (a_star (e_var (pv 1)) (a_star (e_mul (e_lst (a_cons (e_gc W.z_ZERO (by rfl)) a_nil)) (e_sub (e_var (pv 2)) (e_len (by rfl) W.m_len (a_cons (e_var (pv 1)) a_nil)))) a_nil))))
      (k_cons (s_ret (e_call C.c_trimmed hr (by rfl) (a_cons (e_comp [("x", 5), ("y", 6)] rfl nd (i_zip (by rfl) W.m_zip (a_cons (e_var (pv 3)) (a_cons (e_var (pv 4)) a_nil))) (blkOk_by (by rfl)) (fun _ _ _ _ _ => (g_tup rfl (gs_cons (g_v (pg_name (i := 5) nd rfl (by first | exact .inl rfl | exact .inr rfl))) (gs_cons (g_v (pg_name (i := 6) nd rfl (by first | exact .inl rfl | exact .inr rfl))) gs_nil)))) (fun _ _ _ _ _ => w_nil) (fun _ _ _ _ _ => (e_call C.c_plus hr (by rfl) (a_cons (e_var (pv 5)) (a_cons (e_var (pv 6)) a_nil))))) a_nil)))
      k_nil))))
theorem d_p_scaled (W : Wld mg K fv) (C : Cals P w K mg base fv k) (f : Addr) (cdv : Value) (A : Around) (outer : List Env) (s : Shared) (H : Hp) (E : XK) (hr : Room k (A.deeper (PyProof.Rows.envOfC "p_scaled" (C8.fnScope t_p_scaled) s.heap.objs.size f cdv))) :
    PSs (cxOf CX0 P w K mg base N_p_scaled "p_scaled" (C8.fnScope t_p_scaled) f cdv A outer s H E).nox (C8.fnBody t_p_scaled) (tK K fv (callF G k) c_p_scaled) :=
  have nd := sc_p_scaled.nd
  (k_cons (s_ret (e_call C.c_trimmed hr (by rfl) (a_cons (e_comp [("one", 2)] rfl nd (i_seq (e_var (pv 0))) (blkOk_by (by rfl)) (fun _ _ _ _ _ => (g_v (pg_name (i := 2) nd rfl (by first | exact .inl rfl | exact .inr rfl)))) (fun _ _ _ _ _ => w_nil) (fun _ _ _ _ _ => (e_call C.c_times hr (by rfl) (a_cons (e_var (pv 2)) (a_cons (e_var (pv 1)) a_nil))))) a_nil)))
      k_nil)
theorem d_p_times (W : Wld mg K fv) (C : Cals P w K mg base fv k) (f : Addr) (cdv : Value) (A : Around) (outer : List Env) (s : Shared) (H : Hp) (E : XK) (hr : Room k (A.deeper (PyProof.Rows.envOfC "p_times" (C8.fnScope t_p_times) s.heap.objs.size f cdv))) :
    PSs (cxOf CX0 P w K mg base N_p_times "p_times" (C8.fnScope t_p_times) f cdv A outer s H E).nox (C8.fnBody t_p_times) (tK K fv (callF G k) c_p_times) :=
  have nd := sc_p_times.nd
  (k_cons (s_if (PW.pt (t_or (t_cmp (c_eq hr) (e_var (pv 0)) (e_tup a_nil)) (t_or1 (t_cmp (c_eq hr) (e_var (pv 1)) (e_tup a_nil))))) (k_cons (s_ret (e_tup a_nil))
      k_nil) k_nil)
      (k_cons (s_set (i := 2) nd rfl (by first | exact .inl rfl | exact .inr rfl) (e_mul (e_lst (a_cons (e_gc W.z_ZERO (by rfl)) a_nil)) (e_sub (e_add (e_len (by rfl) W.m_len (a_cons (e_var (pv 0)) a_nil)) (e_len (by rfl) W.m_len (a_cons (e_var (pv 1)) a_nil))) e_int)))
      (k_cons (s_for PassesOwn.never rfl (i_enu (by rfl) W.m_enumerate (a_cons (e_var (pv 0)) a_nil)) (g_tup rfl (gs_cons (g_v (pg_name (i := 3) nd rfl (by first | exact .inl rfl | exact .inr rfl))) (gs_cons (g_v (pg_name (i := 4) nd rfl (by first | exact .inl rfl | exact .inr rfl))) gs_nil))) (k_cons (s_for PassesOwn.never rfl (i_enu (by rfl) W.m_enumerate (a_cons (e_var (pv 1)) a_nil)) (g_tup rfl (gs_cons (g_v (pg_name (i := 5) nd rfl (by first | exact .inl rfl | exact .inr rfl))) (gs_cons (g_v (pg_name (i := 6) nd rfl (by first | exact .inl rfl | exact .inr rfl))) gs_nil))) (k_cons (s_asg (e_call C.c_plus hr (by rfl) (a_cons (e_idx (e_var (pv 2)) (e_add (e_var (pv 3)) (e_var (pv 5)))) (a_cons (e_call C.c_times hr (by rfl) (a_cons (e_var (pv 4)) (a_cons (e_var (pv 6)) a_nil))) a_nil))) (g_sub (e_var (pv 2)) (e_add (e_var (pv 3)) (e_var (pv 5)))))
      k_nil))
      k_nil))
      (k_cons (s_ret (e_tuple (by rfl) W.m_tuple (a_cons (e_var (pv 2)) a_nil)))
      k_nil))))
theorem d_choose (W : Wld mg K fv) (C : Cals P w K mg base fv k) (f : Addr) (cdv : Value) (A : Around) (outer : List Env) (s : Shared) (H : Hp) (E : XK) (hr : Room k (A.deeper (PyProof.Rows.envOfC "choose" (C8.fnScope t_choose) s.heap.objs.size f cdv))) :
    PSs (cxOf CX0 P w K mg base N_choose "choose" (C8.fnScope t_choose) f cdv A outer s H E).nox (C8.fnBody t_choose) (tK K fv (callF G k) c_choose) :=
  have nd := sc_choose.nd
  (k_cons (s_set (i := 2) nd rfl (by first | exact .inl rfl | exact .inr rfl) e_int)
      (k_cons (s_for PassesOwn.never rfl (i_rng1 (by rfl) W.m_range (a_cons (e_var (pv 1)) a_nil)) (g_v (pg_name (i := 3) nd rfl (by first | exact .inl rfl | exact .inr rfl))) (k_cons (s_set (i := 2) nd rfl (by first | exact .inl rfl | exact .inr rfl) (e_fdiv (e_mul (e_var (pv 2)) (e_sub (e_var (pv 0)) (e_var (pv 3)))) (e_add (e_var (pv 3)) e_int)))
      k_nil))
      (k_cons (s_ret (e_var (pv 2)))
      k_nil)))
theorem d_need_degree (W : Wld mg K fv) (C : Cals P w K mg base fv k) (f : Addr) (cdv : Value) (A : Around) (outer : List Env) (s : Shared) (H : Hp) (E : XK) (hr : Room k (A.deeper (PyProof.Rows.envOfC "need_degree" (C8.fnScope t_need_degree) s.heap.objs.size f cdv))) :
    PSs (cxOf CX0 P w K mg base N_need_degree "need_degree" (C8.fnScope t_need_degree) f cdv A outer s H E).nox (C8.fnBody t_need_degree) (tK K fv (callF G k) c_need_degree) :=
  have nd := sc_need_degree.nd
  (k_cons (s_if (PW.pt (t_or (t_not (t_val (e_call C.c_is_from hr (by rfl) (a_cons (e_var (pv 1)) (a_cons e_int (a_cons (e_gc W.z_MOST_ROW (by rfl)) a_nil)))))) (t_or1 (t_cmp c_gt (e_len (by rfl) W.m_len (a_cons (e_var (pv 0)) a_nil)) (e_add (e_var (pv 1)) e_int))))) (k_cons s_raise
      k_nil) k_nil)
      k_nil)
theorem d_symmetric (W : Wld mg K fv) (C : Cals P w K mg base fv k) (f : Addr) (cdv : Value) (A : Around) (outer : List Env) (s : Shared) (H : Hp) (E : XK) (hr : Room k (A.deeper (PyProof.Rows.envOfC "symmetric" (C8.fnScope t_symmetric) s.heap.objs.size f cdv))) :
    PSs (cxOf CX0 P w K mg base N_symmetric "symmetric" (C8.fnScope t_symmetric) f cdv A outer s H E).nox (C8.fnBody t_symmetric) (tK K fv (callF G k) c_symmetric) :=
  have nd := sc_symmetric.nd
  (k_cons (s_set (i := 1) nd rfl (by first | exact .inl rfl | exact .inr rfl) (e_lst (a_cons (e_gc W.z_ONE (by rfl)) a_nil)))
      (k_cons (s_for PassesOwn.never rfl (i_seq (e_var (pv 0))) (g_v (pg_name (i := 2) nd rfl (by first | exact .inl rfl | exact .inr rfl))) (k_cons (s_set (i := 3) nd rfl (by first | exact .inl rfl | exact .inr rfl) (e_lst (a_star (e_var (pv 1)) (a_cons (e_gc W.z_ZERO (by rfl)) a_nil))))
      (k_cons (s_for PassesOwn.never rfl (i_rng1 (by rfl) W.m_range (a_cons (e_len (by rfl) W.m_len (a_cons (e_var (pv 1)) a_nil)) a_nil)) (g_v (pg_name (i := 4) nd rfl (by first | exact .inl rfl | exact .inr rfl))) (k_cons (s_asg (e_call C.c_plus hr (by rfl) (a_cons (e_idx (e_var (pv 3)) (e_add (e_var (pv 4)) e_int)) (a_cons (e_call C.c_times hr (by rfl) (a_cons (e_idx (e_var (pv 1)) (e_var (pv 4))) (a_cons (e_var (pv 2)) a_nil))) a_nil))) (g_sub (e_var (pv 3)) (e_add (e_var (pv 4)) e_int)))
      k_nil))
      (k_cons (s_set (i := 1) nd rfl (by first | exact .inl rfl | exact .inr rfl) (e_var (pv 3)))
      k_nil))))
      (k_cons (s_ret (e_var (pv 1)))
      k_nil)))
theorem d_blossom_of (W : Wld mg K fv) (C : Cals P w K mg base fv k) (f : Addr) (cdv : Value) (A : Around) (outer : List Env) (s : Shared) (H : Hp) (E : XK) (hr : Room k (A.deeper (PyProof.Rows.envOfC "blossom_of" (C8.fnScope t_blossom_of) s.heap.objs.size f cdv))) :
    PSs (cxOf CX0 P w K mg base N_blossom_of "blossom_of" (C8.fnScope t_blossom_of) f cdv A outer s H E).nox (C8.fnBody t_blossom_of) (tK K fv (callF G k) c_blossom_of) :=
  have nd := sc_blossom_of.nd
  (k_cons (s_par2 (i := 2) (j := 3) rfl nd rfl rfl (by decide) rfl rfl (a_cons (e_gc W.z_ZERO (by rfl)) (a_cons (e_call C.c_symmetric hr (by rfl) (a_cons (e_var (pv 1)) a_nil)) a_nil)))
      (k_cons (s_for PassesOwn.never rfl (i_enu (by rfl) W.m_enumerate (a_cons (e_var (pv 0)) a_nil)) (g_tup rfl (gs_cons (g_v (pg_name (i := 4) nd rfl (by first | exact .inl rfl | exact .inr rfl))) (gs_cons (g_v (pg_name (i := 5) nd rfl (by first | exact .inl rfl | exact .inr rfl))) gs_nil))) (k_cons (s_set (i := 2) nd rfl (by first | exact .inl rfl | exact .inr rfl) (e_call C.c_plus hr (by rfl) (a_cons (e_var (pv 2)) (a_cons (e_call C.c_times hr (by rfl) (a_cons (e_var (pv 5)) (a_cons (e_call C.c_times hr (by rfl) (a_cons (e_idx (e_var (pv 3)) (e_var (pv 4))) (a_cons (e_call C.c_made hr (by rfl) (a_cons e_int (a_cons (e_call C.c_choose hr (by rfl) (a_cons (e_len (by rfl) W.m_len (a_cons (e_var (pv 1)) a_nil)) (a_cons (e_var (pv 4)) a_nil))) a_nil))) a_nil))) a_nil))) a_nil))))
      k_nil))
      (k_cons (s_ret (e_var (pv 2)))
      k_nil)))
theorem d_faults_of (W : Wld mg K fv) (C : Cals P w K mg base fv k) (f : Addr) (cdv : Value) (A : Around) (outer : List Env) (s : Shared) (H : Hp) (E : XK) (hr : Room k (A.deeper (PyProof.Rows.envOfC "faults_of" (C8.fnScope t_faults_of) s.heap.objs.size f cdv))) :
    PSs (cxOf CX0 P w K mg base N_faults_of "faults_of" (C8.fnScope t_faults_of) f cdv A outer s H E).nox (C8.fnBody t_faults_of) (tK K fv (callF G k) c_faults_of) :=
  have nd := sc_faults_of.nd
  (k_cons (s_if (PW.pt (t_or (t_not (t_val (e_isTup (by rfl) W.m_isinstance (by rfl) W.m_tuple (e_var (pv 1))))) (t_or1 (t_not (t_chn c_le c_le (e_add (e_var (pv 0)) e_int) (e_len (by rfl) W.m_len (a_cons (e_var (pv 1)) a_nil)) (e_gc W.z_MOST_KNOTS (by rfl))))))) (k_cons (s_ret (e_lst (a_cons e_non a_nil)))
      k_nil) k_nil)
      (k_cons (s_for PassesOwn.never rfl (i_enu (by rfl) W.m_enumerate (a_cons (e_var (pv 1)) a_nil)) (g_tup rfl (gs_cons (g_v (pg_name (i := 2) nd rfl (by first | exact .inl rfl | exact .inr rfl))) (gs_cons (g_v (pg_name (i := 3) nd rfl (by first | exact .inl rfl | exact .inr rfl))) gs_nil))) (k_cons (s_if (PW.pt (t_or (t_not (t_val (e_call C.c_is_ratio hr (by rfl) (a_cons (e_var (pv 3)) a_nil)))) (t_or1 (PW.pt (t_and (t_cmp c_gt (e_var (pv 2)) e_int) (t_and1 (t_val (e_call C.c_is_below hr (by rfl) (a_cons (e_var (pv 3)) (a_cons (e_idx (e_var (pv 1)) (e_sub (e_var (pv 2)) e_int)) a_nil)))))))))) (k_cons (s_ret (e_lst (a_cons (e_var (pv 2)) a_nil)))
      k_nil) k_nil)
      (k_cons (s_if (PW.pt (t_and (t_cmp c_gt (e_var (pv 2)) (e_var (pv 0))) (t_and1 (t_cmp (c_eq hr) (e_idx (e_var (pv 1)) (e_sub (e_sub (e_var (pv 2)) (e_var (pv 0))) e_int)) (e_var (pv 3)))))) (k_cons (s_ret (e_lst (a_cons (e_var (pv 2)) a_nil)))
      k_nil) k_nil)
      k_nil)))
      (k_cons (s_ret (e_lst a_nil))
      k_nil)))
theorem d_need_knots (W : Wld mg K fv) (C : Cals P w K mg base fv k) (f : Addr) (cdv : Value) (A : Around) (outer : List Env) (s : Shared) (H : Hp) (E : XK) (hr : Room k (A.deeper (PyProof.Rows.envOfC "need_knots" (C8.fnScope t_need_knots) s.heap.objs.size f cdv))) :
    PSs (cxOf CX0 P w K mg base N_need_knots "need_knots" (C8.fnScope t_need_knots) f cdv A outer s H E).nox (C8.fnBody t_need_knots) (tK K fv (callF G k) c_need_knots) :=
  have nd := sc_need_knots.nd
  (k_cons (s_set (i := 2) nd rfl (by first | exact .inl rfl | exact .inr rfl) (e_call C.c_faults_of hr (by rfl) (a_cons (e_var (pv 0)) (a_cons (e_var (pv 1)) a_nil))))
      (k_cons (s_if (t_cmp (c_ne hr) (e_var (pv 2)) (e_lst a_nil)) (k_cons s_raise
      k_nil) k_nil)
      k_nil))
theorem d_basis_poly (W : Wld mg K fv) (C : Cals P w K mg base fv k) (f : Addr) (cdv : Value) (A : Around) (outer : List Env) (s : Shared) (H : Hp) (E : XK) (hr : Room k (A.deeper (PyProof.Rows.envOfC "basis_poly" (C8.fnScope t_basis_poly) s.heap.objs.size f cdv))) :
    PSs (cxOf CX0 P w K mg base N_basis_poly "basis_poly" (C8.fnScope t_basis_poly) f cdv A outer s H E).nox (C8.fnBody t_basis_poly) (tK K fv (callF G k) c_basis_poly) :=
  have nd := sc_basis_poly.nd
  (k_cons (s_if (t_cmp (c_eq hr) (e_var (pv 0)) e_int) (k_cons (s_ret (e_ite (t_cmp (c_eq hr) (e_var (pv 2)) (e_var (pv 3))) (e_tup (a_cons (e_gc W.z_ONE (by rfl)) a_nil)) (e_tup a_nil)))
      k_nil) k_nil)
      (k_cons (s_set (i := 4) nd rfl (by first | exact .inl rfl | exact .inr rfl) (e_tup a_nil))
      (k_cons (s_par2 (i := 5) (j := 6) rfl nd rfl rfl (by decide) rfl rfl (a_cons (e_idx (e_var (pv 1)) (e_var (pv 2))) (a_cons (e_idx (e_var (pv 1)) (e_add (e_var (pv 2)) (e_var (pv 0)))) a_nil)))
      (k_cons (s_if (t_cmp (c_ne hr) (e_var (pv 5)) (e_var (pv 6))) (k_cons (s_set (i := 7) nd rfl (by first | exact .inl rfl | exact .inr rfl) (e_call C.c_over hr (by rfl) (a_cons (e_gc W.z_ONE (by rfl)) (a_cons (e_call C.c_less hr (by rfl) (a_cons (e_var (pv 6)) (a_cons (e_var (pv 5)) a_nil))) a_nil))))
      (k_cons (s_set (i := 4) nd rfl (by first | exact .inl rfl | exact .inr rfl) (e_call C.c_p_times hr (by rfl) (a_cons (e_tup (a_cons (e_call C.c_times hr (by rfl) (a_cons (e_call C.c_negative hr (by rfl) (a_cons (e_var (pv 5)) a_nil)) (a_cons (e_var (pv 7)) a_nil))) (a_cons (e_var (pv 7)) a_nil))) (a_cons (e_call C.c_basis_poly hr (by rfl) (a_cons (e_sub (e_var (pv 0)) e_int) (a_cons (e_var (pv 1)) (a_cons (e_var (pv 2)) (a_cons (e_var (pv 3)) a_nil))))) a_nil))))
      k_nil)) k_nil)
      (k_cons (s_par2 (i := 5) (j := 6) rfl nd rfl rfl (by decide) rfl rfl (a_cons (e_idx (e_var (pv 1)) (e_add (e_var (pv 2)) e_int)) (a_cons (e_idx (e_var (pv 1)) (e_add (e_add (e_var (pv 2)) (e_var (pv 0))) e_int)) a_nil)))
      (k_cons (s_if (t_cmp (c_ne hr) (e_var (pv 5)) (e_var (pv 6))) (k_cons (s_set (i := 7) nd rfl (by first | exact .inl rfl | exact .inr rfl) (e_call C.c_over hr (by rfl) (a_cons (e_gc W.z_ONE (by rfl)) (a_cons (e_call C.c_less hr (by rfl) (a_cons (e_var (pv 6)) (a_cons (e_var (pv 5)) a_nil))) a_nil))))
      (k_cons (s_set (i := 8) nd rfl (by first | exact .inl rfl | exact .inr rfl) (e_tup (a_cons (e_call C.c_times hr (by rfl) (a_cons (e_var (pv 6)) (a_cons (e_var (pv 7)) a_nil))) (a_cons (e_call C.c_negative hr (by rfl) (a_cons (e_var (pv 7)) a_nil)) a_nil))))
      (k_cons (s_set (i := 4) nd rfl (by first | exact .inl rfl | exact .inr rfl) (e_call C.c_p_plus hr (by rfl) (a_cons (e_var (pv 4)) (a_cons (e_call C.c_p_times hr (by rfl) (a_cons (e_var (pv 8)) (a_cons (e_call C.c_basis_poly hr (by rfl) (a_cons (e_sub (e_var (pv 0)) e_int) (a_cons (e_var (pv 1)) (a_cons (e_add (e_var (pv 2)) e_int) (a_cons (e_var (pv 3)) a_nil))))) a_nil))) a_nil))))
      k_nil))) k_nil)
      (k_cons (s_ret (e_var (pv 4)))
      k_nil)))))))
theorem d_need_spline (W : Wld mg K fv) (C : Cals P w K mg base fv k) (f : Addr) (cdv : Value) (A : Around) (outer : List Env) (s : Shared) (H : Hp) (E : XK) (hr : Room k (A.deeper (PyProof.Rows.envOfC "need_spline" (C8.fnScope t_need_spline) s.heap.objs.size f cdv))) :
    PSs (cxOf CX0 P w K mg base N_need_spline "need_spline" (C8.fnScope t_need_spline) f cdv A outer s H E).nox (C8.fnBody t_need_spline) (tK K fv (callF G k) c_need_spline) :=
  have nd := sc_need_spline.nd
  (k_cons (s_if (PW.pt (t_or (t_not (t_val (e_isTup (by rfl) W.m_isinstance (by rfl) W.m_tuple (e_var (pv 0))))) (t_or1 (t_cmp (c_ne hr) (e_len (by rfl) W.m_len (a_cons (e_var (pv 0)) a_nil)) e_int)))) (k_cons s_raise
      k_nil) k_nil)
      (k_cons (s_asg (e_var (pv 0)) (g_tup rfl (gs_cons (g_v (pg_name (i := 1) nd rfl (by first | exact .inl rfl | exact .inr rfl))) (gs_cons (g_v (pg_name (i := 2) nd rfl (by first | exact .inl rfl | exact .inr rfl))) (gs_cons (g_v (pg_name (i := 3) nd rfl (by first | exact .inl rfl | exact .inr rfl))) gs_nil)))))
      (k_cons (s_if (t_not (t_val (e_call C.c_is_from hr (by rfl) (a_cons (e_var (pv 1)) (a_cons e_int (a_cons (e_gc W.z_MOST_DEGREE_knots (by rfl)) a_nil)))))) (k_cons s_raise
      k_nil) k_nil)
      (k_cons (s_if (PW.pt (t_or (t_cmp (c_ne hr) (e_call C.c_faults_of hr (by rfl) (a_cons (e_var (pv 1)) (a_cons (e_var (pv 2)) a_nil))) (e_lst a_nil)) (t_or1 (t_cmp c_lt (e_len (by rfl) W.m_len (a_cons (e_var (pv 2)) a_nil)) (e_add (e_mul e_int (e_var (pv 1))) e_int))))) (k_cons s_raise
      k_nil) k_nil)
      (k_cons (s_if (PW.pt (t_or (t_cmp (c_ne hr) (e_idx (e_var (pv 2)) e_int) (e_idx (e_var (pv 2)) (e_var (pv 1)))) (t_or1 (t_cmp (c_ne hr) (e_idx (e_var (pv 2)) (e_neg e_int)) (e_idx (e_var (pv 2)) (e_sub (e_neg (e_var (pv 1))) e_int)))))) (k_cons s_raise
      k_nil) k_nil)
      (k_cons (s_if (t_not (t_val (e_call C.c_are_ratios hr (by rfl) (a_cons (e_var (pv 3)) (a_cons (e_sub (e_sub (e_len (by rfl) W.m_len (a_cons (e_var (pv 2)) a_nil)) (e_var (pv 1))) e_int) a_nil))))) (k_cons s_raise
      k_nil) k_nil)
      k_nil))))))
theorem d_is_inner (W : Wld mg K fv) (C : Cals P w K mg base fv k) (f : Addr) (cdv : Value) (A : Around) (outer : List Env) (s : Shared) (H : Hp) (E : XK) (hr : Room k (A.deeper (PyProof.Rows.envOfC "is_inner" (C8.fnScope t_is_inner) s.heap.objs.size f cdv))) :
    PSs (cxOf CX0 P w K mg base N_is_inner "is_inner" (C8.fnScope t_is_inner) f cdv A outer s H E).nox (C8.fnBody t_is_inner) (tK K fv (callF G k) c_is_inner) :=
  have nd := sc_is_inner.nd
  (k_cons (s_ret (e_and (e_call C.c_is_ratio hr (by rfl) (a_cons (e_var (pv 1)) a_nil)) (e_and (e_call C.c_is_below hr (by rfl) (a_cons (e_idx (e_idx (e_var (pv 0)) e_int) e_int) (a_cons (e_var (pv 1)) a_nil))) (e_one (e_call C.c_is_below hr (by rfl) (a_cons (e_var (pv 1)) (a_cons (e_idx (e_idx (e_var (pv 0)) e_int) (e_neg e_int)) a_nil)))))))
      k_nil)
theorem d_need_inner (W : Wld mg K fv) (C : Cals P w K mg base fv k) (f : Addr) (cdv : Value) (A : Around) (outer : List Env) (s : Shared) (H : Hp) (E : XK) (hr : Room k (A.deeper (PyProof.Rows.envOfC "need_inner" (C8.fnScope t_need_inner) s.heap.objs.size f cdv))) :
    PSs (cxOf CX0 P w K mg base N_need_inner "need_inner" (C8.fnScope t_need_inner) f cdv A outer s H E).nox (C8.fnBody t_need_inner) (tK K fv (callF G k) c_need_inner) :=
  have nd := sc_need_inner.nd
  (k_cons (s_if (t_not (t_val (e_call C.c_is_inner hr (by rfl) (a_cons (e_var (pv 0)) (a_cons (e_var (pv 1)) a_nil))))) (k_cons s_raise
      k_nil) k_nil)
      k_nil)
theorem d_span_of (W : Wld mg K fv) (C : Cals P w K mg base fv k) (f : Addr) (cdv : Value) (A : Around) (outer : List Env) (s : Shared) (H : Hp) (E : XK) (hr : Room k (A.deeper (PyProof.Rows.envOfC "span_of" (C8.fnScope t_span_of) s.heap.objs.size f cdv))) :
    PSs (cxOf CX0 P w K mg base N_span_of "span_of" (C8.fnScope t_span_of) f cdv A outer s H E).nox (C8.fnBody t_span_of) (tK K fv (callF G k) c_span_of) :=
  have nd := sc_span_of.nd
  (k_cons (s_set (i := 2) nd rfl (by first | exact .inl rfl | exact .inr rfl) e_int)
      (k_cons (s_for PassesOwn.never rfl (i_rng1 (by rfl) W.m_range (a_cons (e_sub (e_len (by rfl) W.m_len (a_cons (e_var (pv 0)) a_nil)) e_int) a_nil)) (g_v (pg_name (i := 3) nd rfl (by first | exact .inl rfl | exact .inr rfl))) (k_cons (s_if (PW.pt (t_and (t_cmp (c_ne hr) (e_idx (e_var (pv 0)) (e_var (pv 3))) (e_idx (e_var (pv 0)) (e_add (e_var (pv 3)) e_int))) (t_and1 (t_not (t_val (e_call C.c_is_below hr (by rfl) (a_cons (e_var (pv 1)) (a_cons (e_idx (e_var (pv 0)) (e_var (pv 3))) a_nil)))))))) (k_cons (s_set (i := 2) nd rfl (by first | exact .inl rfl | exact .inr rfl) (e_var (pv 3)))
      k_nil) k_nil)
      k_nil))
      (k_cons (s_ret (e_var (pv 2)))
      k_nil)))
theorem d_pieces_of (W : Wld mg K fv) (C : Cals P w K mg base fv k) (f : Addr) (cdv : Value) (A : Around) (outer : List Env) (s : Shared) (H : Hp) (E : XK) (hr : Room k (A.deeper (PyProof.Rows.envOfC "pieces_of" (C8.fnScope t_pieces_of) s.heap.objs.size f cdv))) :
    PSs (cxOf CX0 P w K mg base N_pieces_of "pieces_of" (C8.fnScope t_pieces_of) f cdv A outer s H E).nox (C8.fnBody t_pieces_of) (tK K fv (callF G k) c_pieces_of) :=
  have nd := sc_pieces_of.nd
  (k_cons (s_asg (e_var (pv 0)) (g_tup rfl (gs_cons (g_v (pg_name (i := 3) nd rfl (by first | exact .inl rfl | exact .inr rfl))) (gs_cons (g_v (pg_name (i := 4) nd rfl (by first | exact .inl rfl | exact .inr rfl))) (gs_cons (g_v (pg_name (i := 5) nd rfl (by first | exact .inl rfl | exact .inr rfl))) gs_nil)))))
      (k_cons (s_set (i := 1) nd rfl (by first | exact .inl rfl | exact .inr rfl) (e_lst a_nil))
      (k_cons (s_for PassesOwn.never rfl (i_rng1 (by rfl) W.m_range (a_cons (e_sub (e_len (by rfl) W.m_len (a_cons (e_var (pv 4)) a_nil)) e_int) a_nil)) (g_v (pg_name (i := 2) nd rfl (by first | exact .inl rfl | exact .inr rfl))) (k_cons (s_if (t_cmp (c_ne hr) (e_idx (e_var (pv 4)) (e_var (pv 2))) (e_idx (e_var (pv 4)) (e_add (e_var (pv 2)) e_int))) (k_cons (s_set (i := 6) nd rfl (by first | exact .inl rfl | exact .inr rfl) (e_tup a_nil))
      (k_cons (s_for PassesOwn.never rfl (i_rng2 (by rfl) W.m_range (a_cons (e_sub (e_var (pv 2)) (e_var (pv 3))) (a_cons (e_add (e_var (pv 2)) e_int) a_nil))) (g_v (pg_name (i := 7) nd rfl (by first | exact .inl rfl | exact .inr rfl))) (k_cons (s_set (i := 6) nd rfl (by first | exact .inl rfl | exact .inr rfl) (e_call C.c_p_plus hr (by rfl) (a_cons (e_var (pv 6)) (a_cons (e_call C.c_p_scaled hr (by rfl) (a_cons (e_call C.c_basis_poly hr (by rfl) (a_cons (e_var (pv 3)) (a_cons (e_var (pv 4)) (a_cons (e_var (pv 7)) (a_cons (e_var (pv 2)) a_nil))))) (a_cons (e_idx (e_var (pv 5)) (e_var (pv 7))) a_nil))) a_nil))))
      k_nil))
      (k_cons (s_expr (e_append (e_var (pv 1)) (a_cons (e_tup (a_cons (e_tup (a_cons (e_idx (e_var (pv 4)) (e_var (pv 2))) (a_cons (e_idx (e_var (pv 4)) (e_add (e_var (pv 2)) e_int)) a_nil))) (a_cons (e_var (pv 6)) a_nil))) a_nil)))
      k_nil))) k_nil)
      k_nil))
      (k_cons (s_ret (e_tuple (by rfl) W.m_tuple (a_cons (e_var (pv 1)) a_nil)))
      k_nil))))
theorem d_spline_pieces (W : Wld mg K fv) (C : Cals P w K mg base fv k) (f : Addr) (cdv : Value) (A : Around) (outer : List Env) (s : Shared) (H : Hp) (E : XK) (hr : Room k (A.deeper (PyProof.Rows.envOfC "spline_pieces" (C8.fnScope t_spline_pieces) s.heap.objs.size f cdv))) :
    PSs (cxOf CX0 P w K mg base N_spline_pieces "spline_pieces" (C8.fnScope t_spline_pieces) f cdv A outer s H E).nox (C8.fnBody t_spline_pieces) (tK K fv (callF G k) c_spline_pieces) :=
  have nd := sc_spline_pieces.nd
  (k_cons (s_expr (e_call C.c_need_spline hr (by rfl) (a_cons (e_var (pv 0)) a_nil)))
      (k_cons (s_ret (e_call C.c_pieces_of hr (by rfl) (a_cons (e_var (pv 0)) a_nil)))
      k_nil))
theorem d_with_knot (W : Wld mg K fv) (C : Cals P w K mg base fv k) (f : Addr) (cdv : Value) (A : Around) (outer : List Env) (s : Shared) (H : Hp) (E : XK) (hr : Room k (A.deeper (PyProof.Rows.envOfC "with_knot" (C8.fnScope t_with_knot) s.heap.objs.size f cdv))) :
    PSs (cxOf CX0 P w K mg base N_with_knot "with_knot" (C8.fnScope t_with_knot) f cdv A outer s H E).nox (C8.fnBody t_with_knot) (tK K fv (callF G k) c_with_knot) :=
  have nd := sc_with_knot.nd
  (k_cons (s_asg (e_var (pv 0)) (g_tup rfl (gs_cons (g_v (pg_name (i := 3) nd rfl (by first | exact .inl rfl | exact .inr rfl))) (gs_cons (g_v (pg_name (i := 4) nd rfl (by first | exact .inl rfl | exact .inr rfl))) (gs_cons (g_v (pg_name (i := 5) nd rfl (by first | exact .inl rfl | exact .inr rfl))) gs_nil)))))
      (k_cons (s_par2 (i := 6) (j := 7) rfl nd rfl rfl (by decide) rfl rfl (a_cons (e_call C.c_span_of hr (by rfl) (a_cons (e_var (pv 4)) (a_cons (e_var (pv 1)) a_nil))) (a_cons (e_lst a_nil) a_nil)))
      (k_cons (s_for PassesOwn.never rfl (i_rng1 (by rfl) W.m_range (a_cons (e_add (e_len (by rfl) W.m_len (a_cons (e_var (pv 5)) a_nil)) e_int) a_nil)) (g_v (pg_name (i := 2) nd rfl (by first | exact .inl rfl | exact .inr rfl))) (k_cons (s_if (t_cmp c_le (e_var (pv 2)) (e_sub (e_var (pv 6)) (e_var (pv 3)))) (k_cons (s_expr (e_append (e_var (pv 7)) (a_cons (e_idx (e_var (pv 5)) (e_var (pv 2))) a_nil)))
      k_nil) (k_cons (s_if (t_cmp c_gt (e_var (pv 2)) (e_var (pv 6))) (k_cons (s_expr (e_append (e_var (pv 7)) (a_cons (e_idx (e_var (pv 5)) (e_sub (e_var (pv 2)) e_int)) a_nil)))
      k_nil) (k_cons (s_set (i := 8) nd rfl (by first | exact .inl rfl | exact .inr rfl) (e_call C.c_over hr (by rfl) (a_cons (e_call C.c_less hr (by rfl) (a_cons (e_var (pv 1)) (a_cons (e_idx (e_var (pv 4)) (e_var (pv 2))) a_nil))) (a_cons (e_call C.c_less hr (by rfl) (a_cons (e_idx (e_var (pv 4)) (e_add (e_var (pv 2)) (e_var (pv 3)))) (a_cons (e_idx (e_var (pv 4)) (e_var (pv 2))) a_nil))) a_nil))))
      (k_cons (s_expr (e_append (e_var (pv 7)) (a_cons (e_call C.c_between hr (by rfl) (a_cons (e_idx (e_var (pv 5)) (e_sub (e_var (pv 2)) e_int)) (a_cons (e_idx (e_var (pv 5)) (e_var (pv 2))) (a_cons (e_var (pv 8)) a_nil)))) a_nil)))
      k_nil)))
      k_nil))
      k_nil))
      (k_cons (s_ret (e_tup (a_cons (e_var (pv 3)) (a_cons (e_tup (a_star (e_slc (e_var (pv 4)) o_none (o_some (e_add (e_var (pv 6)) e_int))) (a_cons (e_var (pv 1)) (a_star (e_slc (e_var (pv 4)) (o_some (e_add (e_var (pv 6)) e_int)) o_none) a_nil)))) (a_cons (e_tuple (by rfl) W.m_tuple (a_cons (e_var (pv 7)) a_nil)) a_nil)))))
      k_nil))))
theorem d_inserted (W : Wld mg K fv) (C : Cals P w K mg base fv k) (f : Addr) (cdv : Value) (A : Around) (outer : List Env) (s : Shared) (H : Hp) (E : XK) (hr : Room k (A.deeper (PyProof.Rows.envOfC "inserted" (C8.fnScope t_inserted) s.heap.objs.size f cdv))) :
    PSs (cxOf CX0 P w K mg base N_inserted "inserted" (C8.fnScope t_inserted) f cdv A outer s H E).nox (C8.fnBody t_inserted) (tK K fv (callF G k) c_inserted) :=
  have nd := sc_inserted.nd
  (k_cons (s_expr (e_call C.c_need_spline hr (by rfl) (a_cons (e_var (pv 0)) a_nil)))
      (k_cons (s_expr (e_call C.c_need_inner hr (by rfl) (a_cons (e_var (pv 0)) (a_cons (e_var (pv 1)) a_nil))))
      (k_cons (s_asg (e_var (pv 0)) (g_tup rfl (gs_cons (g_v (pg_name (i := 2) nd rfl (by first | exact .inl rfl | exact .inr rfl))) (gs_cons (g_v (pg_name (i := 3) nd rfl (by first | exact .inl rfl | exact .inr rfl))) (gs_cons (g_v (pg_name (i := 4) nd rfl (by first | exact .inl rfl | exact .inr rfl))) gs_nil)))))
      (k_cons (s_if (t_cmp c_gt (e_count hr (e_var (pv 3)) (a_cons (e_var (pv 1)) a_nil)) (e_var (pv 2))) (k_cons s_raise
      k_nil) k_nil)
      (k_cons (s_if (t_cmp (c_eq hr) (e_len (by rfl) W.m_len (a_cons (e_var (pv 3)) a_nil)) (e_gc W.z_MOST_KNOTS (by rfl))) (k_cons s_raise
      k_nil) k_nil)
      (k_cons (s_ret (e_call C.c_with_knot hr (by rfl) (a_cons (e_var (pv 0)) (a_cons (e_var (pv 1)) a_nil))))
      k_nil))))))
theorem d_missing (W : Wld mg K fv) (C : Cals P w K mg base fv k) (f : Addr) (cdv : Value) (A : Around) (outer : List Env) (s : Shared) (H : Hp) (E : XK) (hr : Room k (A.deeper (PyProof.Rows.envOfC "missing" (C8.fnScope t_missing) s.heap.objs.size f cdv))) :
    PSs (cxOf CX0 P w K mg base N_missing "missing" (C8.fnScope t_missing) f cdv A outer s H E).nox (C8.fnBody t_missing) (tK K fv (callF G k) c_missing) :=
  have nd := sc_missing.nd
  (k_cons (s_par2 (i := 3) (j := 4) rfl nd rfl rfl (by decide) rfl rfl (a_cons (e_list (by rfl) W.m_list (a_cons (e_var (pv 0)) a_nil)) (a_cons (e_lst a_nil) a_nil)))
      (k_cons (s_for PassesOwn.never rfl (i_seq (e_var (pv 1))) (g_v (pg_name (i := 2) nd rfl (by first | exact .inl rfl | exact .inr rfl))) (k_cons (s_if (PW.pt (t_and (t_cmp (c_ne hr) (e_var (pv 3)) (e_lst a_nil)) (t_and1 (t_cmp (c_eq hr) (e_idx (e_var (pv 3)) e_int) (e_var (pv 2)))))) (k_cons (s_expr (e_popAt (e_var (pv 3)) (a_cons e_int a_nil)))
      k_nil) (k_cons (s_expr (e_append (e_var (pv 4)) (a_cons (e_var (pv 2)) a_nil)))
      k_nil))
      k_nil))
      (k_cons (s_ret (e_ite (t_cmp (c_eq hr) (e_var (pv 3)) (e_lst a_nil)) (e_var (pv 4)) e_non))
      k_nil)))
theorem d_refined (W : Wld mg K fv) (C : Cals P w K mg base fv k) (f : Addr) (cdv : Value) (A : Around) (outer : List Env) (s : Shared) (H : Hp) (E : XK) (hr : Room k (A.deeper (PyProof.Rows.envOfC "refined" (C8.fnScope t_refined) s.heap.objs.size f cdv))) :
    PSs (cxOf CX0 P w K mg base N_refined "refined" (C8.fnScope t_refined) f cdv A outer s H E).nox (C8.fnBody t_refined) (tK K fv (callF G k) c_refined) :=
  have nd := sc_refined.nd
  (k_cons (s_expr (e_call C.c_need_spline hr (by rfl) (a_cons (e_var (pv 0)) a_nil)))
      (k_cons (s_expr (e_call C.c_need_knots hr (by rfl) (a_cons (e_idx (e_var (pv 0)) e_int) (a_cons (e_var (pv 1)) a_nil))))
      (k_cons (s_set (i := 2) nd rfl (by first | exact .inl rfl | exact .inr rfl) (e_call C.c_missing hr (by rfl) (a_cons (e_idx (e_var (pv 0)) e_int) (a_cons (e_var (pv 1)) a_nil))))
      (k_cons (s_if (PW.pt (t_or (t_cmp c_isN (e_var (pv 2)) e_non) (t_or1 (t_not (t_val (e_all rfl (by rfl) W.m_all (a_cons (e_comp [("x", 4)] rfl nd (i_seq (e_var (pv 2))) (blkOk_by (by rfl)) (fun _ _ _ _ _ => (g_v (pg_name (i := 4) nd rfl (by first | exact .inl rfl | exact .inr rfl)))) (fun _ _ _ _ _ => w_nil) (fun _ _ _ _ _ => (e_and (e_call C.c_is_below hr (by rfl) (a_cons (e_idx (e_idx (e_var (pv 0)) e_int) e_int) (a_cons (e_var (pv 4)) a_nil))) (e_one (e_call C.c_is_below hr (by rfl) (a_cons (e_var (pv 4)) (a_cons (e_idx (e_idx (e_var (pv 0)) e_int) (e_neg e_int)) a_nil))))))) a_nil))))))) (k_cons s_raise
      k_nil) k_nil)
      (k_cons (s_set (i := 3) nd rfl (by first | exact .inl rfl | exact .inr rfl) (e_var (pv 0)))
      (k_cons (s_for PassesOwn.never rfl (i_seq (e_var (pv 2))) (g_v (pg_name (i := 4) nd rfl (by first | exact .inl rfl | exact .inr rfl))) (k_cons (s_set (i := 3) nd rfl (by first | exact .inl rfl | exact .inr rfl) (e_call C.c_with_knot hr (by rfl) (a_cons (e_var (pv 3)) (a_cons (e_var (pv 4)) a_nil))))
      k_nil))
      (k_cons (s_ret (e_var (pv 3)))
      k_nil)))))))
theorem d_is_interval (W : Wld mg K fv) (C : Cals P w K mg base fv k) (f : Addr) (cdv : Value) (A : Around) (outer : List Env) (s : Shared) (H : Hp) (E : XK) (hr : Room k (A.deeper (PyProof.Rows.envOfC "is_interval" (C8.fnScope t_is_interval) s.heap.objs.size f cdv))) :
    PSs (cxOf CX0 P w K mg base N_is_interval "is_interval" (C8.fnScope t_is_interval) f cdv A outer s H E).nox (C8.fnBody t_is_interval) (tK K fv (callF G k) c_is_interval) :=
  have nd := sc_is_interval.nd
  (k_cons (s_if (PW.pt (t_or (t_not (t_val (e_isTup (by rfl) W.m_isinstance (by rfl) W.m_tuple (e_var (pv 0))))) (t_or (t_cmp (c_ne hr) (e_len (by rfl) W.m_len (a_cons (e_var (pv 0)) a_nil)) e_int) (t_or (t_not (t_val (e_call C.c_is_ratio hr (by rfl) (a_cons (e_idx (e_var (pv 0)) e_int) a_nil)))) (t_or1 (t_not (t_val (e_call C.c_is_ratio hr (by rfl) (a_cons (e_idx (e_var (pv 0)) e_int) a_nil))))))))) (k_cons (s_ret e_bl)
      k_nil) k_nil)
      (k_cons (s_ret (e_call C.c_is_below hr (by rfl) (a_cons (e_idx (e_var (pv 0)) e_int) (a_cons (e_idx (e_var (pv 0)) e_int) a_nil))))
      k_nil))
theorem d_need_interval (W : Wld mg K fv) (C : Cals P w K mg base fv k) (f : Addr) (cdv : Value) (A : Around) (outer : List Env) (s : Shared) (H : Hp) (E : XK) (hr : Room k (A.deeper (PyProof.Rows.envOfC "need_interval" (C8.fnScope t_need_interval) s.heap.objs.size f cdv))) :
    PSs (cxOf CX0 P w K mg base N_need_interval "need_interval" (C8.fnScope t_need_interval) f cdv A outer s H E).nox (C8.fnBody t_need_interval) (tK K fv (callF G k) c_need_interval) :=
  have nd := sc_need_interval.nd
  (k_cons (s_if (t_not (t_val (e_call C.c_is_interval hr (by rfl) (a_cons (e_var (pv 0)) a_nil)))) (k_cons s_raise
      k_nil) k_nil)
      k_nil)
theorem d_control_row (W : Wld mg K fv) (C : Cals P w K mg base fv k) (f : Addr) (cdv : Value) (A : Around) (outer : List Env) (s : Shared) (H : Hp) (E : XK) (hr : Room k (A.deeper (PyProof.Rows.envOfC "control_row" (C8.fnScope t_control_row) s.heap.objs.size f cdv))) :
    PSs (cxOf CX0 P w K mg base N_control_row "control_row" (C8.fnScope t_control_row) f cdv A outer s H E).nox (C8.fnBody t_control_row) (tK K fv (callF G k) c_control_row) :=
  have nd := sc_control_row.nd
  (k_cons (s_asg (e_var (pv 2)) (g_tup rfl (gs_cons (g_v (pg_name (i := 3) nd rfl (by first | exact .inl rfl | exact .inr rfl))) (gs_cons (g_v (pg_name (i := 4) nd rfl (by first | exact .inl rfl | exact .inr rfl))) gs_nil))))
      (k_cons (s_ret (e_tuple (by rfl) W.m_tuple (a_cons (e_comp [("at", 5)] rfl nd (i_rng1 (by rfl) W.m_range (a_cons (e_add (e_var (pv 1)) e_int) a_nil)) (blkOk_by (by rfl)) (fun _ _ _ _ _ => (g_v (pg_name (i := 5) nd rfl (by first | exact .inl rfl | exact .inr rfl)))) (fun _ _ _ _ _ => w_nil) (fun _ _ _ _ _ => (e_call C.c_blossom_of hr (by rfl) (a_cons (e_var (pv 0)) (a_cons (e_add (e_mul (e_lst (a_cons (e_var (pv 3)) a_nil)) (e_sub (e_var (pv 1)) (e_var (pv 5)))) (e_mul (e_lst (a_cons (e_var (pv 4)) a_nil)) (e_var (pv 5)))) a_nil))))) a_nil)))
      k_nil))
theorem d_row_of (W : Wld mg K fv) (C : Cals P w K mg base fv k) (f : Addr) (cdv : Value) (A : Around) (outer : List Env) (s : Shared) (H : Hp) (E : XK) (hr : Room k (A.deeper (PyProof.Rows.envOfC "row_of" (C8.fnScope t_row_of) s.heap.objs.size f cdv))) :
    PSs (cxOf CX0 P w K mg base N_row_of "row_of" (C8.fnScope t_row_of) f cdv A outer s H E).nox (C8.fnBody t_row_of) (tK K fv (callF G k) c_row_of) :=
  have nd := sc_row_of.nd
  (k_cons (s_expr (e_call C.c_need_poly hr (by rfl) (a_cons (e_var (pv 0)) a_nil)))
      (k_cons (s_expr (e_call C.c_need_degree hr (by rfl) (a_cons (e_var (pv 0)) (a_cons (e_var (pv 1)) a_nil))))
      (k_cons (s_expr (e_call C.c_need_interval hr (by rfl) (a_cons (e_var (pv 2)) a_nil)))
      (k_cons (s_ret (e_call C.c_control_row hr (by rfl) (a_cons (e_var (pv 0)) (a_cons (e_var (pv 1)) (a_cons (e_var (pv 2)) a_nil)))))
      k_nil))))
theorem d__law_taken (W : Wld mg K fv) (C : Cals P w K mg base fv k) (f : Addr) (cdv : Value) (A : Around) (outer : List Env) (s : Shared) (H : Hp) (E : XK) (hr : Room k (A.deeper (PyProof.Rows.envOfC "_law_taken" (C8.fnScope t__law_taken) s.heap.objs.size f cdv))) :
    PSs (cxOf CX0 P w K mg base N__law_taken "_law_taken" (C8.fnScope t__law_taken) f cdv A outer s H E).nox (C8.fnBody t__law_taken) (tK K fv (callF G k) c__law_taken) :=
  have nd := sc__law_taken.nd
  (k_cons (s_if (t_cmp c_gt (e_idx (e_var (pv 0)) e_int) e_int) (k_cons (s_set (i := 3) nd rfl (by first | exact .inl rfl | exact .inr rfl) (e_mod (e_intf (by rfl) W.m_int (a_cons (e_idx (e_var (pv 0)) e_int) a_nil)) (e_var (pv 1))))
      (k_cons (s_asg (e_fdiv (e_idx (e_var (pv 0)) e_int) (e_var (pv 1))) (g_sub (e_var (pv 0)) e_int))
      (k_cons (s_ret (e_var (pv 3)))
      k_nil))) k_nil)
      (k_cons (s_asg (e_add (e_idx (e_var (pv 0)) e_int) e_int) (g_sub (e_var (pv 0)) e_int))
      (k_cons (s_if (t_cmp c_gt (e_idx (e_var (pv 0)) e_int) (e_len (by rfl) W.m_len (a_cons (e_idx (e_var (pv 0)) e_int) a_nil))) (k_cons (s_asg (e_mod (e_intf (by rfl) W.m_int (a_cons (e_add (e_mul (e_idx (e_var (pv 0)) e_int) e_int) e_int) a_nil)) e_int) (g_sub (e_var (pv 0)) e_int))
      (k_cons (s_ret (e_mod (e_intf (by rfl) W.m_int (a_cons (e_fdiv (e_idx (e_var (pv 0)) e_int) e_int) a_nil)) (e_var (pv 1))))
      k_nil)) k_nil)
      (k_cons (s_set (i := 2) nd rfl (by first | exact .inl rfl | exact .inr rfl) (e_idx (e_idx (e_var (pv 0)) e_int) (e_sub (e_idx (e_var (pv 0)) e_int) e_int)))
      (k_cons (s_asg (e_mod (e_intf (by rfl) W.m_int (a_cons (e_add (e_add (e_mul (e_idx (e_var (pv 0)) e_int) e_int) (e_var (pv 2))) e_int) a_nil)) e_int) (g_sub (e_var (pv 0)) e_int))
      (k_cons (s_if (t_cmp c_ge (e_var (pv 2)) (e_pow e_int e_int)) (k_cons (s_asg (e_fdiv (e_var (pv 2)) (e_var (pv 1))) (g_sub (e_var (pv 0)) e_int))
      k_nil) k_nil)
      (k_cons (s_ret (e_mod (e_intf (by rfl) W.m_int (a_cons (e_var (pv 2)) a_nil)) (e_var (pv 1))))
      k_nil)))))))
theorem d__law_pick (W : Wld mg K fv) (C : Cals P w K mg base fv k) (f : Addr) (cdv : Value) (A : Around) (outer : List Env) (s : Shared) (H : Hp) (E : XK) (hr : Room k (A.deeper (PyProof.Rows.envOfC "_law_pick" (C8.fnScope t__law_pick) s.heap.objs.size f cdv))) :
    PSs (cxOf CX0 P w K mg base N__law_pick "_law_pick" (C8.fnScope t__law_pick) f cdv A outer s H E).nox (C8.fnBody t__law_pick) (tK K fv (callF G k) c__law_pick) :=
  have nd := sc__law_pick.nd
  (k_cons (s_ret (e_idx (e_var (pv 1)) (e_call C.c__law_taken hr (by rfl) (a_cons (e_var (pv 0)) (a_cons (e_len (by rfl) W.m_len (a_cons (e_var (pv 1)) a_nil)) a_nil)))))
      k_nil)
theorem d__law_made (W : Wld mg K fv) (C : Cals P w K mg base fv k) (f : Addr) (cdv : Value) (A : Around) (outer : List Env) (s : Shared) (H : Hp) (E : XK) (hr : Room k (A.deeper (PyProof.Rows.envOfC "_law_made" (C8.fnScope t__law_made) s.heap.objs.size f cdv))) :
    PSs (cxOf CX0 P w K mg base N__law_made "_law_made" (C8.fnScope t__law_made) f cdv A outer s H E).nox (C8.fnBody t__law_made) (tK K fv (callF G k) c__law_made) :=
  have nd := sc__law_made.nd
  (k_cons (s_par2 (i := 3) (j := 4) rfl nd rfl rfl (by decide) rfl rfl (a_cons (e_abs (by rfl) W.m_abs (a_cons (e_var (pv 0)) a_nil)) (a_cons (e_abs (by rfl) W.m_abs (a_cons (e_var (pv 1)) a_nil)) a_nil)))
      (k_cons (s_for PassesOwn.never rfl (i_rng1 (by rfl) W.m_range (a_cons e_int a_nil)) (g_v (pg_name (i := 2) nd rfl (by first | exact .inl rfl | exact .inr rfl))) (k_cons (s_if (t_cmp (c_eq hr) (e_var (pv 4)) e_int) (k_cons s_brk
      k_nil) k_nil)
      (k_cons (s_par2 (i := 3) (j := 4) rfl nd rfl rfl (by decide) rfl rfl (a_cons (e_var (pv 4)) (a_cons (e_mod (e_var (pv 3)) (e_var (pv 4))) a_nil)))
      k_nil)))
      (k_cons (s_set (i := 3) nd rfl (by first | exact .inl rfl | exact .inr rfl) (e_ite (t_cmp c_lt (e_var (pv 1)) e_int) (e_sub e_int (e_var (pv 3))) (e_var (pv 3))))
      (k_cons (s_ret (e_tup (a_cons (e_fdiv (e_var (pv 0)) (e_var (pv 3))) (a_cons (e_fdiv (e_var (pv 1)) (e_var (pv 3))) a_nil))))
      k_nil))))
theorem d__law_plus (W : Wld mg K fv) (C : Cals P w K mg base fv k) (f : Addr) (cdv : Value) (A : Around) (outer : List Env) (s : Shared) (H : Hp) (E : XK) (hr : Room k (A.deeper (PyProof.Rows.envOfC "_law_plus" (C8.fnScope t__law_plus) s.heap.objs.size f cdv))) :
    PSs (cxOf CX0 P w K mg base N__law_plus "_law_plus" (C8.fnScope t__law_plus) f cdv A outer s H E).nox (C8.fnBody t__law_plus) (tK K fv (callF G k) c__law_plus) :=
  have nd := sc__law_plus.nd
  (k_cons (s_ret (e_call C.c__law_made hr (by rfl) (a_cons (e_add (e_mul (e_idx (e_var (pv 0)) e_int) (e_idx (e_var (pv 1)) e_int)) (e_mul (e_idx (e_var (pv 1)) e_int) (e_idx (e_var (pv 0)) e_int))) (a_cons (e_mul (e_idx (e_var (pv 0)) e_int) (e_idx (e_var (pv 1)) e_int)) a_nil))))
      k_nil)
theorem d__law_minus (W : Wld mg K fv) (C : Cals P w K mg base fv k) (f : Addr) (cdv : Value) (A : Around) (outer : List Env) (s : Shared) (H : Hp) (E : XK) (hr : Room k (A.deeper (PyProof.Rows.envOfC "_law_minus" (C8.fnScope t__law_minus) s.heap.objs.size f cdv))) :
    PSs (cxOf CX0 P w K mg base N__law_minus "_law_minus" (C8.fnScope t__law_minus) f cdv A outer s H E).nox (C8.fnBody t__law_minus) (tK K fv (callF G k) c__law_minus) :=
  have nd := sc__law_minus.nd
  (k_cons (s_ret (e_call C.c__law_made hr (by rfl) (a_cons (e_sub (e_mul (e_idx (e_var (pv 0)) e_int) (e_idx (e_var (pv 1)) e_int)) (e_mul (e_idx (e_var (pv 1)) e_int) (e_idx (e_var (pv 0)) e_int))) (a_cons (e_mul (e_idx (e_var (pv 0)) e_int) (e_idx (e_var (pv 1)) e_int)) a_nil))))
      k_nil)
theorem d__law_times (W : Wld mg K fv) (C : Cals P w K mg base fv k) (f : Addr) (cdv : Value) (A : Around) (outer : List Env) (s : Shared) (H : Hp) (E : XK) (hr : Room k (A.deeper (PyProof.Rows.envOfC "_law_times" (C8.fnScope t__law_times) s.heap.objs.size f cdv))) :
    PSs (cxOf CX0 P w K mg base N__law_times "_law_times" (C8.fnScope t__law_times) f cdv A outer s H E).nox (C8.fnBody t__law_times) (tK K fv (callF G k) c__law_times) :=
  have nd := sc__law_times.nd
  (k_cons (s_ret (e_call C.c__law_made hr (by rfl) (a_cons (e_mul (e_idx (e_var (pv 0)) e_int) (e_idx (e_var (pv 1)) e_int)) (a_cons (e_mul (e_idx (e_var (pv 0)) e_int) (e_idx (e_var (pv 1)) e_int)) a_nil))))
      k_nil)
theorem d__law_over (W : Wld mg K fv) (C : Cals P w K mg base fv k) (f : Addr) (cdv : Value) (A : Around) (outer : List Env) (s : Shared) (H : Hp) (E : XK) (hr : Room k (A.deeper (PyProof.Rows.envOfC "_law_over" (C8.fnScope t__law_over) s.heap.objs.size f cdv))) :
    PSs (cxOf CX0 P w K mg base N__law_over "_law_over" (C8.fnScope t__law_over) f cdv A outer s H E).nox (C8.fnBody t__law_over) (tK K fv (callF G k) c__law_over) :=
  have nd := sc__law_over.nd
  (k_cons (s_ret (e_call C.c__law_made hr (by rfl) (a_cons (e_mul (e_idx (e_var (pv 0)) e_int) (e_idx (e_var (pv 1)) e_int)) (a_cons (e_mul (e_idx (e_var (pv 0)) e_int) (e_idx (e_var (pv 1)) e_int)) a_nil))))
      k_nil)
theorem d__law_below (W : Wld mg K fv) (C : Cals P w K mg base fv k) (f : Addr) (cdv : Value) (A : Around) (outer : List Env) (s : Shared) (H : Hp) (E : XK) (hr : Room k (A.deeper (PyProof.Rows.envOfC "_law_below" (C8.fnScope t__law_below) s.heap.objs.size f cdv))) :
    PSs (cxOf CX0 P w K mg base N__law_below "_law_below" (C8.fnScope t__law_below) f cdv A outer s H E).nox (C8.fnBody t__law_below) (tK K fv (callF G k) c__law_below) :=
  have nd := sc__law_below.nd
  (k_cons (s_ret (e_cmp c_lt (e_mul (e_idx (e_var (pv 0)) e_int) (e_idx (e_var (pv 1)) e_int)) (e_mul (e_idx (e_var (pv 1)) e_int) (e_idx (e_var (pv 0)) e_int))))
      k_nil)
theorem d__law_sum (W : Wld mg K fv) (C : Cals P w K mg base fv k) (f : Addr) (cdv : Value) (A : Around) (outer : List Env) (s : Shared) (H : Hp) (E : XK) (hr : Room k (A.deeper (PyProof.Rows.envOfC "_law_sum" (C8.fnScope t__law_sum) s.heap.objs.size f cdv))) :
    PSs (cxOf CX0 P w K mg base N__law_sum "_law_sum" (C8.fnScope t__law_sum) f cdv A outer s H E).nox (C8.fnBody t__law_sum) (tK K fv (callF G k) c__law_sum) :=
  have nd := sc__law_sum.nd
  (k_cons (s_set (i := 1) nd rfl (by first | exact .inl rfl | exact .inr rfl) (e_tup (a_cons e_int (a_cons e_int a_nil))))
      (k_cons (s_for PassesOwn.never rfl (i_seq (e_var (pv 0))) (g_v (pg_name (i := 2) nd rfl (by first | exact .inl rfl | exact .inr rfl))) (k_cons (s_set (i := 1) nd rfl (by first | exact .inl rfl | exact .inr rfl) (e_call C.c__law_plus hr (by rfl) (a_cons (e_var (pv 1)) (a_cons (e_var (pv 2)) a_nil))))
      k_nil))
      (k_cons (s_ret (e_var (pv 1)))
      k_nil)))
theorem d__law_draw (W : Wld mg K fv) (C : Cals P w K mg base fv k) (f : Addr) (cdv : Value) (A : Around) (outer : List Env) (s : Shared) (H : Hp) (E : XK) (hr : Room k (A.deeper (PyProof.Rows.envOfC "_law_draw" (C8.fnScope t__law_draw) s.heap.objs.size f cdv))) :
    PSs (cxOf CX0 P w K mg base N__law_draw "_law_draw" (C8.fnScope t__law_draw) f cdv A outer s H E).nox (C8.fnBody t__law_draw) (tK K fv (callF G k) c__law_draw) :=
  have nd := sc__law_draw.nd
  (k_cons (s_set (i := 1) nd rfl (by first | exact .inl rfl | exact .inr rfl) (e_call C.c__law_pick hr (by rfl) (a_cons (e_var (pv 0)) (a_cons (e_lst (a_cons e_int (a_cons e_int (a_cons e_int (a_cons e_int (a_cons e_int a_nil)))))) a_nil))))
      (k_cons (s_ret (e_call C.c__law_made hr (by rfl) (a_cons (e_sub (e_call C.c__law_taken hr (by rfl) (a_cons (e_var (pv 0)) (a_cons e_int a_nil))) e_int) (a_cons (e_var (pv 1)) a_nil))))
      k_nil))
theorem d__law_middle (W : Wld mg K fv) (C : Cals P w K mg base fv k) (f : Addr) (cdv : Value) (A : Around) (outer : List Env) (s : Shared) (H : Hp) (E : XK) (hr : Room k (A.deeper (PyProof.Rows.envOfC "_law_middle" (C8.fnScope t__law_middle) s.heap.objs.size f cdv))) :
    PSs (cxOf CX0 P w K mg base N__law_middle "_law_middle" (C8.fnScope t__law_middle) f cdv A outer s H E).nox (C8.fnBody t__law_middle) (tK K fv (callF G k) c__law_middle) :=
  have nd := sc__law_middle.nd
  (k_cons (s_ret (e_call C.c__law_plus hr (by rfl) (a_cons (e_var (pv 0)) (a_cons (e_call C.c__law_times hr (by rfl) (a_cons (e_var (pv 2)) (a_cons (e_call C.c__law_minus hr (by rfl) (a_cons (e_var (pv 1)) (a_cons (e_var (pv 0)) a_nil))) a_nil))) a_nil))))
      k_nil)
theorem d__law_once (W : Wld mg K fv) (C : Cals P w K mg base fv k) (f : Addr) (cdv : Value) (A : Around) (outer : List Env) (s : Shared) (H : Hp) (E : XK) (hr : Room k (A.deeper (PyProof.Rows.envOfC "_law_once" (C8.fnScope t__law_once) s.heap.objs.size f cdv))) :
    PSs (cxOf CX0 P w K mg base N__law_once "_law_once" (C8.fnScope t__law_once) f cdv A outer s H E).nox (C8.fnBody t__law_once) (tK K fv (callF G k) c__law_once) :=
  have nd := sc__law_once.nd
  (k_cons (s_set (i := 1) nd rfl (by first | exact .inl rfl | exact .inr rfl) (e_lst a_nil))
      (k_cons (s_for PassesOwn.never rfl (i_seq (e_var (pv 0))) (g_v (pg_name (i := 2) nd rfl (by first | exact .inl rfl | exact .inr rfl))) (k_cons (s_set (i := 1) nd rfl (by first | exact .inl rfl | exact .inr rfl) (e_add (e_var (pv 1)) (e_ite (t_cmp (c_notIn hr) (e_var (pv 2)) (e_var (pv 1))) (e_lst (a_cons (e_var (pv 2)) a_nil)) (e_lst a_nil))))
      k_nil))
      (k_cons (s_ret (e_var (pv 1)))
      k_nil)))
theorem d__law_sorted (W : Wld mg K fv) (C : Cals P w K mg base fv k) (f : Addr) (cdv : Value) (A : Around) (outer : List Env) (s : Shared) (H : Hp) (E : XK) (hr : Room k (A.deeper (PyProof.Rows.envOfC "_law_sorted" (C8.fnScope t__law_sorted) s.heap.objs.size f cdv))) :
    PSs (cxOf CX0 P w K mg base N__law_sorted "_law_sorted" (C8.fnScope t__law_sorted) f cdv A outer s H E).nox (C8.fnBody t__law_sorted) (tK K fv (callF G k) c__law_sorted) :=
  have nd := sc__law_sorted.nd
  (k_cons (s_set (i := 1) nd rfl (by first | exact .inl rfl | exact .inr rfl) (e_lst a_nil))
      (k_cons (s_for PassesOwn.never rfl (i_seq (e_var (pv 0))) (g_v (pg_name (i := 2) nd rfl (by first | exact .inl rfl | exact .inr rfl))) (k_cons (s_set (i := 3) nd rfl (by first | exact .inl rfl | exact .inr rfl) e_int)
      (k_cons (s_while PassesOwn.never (PW.pt (t_and (t_cmp c_lt (e_var (pv 3)) (e_len (by rfl) W.m_len (a_cons (e_var (pv 1)) a_nil))) (t_and1 (t_not (t_val (e_call C.c__law_below hr (by rfl) (a_cons (e_var (pv 2)) (a_cons (e_idx (e_var (pv 1)) (e_var (pv 3))) a_nil)))))))) (k_cons (s_set (i := 3) nd rfl (by first | exact .inl rfl | exact .inr rfl) (e_add (e_var (pv 3)) e_int))
      k_nil))
      (k_cons (s_set (i := 1) nd rfl (by first | exact .inl rfl | exact .inr rfl) (e_add (e_add (e_slc (e_var (pv 1)) o_none (o_some (e_var (pv 3)))) (e_lst (a_cons (e_var (pv 2)) a_nil))) (e_slc (e_var (pv 1)) (o_some (e_var (pv 3))) o_none)))
      k_nil))))
      (k_cons (s_ret (e_var (pv 1)))
      k_nil)))
theorem d__law_basis (W : Wld mg K fv) (C : Cals P w K mg base fv k) (f : Addr) (cdv : Value) (A : Around) (outer : List Env) (s : Shared) (H : Hp) (E : XK) (hr : Room k (A.deeper (PyProof.Rows.envOfC "_law_basis" (C8.fnScope t__law_basis) s.heap.objs.size f cdv))) :
    PSs (cxOf CX0 P w K mg base N__law_basis "_law_basis" (C8.fnScope t__law_basis) f cdv A outer s H E).nox (C8.fnBody t__law_basis) (tK K fv (callF G k) c__law_basis) :=
  have nd := sc__law_basis.nd
  (k_cons (s_if (t_cmp (c_eq hr) (e_var (pv 0)) e_int) (k_cons (s_ret (e_ite (PW.pt (t_and (t_not (t_val (e_call C.c__law_below hr (by rfl) (a_cons (e_var (pv 3)) (a_cons (e_idx (e_var (pv 1)) (e_var (pv 2))) a_nil))))) (t_and1 (t_val (e_call C.c__law_below hr (by rfl) (a_cons (e_var (pv 3)) (a_cons (e_idx (e_var (pv 1)) (e_add (e_var (pv 2)) e_int)) a_nil))))))) (e_tup (a_cons e_int (a_cons e_int a_nil))) (e_tup (a_cons e_int (a_cons e_int a_nil)))))
      k_nil) k_nil)
      (k_cons (s_set (i := 4) nd rfl (by first | exact .inl rfl | exact .inr rfl) (e_tup (a_cons e_int (a_cons e_int a_nil))))
      (k_cons (s_if (t_cmp (c_ne hr) (e_idx (e_var (pv 1)) (e_var (pv 2))) (e_idx (e_var (pv 1)) (e_add (e_var (pv 2)) (e_var (pv 0))))) (k_cons (s_set (i := 5) nd rfl (by first | exact .inl rfl | exact .inr rfl) (e_call C.c__law_over hr (by rfl) (a_cons (e_call C.c__law_minus hr (by rfl) (a_cons (e_var (pv 3)) (a_cons (e_idx (e_var (pv 1)) (e_var (pv 2))) a_nil))) (a_cons (e_call C.c__law_minus hr (by rfl) (a_cons (e_idx (e_var (pv 1)) (e_add (e_var (pv 2)) (e_var (pv 0)))) (a_cons (e_idx (e_var (pv 1)) (e_var (pv 2))) a_nil))) a_nil))))
      (k_cons (s_set (i := 4) nd rfl (by first | exact .inl rfl | exact .inr rfl) (e_call C.c__law_times hr (by rfl) (a_cons (e_var (pv 5)) (a_cons (e_call C.c__law_basis hr (by rfl) (a_cons (e_sub (e_var (pv 0)) e_int) (a_cons (e_var (pv 1)) (a_cons (e_var (pv 2)) (a_cons (e_var (pv 3)) a_nil))))) a_nil))))
      k_nil)) k_nil)
      (k_cons (s_if (t_cmp (c_ne hr) (e_idx (e_var (pv 1)) (e_add (e_var (pv 2)) e_int)) (e_idx (e_var (pv 1)) (e_add (e_add (e_var (pv 2)) (e_var (pv 0))) e_int))) (k_cons (s_set (i := 5) nd rfl (by first | exact .inl rfl | exact .inr rfl) (e_call C.c__law_minus hr (by rfl) (a_cons (e_idx (e_var (pv 1)) (e_add (e_add (e_var (pv 2)) (e_var (pv 0))) e_int)) (a_cons (e_idx (e_var (pv 1)) (e_add (e_var (pv 2)) e_int)) a_nil))))
      (k_cons (s_set (i := 5) nd rfl (by first | exact .inl rfl | exact .inr rfl) (e_call C.c__law_over hr (by rfl) (a_cons (e_call C.c__law_minus hr (by rfl) (a_cons (e_idx (e_var (pv 1)) (e_add (e_add (e_var (pv 2)) (e_var (pv 0))) e_int)) (a_cons (e_var (pv 3)) a_nil))) (a_cons (e_var (pv 5)) a_nil))))
      (k_cons (s_set (i := 4) nd rfl (by first | exact .inl rfl | exact .inr rfl) (e_call C.c__law_plus hr (by rfl) (a_cons (e_var (pv 4)) (a_cons (e_call C.c__law_times hr (by rfl) (a_cons (e_var (pv 5)) (a_cons (e_call C.c__law_basis hr (by rfl) (a_cons (e_sub (e_var (pv 0)) e_int) (a_cons (e_var (pv 1)) (a_cons (e_add (e_var (pv 2)) e_int) (a_cons (e_var (pv 3)) a_nil))))) a_nil))) a_nil))))
      k_nil))) k_nil)
      (k_cons (s_ret (e_var (pv 4)))
      k_nil)))))
theorem d__law_spline (W : Wld mg K fv) (C : Cals P w K mg base fv k) (f : Addr) (cdv : Value) (A : Around) (outer : List Env) (s : Shared) (H : Hp) (E : XK) (hr : Room k (A.deeper (PyProof.Rows.envOfC "_law_spline" (C8.fnScope t__law_spline) s.heap.objs.size f cdv))) :
    PSs (cxOf CX0 P w K mg base N__law_spline "_law_spline" (C8.fnScope t__law_spline) f cdv A outer s H E).nox (C8.fnBody t__law_spline) (tK K fv (callF G k) c__law_spline) :=
  have nd := sc__law_spline.nd
  (k_cons (s_par2 (i := 4) (j := 5) rfl nd rfl rfl (by decide) rfl rfl (a_cons (e_call C.c__law_taken hr (by rfl) (a_cons (e_var (pv 0)) (a_cons (e_add (e_var (pv 1)) e_int) a_nil))) (a_cons (e_call C.c__law_draw hr (by rfl) (a_cons (e_var (pv 0)) a_nil)) a_nil)))
      (k_cons (s_par2 (i := 6) (j := 3) rfl nd rfl rfl (by decide) rfl rfl (a_cons (e_var (pv 5)) (a_cons (e_mul (e_lst (a_cons (e_var (pv 5)) a_nil)) (e_add (e_var (pv 4)) e_int)) a_nil)))
      (k_cons (s_for PassesOwn.never rfl (i_rng1 (by rfl) W.m_range (a_cons (e_call C.c__law_taken hr (by rfl) (a_cons (e_var (pv 0)) (a_cons e_int a_nil))) a_nil)) (g_v (pg_name (i := 2) nd rfl (by first | exact .inl rfl | exact .inr rfl))) (k_cons (s_set (i := 6) nd rfl (by first | exact .inl rfl | exact .inr rfl) (e_call C.c__law_plus hr (by rfl) (a_cons (e_var (pv 6)) (a_cons (e_call C.c__law_made hr (by rfl) (a_cons (e_add e_int (e_call C.c__law_taken hr (by rfl) (a_cons (e_var (pv 0)) (a_cons e_int a_nil)))) (a_cons (e_call C.c__law_pick hr (by rfl) (a_cons (e_var (pv 0)) (a_cons (e_lst (a_cons e_int (a_cons e_int (a_cons e_int a_nil)))) a_nil))) a_nil))) a_nil))))
      (k_cons (s_set (i := 3) nd rfl (by first | exact .inl rfl | exact .inr rfl) (e_add (e_var (pv 3)) (e_mul (e_lst (a_cons (e_var (pv 6)) a_nil)) (e_add e_int (e_ite (t_cmp (c_eq hr) (e_call C.c__law_taken hr (by rfl) (a_cons (e_var (pv 0)) (a_cons e_int a_nil))) e_int) (e_call C.c__law_taken hr (by rfl) (a_cons (e_var (pv 0)) (a_cons (e_add (e_var (pv 4)) e_int) a_nil))) e_int)))))
      k_nil)))
      (k_cons (s_set (i := 3) nd rfl (by first | exact .inl rfl | exact .inr rfl) (e_add (e_var (pv 3)) (e_mul (e_lst (a_cons (e_call C.c__law_plus hr (by rfl) (a_cons (e_var (pv 6)) (a_cons (e_tup (a_cons (e_add e_int (e_call C.c__law_taken hr (by rfl) (a_cons (e_var (pv 0)) (a_cons e_int a_nil)))) (a_cons e_int a_nil))) a_nil))) a_nil)) (e_add (e_var (pv 4)) e_int))))
      (k_cons (s_set (i := 3) nd rfl (by first | exact .inl rfl | exact .inr rfl) (e_ite (t_cmp c_gt (e_len (by rfl) W.m_len (a_cons (e_var (pv 3)) a_nil)) e_int) (e_tuple (by rfl) W.m_tuple (a_cons (e_add (e_slc (e_var (pv 3)) o_none (o_some (e_sub e_int (e_var (pv 4))))) (e_slc (e_var (pv 3)) (o_some (e_sub (e_neg (e_var (pv 4))) e_int)) o_none)) a_nil)) (e_tuple (by rfl) W.m_tuple (a_cons (e_var (pv 3)) a_nil))))
      (k_cons (s_ret (e_tup (a_cons (e_var (pv 4)) (a_cons (e_var (pv 3)) (a_cons (e_tuple (by rfl) W.m_tuple (a_cons (e_comp [("_law_at", 7)] rfl nd (i_rng1 (by rfl) W.m_range (a_cons (e_sub (e_sub (e_len (by rfl) W.m_len (a_cons (e_var (pv 3)) a_nil)) (e_var (pv 4))) e_int) a_nil)) (blkOk_by (by rfl)) (fun _ _ _ _ _ => (g_v (pg_name (i := 7) nd rfl (by first | exact .inl rfl | exact .inr rfl)))) (fun _ _ _ _ _ => w_nil) (fun _ _ _ _ _ => (e_call C.c__law_draw hr (by rfl) (a_cons (e_var (pv 0)) a_nil)))) a_nil)) a_nil)))))
      k_nil))))))
theorem d__law_spline_at (W : Wld mg K fv) (C : Cals P w K mg base fv k) (f : Addr) (cdv : Value) (A : Around) (outer : List Env) (s : Shared) (H : Hp) (E : XK) (hr : Room k (A.deeper (PyProof.Rows.envOfC "_law_spline_at" (C8.fnScope t__law_spline_at) s.heap.objs.size f cdv))) :
    PSs (cxOf CX0 P w K mg base N__law_spline_at "_law_spline_at" (C8.fnScope t__law_spline_at) f cdv A outer s H E).nox (C8.fnBody t__law_spline_at) (tK K fv (callF G k) c__law_spline_at) :=
  have nd := sc__law_spline_at.nd
  (k_cons (s_asg (e_var (pv 0)) (g_tup rfl (gs_cons (g_v (pg_name (i := 2) nd rfl (by first | exact .inl rfl | exact .inr rfl))) (gs_cons (g_v (pg_name (i := 3) nd rfl (by first | exact .inl rfl | exact .inr rfl))) (gs_cons (g_v (pg_name (i := 4) nd rfl (by first | exact .inl rfl | exact .inr rfl))) gs_nil)))))
      (k_cons (s_if (t_cmp (c_eq hr) (e_var (pv 1)) (e_idx (e_var (pv 3)) (e_neg e_int))) (k_cons (s_ret (e_idx (e_var (pv 4)) (e_neg e_int)))
      k_nil) k_nil)
      (k_cons (s_ret (e_call C.c__law_sum hr (by rfl) (a_cons (e_comp [("_law_i", 5)] rfl nd (i_rng1 (by rfl) W.m_range (a_cons (e_len (by rfl) W.m_len (a_cons (e_var (pv 4)) a_nil)) a_nil)) (blkOk_by (by rfl)) (fun _ _ _ _ _ => (g_v (pg_name (i := 5) nd rfl (by first | exact .inl rfl | exact .inr rfl)))) (fun _ _ _ _ _ => w_nil) (fun _ _ _ _ _ => (e_call C.c__law_times hr (by rfl) (a_cons (e_idx (e_var (pv 4)) (e_var (pv 5))) (a_cons (e_call C.c__law_basis hr (by rfl) (a_cons (e_var (pv 2)) (a_cons (e_var (pv 3)) (a_cons (e_var (pv 5)) (a_cons (e_var (pv 1)) a_nil))))) a_nil))))) a_nil)))
      k_nil)))
theorem d__law_within (W : Wld mg K fv) (C : Cals P w K mg base fv k) (f : Addr) (cdv : Value) (A : Around) (outer : List Env) (s : Shared) (H : Hp) (E : XK) (hr : Room k (A.deeper (PyProof.Rows.envOfC "_law_within" (C8.fnScope t__law_within) s.heap.objs.size f cdv))) :
    PSs (cxOf CX0 P w K mg base N__law_within "_law_within" (C8.fnScope t__law_within) f cdv A outer s H E).nox (C8.fnBody t__law_within) (tK K fv (callF G k) c__law_within) :=
  have nd := sc__law_within.nd
  (k_cons (s_par2 (i := 2) (j := 3) rfl nd rfl rfl (by decide) rfl rfl (a_cons (e_idx (e_idx (e_var (pv 1)) e_int) e_int) (a_cons (e_idx (e_idx (e_var (pv 1)) e_int) (e_neg e_int)) a_nil)))
      (k_cons (s_if (t_cmp (c_eq hr) (e_call C.c__law_taken hr (by rfl) (a_cons (e_var (pv 0)) (a_cons e_int a_nil))) e_int) (k_cons (s_ret (e_call C.c__law_pick hr (by rfl) (a_cons (e_var (pv 0)) (a_cons (e_idx (e_var (pv 1)) e_int) a_nil))))
      k_nil) k_nil)
      (k_cons (s_ret (e_call C.c__law_middle hr (by rfl) (a_cons (e_var (pv 2)) (a_cons (e_var (pv 3)) (a_cons (e_call C.c__law_made hr (by rfl) (a_cons (e_call C.c__law_taken hr (by rfl) (a_cons (e_var (pv 0)) (a_cons e_int a_nil))) (a_cons e_int a_nil))) a_nil)))))
      k_nil)))
theorem d__law_same (W : Wld mg K fv) (C : Cals P w K mg base fv k) (f : Addr) (cdv : Value) (A : Around) (outer : List Env) (s : Shared) (H : Hp) (E : XK) (hr : Room k (A.deeper (PyProof.Rows.envOfC "_law_same" (C8.fnScope t__law_same) s.heap.objs.size f cdv))) :
    PSs (cxOf CX0 P w K mg base N__law_same "_law_same" (C8.fnScope t__law_same) f cdv A outer s H E).nox (C8.fnBody t__law_same) (tK K fv (callF G k) c__law_same) :=
  have nd := sc__law_same.nd
  (k_cons (s_if (t_cmp (c_ne hr) (e_tup (a_cons (e_idx (e_idx (e_var (pv 0)) e_int) e_int) (a_cons (e_idx (e_idx (e_var (pv 0)) e_int) (e_neg e_int)) a_nil))) (e_tup (a_cons (e_idx (e_idx (e_var (pv 1)) e_int) e_int) (a_cons (e_idx (e_idx (e_var (pv 1)) e_int) (e_neg e_int)) a_nil)))) (k_cons (s_ret e_bl)
      k_nil) k_nil)
      (k_cons (s_set (i := 2) nd rfl (by first | exact .inl rfl | exact .inr rfl) (e_call C.c__law_once hr (by rfl) (a_cons (e_call C.c__law_sorted hr (by rfl) (a_cons (e_add (e_idx (e_var (pv 0)) e_int) (e_idx (e_var (pv 1)) e_int)) a_nil)) a_nil)))
      (k_cons (s_for PassesOwn.never rfl (i_rng2 (by rfl) W.m_range (a_cons e_int (a_cons (e_len (by rfl) W.m_len (a_cons (e_var (pv 2)) a_nil)) a_nil))) (g_v (pg_name (i := 3) nd rfl (by first | exact .inl rfl | exact .inr rfl))) (k_cons (s_set (i := 4) nd rfl (by first | exact .inl rfl | exact .inr rfl) (e_add (e_max2 rfl (by rfl) W.m_max (a_cons (e_idx (e_var (pv 0)) e_int) (a_cons (e_idx (e_var (pv 1)) e_int) a_nil))) e_int))
      (k_cons (s_for PassesOwn.never rfl (i_rng1 (by rfl) W.m_range (a_cons (e_var (pv 4)) a_nil)) (g_v (pg_name (i := 5) nd rfl (by first | exact .inl rfl | exact .inr rfl))) (k_cons (s_set (i := 6) nd rfl (by first | exact .inl rfl | exact .inr rfl) (e_call C.c__law_middle hr (by rfl) (a_cons (e_idx (e_var (pv 2)) (e_sub (e_var (pv 3)) e_int)) (a_cons (e_idx (e_var (pv 2)) (e_var (pv 3))) (a_cons (e_tup (a_cons (e_var (pv 5)) (a_cons (e_var (pv 4)) a_nil))) a_nil)))))
      (k_cons (s_if (t_cmp (c_ne hr) (e_call C.c__law_spline_at hr (by rfl) (a_cons (e_var (pv 0)) (a_cons (e_var (pv 6)) a_nil))) (e_call C.c__law_spline_at hr (by rfl) (a_cons (e_var (pv 1)) (a_cons (e_var (pv 6)) a_nil)))) (k_cons (s_ret e_bl)
      k_nil) k_nil)
      k_nil)))
      k_nil)))
      (k_cons (s_ret (e_cmp (c_eq hr) (e_idx (e_idx (e_var (pv 0)) e_int) (e_neg e_int)) (e_idx (e_idx (e_var (pv 1)) e_int) (e_neg e_int))))
      k_nil))))
theorem d__law_fits_spline (W : Wld mg K fv) (C : Cals P w K mg base fv k) (f : Addr) (cdv : Value) (A : Around) (outer : List Env) (s : Shared) (H : Hp) (E : XK) (hr : Room k (A.deeper (PyProof.Rows.envOfC "_law_fits_spline" (C8.fnScope t__law_fits_spline) s.heap.objs.size f cdv))) :
    PSs (cxOf CX0 P w K mg base N__law_fits_spline "_law_fits_spline" (C8.fnScope t__law_fits_spline) f cdv A outer s H E).nox (C8.fnBody t__law_fits_spline) (tK K fv (callF G k) c__law_fits_spline) :=
  have nd := sc__law_fits_spline.nd
  (k_cons (s_asg (e_var (pv 0)) (g_tup rfl (gs_cons (g_v (pg_name (i := 1) nd rfl (by first | exact .inl rfl | exact .inr rfl))) (gs_cons (g_v (pg_name (i := 2) nd rfl (by first | exact .inl rfl | exact .inr rfl))) (gs_cons (g_v (pg_name (i := 3) nd rfl (by first | exact .inl rfl | exact .inr rfl))) gs_nil)))))
      (k_cons (s_if (PW.pt (t_or (t_not (t_val (e_isTup (by rfl) W.m_isinstance (by rfl) W.m_tuple (e_var (pv 0))))) (t_or (t_not (t_val (e_isTup (by rfl) W.m_isinstance (by rfl) W.m_tuple (e_var (pv 2))))) (t_or1 (t_not (t_val (e_isTup (by rfl) W.m_isinstance (by rfl) W.m_tuple (e_var (pv 3))))))))) (k_cons (s_ret e_bl)
      k_nil) k_nil)
      (k_cons (s_if (PW.pt (t_or (t_cmp (c_ne hr) (e_len (by rfl) W.m_len (a_cons (e_var (pv 3)) a_nil)) (e_sub (e_sub (e_len (by rfl) W.m_len (a_cons (e_var (pv 2)) a_nil)) (e_var (pv 1))) e_int)) (t_or1 (t_cmp (c_ne hr) (e_list (by rfl) W.m_list (a_cons (e_var (pv 2)) a_nil)) (e_call C.c__law_sorted hr (by rfl) (a_cons (e_var (pv 2)) a_nil)))))) (k_cons (s_ret e_bl)
      k_nil) k_nil)
      (k_cons (s_ret (e_and (e_cmp (c_eq hr) (e_idx (e_var (pv 2)) e_int) (e_idx (e_var (pv 2)) (e_var (pv 1)))) (e_one (e_cmp (c_eq hr) (e_idx (e_var (pv 2)) (e_neg e_int)) (e_idx (e_var (pv 2)) (e_sub (e_sub (e_len (by rfl) W.m_len (a_cons (e_var (pv 2)) a_nil)) e_int) (e_var (pv 1))))))))
      k_nil))))
theorem d_law (W : Wld mg K fv) (C : Cals P w K mg base fv k) (f : Addr) (cdv : Value) (A : Around) (outer : List Env) (s : Shared) (H : Hp) (E : XK) (hr : Room k (A.deeper (PyProof.Rows.envOfC "law" (C8.fnScope t_law) s.heap.objs.size f cdv))) :
    PSs (cxOf CX0 P w K mg base N_law "law" (C8.fnScope t_law) f cdv A outer s H E).nox (C8.fnBody t_law) (tK K fv (callF G k) c_law_27) :=
  have nd := sc_law.nd
  (k_cons (s_set (i := 1) nd rfl (by first | exact .inl rfl | exact .inr rfl) (e_lst (a_cons (e_var (pv 0)) (a_cons e_int (a_cons e_int (a_cons e_int a_nil))))))
      (k_cons (s_set (i := 2) nd rfl (by first | exact .inl rfl | exact .inr rfl) (e_call C.c__law_spline hr (by rfl) (a_cons (e_var (pv 1)) (a_cons e_int a_nil))))
      (k_cons (s_asg (e_var (pv 2)) (g_tup rfl (gs_cons (g_v (pg_name (i := 14) nd rfl (by first | exact .inl rfl | exact .inr rfl))) (gs_cons (g_v (pg_name (i := 15) nd rfl (by first | exact .inl rfl | exact .inr rfl))) (gs_cons (g_v (pg_name (i := 16) nd rfl (by first | exact .inl rfl | exact .inr rfl))) gs_nil)))))
      (k_cons (s_set (i := 3) nd rfl (by first | exact .inl rfl | exact .inr rfl) (e_lst a_nil))
      (k_cons (s_for PassesOwn.never rfl (i_rng1 (by rfl) W.m_range (a_cons (e_call C.c__law_taken hr (by rfl) (a_cons (e_var (pv 1)) (a_cons e_int a_nil))) a_nil)) (g_v (pg_name (i := 4) nd rfl (by first | exact .inl rfl | exact .inr rfl))) (k_cons (s_set (i := 8) nd rfl (by first | exact .inl rfl | exact .inr rfl) (e_call C.c__law_within hr (by rfl) (a_cons (e_var (pv 1)) (a_cons (e_var (pv 2)) a_nil))))
      (k_cons (s_set (i := 17) nd rfl (by first | exact .inl rfl | exact .inr rfl) (e_add (e_var (pv 15)) (e_tuple (by rfl) W.m_tuple (a_cons (e_var (pv 3)) a_nil))))
      (k_cons (s_if (PW.pt (t_and (t_cmp (c_notIn hr) (e_var (pv 8)) (e_lst (a_cons (e_idx (e_var (pv 15)) e_int) (a_cons (e_idx (e_var (pv 15)) (e_neg e_int)) a_nil)))) (t_and (t_cmp c_le (e_count hr (e_var (pv 17)) (a_cons (e_var (pv 8)) a_nil)) (e_var (pv 14))) (t_and1 (t_cmp c_lt (e_len (by rfl) W.m_len (a_cons (e_var (pv 17)) a_nil)) e_int))))) (k_cons (s_expr (e_append (e_var (pv 3)) (a_cons (e_var (pv 8)) a_nil)))
      k_nil) k_nil)
      k_nil))))
      (k_cons (s_set (i := 5) nd rfl (by first | exact .inl rfl | exact .inr rfl) (e_tuple (by rfl) W.m_tuple (a_cons (e_call C.c__law_sorted hr (by rfl) (a_cons (e_add (e_var (pv 15)) (e_tuple (by rfl) W.m_tuple (a_cons (e_var (pv 3)) a_nil))) a_nil)) a_nil)))
      (k_cons (s_set (i := 6) nd rfl (by first | exact .inl rfl | exact .inr rfl) (e_call C.c_refined hr (by rfl) (a_cons (e_var (pv 2)) (a_cons (e_var (pv 5)) a_nil))))
      (k_cons (s_if (PW.pt (t_or (t_not (t_val (e_call C.c__law_fits_spline hr (by rfl) (a_cons (e_var (pv 6)) a_nil)))) (t_or (t_cmp (c_ne hr) (e_idx (e_var (pv 6)) e_int) (e_var (pv 5))) (t_or1 (t_not (t_val (e_call C.c__law_same hr (by rfl) (a_cons (e_var (pv 6)) (a_cons (e_var (pv 2)) a_nil))))))))) (k_cons (s_ret e_bl)
      k_nil) k_nil)
      (k_cons (s_set (i := 7) nd rfl (by first | exact .inl rfl | exact .inr rfl) (e_var (pv 2)))
      (k_cons (s_for PassesOwn.never rfl (i_seq (e_var (pv 3))) (g_v (pg_name (i := 8) nd rfl (by first | exact .inl rfl | exact .inr rfl))) (k_cons (s_set (i := 7) nd rfl (by first | exact .inl rfl | exact .inr rfl) (e_call C.c_inserted hr (by rfl) (a_cons (e_var (pv 7)) (a_cons (e_var (pv 8)) a_nil))))
      k_nil))
      (k_cons (s_if (t_cmp (c_ne hr) (e_var (pv 7)) (e_var (pv 6))) (k_cons (s_ret e_bl)
      k_nil) k_nil)
      (k_cons (s_set (i := 9) nd rfl (by first | exact .inl rfl | exact .inr rfl) (e_call C.c__law_once hr (by rfl) (a_cons (e_var (pv 15)) a_nil)))
      (k_cons (s_if (t_cmp c_gt (e_mul (e_len (by rfl) W.m_len (a_cons (e_var (pv 9)) a_nil)) (e_add (e_var (pv 14)) e_int)) e_int) (k_cons (s_ret e_bl)
      k_nil) k_nil)
      (k_cons (s_set (i := 10) nd rfl (by first | exact .inl rfl | exact .inr rfl) (e_lst a_nil))
      (k_cons (s_for PassesOwn.never rfl (i_seq (e_var (pv 9))) (g_v (pg_name (i := 11) nd rfl (by first | exact .inl rfl | exact .inr rfl))) (k_cons (s_set (i := 10) nd rfl (by first | exact .inl rfl | exact .inr rfl) (e_add (e_var (pv 10)) (e_mul (e_lst (a_cons (e_var (pv 11)) a_nil)) (e_add (e_var (pv 14)) e_int))))
      k_nil))
      (k_cons (s_set (i := 7) nd rfl (by first | exact .inl rfl | exact .inr rfl) (e_call C.c_refined hr (by rfl) (a_cons (e_var (pv 2)) (a_cons (e_tuple (by rfl) W.m_tuple (a_cons (e_var (pv 10)) a_nil)) a_nil))))
      (k_cons (s_set (i := 12) nd rfl (by first | exact .inl rfl | exact .inr rfl) (e_call C.c_spline_pieces hr (by rfl) (a_cons (e_var (pv 2)) a_nil)))
      (k_cons (s_for PassesOwn.never rfl (i_rng1 (by rfl) W.m_range (a_cons (e_len (by rfl) W.m_len (a_cons (e_var (pv 12)) a_nil)) a_nil)) (g_v (pg_name (i := 13) nd rfl (by first | exact .inl rfl | exact .inr rfl))) (k_cons (s_set (i := 18) nd rfl (by first | exact .inl rfl | exact .inr rfl) (e_mul (e_var (pv 13)) (e_add (e_var (pv 14)) e_int)))
      (k_cons (s_if (t_cmp (c_ne hr) (e_slc (e_idx (e_var (pv 7)) e_int) (o_some (e_var (pv 18))) (o_some (e_add (e_add (e_var (pv 18)) (e_var (pv 14))) e_int))) (e_call C.c_row_of hr (by rfl) (a_cons (e_idx (e_idx (e_var (pv 12)) (e_var (pv 13))) e_int) (a_cons (e_var (pv 14)) (a_cons (e_idx (e_idx (e_var (pv 12)) (e_var (pv 13))) e_int) a_nil))))) (k_cons (s_ret e_bl)
      k_nil) k_nil)
      k_nil)))
      (k_cons (s_ret (e_cmp (c_eq hr) (e_len (by rfl) W.m_len (a_cons (e_idx (e_var (pv 7)) e_int) a_nil)) (e_mul (e_len (by rfl) W.m_len (a_cons (e_var (pv 12)) a_nil)) (e_add (e_var (pv 14)) e_int))))
      k_nil)))))))))))))))))))
theorem cals (W : Wld mg K fv) (h_is_int : Has K mg "is_int" t_is_int P_is_int) (h_is_from : Has K mg "is_from" t_is_from P_is_from) (h_is_ratio : Has K mg "is_ratio" t_is_ratio P_is_ratio) (h_made : Has K mg "made" t_made P_made) (h_plus : Has K mg "plus" t_plus P_plus) (h_less : Has K mg "less" t_less P_less) (h_times : Has K mg "times" t_times P_times) (h_over : Has K mg "over" t_over P_over) (h_negative : Has K mg "negative" t_negative P_negative) (h_is_below : Has K mg "is_below" t_is_below P_is_below) (h_between : Has K mg "between" t_between P_between) (h_are_ratios : Has K mg "are_ratios" t_are_ratios P_are_ratios) (h_is_poly : Has K mg "is_poly" t_is_poly P_is_poly) (h_need_poly : Has K mg "need_poly" t_need_poly P_need_poly) (h_trimmed : Has K mg "trimmed" t_trimmed P_trimmed) (h_p_plus : Has K mg "p_plus" t_p_plus P_p_plus) (h_p_scaled : Has K mg "p_scaled" t_p_scaled P_p_scaled) (h_p_times : Has K mg "p_times" t_p_times P_p_times) (h_choose : Has K mg "choose" t_choose P_choose) (h_need_degree : Has K mg "need_degree" t_need_degree P_need_degree) (h_symmetric : Has K mg "symmetric" t_symmetric P_symmetric) (h_blossom_of : Has K mg "blossom_of" t_blossom_of P_blossom_of) (h_faults_of : Has K mg "faults_of" t_faults_of P_faults_of) (h_need_knots : Has K mg "need_knots" t_need_knots P_need_knots) (h_basis_poly : Has K mg "basis_poly" t_basis_poly P_basis_poly) (h_need_spline : Has K mg "need_spline" t_need_spline P_need_spline) (h_is_inner : Has K mg "is_inner" t_is_inner P_is_inner) (h_need_inner : Has K mg "need_inner" t_need_inner P_need_inner) (h_span_of : Has K mg "span_of" t_span_of P_span_of) (h_pieces_of : Has K mg "pieces_of" t_pieces_of P_pieces_of) (h_spline_pieces : Has K mg "spline_pieces" t_spline_pieces P_spline_pieces) (h_with_knot : Has K mg "with_knot" t_with_knot P_with_knot) (h_inserted : Has K mg "inserted" t_inserted P_inserted) (h_missing : Has K mg "missing" t_missing P_missing) (h_refined : Has K mg "refined" t_refined P_refined) (h_is_interval : Has K mg "is_interval" t_is_interval P_is_interval) (h_need_interval : Has K mg "need_interval" t_need_interval P_need_interval) (h_control_row : Has K mg "control_row" t_control_row P_control_row) (h_row_of : Has K mg "row_of" t_row_of P_row_of) (h__law_taken : Has K mg "_law_taken" t__law_taken P__law_taken) (h__law_pick : Has K mg "_law_pick" t__law_pick P__law_pick) (h__law_made : Has K mg "_law_made" t__law_made P__law_made) (h__law_plus : Has K mg "_law_plus" t__law_plus P__law_plus) (h__law_minus : Has K mg "_law_minus" t__law_minus P__law_minus) (h__law_times : Has K mg "_law_times" t__law_times P__law_times) (h__law_over : Has K mg "_law_over" t__law_over P__law_over) (h__law_below : Has K mg "_law_below" t__law_below P__law_below) (h__law_sum : Has K mg "_law_sum" t__law_sum P__law_sum) (h__law_draw : Has K mg "_law_draw" t__law_draw P__law_draw) (h__law_middle : Has K mg "_law_middle" t__law_middle P__law_middle) (h__law_once : Has K mg "_law_once" t__law_once P__law_once) (h__law_sorted : Has K mg "_law_sorted" t__law_sorted P__law_sorted) (h__law_basis : Has K mg "_law_basis" t__law_basis P__law_basis) (h__law_spline : Has K mg "_law_spline" t__law_spline P__law_spline) (h__law_spline_at : Has K mg "_law_spline_at" t__law_spline_at P__law_spline_at) (h__law_within : Has K mg "_law_within" t__law_within P__law_within) (h__law_same : Has K mg "_law_same" t__law_same P__law_same) (h__law_fits_spline : Has K mg "_law_fits_spline" t__law_fits_spline P__law_fits_spline) (h_law : Has K mg "law" t_law P_law) (k : Nat) : Cals P w K mg base fv k := by
  induction k with
  | zero => exact ⟨h_is_int.zero, h_is_from.zero, h_is_ratio.zero, h_made.zero, h_plus.zero, h_less.zero, h_times.zero, h_over.zero, h_negative.zero, h_is_below.zero, h_between.zero, h_are_ratios.zero, h_is_poly.zero, h_need_poly.zero, h_trimmed.zero, h_p_plus.zero, h_p_scaled.zero, h_p_times.zero, h_choose.zero, h_need_degree.zero, h_symmetric.zero, h_blossom_of.zero, h_faults_of.zero, h_need_knots.zero, h_basis_poly.zero, h_need_spline.zero, h_is_inner.zero, h_need_inner.zero, h_span_of.zero, h_pieces_of.zero, h_spline_pieces.zero, h_with_knot.zero, h_inserted.zero, h_missing.zero, h_refined.zero, h_is_interval.zero, h_need_interval.zero, h_control_row.zero, h_row_of.zero, h__law_taken.zero, h__law_pick.zero, h__law_made.zero, h__law_plus.zero, h__law_minus.zero, h__law_times.zero, h__law_over.zero, h__law_below.zero, h__law_sum.zero, h__law_draw.zero, h__law_middle.zero, h__law_once.zero, h__law_sorted.zero, h__law_basis.zero, h__law_spline.zero, h__law_spline_at.zero, h__law_within.zero, h__law_same.zero, h__law_fits_spline.zero, h_law.zero⟩
  | succ k ih => exact ⟨h_is_int.succ sc_is_int rfl fun f cdv A outer s H E hr => d_is_int W ih f cdv A outer s H E hr,
      h_is_from.succ sc_is_from rfl fun f cdv A outer s H E hr => d_is_from W ih f cdv A outer s H E hr,
      h_is_ratio.succ sc_is_ratio rfl fun f cdv A outer s H E hr => d_is_ratio W ih f cdv A outer s H E hr,
      h_made.succ sc_made rfl fun f cdv A outer s H E hr => d_made W ih f cdv A outer s H E hr,
      h_plus.succ sc_plus rfl fun f cdv A outer s H E hr => d_plus W ih f cdv A outer s H E hr,
      h_less.succ sc_less rfl fun f cdv A outer s H E hr => d_less W ih f cdv A outer s H E hr,
      h_times.succ sc_times rfl fun f cdv A outer s H E hr => d_times W ih f cdv A outer s H E hr,
      h_over.succ sc_over rfl fun f cdv A outer s H E hr => d_over W ih f cdv A outer s H E hr,
      h_negative.succ sc_negative rfl fun f cdv A outer s H E hr => d_negative W ih f cdv A outer s H E hr,
      h_is_below.succ sc_is_below rfl fun f cdv A outer s H E hr => d_is_below W ih f cdv A outer s H E hr,
      h_between.succ sc_between rfl fun f cdv A outer s H E hr => d_between W ih f cdv A outer s H E hr,
      h_are_ratios.succ sc_are_ratios rfl fun f cdv A outer s H E hr => d_are_ratios W ih f cdv A outer s H E hr,
      h_is_poly.succ sc_is_poly rfl fun f cdv A outer s H E hr => d_is_poly W ih f cdv A outer s H E hr,
      h_need_poly.succ sc_need_poly rfl fun f cdv A outer s H E hr => d_need_poly W ih f cdv A outer s H E hr,
      h_trimmed.succ sc_trimmed rfl fun f cdv A outer s H E hr => d_trimmed W ih f cdv A outer s H E hr,
      h_p_plus.succ sc_p_plus rfl fun f cdv A outer s H E hr => d_p_plus W ih f cdv A outer s H E hr,
      h_p_scaled.succ sc_p_scaled rfl fun f cdv A outer s H E hr => d_p_scaled W ih f cdv A outer s H E hr,
      h_p_times.succ sc_p_times rfl fun f cdv A outer s H E hr => d_p_times W ih f cdv A outer s H E hr,
      h_choose.succ sc_choose rfl fun f cdv A outer s H E hr => d_choose W ih f cdv A outer s H E hr,
      h_need_degree.succ sc_need_degree rfl fun f cdv A outer s H E hr => d_need_degree W ih f cdv A outer s H E hr,
      h_symmetric.succ sc_symmetric rfl fun f cdv A outer s H E hr => d_symmetric W ih f cdv A outer s H E hr,
      h_blossom_of.succ sc_blossom_of rfl fun f cdv A outer s H E hr => d_blossom_of W ih f cdv A outer s H E hr,
      h_faults_of.succ sc_faults_of rfl fun f cdv A outer s H E hr => d_faults_of W ih f cdv A outer s H E hr,
      h_need_knots.succ sc_need_knots rfl fun f cdv A outer s H E hr => d_need_knots W ih f cdv A outer s H E hr,
      h_basis_poly.succ sc_basis_poly rfl fun f cdv A outer s H E hr => d_basis_poly W ih f cdv A outer s H E hr,
      h_need_spline.succ sc_need_spline rfl fun f cdv A outer s H E hr => d_need_spline W ih f cdv A outer s H E hr,
      h_is_inner.succ sc_is_inner rfl fun f cdv A outer s H E hr => d_is_inner W ih f cdv A outer s H E hr,
      h_need_inner.succ sc_need_inner rfl fun f cdv A outer s H E hr => d_need_inner W ih f cdv A outer s H E hr,
      h_span_of.succ sc_span_of rfl fun f cdv A outer s H E hr => d_span_of W ih f cdv A outer s H E hr,
      h_pieces_of.succ sc_pieces_of rfl fun f cdv A outer s H E hr => d_pieces_of W ih f cdv A outer s H E hr,
      h_spline_pieces.succ sc_spline_pieces rfl fun f cdv A outer s H E hr => d_spline_pieces W ih f cdv A outer s H E hr,
      h_with_knot.succ sc_with_knot rfl fun f cdv A outer s H E hr => d_with_knot W ih f cdv A outer s H E hr,
      h_inserted.succ sc_inserted rfl fun f cdv A outer s H E hr => d_inserted W ih f cdv A outer s H E hr,
      h_missing.succ sc_missing rfl fun f cdv A outer s H E hr => d_missing W ih f cdv A outer s H E hr,
      h_refined.succ sc_refined rfl fun f cdv A outer s H E hr => d_refined W ih f cdv A outer s H E hr,
      h_is_interval.succ sc_is_interval rfl fun f cdv A outer s H E hr => d_is_interval W ih f cdv A outer s H E hr,
      h_need_interval.succ sc_need_interval rfl fun f cdv A outer s H E hr => d_need_interval W ih f cdv A outer s H E hr,
      h_control_row.succ sc_control_row rfl fun f cdv A outer s H E hr => d_control_row W ih f cdv A outer s H E hr,
      h_row_of.succ sc_row_of rfl fun f cdv A outer s H E hr => d_row_of W ih f cdv A outer s H E hr,
      h__law_taken.succ sc__law_taken rfl fun f cdv A outer s H E hr => d__law_taken W ih f cdv A outer s H E hr,
      h__law_pick.succ sc__law_pick rfl fun f cdv A outer s H E hr => d__law_pick W ih f cdv A outer s H E hr,
      h__law_made.succ sc__law_made rfl fun f cdv A outer s H E hr => d__law_made W ih f cdv A outer s H E hr,
      h__law_plus.succ sc__law_plus rfl fun f cdv A outer s H E hr => d__law_plus W ih f cdv A outer s H E hr,
      h__law_minus.succ sc__law_minus rfl fun f cdv A outer s H E hr => d__law_minus W ih f cdv A outer s H E hr,
      h__law_times.succ sc__law_times rfl fun f cdv A outer s H E hr => d__law_times W ih f cdv A outer s H E hr,
      h__law_over.succ sc__law_over rfl fun f cdv A outer s H E hr => d__law_over W ih f cdv A outer s H E hr,
      h__law_below.succ sc__law_below rfl fun f cdv A outer s H E hr => d__law_below W ih f cdv A outer s H E hr,
      h__law_sum.succ sc__law_sum rfl fun f cdv A outer s H E hr => d__law_sum W ih f cdv A outer s H E hr,
      h__law_draw.succ sc__law_draw rfl fun f cdv A outer s H E hr => d__law_draw W ih f cdv A outer s H E hr,
      h__law_middle.succ sc__law_middle rfl fun f cdv A outer s H E hr => d__law_middle W ih f cdv A outer s H E hr,
      h__law_once.succ sc__law_once rfl fun f cdv A outer s H E hr => d__law_once W ih f cdv A outer s H E hr,
      h__law_sorted.succ sc__law_sorted rfl fun f cdv A outer s H E hr => d__law_sorted W ih f cdv A outer s H E hr,
      h__law_basis.succ sc__law_basis rfl fun f cdv A outer s H E hr => d__law_basis W ih f cdv A outer s H E hr,
      h__law_spline.succ sc__law_spline rfl fun f cdv A outer s H E hr => d__law_spline W ih f cdv A outer s H E hr,
      h__law_spline_at.succ sc__law_spline_at rfl fun f cdv A outer s H E hr => d__law_spline_at W ih f cdv A outer s H E hr,
      h__law_within.succ sc__law_within rfl fun f cdv A outer s H E hr => d__law_within W ih f cdv A outer s H E hr,
      h__law_same.succ sc__law_same rfl fun f cdv A outer s H E hr => d__law_same W ih f cdv A outer s H E hr,
      h__law_fits_spline.succ sc__law_fits_spline rfl fun f cdv A outer s H E hr => d__law_fits_spline W ih f cdv A outer s H E hr,
      h_law.succ sc_law rfl fun f cdv A outer s H E hr => d_law W ih f cdv A outer s H E hr⟩
end
theorem law_end {P : Program} {w : World} {K : PySem.W.Frag} {mg : Str → Option Value} {fv : Nat → Option Addr} {fa : Addr} (hmg : mg "law" = some (.ref fa)) (W : Wld mg K fv) (h_is_int : Has K mg "is_int" t_is_int P_is_int) (h_is_from : Has K mg "is_from" t_is_from P_is_from) (h_is_ratio : Has K mg "is_ratio" t_is_ratio P_is_ratio) (h_made : Has K mg "made" t_made P_made) (h_plus : Has K mg "plus" t_plus P_plus) (h_less : Has K mg "less" t_less P_less) (h_times : Has K mg "times" t_times P_times) (h_over : Has K mg "over" t_over P_over) (h_negative : Has K mg "negative" t_negative P_negative) (h_is_below : Has K mg "is_below" t_is_below P_is_below) (h_between : Has K mg "between" t_between P_between) (h_are_ratios : Has K mg "are_ratios" t_are_ratios P_are_ratios) (h_is_poly : Has K mg "is_poly" t_is_poly P_is_poly) (h_need_poly : Has K mg "need_poly" t_need_poly P_need_poly) (h_trimmed : Has K mg "trimmed" t_trimmed P_trimmed) (h_p_plus : Has K mg "p_plus" t_p_plus P_p_plus) (h_p_scaled : Has K mg "p_scaled" t_p_scaled P_p_scaled) (h_p_times : Has K mg "p_times" t_p_times P_p_times) (h_choose : Has K mg "choose" t_choose P_choose) (h_need_degree : Has K mg "need_degree" t_need_degree P_need_degree) (h_symmetric : Has K mg "symmetric" t_symmetric P_symmetric) (h_blossom_of : Has K mg "blossom_of" t_blossom_of P_blossom_of) (h_faults_of : Has K mg "faults_of" t_faults_of P_faults_of) (h_need_knots : Has K mg "need_knots" t_need_knots P_need_knots) (h_basis_poly : Has K mg "basis_poly" t_basis_poly P_basis_poly) (h_need_spline : Has K mg "need_spline" t_need_spline P_need_spline) (h_is_inner : Has K mg "is_inner" t_is_inner P_is_inner) (h_need_inner : Has K mg "need_inner" t_need_inner P_need_inner) (h_span_of : Has K mg "span_of" t_span_of P_span_of) (h_pieces_of : Has K mg "pieces_of" t_pieces_of P_pieces_of) (h_spline_pieces : Has K mg "spline_pieces" t_spline_pieces P_spline_pieces) (h_with_knot : Has K mg "with_knot" t_with_knot P_with_knot) (h_inserted : Has K mg "inserted" t_inserted P_inserted) (h_missing : Has K mg "missing" t_missing P_missing) (h_refined : Has K mg "refined" t_refined P_refined) (h_is_interval : Has K mg "is_interval" t_is_interval P_is_interval) (h_need_interval : Has K mg "need_interval" t_need_interval P_need_interval) (h_control_row : Has K mg "control_row" t_control_row P_control_row) (h_row_of : Has K mg "row_of" t_row_of P_row_of) (h__law_taken : Has K mg "_law_taken" t__law_taken P__law_taken) (h__law_pick : Has K mg "_law_pick" t__law_pick P__law_pick) (h__law_made : Has K mg "_law_made" t__law_made P__law_made) (h__law_plus : Has K mg "_law_plus" t__law_plus P__law_plus) (h__law_minus : Has K mg "_law_minus" t__law_minus P__law_minus) (h__law_times : Has K mg "_law_times" t__law_times P__law_times) (h__law_over : Has K mg "_law_over" t__law_over P__law_over) (h__law_below : Has K mg "_law_below" t__law_below P__law_below) (h__law_sum : Has K mg "_law_sum" t__law_sum P__law_sum) (h__law_draw : Has K mg "_law_draw" t__law_draw P__law_draw) (h__law_middle : Has K mg "_law_middle" t__law_middle P__law_middle) (h__law_once : Has K mg "_law_once" t__law_once P__law_once) (h__law_sorted : Has K mg "_law_sorted" t__law_sorted P__law_sorted) (h__law_basis : Has K mg "_law_basis" t__law_basis P__law_basis) (h__law_spline : Has K mg "_law_spline" t__law_spline P__law_spline) (h__law_spline_at : Has K mg "_law_spline_at" t__law_spline_at P__law_spline_at) (h__law_within : Has K mg "_law_within" t__law_within P__law_within) (h__law_same : Has K mg "_law_same" t__law_same P__law_same) (h__law_fits_spline : Has K mg "_law_fits_spline" t__law_fits_spline P__law_fits_spline) (h_law : Has K mg "law" t_law P_law) :
    ∃ fd : FuncData, (∀ (s : Shared) (u : Value), BindsTo s fd ⟨[u], []⟩ [("_law_script", u)]) ∧ ∀ base : Heap, K.In base → base.Ns mainGlobals mg → FnOk P w K mg base CX0 40 fa fd ["_law_script"] (spI K fv G 40 183) := by
  obtain ⟨f, fd, F, b⟩ := h_law.ex
  have e := hmg.symm.trans F.mgf
  cases e
  refine ⟨fd, fun s u => .of_eq (b [u] rfl), fun base _ _ => ?_⟩
  exact fn_succ F.fn sc_law rfl (fun cdv A outer s H E hr => d_law W (cals W h_is_int h_is_from h_is_ratio h_made h_plus h_less h_times h_over h_negative h_is_below h_between h_are_ratios h_is_poly h_need_poly h_trimmed h_p_plus h_p_scaled h_p_times h_choose h_need_degree h_symmetric h_blossom_of h_faults_of h_need_knots h_basis_poly h_need_spline h_is_inner h_need_inner h_span_of h_pieces_of h_spline_pieces h_with_knot h_inserted h_missing h_refined h_is_interval h_need_interval h_control_row h_row_of h__law_taken h__law_pick h__law_made h__law_plus h__law_minus h__law_times h__law_over h__law_below h__law_sum h__law_draw h__law_middle h__law_once h__law_sorted h__law_basis h__law_spline h__law_spline_at h__law_within h__law_same h__law_fits_spline h_law 39) fa cdv A outer s H E hr)
end PB
open PySem PySem.W PyProof.Rows
set_option maxHeartbeats 0 in
theorem PySem.Challenge.cw_blendcurves_k31_whole_refined_splines_holds : PySem.Challenge.rw_blendcurves_k31_whole_refined_splines.Holds := by
  w_on; o_law; k_head; (case hw => w_witness2)
  k_fill
  refine L2.walk_of (l := PySem.Challenge.rw_blendcurves_k31_whole_refined_splines) (n := 63) (k := 40) (x := "_law_script") (CX := fun _ => L2.CX0) (sp := fun w => PB.spI _ (fun _ => none) PB.G 40 183) rfl (by decide) rfl ⟨rfl, by decide, by decide⟩ (fun w h Y => PySem.W.kIn_of Y) ?F (fun _ H a ns hl hO hS => PB.law_sp hO hS (PB.math31 ns hl) _) (fun _ _ _ _ _ h => h)
  case F =>
    intro w mg fa h KX G hmg
    refine' PB.law_end hmg ⟨PySem.W.mg_none_of KX G ?m_abs, PySem.W.mg_none_of KX G ?m_all, PySem.W.mg_none_of KX G ?m_bool, PySem.W.mg_none_of KX G ?m_enumerate, PySem.W.mg_of KX G ?m_gcd, PySem.W.mg_none_of KX G ?m_int, PySem.W.mg_none_of KX G ?m_isinstance, PySem.W.mg_none_of KX G ?m_len, PySem.W.mg_none_of KX G ?m_list, PySem.W.mg_none_of KX G ?m_max, PySem.W.mg_none_of KX G ?m_range, PySem.W.mg_none_of KX G ?m_tuple, PySem.W.mg_none_of KX G ?m_zip, PB.KC.gc (PySem.W.mg_of KX G ?z_MOST_DEGREE_knots) PB.KC.int, PB.KC.gc (PySem.W.mg_of KX G ?z_MOST_DEGREE_polys) PB.KC.int, PB.KC.gc (PySem.W.mg_of KX G ?z_MOST_KNOTS) PB.KC.int, PB.KC.gc (PySem.W.mg_of KX G ?z_MOST_ROW) PB.KC.int, PB.KC.gc (PySem.W.mg_of KX G ?z_ONE) (PB.KC.tup ?k_ONE (.cons PB.KC.int (.cons PB.KC.int .nil))), PB.KC.gc (PySem.W.mg_of KX G ?z_ZERO) (PB.KC.tup ?k_ZERO (.cons PB.KC.int (.cons PB.KC.int .nil)))⟩ (PB.has_mk KX G ?a_is_int ?l_is_int ?c_is_int ?p_is_int (fun _ _ _ _ _ _ us hl => match us, hl with | [_], _ => rfl)) (PB.has_mk KX G ?a_is_from ?l_is_from ?c_is_from ?p_is_from (fun _ _ _ _ _ _ us hl => match us, hl with | [_, _, _], _ => rfl)) (PB.has_mk KX G ?a_is_ratio ?l_is_ratio ?c_is_ratio ?p_is_ratio (fun _ _ _ _ _ _ us hl => match us, hl with | [_], _ => rfl)) (PB.has_mk KX G ?a_made ?l_made ?c_made ?p_made (fun _ _ _ _ _ _ us hl => match us, hl with | [_, _], _ => rfl)) (PB.has_mk KX G ?a_plus ?l_plus ?c_plus ?p_plus (fun _ _ _ _ _ _ us hl => match us, hl with | [_, _], _ => rfl)) (PB.has_mk KX G ?a_less ?l_less ?c_less ?p_less (fun _ _ _ _ _ _ us hl => match us, hl with | [_, _], _ => rfl)) (PB.has_mk KX G ?a_times ?l_times ?c_times ?p_times (fun _ _ _ _ _ _ us hl => match us, hl with | [_, _], _ => rfl)) (PB.has_mk KX G ?a_over ?l_over ?c_over ?p_over (fun _ _ _ _ _ _ us hl => match us, hl with | [_, _], _ => rfl)) (PB.has_mk KX G ?a_negative ?l_negative ?c_negative ?p_negative (fun _ _ _ _ _ _ us hl => match us, hl with | [_], _ => rfl)) (PB.has_mk KX G ?a_is_below ?l_is_below ?c_is_below ?p_is_below (fun _ _ _ _ _ _ us hl => match us, hl with | [_, _], _ => rfl)) (PB.has_mk KX G ?a_between ?l_between ?c_between ?p_between (fun _ _ _ _ _ _ us hl => match us, hl with | [_, _, _], _ => rfl)) (PB.has_mk KX G ?a_are_ratios ?l_are_ratios ?c_are_ratios ?p_are_ratios (fun _ _ _ _ _ _ us hl => match us, hl with | [_, _], _ => rfl)) (PB.has_mk KX G ?a_is_poly ?l_is_poly ?c_is_poly ?p_is_poly (fun _ _ _ _ _ _ us hl => match us, hl with | [_], _ => rfl)) (PB.has_mk KX G ?a_need_poly ?l_need_poly ?c_need_poly ?p_need_poly (fun _ _ _ _ _ _ us hl => match us, hl with | [_], _ => rfl)) (PB.has_mk KX G ?a_trimmed ?l_trimmed ?c_trimmed ?p_trimmed (fun _ _ _ _ _ _ us hl => match us, hl with | [_], _ => rfl)) (PB.has_mk KX G ?a_p_plus ?l_p_plus ?c_p_plus ?p_p_plus (fun _ _ _ _ _ _ us hl => match us, hl with | [_, _], _ => rfl)) (PB.has_mk KX G ?a_p_scaled ?l_p_scaled ?c_p_scaled ?p_p_scaled (fun _ _ _ _ _ _ us hl => match us, hl with | [_, _], _ => rfl)) (PB.has_mk KX G ?a_p_times ?l_p_times ?c_p_times ?p_p_times (fun _ _ _ _ _ _ us hl => match us, hl with | [_, _], _ => rfl)) (PB.has_mk KX G ?a_choose ?l_choose ?c_choose ?p_choose (fun _ _ _ _ _ _ us hl => match us, hl with | [_, _], _ => rfl)) (PB.has_mk KX G ?a_need_degree ?l_need_degree ?c_need_degree ?p_need_degree (fun _ _ _ _ _ _ us hl => match us, hl with | [_, _], _ => rfl)) (PB.has_mk KX G ?a_symmetric ?l_symmetric ?c_symmetric ?p_symmetric (fun _ _ _ _ _ _ us hl => match us, hl with | [_], _ => rfl)) (PB.has_mk KX G ?a_blossom_of ?l_blossom_of ?c_blossom_of ?p_blossom_of (fun _ _ _ _ _ _ us hl => match us, hl with | [_, _], _ => rfl)) (PB.has_mk KX G ?a_faults_of ?l_faults_of ?c_faults_of ?p_faults_of (fun _ _ _ _ _ _ us hl => match us, hl with | [_, _], _ => rfl)) (PB.has_mk KX G ?a_need_knots ?l_need_knots ?c_need_knots ?p_need_knots (fun _ _ _ _ _ _ us hl => match us, hl with | [_, _], _ => rfl)) (PB.has_mk KX G ?a_basis_poly ?l_basis_poly ?c_basis_poly ?p_basis_poly (fun _ _ _ _ _ _ us hl => match us, hl with | [_, _, _, _], _ => rfl)) (PB.has_mk KX G ?a_need_spline ?l_need_spline ?c_need_spline ?p_need_spline (fun _ _ _ _ _ _ us hl => match us, hl with | [_], _ => rfl)) (PB.has_mk KX G ?a_is_inner ?l_is_inner ?c_is_inner ?p_is_inner (fun _ _ _ _ _ _ us hl => match us, hl with | [_, _], _ => rfl)) (PB.has_mk KX G ?a_need_inner ?l_need_inner ?c_need_inner ?p_need_inner (fun _ _ _ _ _ _ us hl => match us, hl with | [_, _], _ => rfl)) (PB.has_mk KX G ?a_span_of ?l_span_of ?c_span_of ?p_span_of (fun _ _ _ _ _ _ us hl => match us, hl with | [_, _], _ => rfl)) (PB.has_mk KX G ?a_pieces_of ?l_pieces_of ?c_pieces_of ?p_pieces_of (fun _ _ _ _ _ _ us hl => match us, hl with | [_], _ => rfl)) (PB.has_mk KX G ?a_spline_pieces ?l_spline_pieces ?c_spline_pieces ?p_spline_pieces (fun _ _ _ _ _ _ us hl => match us, hl with | [_], _ => rfl)) (PB.has_mk KX G ?a_with_knot ?l_with_knot ?c_with_knot ?p_with_knot (fun _ _ _ _ _ _ us hl => match us, hl with | [_, _], _ => rfl)) (PB.has_mk KX G ?a_inserted ?l_inserted ?c_inserted ?p_inserted (fun _ _ _ _ _ _ us hl => match us, hl with | [_, _], _ => rfl)) (PB.has_mk KX G ?a_missing ?l_missing ?c_missing ?p_missing (fun _ _ _ _ _ _ us hl => match us, hl with | [_, _], _ => rfl)) (PB.has_mk KX G ?a_refined ?l_refined ?c_refined ?p_refined (fun _ _ _ _ _ _ us hl => match us, hl with | [_, _], _ => rfl)) (PB.has_mk KX G ?a_is_interval ?l_is_interval ?c_is_interval ?p_is_interval (fun _ _ _ _ _ _ us hl => match us, hl with | [_], _ => rfl)) (PB.has_mk KX G ?a_need_interval ?l_need_interval ?c_need_interval ?p_need_interval (fun _ _ _ _ _ _ us hl => match us, hl with | [_], _ => rfl)) (PB.has_mk KX G ?a_control_row ?l_control_row ?c_control_row ?p_control_row (fun _ _ _ _ _ _ us hl => match us, hl with | [_, _, _], _ => rfl)) (PB.has_mk KX G ?a_row_of ?l_row_of ?c_row_of ?p_row_of (fun _ _ _ _ _ _ us hl => match us, hl with | [_, _, _], _ => rfl)) (PB.has_mk KX G ?a__law_taken ?l__law_taken ?c__law_taken ?p__law_taken (fun _ _ _ _ _ _ us hl => match us, hl with | [_, _], _ => rfl)) (PB.has_mk KX G ?a__law_pick ?l__law_pick ?c__law_pick ?p__law_pick (fun _ _ _ _ _ _ us hl => match us, hl with | [_, _], _ => rfl)) (PB.has_mk KX G ?a__law_made ?l__law_made ?c__law_made ?p__law_made (fun _ _ _ _ _ _ us hl => match us, hl with | [_, _], _ => rfl)) (PB.has_mk KX G ?a__law_plus ?l__law_plus ?c__law_plus ?p__law_plus (fun _ _ _ _ _ _ us hl => match us, hl with | [_, _], _ => rfl)) (PB.has_mk KX G ?a__law_minus ?l__law_minus ?c__law_minus ?p__law_minus (fun _ _ _ _ _ _ us hl => match us, hl with | [_, _], _ => rfl)) (PB.has_mk KX G ?a__law_times ?l__law_times ?c__law_times ?p__law_times (fun _ _ _ _ _ _ us hl => match us, hl with | [_, _], _ => rfl)) (PB.has_mk KX G ?a__law_over ?l__law_over ?c__law_over ?p__law_over (fun _ _ _ _ _ _ us hl => match us, hl with | [_, _], _ => rfl)) (PB.has_mk KX G ?a__law_below ?l__law_below ?c__law_below ?p__law_below (fun _ _ _ _ _ _ us hl => match us, hl with | [_, _], _ => rfl)) (PB.has_mk KX G ?a__law_sum ?l__law_sum ?c__law_sum ?p__law_sum (fun _ _ _ _ _ _ us hl => match us, hl with | [_], _ => rfl)) (PB.has_mk KX G ?a__law_draw ?l__law_draw ?c__law_draw ?p__law_draw (fun _ _ _ _ _ _ us hl => match us, hl with | [_], _ => rfl)) (PB.has_mk KX G ?a__law_middle ?l__law_middle ?c__law_middle ?p__law_middle (fun _ _ _ _ _ _ us hl => match us, hl with | [_, _, _], _ => rfl)) (PB.has_mk KX G ?a__law_once ?l__law_once ?c__law_once ?p__law_once (fun _ _ _ _ _ _ us hl => match us, hl with | [_], _ => rfl)) (PB.has_mk KX G ?a__law_sorted ?l__law_sorted ?c__law_sorted ?p__law_sorted (fun _ _ _ _ _ _ us hl => match us, hl with | [_], _ => rfl)) (PB.has_mk KX G ?a__law_basis ?l__law_basis ?c__law_basis ?p__law_basis (fun _ _ _ _ _ _ us hl => match us, hl with | [_, _, _, _], _ => rfl)) (PB.has_mk KX G ?a__law_spline ?l__law_spline ?c__law_spline ?p__law_spline (fun _ _ _ _ _ _ us hl => match us, hl with | [_, _], _ => rfl)) (PB.has_mk KX G ?a__law_spline_at ?l__law_spline_at ?c__law_spline_at ?p__law_spline_at (fun _ _ _ _ _ _ us hl => match us, hl with | [_, _], _ => rfl)) (PB.has_mk KX G ?a__law_within ?l__law_within ?c__law_within ?p__law_within (fun _ _ _ _ _ _ us hl => match us, hl with | [_, _], _ => rfl)) (PB.has_mk KX G ?a__law_same ?l__law_same ?c__law_same ?p__law_same (fun _ _ _ _ _ _ us hl => match us, hl with | [_, _], _ => rfl)) (PB.has_mk KX G ?a__law_fits_spline ?l__law_fits_spline ?c__law_fits_spline ?p__law_fits_spline (fun _ _ _ _ _ _ us hl => match us, hl with | [_], _ => rfl)) (PB.has_mk KX G ?a_law ?l_law ?c_law ?p_law (fun _ _ _ _ _ _ us hl => match us, hl with | [_], _ => rfl))
    (case m_abs => k_is); (case m_all => k_is); (case m_bool => k_is); (case m_enumerate => k_is); (case m_gcd => k_is); (case m_int => k_is); (case m_isinstance => k_is); (case m_len => k_is); (case m_list => k_is); (case m_max => k_is); (case m_range => k_is); (case m_tuple => k_is); (case m_zip => k_is); (case z_MOST_DEGREE_knots => k_is); (case z_MOST_DEGREE_polys => k_is); (case z_MOST_KNOTS => k_is); (case z_MOST_ROW => k_is); (case z_ONE => k_is); (case k_ONE => k_is); (case z_ZERO => k_is); (case k_ZERO => k_is); (case a_is_int => k_is); (case l_is_int => k_is); (case c_is_int => k_is); (case p_is_int => k_is); (case a_is_from => k_is); (case l_is_from => k_is); (case c_is_from => k_is); (case p_is_from => k_is); (case a_is_ratio => k_is); (case l_is_ratio => k_is); (case c_is_ratio => k_is); (case p_is_ratio => k_is); (case a_made => k_is); (case l_made => k_is); (case c_made => k_is); (case p_made => k_is); (case a_plus => k_is); (case l_plus => k_is); (case c_plus => k_is); (case p_plus => k_is); (case a_less => k_is); (case l_less => k_is); (case c_less => k_is); (case p_less => k_is); (case a_times => k_is); (case l_times => k_is); (case c_times => k_is); (case p_times => k_is); (case a_over => k_is); (case l_over => k_is); (case c_over => k_is); (case p_over => k_is); (case a_negative => k_is); (case l_negative => k_is); (case c_negative => k_is); (case p_negative => k_is); (case a_is_below => k_is); (case l_is_below => k_is); (case c_is_below => k_is); (case p_is_below => k_is); (case a_between => k_is); (case l_between => k_is); (case c_between => k_is); (case p_between => k_is); (case a_are_ratios => k_is); (case l_are_ratios => k_is); (case c_are_ratios => k_is); (case p_are_ratios => k_is); (case a_is_poly => k_is); (case l_is_poly => k_is); (case c_is_poly => k_is); (case p_is_poly => k_is); (case a_need_poly => k_is); (case l_need_poly => k_is); (case c_need_poly => k_is); (case p_need_poly => k_is); (case a_trimmed => k_is); (case l_trimmed => k_is); (case c_trimmed => k_is); (case p_trimmed => k_is); (case a_p_plus => k_is); (case l_p_plus => k_is); (case c_p_plus => k_is); (case p_p_plus => k_is); (case a_p_scaled => k_is); (case l_p_scaled => k_is); (case c_p_scaled => k_is); (case p_p_scaled => k_is); (case a_p_times => k_is); (case l_p_times => k_is); (case c_p_times => k_is); (case p_p_times => k_is); (case a_choose => k_is); (case l_choose => k_is); (case c_choose => k_is); (case p_choose => k_is); (case a_need_degree => k_is); (case l_need_degree => k_is); (case c_need_degree => k_is); (case p_need_degree => k_is); (case a_symmetric => k_is); (case l_symmetric => k_is); (case c_symmetric => k_is); (case p_symmetric => k_is); (case a_blossom_of => k_is); (case l_blossom_of => k_is); (case c_blossom_of => k_is); (case p_blossom_of => k_is); (case a_faults_of => k_is); (case l_faults_of => k_is); (case c_faults_of => k_is); (case p_faults_of => k_is); (case a_need_knots => k_is); (case l_need_knots => k_is); (case c_need_knots => k_is); (case p_need_knots => k_is); (case a_basis_poly => k_is); (case l_basis_poly => k_is); (case c_basis_poly => k_is); (case p_basis_poly => k_is); (case a_need_spline => k_is); (case l_need_spline => k_is); (case c_need_spline => k_is); (case p_need_spline => k_is); (case a_is_inner => k_is); (case l_is_inner => k_is); (case c_is_inner => k_is); (case p_is_inner => k_is); (case a_need_inner => k_is); (case l_need_inner => k_is); (case c_need_inner => k_is); (case p_need_inner => k_is); (case a_span_of => k_is); (case l_span_of => k_is); (case c_span_of => k_is); (case p_span_of => k_is); (case a_pieces_of => k_is); (case l_pieces_of => k_is); (case c_pieces_of => k_is); (case p_pieces_of => k_is); (case a_spline_pieces => k_is); (case l_spline_pieces => k_is); (case c_spline_pieces => k_is); (case p_spline_pieces => k_is); (case a_with_knot => k_is); (case l_with_knot => k_is); (case c_with_knot => k_is); (case p_with_knot => k_is); (case a_inserted => k_is); (case l_inserted => k_is); (case c_inserted => k_is); (case p_inserted => k_is); (case a_missing => k_is); (case l_missing => k_is); (case c_missing => k_is); (case p_missing => k_is); (case a_refined => k_is); (case l_refined => k_is); (case c_refined => k_is); (case p_refined => k_is); (case a_is_interval => k_is); (case l_is_interval => k_is); (case c_is_interval => k_is); (case p_is_interval => k_is); (case a_need_interval => k_is); (case l_need_interval => k_is); (case c_need_interval => k_is); (case p_need_interval => k_is); (case a_control_row => k_is); (case l_control_row => k_is); (case c_control_row => k_is); (case p_control_row => k_is); (case a_row_of => k_is); (case l_row_of => k_is); (case c_row_of => k_is); (case p_row_of => k_is); (case a__law_taken => k_is); (case l__law_taken => k_is); (case c__law_taken => k_is); (case p__law_taken => k_is); (case a__law_pick => k_is); (case l__law_pick => k_is); (case c__law_pick => k_is); (case p__law_pick => k_is); (case a__law_made => k_is); (case l__law_made => k_is); (case c__law_made => k_is); (case p__law_made => k_is); (case a__law_plus => k_is); (case l__law_plus => k_is); (case c__law_plus => k_is); (case p__law_plus => k_is); (case a__law_minus => k_is); (case l__law_minus => k_is); (case c__law_minus => k_is); (case p__law_minus => k_is); (case a__law_times => k_is); (case l__law_times => k_is); (case c__law_times => k_is); (case p__law_times => k_is); (case a__law_over => k_is); (case l__law_over => k_is); (case c__law_over => k_is); (case p__law_over => k_is); (case a__law_below => k_is); (case l__law_below => k_is); (case c__law_below => k_is); (case p__law_below => k_is); (case a__law_sum => k_is); (case l__law_sum => k_is); (case c__law_sum => k_is); (case p__law_sum => k_is); (case a__law_draw => k_is); (case l__law_draw => k_is); (case c__law_draw => k_is); (case p__law_draw => k_is); (case a__law_middle => k_is); (case l__law_middle => k_is); (case c__law_middle => k_is); (case p__law_middle => k_is); (case a__law_once => k_is); (case l__law_once => k_is); (case c__law_once => k_is); (case p__law_once => k_is); (case a__law_sorted => k_is); (case l__law_sorted => k_is); (case c__law_sorted => k_is); (case p__law_sorted => k_is); (case a__law_basis => k_is); (case l__law_basis => k_is); (case c__law_basis => k_is); (case p__law_basis => k_is); (case a__law_spline => k_is); (case l__law_spline => k_is); (case c__law_spline => k_is); (case p__law_spline => k_is); (case a__law_spline_at => k_is); (case l__law_spline_at => k_is); (case c__law_spline_at => k_is); (case p__law_spline_at => k_is); (case a__law_within => k_is); (case l__law_within => k_is); (case c__law_within => k_is); (case p__law_within => k_is); (case a__law_same => k_is); (case l__law_same => k_is); (case c__law_same => k_is); (case p__law_same => k_is); (case a__law_fits_spline => k_is); (case l__law_fits_spline => k_is); (case c__law_fits_spline => k_is); (case p__law_fits_spline => k_is); (case a_law => k_is); (case l_law => k_is); (case c_law => k_is); (case p_law => k_is)

