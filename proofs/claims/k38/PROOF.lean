import PyProof.Rows.All
import Wide.All
import OpenK.AllK
import Wide.FinOn
import HandS.ForMost
import HandS.Codes
import HandS.Walk
import HandS.TupAny
import HandS.TupMul
import HandS.Zip
import HandS.IsInst
import HandS.Gcd
import HandS.Star
import HandS.Wide
import HandS.Deep
import HandS.Lambda
import HandS.Style
import HandS.CallLocal
import HandS.Iter
import KE.GoesEnum
import KE.GoesMore
import HandS.TryOnly
import HandS.New
import KE.KRevSl
import HandS.Strs
import HandS.Ends
import HandS.ExcInit
import HandS.Nested
import KE.KExcSuper
import KE.KSuper
import HandS.ExcField
import HandS.TryMany
import HandS.ExcOwn
import HandS.ExcIs
import HandS.Head3
import HandS.HeadHook4
import HandS.HeadEnd
import HandS.HeadWalk
import KE.KDflt
import PySem.Challenge.RW_blendcurves_k38_knots_refused
set_option Elab.async false
set_option linter.all false
set_option maxRecDepth 100000
namespace PB
open PySem

/-- pure values -/
inductive PV where
  | non | bl (b : Bool) | int (i : Int) | str (x : Str) | tup (xs : List PV) | wtup (xs : List PV) | scr (xs : List PV) | ref (n : Nat) | fn (n : Nat) | dct
/-- what stands in the pure heap -/
inductive PO where
  | lst (xs : List PV)
abbrev PH := List PO
abbrev Sl := List (Option PV)

mutual
def PV.same : PV → PV → Bool
  | .non, .non => true
  | .bl a, .bl b => a == b
  | .int a, .int b => a == b
  | .str a, .str b => a == b
  | .tup a, .tup b => PV.sames a b
  | .wtup a, .wtup b => PV.sames a b
  | .scr a, .scr b => PV.sames a b
  | .ref a, .ref b => a == b
  | .fn a, .fn b => a == b
  | .dct, .dct => true
  | _, _ => false
def PV.sames : List PV → List PV → Bool
  | [], [] => true
  | a :: r, b :: q => PV.same a b && PV.sames r q
  | _, _ => false
end
mutual
theorem PV.same_eq : ∀ {a b : PV}, PV.same a b = true → a = b
  | .non, b, h => by cases b <;> simp_all [PV.same]
  | .bl x, b, h => by cases b <;> simp_all [PV.same]
  | .int x, b, h => by cases b <;> simp_all [PV.same]
  | .str x, b, h => by cases b <;> simp_all [PV.same]
  | .tup x, b, h => by
    cases b with
    | tup y => simp only [PV.same] at h; rw [PV.sames_eq h]
    | _ => simp [PV.same] at h
  | .wtup x, b, h => by
    cases b with
    | wtup y => simp only [PV.same] at h; rw [PV.sames_eq h]
    | _ => simp [PV.same] at h
  | .scr x, b, h => by
    cases b with
    | scr y => simp only [PV.same] at h; rw [PV.sames_eq h]
    | _ => simp [PV.same] at h
  | .ref x, b, h => by cases b <;> simp_all [PV.same]
  | .fn x, b, h => by cases b <;> simp_all [PV.same]
  | .dct, b, h => by cases b <;> simp_all [PV.same]
theorem PV.sames_eq : ∀ {a b : List PV}, PV.sames a b = true → a = b
  | [], b, h => by cases b <;> simp_all [PV.sames]
  | a :: r, b, h => by
    cases b with
    | nil => simp [PV.sames] at h
    | cons c q =>
      simp only [PV.sames, Bool.and_eq_true] at h
      rw [PV.same_eq h.1, PV.sames_eq h.2]
end
mutual
theorem PV.same_rfl : ∀ a : PV, PV.same a a = true
  | .non => by simp [PV.same]
  | .bl x => by simp [PV.same]
  | .int x => by simp [PV.same]
  | .str x => by simp [PV.same]
  | .tup x => by simp only [PV.same]; exact PV.sames_rfl x
  | .wtup x => by simp only [PV.same]; exact PV.sames_rfl x
  | .scr x => by simp only [PV.same]; exact PV.sames_rfl x
  | .ref x => by simp [PV.same]
  | .fn x => by simp [PV.same]
  | .dct => by simp [PV.same]
theorem PV.sames_rfl : ∀ a : List PV, PV.sames a a = true
  | [] => by simp [PV.sames]
  | a :: r => by simp only [PV.sames, Bool.and_eq_true]; exact ⟨PV.same_rfl a, PV.sames_rfl r⟩
end
def PO.same : PO → PO → Bool
  | .lst a, .lst b => PV.sames a b
theorem PO.same_eq {a b : PO} (h : PO.same a b = true) : a = b := by
  cases a <;> cases b <;> simp [PO.same] at h <;> rw [PV.sames_eq h]
theorem PO.same_rfl (a : PO) : PO.same a a = true := by cases a <;> simp only [PO.same] <;> exact PV.sames_rfl _

/-- what a step gives -/
inductive Res (α : Type) where
  | ok (a : α) (h : PH) | exc (c : Nat) (v : PV) (h : PH) | bad
def Res.bind {α β : Type} (x : Res α) (f : α → PH → Res β) : Res β :=
  match x with
  | .ok a h => f a h
  | .exc c v h => .exc c v h
  | .bad => .bad

inductive BinO where
  | add | sub | mul | fdiv | mod | pow
inductive CmpO where
  | eq | ne | lt | le | gt | ge | isN | notN | isIn | notIn
/-- built-in functions -/
inductive Blt where
  | len | abs | min2 | max2 | min1 | max1 | gcd | tuple | list | int | isInt | isBool | isTup | isStr | isList | isTL | all | any | sum | lzip
inductive Mth where
  | append | extend | pop | pop0 | count | index

mutual
/-- expressions -/
inductive CE where
  | var (i : Nat) | con (v : PV)
  | bin (op : BinO) (a b : CE) | neg (a : CE) | not (a : CE)
  | and (a b : CE) | or (a b : CE)
  | cmp (op : CmpO) (a b : CE) | chn (op op' : CmpO) (a b c : CE)
  | ite (c a b : CE)
  | tup (es : CA) | lst (es : CA)
  | idx (a b : CE) | slc (a : CE) (lo hi : CO) | rev (a : CE) | two (a : CE) (k : CO)
  | call (f : Nat) (es : CA) | callv (i : Nat) (es : CA)
  | blt (b : Blt) (es : CA) | mth (m : Mth) (o : CE) (es : CA)
  | comp (e : CE) (own : List Nat) (tg : CT) (it : CI) (c : CO)
  | xfld (i : Nat) (f : Str) | xis (i : Nat) (cs : List Nat)
  | lam (b : CE) (wf : (PH → Res PV) → PH → Res PV)
/-- arguments, items -/
inductive CA where
  | nil | cons (e : CE) (r : CA) | star (e : CE) (r : CA)
/-- an optional part -/
inductive CO where
  | none | some (e : CE)
/-- what a for walks -/
inductive CI where
  | seq (e : CE) | rng1 (es : CA) | rng2 (es : CA) | rng3 (es : CA) | enu (es : CA) | zip (es : CA)
/-- targets -/
inductive CT where
  | v (i : Nat) | s (o i : CE) | nil | cons (a r : CT)
end

mutual
/-- statements -/
inductive CS where
  | asg (t : CT) (e : CE) | par (is : List Nat) (es : CA) | aug (i : Nat) (op : BinO) (e : CE)
  | expr (e : CE) | ret (e : CE) | retN
  | ifs (c : CE) (a b : CB) | whl (c : CE) (b : CB) | for_ (t : CT) (it : CI) (b : CB)
  | brk | cnt | pass | raise (c : Nat) (es : CA) | try_ (b : CB) (hs : CH)
/-- blocks -/
inductive CB where
  | nil | cons (s : CS) (r : CB)
/-- except clauses: the classes, the name's slot, the suite -/
inductive CH where
  | nil | cons (cs : List Nat) (i : Nat) (b : CB) (r : CH)
end

/-! ### operators -/
def toDs (f : PV → Option PyData) : List PV → Option (List PyData)
  | [] => some []
  | x :: r => match f x, toDs f r with
    | some d, some ds => some (d :: ds)
    | _, _ => none
/-- what a value stands for, its lists read -/
def toD (h : PH) : Nat → PV → Option PyData
  | _, .non => some .none
  | _, .bl b => some (.bool b)
  | _, .int i => some (.int i)
  | _, .str x => if PyData.canLay0 (.str x) = true then some (.str x) else none
  | n + 1, .tup xs => (toDs (toD h n) xs).map .tuple
  | n + 1, .scr xs => (toDs (toD h n) xs).map .list
  | n + 1, .ref a => match h[a]? with
    | some (.lst xs) => (toDs (toD h n) xs).map .list
    | none => none
  | _, _ => none
def eqD (h : PH) (a b : PV) : Option Bool :=
  match toD h 12 a, toD h 12 b with
  | some d, some e => some (PyData.eqv d e)
  | _, _ => none
/-- the items of a list or tuple -/
def items (h : PH) : PV → Option (List PV)
  | .tup xs => some xs
  | .scr xs => some xs
  | .ref a => match h[a]? with
    | some (.lst xs) => some xs
    | none => none
  | _ => none
def mulOk (i j : Int) : Bool := decide (i.natAbs.log2 + j.natAbs.log2 < 1000000)
def many : Nat := 1000000
def alloc (xs : List PV) (h : PH) : Res PV := .ok (.ref h.length) (h ++ [.lst xs])
def binop : BinO → PV → PV → PH → Res PV
  | .add, .int i, .int j, h => .ok (.int (i + j)) h
  | .sub, .int i, .int j, h => .ok (.int (i - j)) h
  | .mul, .int i, .int j, h => if mulOk i j = true then .ok (.int (i * j)) h else .bad
  | .fdiv, .int i, .int j, h => if j ≠ 0 ∧ j.natAbs.log2 < 9000 then .ok (.int (i.fdiv j)) h else .bad
  | .mod, .int i, .int j, h => if j ≠ 0 then .ok (.int (i.fmod j)) h else .bad
  | .pow, .int i, .int j, h => if 0 ≤ j ∧ j ≤ 1000 ∧ i.natAbs < 2 ^ 64 then .ok (.int (i ^ j.toNat)) h else .bad
  | .add, .tup xs, .tup ys, h => if xs.length + ys.length ≤ many then .ok (.tup (xs ++ ys)) h else .bad
  | .add, .ref a, .ref b, h => match h[a]?, h[b]? with
    | some (.lst xs), some (.lst ys) => if xs.length + ys.length ≤ many then alloc (xs ++ ys) h else .bad
    | _, _ => .bad
  | .mul, .ref a, .int k, h => match h[a]? with
    | some (.lst xs) => if -1000 ≤ k ∧ k ≤ many ∧ xs.length * k.toNat ≤ many then alloc (List.replicate k.toNat xs).flatten h else .bad
    | _ => .bad
  | .mul, .tup xs, .int k, h => if -1000 ≤ k ∧ k ≤ 1000 ∧ xs.length ≤ 1000 then .ok (.tup (List.replicate k.toNat xs).flatten) h else .bad
  | _, _, _, _ => .bad
/-- the data of a list's or a tuple's items -/
def seqD (h : PH) (b : PV) : Option (List PyData) :=
  match toD h 12 b with
  | some (.list ds) => some ds
  | some (.tuple ds) => some ds
  | _ => none
def cmpop : CmpO → PV → PV → PH → Res PV
  | .eq, a, b, h => match eqD h a b with | some r => .ok (.bl r) h | none => .bad
  | .ne, a, b, h => match eqD h a b with | some r => .ok (.bl (!r)) h | none => .bad
  | .lt, .int i, .int j, h => .ok (.bl (decide (i < j))) h
  | .le, .int i, .int j, h => .ok (.bl (decide (i ≤ j))) h
  | .gt, .int i, .int j, h => .ok (.bl (decide (j < i))) h
  | .ge, .int i, .int j, h => .ok (.bl (decide (j ≤ i))) h
  | .isN, a, b, h => match b with
    | .non => .ok (.bl (match a with | .non => true | _ => false)) h
    | .bl y => match a with | .bl x => .ok (.bl (decide (x = y))) h | _ => .bad
    | _ => .bad
  | .notN, a, b, h => match b with
    | .non => .ok (.bl (match a with | .non => false | _ => true)) h
    | .bl y => match a with | .bl x => .ok (.bl (!decide (x = y))) h | _ => .bad
    | _ => .bad
  | .isIn, a, b, h => match toD h 12 a, seqD h b with
    | some d, some ds => .ok (.bl (ds.any fun z => PyData.eqv z d)) h
    | _, _ => .bad
  | .notIn, a, b, h => match toD h 12 a, seqD h b with
    | some d, some ds => .ok (.bl (!(ds.any fun z => PyData.eqv z d))) h
    | _, _ => .bad
  | _, _, _, _ => .bad

def idxop (a b : PV) (h : PH) : Res PV :=
  match items h a, b with
  | some xs, .int i => match L2.atI xs i with | some v => .ok v h | none => .bad
  | _, _ => .bad
def cut (xs : List PV) (lo hi : Option Int) : List PV := (xs.drop (HT.sIx xs.length 0 lo)).take (HT.sIx xs.length xs.length hi - HT.sIx xs.length 0 lo)
def slcop (a : PV) (lo hi : Option Int) (h : PH) : Res PV :=
  match a with
  | .tup xs => .ok (.tup (cut xs lo hi)) h
  | .ref n => match h[n]? with
    | some (.lst xs) => alloc (cut xs lo hi) h
    | _ => .bad
  | _ => .bad
def revop (a : PV) (h : PH) : Res PV :=
  match a with
  | .tup xs => .ok (.tup xs.reverse) h
  | .ref n => match h[n]? with
    | some (.lst xs) => alloc xs.reverse h
    | _ => .bad
  | _ => .bad
/-- each second item -/
def seconds {α : Type} : List α → List α
  | [] => []
  | [x] => [x]
  | x :: _ :: r => x :: seconds r
def twoop (a : PV) (k : Option Int) (h : PH) : Res PV :=
  match a with
  | .tup xs => if 0 ≤ k.getD 0 then .ok (.tup (seconds (xs.drop (k.getD 0).toNat))) h else .bad
  | _ => .bad
def truths (p : Bool → Bool → Bool) (e : Bool) : List PV → Option Bool
  | [] => some e
  | .bl b :: r => match truths p e r with | some c => some (p b c) | none => none
  | _ => none
def intsOf : List PV → Option (List Int)
  | [] => some []
  | .int i :: r => match intsOf r with | some is => some (i :: is) | none => none
  | _ => none
/-- the class of a value: NoneType, bool, int, str, tuple, list -/
def kindOf (h : PH) : PV → Option Nat
  | .non => some 0 | .bl _ => some 1 | .int _ => some 2 | .str _ => some 3 | .tup _ => some 4 | .dct => some 6
  | .ref n => match h[n]? with | some (.lst _) => some 5 | none => none
  | _ => none
/-- the pairs of two lists -/
def pairs : List PV → List PV → List PV
  | x :: r, y :: q => .tup [x, y] :: pairs r q
  | _, _ => []
def blt : Blt → List PV → PH → Res PV
  | .len, [a], h => match items h a with | some xs => .ok (.int xs.length) h | none => .bad
  | .abs, [.int i], h => .ok (.int i.natAbs) h
  | .min2, [.int i, .int j], h => .ok (.int (if j < i then j else i)) h
  | .max2, [.int i, .int j], h => .ok (.int (if i < j then j else i)) h
  | .min1, [.ref n], h => match h[n]? with
    | some (.lst xs) => match intsOf xs with | some (i :: is) => .ok (.int (is.foldl min i)) h | _ => .bad
    | none => .bad
  | .max1, [.ref n], h => match h[n]? with
    | some (.lst xs) => match intsOf xs with | some (i :: is) => .ok (.int (is.foldl max i)) h | _ => .bad
    | none => .bad
  | .gcd, [.int i, .int j], h => .ok (.int (Nat.gcd i.natAbs j.natAbs : Nat)) h
  | .tuple, [a], h => match items h a with | some xs => .ok (.tup xs) h | none => .bad
  | .list, [a], h => match items h a with | some xs => alloc xs h | none => .bad
  | .int, [.int i], h => .ok (.int i) h
  | .isInt, [a], h => match kindOf h a with | some k => .ok (.bl (k == 2 || k == 1)) h | none => .bad
  | .isBool, [a], h => match kindOf h a with | some k => .ok (.bl (k == 1)) h | none => .bad
  | .isTup, [a], h => match kindOf h a with | some k => .ok (.bl (k == 4)) h | none => .bad
  | .isStr, [a], h => match kindOf h a with | some k => .ok (.bl (k == 3)) h | none => .bad
  | .isList, [a], h => match kindOf h a with | some k => .ok (.bl (k == 5)) h | none => .bad
  | .isTL, [a], h => match kindOf h a with | some k => .ok (.bl (k == 4 || k == 5)) h | none => .bad
  | .all, [.ref n], h => match h[n]? with
    | some (.lst xs) => match truths (· && ·) true xs with | some b => .ok (.bl b) h | none => .bad
    | none => .bad
  | .any, [.ref n], h => match h[n]? with
    | some (.lst xs) => match truths (· || ·) false xs with | some b => .ok (.bl b) h | none => .bad
    | none => .bad
  | .sum, [.ref n], h => match h[n]? with
    | some (.lst xs) => match intsOf xs with | some is => .ok (.int is.sum) h | none => .bad
    | none => .bad
  | .lzip, [.ref n, .ref m], h => match h[n]?, h[m]? with
    | some (.lst xs), some (.lst ys) => alloc (pairs xs ys) h
    | _, _ => .bad
  | _, _, _ => .bad
def mth : Mth → PV → List PV → PH → Res PV
  | .append, .ref n, [x], h => match h[n]? with
    | some (.lst xs) => if xs.length < many then .ok .non (h.set n (.lst (xs ++ [x]))) else .bad
    | _ => .bad
  | .extend, .ref n, [.ref m], h => match h[n]?, h[m]? with
    | some (.lst xs), some (.lst ys) => if xs.length + ys.length < many then .ok .non (h.set n (.lst (xs ++ ys))) else .bad
    | _, _ => .bad
  | .pop, .ref n, [], h => match h[n]? with
    | some (.lst xs) => match xs.getLast? with | some x => .ok x (h.set n (.lst xs.dropLast)) | none => .bad
    | _ => .bad
  | .pop0, .ref n, [.int i], h => match h[n]? with
    | some (.lst (x :: xs)) => if i = 0 then .ok x (h.set n (.lst xs)) else .bad
    | _ => .bad
  | .count, a, [x], h => match seqD h a, toD h 12 x with
    | some ds, some d => .ok (.int (ds.countP fun z => PyData.eqv z d : Nat)) h
    | _, _ => .bad
  | .index, a, [x], h => match seqD h a, toD h 12 x with
    | some ds, some d => match ds.findIdx? fun z => PyData.eqv z d with | some c => .ok (.int c) h | none => .bad
    | _, _ => .bad
  | _, _, _, _ => .bad
/-- o[i] = v -/
def setop (o i v : PV) (h : PH) : Res Unit :=
  match o, i with
  | .ref n, .int i => match h[n]? with
    | some (.lst xs) => match L2.ixN xs.length i with
      | some j => .ok () (h.set n (.lst (xs.set j v)))
      | none => .bad
    | _ => .bad
  | _, _ => .bad

def range : Int → Nat → Int → List PV
  | _, 0, _ => []
  | a, n + 1, c => .int a :: range (a + c) n c
def enums : Int → List PV → List PV
  | _, [] => []
  | i, x :: r => .wtup [.int i, x] :: enums (i + 1) r
def zips : List PV → List PV → List PV
  | x :: r, y :: q => .wtup [x, y] :: zips r q
  | _, _ => []
/-- the cells that a walk leans on -/
abbrev Lean_ := List (Nat × PO)
def leans (l : Lean_) (h : PH) : Bool := l.all fun p => match h[p.1]? with | some c => PO.same c p.2 | none => false
def leanOf (h : PH) : PV → Lean_
  | .ref n => match h[n]? with | some c => [(n, c)] | none => []
  | _ => []
def bigR : Int := 1000000
/-- the slots of a comprehension's own names are empty -/
def wipe (s : Sl) : List Nat → Sl
  | [] => s
  | i :: r => (wipe s r).set i none
def compL (f : PV → PH → Res (Option PV)) (l : Lean_) : List PV → PH → Res (List PV)
  | [], h => if leans l h = true then .ok [] h else .bad
  | x :: r, h => if leans l h = true then (f x h).bind fun y h1 => (compL f l r h1).bind fun ys h2 =>
      .ok (match y with | some y => y :: ys | none => ys) h2 else .bad
def optI (h : PH) : Option PV → Res (Option Int)
  | none => .ok none h
  | some (.int i) => .ok (some i) h
  | _ => .bad

section
variable (cf : Nat → List PV → PH → Res PV)
mutual
def evE : CE → Sl → PH → Res PV
  | .var i, s, h => match s[i]? with | some (some v) => .ok v h | _ => .bad
  | .con v, _, h => .ok v h
  | .bin op a b, s, h => (evE a s h).bind fun x h1 => (evE b s h1).bind fun y h2 => binop op x y h2
  | .neg a, s, h => (evE a s h).bind fun x h1 => match x with | .int i => .ok (.int (-i)) h1 | _ => .bad
  | .not a, s, h => (evE a s h).bind fun x h1 => match x with | .bl b => .ok (.bl (!b)) h1 | _ => .bad
  | .and a b, s, h => (evE a s h).bind fun x h1 => match x with | .bl true => evE b s h1 | .bl false => .ok (.bl false) h1 | _ => .bad
  | .or a b, s, h => (evE a s h).bind fun x h1 => match x with | .bl false => evE b s h1 | .bl true => .ok (.bl true) h1 | _ => .bad
  | .cmp op a b, s, h => (evE a s h).bind fun x h1 => (evE b s h1).bind fun y h2 => cmpop op x y h2
  | .chn op op' a b c, s, h => (evE a s h).bind fun x h1 => (evE b s h1).bind fun y h2 => (cmpop op x y h2).bind fun r h3 =>
      match r with | .bl true => (evE c s h3).bind fun z h4 => cmpop op' y z h4 | .bl false => .ok (.bl false) h3 | _ => .bad
  | .ite c a b, s, h => (evE c s h).bind fun x h1 => match x with | .bl true => evE a s h1 | .bl false => evE b s h1 | _ => .bad
  | .tup es, s, h => (evA es s h).bind fun xs h1 => if xs.length ≤ many then .ok (.tup xs) h1 else .bad
  | .lst es, s, h => (evA es s h).bind fun xs h1 => if xs.length ≤ many then alloc xs h1 else .bad
  | .idx a b, s, h => (evE a s h).bind fun x h1 => (evE b s h1).bind fun y h2 => idxop x y h2
  | .slc a lo hi, s, h => (evE a s h).bind fun x h1 => (evO lo s h1).bind fun l h2 => (evO hi s h2).bind fun u h3 =>
      (optI h3 l).bind fun l h3 => (optI h3 u).bind fun u h3 => slcop x l u h3
  | .rev a, s, h => (evE a s h).bind fun x h1 => revop x h1
  | .two a k, s, h => (evE a s h).bind fun x h1 => (evO k s h1).bind fun l h2 => (optI h2 l).bind fun l h3 => twoop x l h3
  | .call f es, s, h => (evA es s h).bind fun xs h1 => cf f xs h1
  | .callv i es, s, h => match s[i]? with
    | some (some (.fn f)) => (evA es s h).bind fun xs h1 => cf f xs h1
    | _ => .bad
  | .blt b es, s, h => (evA es s h).bind fun xs h1 => blt b xs h1
  | .mth m o es, s, h => (evE o s h).bind fun x h1 => (evA es s h1).bind fun xs h2 => mth m x xs h2
  | .comp e own tg it c, s, h => (evI it s h).bind fun p h1 => if p.1.length ≤ many then
      (compL (fun x h2 => (asT tg x (wipe s own) h2).bind fun s3 h3 => (evO c s3 h3).bind fun t h4 =>
        match t with
        | some (.bl false) => .ok none h4
        | some (.bl true) => (evE e s3 h4).bind fun y h5 => .ok (some y) h5
        | none => (evE e s3 h4).bind fun y h5 => .ok (some y) h5
        | _ => .bad) p.2 p.1 h1).bind (fun ys h2 => alloc ys h2) else .bad
  | .xfld i f, s, h => match s[i]? with
    | some (some (.tup [.int _, .str g, x])) => if g = f then .ok x h else .bad
    | _ => .bad
  | .xis i cs, s, h => match s[i]? with
    | some (some (.tup (.int c :: _))) => .ok (.bl (cs.contains c.toNat)) h
    | _ => .bad
  | .lam b wf, s, h => wf (evE b s) h
def evA : CA → Sl → PH → Res (List PV)
  | .nil, _, h => .ok [] h
  | .cons e r, s, h => (evE e s h).bind fun x h1 => (evA r s h1).bind fun xs h2 => .ok (x :: xs) h2
  | .star e r, s, h => (evE e s h).bind fun x h1 => match items h1 x with
    | some ys => (evA r s h1).bind fun xs h2 => .ok (ys ++ xs) h2
    | none => .bad
def evO : CO → Sl → PH → Res (Option PV)
  | .none, _, h => .ok none h
  | .some e, s, h => (evE e s h).bind fun x h1 => .ok (some x) h1
/-- the items that a for walks, and the lists that it leans on -/
def evI : CI → Sl → PH → Res (List PV × Lean_)
  | .seq e, s, h => (evE e s h).bind fun x h1 => match items h1 x with | some xs => .ok (xs, leanOf h1 x) h1 | none => .bad
  | .rng1 es, s, h => (evA es s h).bind fun xs h1 => match xs with
    | [.int b] => if -bigR ≤ b ∧ b ≤ bigR then .ok (range 0 b.toNat 1, []) h1 else .bad
    | _ => .bad
  | .rng2 es, s, h => (evA es s h).bind fun xs h1 => match xs with
    | [.int a, .int b] => if -bigR ≤ a ∧ a ≤ bigR ∧ -bigR ≤ b ∧ b ≤ bigR then .ok (range a (b - a).toNat 1, []) h1 else .bad
    | _ => .bad
  | .rng3 es, s, h => (evA es s h).bind fun xs h1 => match xs with
    | [.int a, .int b, .int c] => if -bigR ≤ a ∧ a ≤ bigR ∧ -bigR ≤ b ∧ b ≤ bigR ∧ c = -1 then .ok (range a (a - b).toNat (-1), []) h1 else .bad
    | _ => .bad
  | .enu es, s, h => (evA es s h).bind fun xs h1 => match xs with
    | [x] => match items h1 x with | some ys => .ok (enums 0 ys, leanOf h1 x) h1 | none => .bad
    | _ => .bad
  | .zip es, s, h => (evA es s h).bind fun xs h1 => match xs with
    | [x, y] => match items h1 x, items h1 y with
      | some us, some ws => .ok (zips us ws, leanOf h1 x ++ leanOf h1 y) h1
      | _, _ => .bad
    | _ => .bad
/-- a value is given to a target -/
def asT : CT → PV → Sl → PH → Res Sl
  | .v i, x, s, h => .ok (s.set i (some x)) h
  | .s o i, x, s, h => (evE o s h).bind fun ov h1 => (evE i s h1).bind fun iv h2 => (setop ov iv x h2).bind fun _ h3 => .ok s h3
  | .nil, x, s, h => match x with | .tup [] => .ok s h | _ => .bad
  | .cons a r, x, s, h => match x with
    | .tup (x :: xs) => (asT a x s h).bind fun s1 h1 => asTs r xs s1 h1
    | .wtup (x :: xs) => (asT a x s h).bind fun s1 h1 => asTs r xs s1 h1
    | .ref n => match h[n]? with
      | some (.lst (x :: xs)) => (asT a x s h).bind fun s1 h1 => asTs r xs s1 h1
      | _ => .bad
    | _ => .bad
def asTs : CT → List PV → Sl → PH → Res Sl
  | .cons a r, x :: xs, s, h => (asT a x s h).bind fun s1 h1 => asTs r xs s1 h1
  | .nil, [], s, h => .ok s h
  | _, _, _, _ => .bad
end
end

/-! ### statements -/
inductive Fl where
  | nx (s : Sl) | rt (v : PV) | bk (s : Sl) | ct (s : Sl)
def whL (c : Sl → PH → Res PV) (b : Sl → PH → Res Fl) : Nat → Sl → PH → Res Fl
  | 0, _, _ => .bad
  | n + 1, s, h => (c s h).bind fun x h1 => match x with
    | .bl true => (b s h1).bind fun f h2 => match f with
      | .nx s2 => whL c b n s2 h2
      | .ct s2 => whL c b n s2 h2
      | .bk s2 => .ok (.nx s2) h2
      | .rt v => .ok (.rt v) h2
    | .bl false => .ok (.nx s) h1
    | _ => .bad
def frL (g : PV → Sl → PH → Res Sl) (b : Sl → PH → Res Fl) (l : Lean_) : List PV → Sl → PH → Res Fl
  | [], s, h => if leans l h = true then .ok (.nx s) h else .bad
  | x :: r, s, h => if leans l h = true then (g x s h).bind fun s1 h1 => (b s1 h1).bind fun f h2 => match f with
      | .nx s2 => frL g b l r s2 h2
      | .ct s2 => frL g b l r s2 h2
      | .bk s2 => .ok (.nx s2) h2
      | .rt v => .ok (.rt v) h2
    else .bad
def fuel : Nat := 100000
def setAll : List Nat → List PV → Sl → Option Sl
  | [], [], s => some s
  | i :: is, x :: xs, s => setAll is xs (s.set i (some x))
  | _, _, _ => none
def isNum : PV → Bool
  | .int _ => true
  | _ => false
/-- what an exception may bear -/
def payOk : PV → Bool
  | .int _ => true
  | .str _ => true
  | .non => true
  | _ => false
/-- what stands for an exception in hand -/
def excV (c : Nat) : PV → PV
  | .tup xs => .tup (.int c :: xs)
  | _ => .non
/-- the name of an except clause goes -/
def endX (i : Nat) : Fl → Fl
  | .nx s => .nx (s.set i none)
  | .bk s => .bk (s.set i none)
  | .ct s => .ct (s.set i none)
  | .rt v => .rt v
section
variable (cf : Nat → List PV → PH → Res PV)
mutual
def evS : CS → Sl → PH → Res Fl
  | .asg t e, s, h => (evE cf e s h).bind fun x h1 => (asT cf t x s h1).bind fun s2 h2 => .ok (.nx s2) h2
  | .par is es, s, h => (evA cf es s h).bind fun xs h1 => match setAll is xs s with | some s2 => .ok (.nx s2) h1 | none => .bad
  | .aug i op e, s, h => match s[i]? with
    | some (some x) => (evE cf e s h).bind fun y h1 => if isNum x = true ∧ isNum y = true then
        (binop op x y h1).bind fun z h2 => .ok (.nx (s.set i (some z))) h2 else .bad
    | _ => .bad
  | .expr e, s, h => (evE cf e s h).bind fun _ h1 => .ok (.nx s) h1
  | .ret e, s, h => (evE cf e s h).bind fun x h1 => .ok (.rt x) h1
  | .retN, _, h => .ok (.rt .non) h
  | .ifs c a b, s, h => (evE cf c s h).bind fun x h1 => match x with | .bl true => evB a s h1 | .bl false => evB b s h1 | _ => .bad
  | .whl c b, s, h => whL (evE cf c) (evB b) fuel s h
  | .for_ t it b, s, h => (evI cf it s h).bind fun p h1 => frL (asT cf t) (evB b) p.2 p.1 s h1
  | .brk, s, h => .ok (.bk s) h
  | .cnt, s, h => .ok (.ct s) h
  | .pass, s, h => .ok (.nx s) h
  | .raise c es, s, h => (evA cf es s h).bind fun xs h1 => if xs.all payOk = true then .exc c (.tup xs) h1 else .bad
  | .try_ b hs, s, h => match evB b s h with
    | .exc c v h1 => evH hs c v s h1
    | r => r
def evH : CH → Nat → PV → Sl → PH → Res Fl
  | .nil, c, v, _, h => .exc c v h
  | .cons cs i b r, c, v, s, h => if cs.contains c = true then (evB b (s.set i (some (excV c v))) h).bind fun f h1 => .ok (endX i f) h1 else evH r c v s h
def evB : CB → Sl → PH → Res Fl
  | .nil, s, h => .ok (.nx s) h
  | .cons st r, s, h => (evS st s h).bind fun f h1 => match f with
    | .nx s2 => evB r s2 h1
    | f => .ok f h1
end
end

theorem eqs_E : True := by have := @evE.eq_def; trivial
theorem eqs_A : True := by have := @evA.eq_def; trivial
theorem eqs_O : True := by have := @evO.eq_def; trivial
theorem eqs_I : True := by have := @evI.eq_def; trivial
theorem eqs_T : True := by have := @asT.eq_def; trivial
theorem eqs_Ts : True := by have := @asTs.eq_def; trivial
theorem eqs_S : True := by have := @evS.eq_def; trivial
theorem eqs_H : True := by have := @evH.eq_def; trivial
theorem eqs_B : True := by have := @evB.eq_def; trivial
/-! ### functions -/
structure Fn where
  np : Nat
  ns : Nat
  body : CB
mutual
/-- all ids below n -/
def PV.low (n : Nat) : PV → Bool
  | .ref k => decide (k < n)
  | .tup xs => PV.lows n xs
  | .wtup xs => PV.lows n xs
  | .scr xs => PV.lows n xs
  | _ => true
def PV.lows (n : Nat) : List PV → Bool
  | [] => true
  | x :: r => PV.low n x && PV.lows n r
end
def PO.low (n : Nat) : PO → Bool
  | .lst xs => PV.lows n xs
def POs.same : PH → PH → Bool
  | [], [] => true
  | a :: r, b :: q => PO.same a b && POs.same r q
  | _, _ => false
/-- what a call leaves: without its own lists, where nothing of the caller's names them -/
def keepP (h h1 : PH) (v : PV) : PH :=
  if PV.low h.length v = true ∧ (POs.same (h1.take h.length) h = true ∨ (h1.take h.length).all (PO.low h.length) = true) then h1.take h.length else h1
def startP (n : Nat) (args : List PV) : Sl := args.map some ++ List.replicate (n - args.length) none
def outF (h : PH) (f : Fl) (h1 : PH) : Res PV :=
  match f with
  | .rt v => .ok v (keepP h h1 v)
  | .nx _ => .ok .non (keepP h h1 .non)
  | _ => .bad
def callF (G : Nat → Option Fn) : Nat → Nat → List PV → PH → Res PV
  | 0, _, _, _ => .bad
  | k + 1, i, args, h => match G i with
    | none => .bad
    | some f => if args.length = f.np then (evB (callF G k) f.body (startP f.ns args) h).bind (outF h) else .bad
/-! ### the def that calls a lambda within a try -/
def cf0 : Nat → List PV → PH → Res PV := fun _ _ _ => .bad
/-- found = ""; try: work() / except ..: ..; return found (n slots, found the i-th) -/
def wordF (ch : CH) (n i : Nat) (g : PH → Res PV) (h : PH) : Res PV := match g h with
  | .ok _ h1 => .ok (.str "") (keepP h h1 (.str ""))
  | .exc c v h1 => (match evH cf0 ch c v ((List.replicate n none).set i (some (.str ""))) h1 with
    | .ok (.nx s2) h2 => (match s2[i]? with
      | some (some r) => .ok r (keepP h h2 r)
      | _ => .bad)
    | _ => .bad)
  | .bad => .bad
end PB

set_option Elab.async false
set_option linter.all false
set_option maxRecDepth 100000
namespace PB
open PySem
section
variable {cf : Nat → List PV → PH → Res PV} {s : Sl} {h : PH}
@[simp] theorem bind_ok' {α β : Type} {a : α} {f : α → PH → Res β} : (Res.ok a h).bind f = f a h := by rw [Res.bind]
@[simp] theorem bind_exc {α β : Type} {c : Nat} {v : PV} {f : α → PH → Res β} : (Res.exc c v h).bind f = .exc c v h := by rw [Res.bind]
@[simp] theorem bind_bad {α β : Type} {f : α → PH → Res β} : (Res.bad : Res α).bind f = .bad := by rw [Res.bind]
@[simp] theorem bind_ite {α β : Type} {p : Prop} [Decidable p] {x y : Res α} {f : α → PH → Res β} : (if p then x else y).bind f = if p then x.bind f else y.bind f := by split <;> rfl
def PV.ifB {α : Type} (x : PV) (a b : Res α) : Res α := match x with | .bl true => a | .bl false => b | _ => .bad
@[simp] theorem ifB_bl {α : Type} {p : Bool} {a b : Res α} : (PV.bl p).ifB a b = if p = true then a else b := by cases p <;> rfl
theorem evE_var {i : Nat} : evE cf (.var i) s h = match s[i]? with | some (some v) => .ok v h | _ => .bad := by first | (rw [evE]; done) | (rw [evE]; rfl)
@[simp] theorem evE_v0 {v : PV} {s : Sl} : evE cf (.var 0) (some v :: s) h = .ok v h := by first | (rw [evE]; done) | (rw [evE]; rfl)
@[simp] theorem evE_vs {i : Nat} {o : Option PV} {s : Sl} : evE cf (.var (i + 1)) (o :: s) h = evE cf (.var i) s h := by rw [evE, evE]; rfl
@[simp] theorem evE_con {v : PV} : evE cf (.con v) s h = .ok v h := by first | (rw [evE]; done) | (rw [evE]; rfl)
@[simp] theorem evE_bin {op : BinO} {a b : CE} : evE cf (.bin op a b) s h = (evE cf a s h).bind fun x h1 => (evE cf b s h1).bind fun y h2 => binop op x y h2 := by first | (rw [evE]; done) | (rw [evE]; rfl)
@[simp] theorem evE_neg {a : CE} : evE cf (.neg a) s h = (evE cf a s h).bind fun x h1 => match x with | .int i => .ok (.int (-i)) h1 | _ => .bad := by first | (rw [evE]; done) | (rw [evE]; rfl)
@[simp] theorem evE_not {a : CE} : evE cf (.not a) s h = (evE cf a s h).bind fun x h1 => match x with | .bl b => .ok (.bl (!b)) h1 | _ => .bad := by first | (rw [evE]; done) | (rw [evE]; rfl)
@[simp] theorem evE_and {a b : CE} : evE cf (.and a b) s h = (evE cf a s h).bind fun x h1 => x.ifB (evE cf b s h1) (.ok (.bl false) h1) := by first | (rw [evE]; done) | (rw [evE]; rfl) | (rw [evE]; congr 1; funext x h1; cases x <;> first | rfl | (rename_i p; cases p <;> rfl))
@[simp] theorem evE_or {a b : CE} : evE cf (.or a b) s h = (evE cf a s h).bind fun x h1 => x.ifB (.ok (.bl true) h1) (evE cf b s h1) := by first | (rw [evE]; done) | (rw [evE]; rfl) | (rw [evE]; congr 1; funext x h1; cases x <;> first | rfl | (rename_i p; cases p <;> rfl))
@[simp] theorem evE_cmp {op : CmpO} {a b : CE} : evE cf (.cmp op a b) s h = (evE cf a s h).bind fun x h1 => (evE cf b s h1).bind fun y h2 => cmpop op x y h2 := by first | (rw [evE]; done) | (rw [evE]; rfl)
@[simp] theorem evE_chn {op op' : CmpO} {a b c : CE} : evE cf (.chn op op' a b c) s h = (evE cf a s h).bind fun x h1 => (evE cf b s h1).bind fun y h2 => (cmpop op x y h2).bind fun r h3 =>
      r.ifB ((evE cf c s h3).bind fun z h4 => cmpop op' y z h4) (.ok (.bl false) h3) := by first | (rw [evE]; done) | (rw [evE]; rfl) | (rw [evE]; congr 1; funext x h1; cases x <;> first | rfl | (rename_i p; cases p <;> rfl))
@[simp] theorem evE_ite {c a b : CE} : evE cf (.ite c a b) s h = (evE cf c s h).bind fun x h1 => x.ifB (evE cf a s h1) (evE cf b s h1) := by first | (rw [evE]; done) | (rw [evE]; rfl) | (rw [evE]; congr 1; funext x h1; cases x <;> first | rfl | (rename_i p; cases p <;> rfl))
@[simp] theorem evE_tup {es : CA} : evE cf (.tup es) s h = (evA cf es s h).bind fun xs h1 => if xs.length ≤ many then .ok (.tup xs) h1 else .bad := by first | (rw [evE]; done) | (rw [evE]; rfl)
@[simp] theorem evE_lst {es : CA} : evE cf (.lst es) s h = (evA cf es s h).bind fun xs h1 => if xs.length ≤ many then alloc xs h1 else .bad := by first | (rw [evE]; done) | (rw [evE]; rfl)
@[simp] theorem evE_idx {a b : CE} : evE cf (.idx a b) s h = (evE cf a s h).bind fun x h1 => (evE cf b s h1).bind fun y h2 => idxop x y h2 := by first | (rw [evE]; done) | (rw [evE]; rfl)
@[simp] theorem evE_two {a : CE} {k : CO} : evE cf (.two a k) s h = (evE cf a s h).bind fun x h1 => (evO cf k s h1).bind fun l h2 => (optI h2 l).bind fun l h3 => twoop x l h3 := by first | (rw [evE]; done) | (rw [evE]; rfl)
@[simp] theorem evE_slc {a : CE} {lo hi : CO} : evE cf (.slc a lo hi) s h = (evE cf a s h).bind fun x h1 => (evO cf lo s h1).bind fun l h2 => (evO cf hi s h2).bind fun u h3 =>
      (optI h3 l).bind fun l h3 => (optI h3 u).bind fun u h3 => slcop x l u h3 := by first | (rw [evE]; done) | (rw [evE]; rfl)
@[simp] theorem evE_rev {a : CE} : evE cf (.rev a) s h = (evE cf a s h).bind fun x h1 => revop x h1 := by first | (rw [evE]; done) | (rw [evE]; rfl)
@[simp] theorem evE_call {f : Nat} {es : CA} : evE cf (.call f es) s h = (evA cf es s h).bind fun xs h1 => cf f xs h1 := by first | (rw [evE]; done) | (rw [evE]; rfl)
@[simp] theorem evE_callv {i : Nat} {es : CA} : evE cf (.callv i es) s h = match s[i]? with | some (some (.fn f)) => (evA cf es s h).bind fun xs h1 => cf f xs h1 | _ => .bad := by first | (rw [evE]; done) | (rw [evE]; rfl)
@[simp] theorem evE_blt {b : Blt} {es : CA} : evE cf (.blt b es) s h = (evA cf es s h).bind fun xs h1 => blt b xs h1 := by first | (rw [evE]; done) | (rw [evE]; rfl)
@[simp] theorem evE_mth {m : Mth} {o : CE} {es : CA} : evE cf (.mth m o es) s h = (evE cf o s h).bind fun x h1 => (evA cf es s h1).bind fun xs h2 => mth m x xs h2 := by first | (rw [evE]; done) | (rw [evE]; rfl)
/-- one turn of a comprehension -/
def compF (cf : Nat → List PV → PH → Res PV) (e : CE) (own : List Nat) (tg : CT) (c : CO) (s : Sl) (x : PV) (h2 : PH) : Res (Option PV) :=
  (asT cf tg x (wipe s own) h2).bind fun s3 h3 => (evO cf c s3 h3).bind fun t h4 =>
        match t with
        | some (.bl false) => .ok none h4
        | some (.bl true) => (evE cf e s3 h4).bind fun y h5 => .ok (some y) h5
        | none => (evE cf e s3 h4).bind fun y h5 => .ok (some y) h5
        | _ => .bad
@[simp] theorem evE_comp {e : CE} {own : List Nat} {tg : CT} {it : CI} {c : CO} : evE cf (.comp e own tg it c) s h = (evI cf it s h).bind fun p h1 => if p.1.length ≤ many then
      (compL (compF cf e own tg c s) p.2 p.1 h1).bind (fun ys h2 => alloc ys h2) else .bad := by first | (rw [evE]; done) | (rw [evE]; rfl)
@[simp] theorem evA_nil : evA cf .nil s h = .ok [] h := by first | (rw [evA]; done) | (rw [evA]; rfl)
@[simp] theorem evA_cons {e : CE} {r : CA} : evA cf (.cons e r) s h = (evE cf e s h).bind fun x h1 => (evA cf r s h1).bind fun xs h2 => .ok (x :: xs) h2 := by first | (rw [evA]; done) | (rw [evA]; rfl)
@[simp] theorem evA_star {e : CE} {r : CA} : evA cf (.star e r) s h = (evE cf e s h).bind fun x h1 => match items h1 x with
    | some ys => (evA cf r s h1).bind fun xs h2 => .ok (ys ++ xs) h2
    | none => .bad := by first | (rw [evA]; done) | (rw [evA]; rfl)
@[simp] theorem evO_none : evO cf .none s h = .ok none h := by first | (rw [evO]; done) | (rw [evO]; rfl)
@[simp] theorem evO_some {e : CE} : evO cf (.some e) s h = (evE cf e s h).bind fun x h1 => .ok (some x) h1 := by first | (rw [evO]; done) | (rw [evO]; rfl)
@[simp] theorem evI_seq {e : CE} : evI cf (.seq e) s h = (evE cf e s h).bind fun x h1 => match items h1 x with | some xs => .ok (xs, leanOf h1 x) h1 | none => .bad := by first | (rw [evI]; done) | (rw [evI]; rfl)
@[simp] theorem evI_rng1 {es : CA} : evI cf (.rng1 es) s h = (evA cf es s h).bind fun xs h1 => match xs with
    | [.int b] => if -bigR ≤ b ∧ b ≤ bigR then .ok (range 0 b.toNat 1, []) h1 else .bad
    | _ => .bad := by first | (rw [evI]; done) | (rw [evI]; rfl)
@[simp] theorem evI_rng2 {es : CA} : evI cf (.rng2 es) s h = (evA cf es s h).bind fun xs h1 => match xs with
    | [.int a, .int b] => if -bigR ≤ a ∧ a ≤ bigR ∧ -bigR ≤ b ∧ b ≤ bigR then .ok (range a (b - a).toNat 1, []) h1 else .bad
    | _ => .bad := by first | (rw [evI]; done) | (rw [evI]; rfl)
@[simp] theorem evI_rng3 {es : CA} : evI cf (.rng3 es) s h = (evA cf es s h).bind fun xs h1 => match xs with
    | [.int a, .int b, .int c] => if -bigR ≤ a ∧ a ≤ bigR ∧ -bigR ≤ b ∧ b ≤ bigR ∧ c = -1 then .ok (range a (a - b).toNat (-1), []) h1 else .bad
    | _ => .bad := by first | (rw [evI]; done) | (rw [evI]; rfl)
@[simp] theorem evI_enu {es : CA} : evI cf (.enu es) s h = (evA cf es s h).bind fun xs h1 => match xs with
    | [x] => match items h1 x with | some ys => .ok (enums 0 ys, leanOf h1 x) h1 | none => .bad
    | _ => .bad := by first | (rw [evI]; done) | (rw [evI]; rfl)
@[simp] theorem evI_zip {es : CA} : evI cf (.zip es) s h = (evA cf es s h).bind fun xs h1 => match xs with
    | [x, y] => match items h1 x, items h1 y with
      | some us, some ws => .ok (zips us ws, leanOf h1 x ++ leanOf h1 y) h1
      | _, _ => .bad
    | _ => .bad := by first | (rw [evI]; done) | (rw [evI]; rfl)
@[simp] theorem asT_v {i : Nat} {x : PV} : asT cf (.v i) x s h = .ok (s.set i (some x)) h := by first | (rw [asT]; done) | (rw [asT]; rfl)
@[simp] theorem asT_s {o i : CE} {x : PV} : asT cf (.s o i) x s h = (evE cf o s h).bind fun ov h1 => (evE cf i s h1).bind fun iv h2 => (setop ov iv x h2).bind fun _ h3 => .ok s h3 := by first | (rw [asT]; done) | (rw [asT]; rfl)
@[simp] theorem asT_wcons {a r : CT} {x : PV} {xs : List PV} : asT cf (.cons a r) (.wtup (x :: xs)) s h = (asT cf a x s h).bind fun s1 h1 => asTs cf r xs s1 h1 := by first | (rw [asT]; done) | (rw [asT]; rfl)
@[simp] theorem asT_rcons {a r : CT} {n : Nat} {x : PV} {xs : List PV} (hx : h[n]? = some (.lst (x :: xs))) : asT cf (.cons a r) (.ref n) s h = (asT cf a x s h).bind fun s1 h1 => asTs cf r xs s1 h1 := by first | (rw [asT, hx]; done) | (rw [asT, hx]; rfl) | (rw [asT]; simp only [hx])
@[simp] theorem asT_cons {a r : CT} {x : PV} {xs : List PV} : asT cf (.cons a r) (.tup (x :: xs)) s h = (asT cf a x s h).bind fun s1 h1 => asTs cf r xs s1 h1 := by first | (rw [asT]; done) | (rw [asT]; rfl)
@[simp] theorem asTs_cons {a r : CT} {x : PV} {xs : List PV} : asTs cf (.cons a r) (x :: xs) s h = (asT cf a x s h).bind fun s1 h1 => asTs cf r xs s1 h1 := by first | (rw [asTs]; done) | (rw [asTs]; rfl)
@[simp] theorem asTs_nil : asTs cf .nil [] s h = .ok s h := by first | (rw [asTs]; done) | (rw [asTs]; rfl)
@[simp] theorem evS_asg {t : CT} {e : CE} : evS cf (.asg t e) s h = (evE cf e s h).bind fun x h1 => (asT cf t x s h1).bind fun s2 h2 => .ok (.nx s2) h2 := by first | (rw [evS]; done) | (rw [evS]; rfl)
@[simp] theorem evS_par {is : List Nat} {es : CA} : evS cf (.par is es) s h = (evA cf es s h).bind fun xs h1 => match setAll is xs s with | some s2 => .ok (.nx s2) h1 | none => .bad := by first | (rw [evS]; done) | (rw [evS]; rfl)
@[simp] theorem evS_aug {i : Nat} {op : BinO} {e : CE} : evS cf (.aug i op e) s h = match s[i]? with
    | some (some x) => (evE cf e s h).bind fun y h1 => if isNum x = true ∧ isNum y = true then
        (binop op x y h1).bind fun z h2 => .ok (.nx (s.set i (some z))) h2 else .bad
    | _ => .bad := by first | (rw [evS]; done) | (rw [evS]; rfl)
@[simp] theorem evS_expr {e : CE} : evS cf (.expr e) s h = (evE cf e s h).bind fun _ h1 => .ok (.nx s) h1 := by first | (rw [evS]; done) | (rw [evS]; rfl)
@[simp] theorem evS_ret {e : CE} : evS cf (.ret e) s h = (evE cf e s h).bind fun x h1 => .ok (.rt x) h1 := by first | (rw [evS]; done) | (rw [evS]; rfl)
@[simp] theorem evS_retN : evS cf .retN s h = .ok (.rt .non) h := by first | (rw [evS]; done) | (rw [evS]; rfl)
@[simp] theorem evS_ifs {c : CE} {a b : CB} : evS cf (.ifs c a b) s h = (evE cf c s h).bind fun x h1 => x.ifB (evB cf a s h1) (evB cf b s h1) := by first | (rw [evS]; done) | (rw [evS]; rfl) | (rw [evS]; congr 1; funext x h1; cases x <;> first | rfl | (rename_i p; cases p <;> rfl))
@[simp] theorem evS_whl {c : CE} {b : CB} : evS cf (.whl c b) s h = whL (evE cf c) (evB cf b) fuel s h := by first | (rw [evS]; done) | (rw [evS]; rfl)
@[simp] theorem evS_for {t : CT} {it : CI} {b : CB} : evS cf (.for_ t it b) s h = (evI cf it s h).bind fun p h1 => frL (asT cf t) (evB cf b) p.2 p.1 s h1 := by first | (rw [evS]; done) | (rw [evS]; rfl)
@[simp] theorem evS_brk : evS cf .brk s h = .ok (.bk s) h := by first | (rw [evS]; done) | (rw [evS]; rfl)
@[simp] theorem evS_cnt : evS cf .cnt s h = .ok (.ct s) h := by first | (rw [evS]; done) | (rw [evS]; rfl)
@[simp] theorem evS_pass : evS cf .pass s h = .ok (.nx s) h := by first | (rw [evS]; done) | (rw [evS]; rfl)
@[simp] theorem evS_raise {c : Nat} {es : CA} : evS cf (.raise c es) s h = (evA cf es s h).bind fun xs h1 => if xs.all payOk = true then .exc c (.tup xs) h1 else .bad := by first | (rw [evS]; done) | (rw [evS]; rfl)
theorem evS_try {b : CB} {hs : CH} : evS cf (.try_ b hs) s h = match evB cf b s h with | .exc c v h1 => evH cf hs c v s h1 | r => r := by first | (rw [evS]; done) | (rw [evS]; rfl)
theorem evH_nil {c : Nat} {v : PV} : evH cf .nil c v s h = .exc c v h := by first | (rw [evH]; done) | (rw [evH]; rfl)
theorem evH_cons {cs : List Nat} {i : Nat} {b : CB} {r : CH} {c : Nat} {v : PV} : evH cf (.cons cs i b r) c v s h = if cs.contains c = true then (evB cf b (s.set i (some (excV c v))) h).bind fun f h1 => .ok (endX i f) h1 else evH cf r c v s h := by first | (rw [evH]; done) | (rw [evH]; rfl)
theorem evE_xfld {i : Nat} {f : Str} : evE cf (.xfld i f) s h = match s[i]? with
    | some (some (.tup [.int _, .str g, x])) => if g = f then .ok x h else .bad
    | _ => .bad := by first | (rw [evE]; done) | (rw [evE]; rfl)
theorem evE_xis {i : Nat} {cs : List Nat} : evE cf (.xis i cs) s h = match s[i]? with
    | some (some (.tup (.int c :: _))) => .ok (.bl (cs.contains c.toNat)) h
    | _ => .bad := by first | (rw [evE]; done) | (rw [evE]; rfl)
theorem evE_lam {b : CE} {wf : (PH → Res PV) → PH → Res PV} : evE cf (.lam b wf) s h = wf (evE cf b s) h := by first | (rw [evE]; done) | (rw [evE]; rfl)
@[simp] theorem evB_nil : evB cf .nil s h = .ok (.nx s) h := by first | (rw [evB]; done) | (rw [evB]; rfl)
@[simp] theorem evB_cons {st : CS} {r : CB} : evB cf (.cons st r) s h = (evS cf st s h).bind fun f h1 => match f with
    | .nx s2 => evB cf r s2 h1
    | f => .ok f h1 := by first | (rw [evB]; done) | (rw [evB]; rfl)
theorem callF_eq {G : Nat → Option Fn} {k i : Nat} {args : List PV} {f : Fn} (hG : G i = some f) (hl : args.length = f.np) :
    callF G (k + 1) i args h = (evB (callF G k) f.body (startP f.ns args) h).bind (outF h) := by
  rw [callF, hG]
  simp only
  rw [if_pos hl]
end
end PB

set_option Elab.async false
set_option linter.all false
set_option maxRecDepth 100000
set_option maxHeartbeats 1000000
namespace PB
open PySem PySem.Spec PyProof.Rows L2

/-! ### a list that never changes: locked, or of the written part -/
def SqF (K : PySem.W.Frag) (H : Hp) (a : Addr) (vs : List V) : Prop := (∃ o, H a = some (.frz o (.lst vs))) ∨
    ∃ (o : Obj) (its : Array Value) (n : Nat), K.lookup a = some o ∧ o.cls = .type "list" ∧ o.dict = none ∧ o.data = .seq its n ∧ its.size ≤ sizeLine ∧ Vals vs its.toList
/-- a tuple without a dict: locked, or of the written part -/
def SqN (K : PySem.W.Frag) (H : Hp) (a : Addr) (vs : List V) : Prop := (∃ o : Obj, H a = some (.frz o (.tup vs)) ∧ o.dict = none) ∨
    ∃ (o : Obj) (its : Array Value) (n : Nat), K.lookup a = some o ∧ o.cls = .type "tuple" ∧ o.dict = none ∧ o.data = .seq its n ∧ its.size ≤ sizeLine ∧ Vals vs its.toList
theorem SqN.t {K : PySem.W.Frag} {H : Hp} {a : Addr} {vs : List V} (h : SqN K H a vs) : SqT K H a vs := by
  rcases h with ⟨o, h, _⟩ | ⟨o, its, n, h1, h2, _, h3⟩
  · exact .inl (.inr ⟨o, h⟩)
  · exact .inr ⟨o, its, n, h1, h2, h3⟩
/-- the type, no dict -/
theorem SqN.ty {X : Cx} {pins : List (Addr × Obj)} {σ : L2.St} {H : Hp} {s : Shared} {a : Addr} {vs : List V} (I : Inv X pins σ H s) (h : SqN X.K H a vs) : s.TypeIs (.ref a) "tuple" ∧ ∃ ob, s.heap.get? a = some ob ∧ ob.dict = none := by
  obtain ⟨its, _, p, _⟩ := I.tuple h.t
  refine ⟨p.typeIs, ?_⟩
  rcases h with ⟨o, h, hd⟩ | ⟨o, _, _, h1, _, hd, _⟩
  · have z := I.hok a _ h
    have z' : s.heap.get? a = some o ∧ ObjOk X.prog X.w H s.heap a (.tup vs) := z
    exact ⟨o, z'.1, hd⟩
  · exact ⟨o, I.kIn a o h1, hd⟩
theorem SqF.l {K : PySem.W.Frag} {H : Hp} {a : Addr} {vs : List V} (h : SqF K H a vs) : SqL K H a vs := by
  rcases h with ⟨o, h⟩ | h
  · exact .inl (.inr ⟨o, h⟩)
  · exact .inr h

/-- the exception in hand, in an except suite: its slot, where it lies, its dict, what stands for it -/
structure XA where
  i : Nat
  a : Addr
  d : Option Addr
  fs : List (Str × V)
  pv : PV
/-- defs as values; classes of exceptions; the exception in hand -/
structure FA where
  fn : Nat → Option Addr
  cl : Nat → Option Addr
  xa : Option XA
  tb : List (Addr × Str)
def FA.xok (fa : FA) (i : Nat) : Bool := match fa.xa with | none => true | some x => decide (i ≠ x.i)
section
variable (K : PySem.W.Frag) (fa : FA)
mutual
/-- a value stands for a pure one -/
inductive Rl (io : List Addr) (H : Hp) : V → PV → Prop
  | non : Rl io H .non .non
  | bl (b : Bool) : Rl io H (.bl b) (.bl b)
  | int (i : Int) : Rl io H (.int i) (.int i)
  | str (x : Str) : Rl io H (.str x) (.str x)
  | tup {a : Addr} {vs : List V} {xs : List PV} : SqN K H a vs → Rls io H vs xs → Rl io H (.ref a) (.tup xs)
  | wtup {a : Addr} {vs : List V} {xs : List PV} : SqT K H a vs → Rls io H vs xs → Rl io H (.ref a) (.wtup xs)
  | scr {a : Addr} {vs : List V} {xs : List PV} : SqF K H a vs → Rls io H vs xs → Rl io H (.ref a) (.scr xs)
  | ref {a : Addr} {n : Nat} : io[n]? = some a → Rl io H (.ref a) (.ref n)
  | fn {a : Addr} {n : Nat} : fa.fn n = some a → Rl io H (.ref a) (.fn n)
  | dct {a : Addr} : H a = some (.dK []) → Rl io H (.ref a) .dct
inductive Rls (io : List Addr) (H : Hp) : List V → List PV → Prop
  | nil : Rls io H [] []
  | cons {v : V} {x : PV} {vs : List V} {xs : List PV} : Rl io H v x → Rls io H vs xs → Rls io H (v :: vs) (x :: xs)
end
/-- the pure heap is borne -/
structure RH (io : List Addr) (H : Hp) (h : PH) : Prop where
  len : io.length = h.length
  nd : io.Nodup
  cell : ∀ (n : Nat) (xs : List PV), h[n]? = some (.lst xs) → ∃ a vs, io[n]? = some a ∧ H a = some (.lst vs) ∧ Rls K fa io H vs xs
  tab : LamX.Tabs fa.tb H
/-- no object, or a table that grows -/
def Nt (H : Hp) (a : Addr) : Prop := H a = none ∨ ∃ ps, H a = some (.tbl ps)
/-- what grows: new lists, tables of code objects; all else stands -/
structure Ext (io : List Addr) (H : Hp) (io' : List Addr) (H' : Hp) : Prop where
  more : ∃ t, io' = io ++ t ∧ ∀ p ∈ t, Nt H p
  stay : ∀ a o, H a = some o → (a ∉ io ∨ ∀ xs, o ≠ .lst xs) → (∀ ps, o ≠ .tbl ps) → H' a = some o
  there : ∀ a, Nt H' a → Nt H a
/-- the slots -/
structure RS (io : List Addr) (H : Hp) (sg : L2.St) (s : Sl) : Prop where
  len : sg.length = s.length
  at_ : ∀ (i : Nat) (x : PV), fa.xok i = true → s[i]? = some (some x) → ∃ v, sg[i]? = some (some v) ∧ Rl K fa io H v x
  ex : ∀ x : XA, fa.xa = some x → sg[x.i]? = some (some (.ref x.a)) ∧ s[x.i]? = some (some x.pv) ∧ ∀ d, x.d = some d → H d = some (.xd x.fs)
end

section
variable {K : PySem.W.Frag} {fa : FA} {io io1 io2 : List Addr} {H H1 H2 : Hp}
theorem Nt.no {a : Addr} {o : HO} (n : Nt H a) (h : H a = some o) (k : ∀ ps, o ≠ .tbl ps) : False := by
  rcases n with n | ⟨ps, n⟩
  · rw [n] at h; cases h
  · rw [n] at h; cases h; exact k ps rfl
theorem tbl_ne {o : HO} (a : Nat) (q : Str) (ps : Array Value) : LamX.CodeO a q ≠ .tbl ps := LamX.codeO_ne ps
theorem code_ne_lst {c : Addr} {q : Str} (xs : List V) : LamX.CodeO c q ≠ .lst xs := fun z => by
  unfold LamX.CodeO at z
  cases z
/-- tables stay where all but lists stays -/
theorem tabs_of (s : ∀ a o, H a = some o → (∀ xs, o ≠ .lst xs) → H1 a = some o) : ∀ T, LamX.Tabs T H → LamX.Tabs T H1 := fun T t p hp => by
  obtain ⟨ps, h1, h2, h3⟩ := t p hp
  refine ⟨ps, s _ _ h1 (fun _ z => nomatch z), h2, fun pos cv hc => ?_⟩
  obtain ⟨c, e1, e2⟩ := h3 pos cv hc
  exact ⟨c, e1, s _ _ e2 code_ne_lst⟩
theorem tabs_new {T : List (Addr × Str)} {p : Addr} {o : HO} (hp : H p = none) (t : LamX.Tabs T H) : LamX.Tabs T (upd H p o) := tabs_of (fun a u h _ => by rw [upd_ne (ne_of_none h hp)]; exact h) T t
theorem tabs_write {T : List (Addr × Str)} {a : Addr} {vs ws : List V} (hv : H a = some (.lst ws)) (t : LamX.Tabs T H) : LamX.Tabs T (upd H a (.lst vs)) := tabs_of (fun b u h hn => by
  have nb : b ≠ a := by
    rintro rfl
    rw [hv] at h; cases h; exact hn ws rfl
  rw [upd_ne nb]; exact h) T t
theorem Ext.refl : Ext io H io H := ⟨⟨[], by simp, fun _ h => nomatch h⟩, fun _ _ h _ _ => h, fun _ h => h⟩
theorem Ext.trans (a : Ext io H io1 H1) (b : Ext io1 H1 io2 H2) : Ext io H io2 H2 := by
  obtain ⟨t, e1, f1⟩ := a.more
  obtain ⟨u, e2, f2⟩ := b.more
  subst e1; subst e2
  refine ⟨⟨t ++ u, by simp, fun p hp => ?_⟩, fun c o hc hn hk => ?_, fun c h => a.there c (b.there c h)⟩
  · rcases List.mem_append.mp hp with hp | hp
    · exact f1 p hp
    · exact a.there p (f2 p hp)
  · have h1 := a.stay c o hc hn hk
    refine b.stay c o h1 ?_ hk
    rcases hn with hn | hn
    · left
      intro hm
      rcases List.mem_append.mp hm with hm | hm
      · exact hn hm
      · exact (f1 c hm).no hc hk
    · exact .inr hn
theorem Ext.at_ (e : Ext io H io1 H1) {n : Nat} {a : Addr} (h : io[n]? = some a) : io1[n]? = some a := by
  obtain ⟨t, rfl, _⟩ := e.more
  have hl := (List.getElem?_eq_some_iff.mp h).1
  rw [List.getElem?_append_left hl]; exact h
theorem Ext.sqT (e : Ext io H io1 H1) {a : Addr} {vs : List V} (h : SqT K H a vs) : SqT K H1 a vs := by
  rcases h with (h | ⟨o, h⟩) | h
  · exact .inl (.inl (e.stay _ _ h (.inr fun _ z => nomatch z) (fun _ z => nomatch z)))
  · exact .inl (.inr ⟨o, e.stay _ _ h (.inr fun _ z => nomatch z) (fun _ z => nomatch z)⟩)
  · exact .inr h
theorem Ext.sqN (e : Ext io H io1 H1) {a : Addr} {vs : List V} (h : SqN K H a vs) : SqN K H1 a vs := by
  rcases h with ⟨o, h, hd⟩ | h
  · exact .inl ⟨o, e.stay _ _ h (.inr fun _ z => nomatch z) (fun _ z => nomatch z), hd⟩
  · exact .inr h
theorem Ext.sqF (e : Ext io H io1 H1) {a : Addr} {vs : List V} (h : SqF K H a vs) : SqF K H1 a vs := by
  rcases h with ⟨o, h⟩ | h
  · exact .inl ⟨o, e.stay _ _ h (.inr fun _ z => nomatch z) (fun _ z => nomatch z)⟩
  · exact .inr h
mutual
theorem Rl.mono (e : Ext io H io1 H1) : ∀ {v : V} {x : PV}, Rl K fa io H v x → Rl K fa io1 H1 v x
  | _, _, .non => .non
  | _, _, .bl b => .bl b
  | _, _, .int i => .int i
  | _, _, .str x => .str x
  | _, _, .tup h r => .tup (e.sqN h) (Rls.mono e r)
  | _, _, .wtup h r => .wtup (e.sqT h) (Rls.mono e r)
  | _, _, .scr h r => .scr (e.sqF h) (Rls.mono e r)
  | _, _, .ref h => .ref (e.at_ h)
  | _, _, .fn h => .fn h
  | _, _, .dct h => .dct (e.stay _ _ h (.inr fun _ z => nomatch z) (fun _ z => nomatch z))
theorem Rls.mono (e : Ext io H io1 H1) : ∀ {v : List V} {x : List PV}, Rls K fa io H v x → Rls K fa io1 H1 v x
  | _, _, .nil => .nil
  | _, _, .cons a r => .cons (Rl.mono e a) (Rls.mono e r)
end
theorem RS.mono (e : Ext io H io1 H1) {sg : L2.St} {s : Sl} (r : RS K fa io H sg s) : RS K fa io1 H1 sg s :=
  ⟨r.len, fun i x hx h => let ⟨v, h1, h2⟩ := r.at_ i x hx h; ⟨v, h1, h2.mono e⟩, fun x h => let ⟨h1, h2, h3⟩ := r.ex x h; ⟨h1, h2, fun d hd => e.stay _ _ (h3 d hd) (.inr fun _ z => nomatch z) (fun _ z => nomatch z)⟩⟩
/-! the exception in hand stands in no value -/
mutual
theorem Rl.swap {fb : FA} (hf : fa.fn = fb.fn) : ∀ {v : V} {x : PV}, Rl K fa io H v x → Rl K fb io H v x
  | _, _, .non => .non
  | _, _, .bl b => .bl b
  | _, _, .int i => .int i
  | _, _, .str x => .str x
  | _, _, .tup h r => .tup h (Rls.swap hf r)
  | _, _, .wtup h r => .wtup h (Rls.swap hf r)
  | _, _, .scr h r => .scr h (Rls.swap hf r)
  | _, _, .ref h => .ref h
  | _, _, .fn h => .fn (by rw [← hf]; exact h)
  | _, _, .dct h => .dct h
theorem Rls.swap {fb : FA} (hf : fa.fn = fb.fn) : ∀ {v : List V} {x : List PV}, Rls K fa io H v x → Rls K fb io H v x
  | _, _, .nil => .nil
  | _, _, .cons a r => .cons (Rl.swap hf a) (Rls.swap hf r)
end
theorem RH.swap {fb : FA} {h : PH} (hf : fa.fn = fb.fn) (r : RH K fa io H h) (ht : fa.tb = fb.tb := by rfl) : RH K fb io H h :=
  ⟨r.len, r.nd, fun n xs hx => let ⟨a, vs, e1, e2, e3⟩ := r.cell n xs hx; ⟨a, vs, e1, e2, e3.swap hf⟩, ht ▸ r.tab⟩
theorem Rls.length : ∀ {vs : List V} {xs : List PV}, Rls K fa io H vs xs → vs.length = xs.length
  | _, _, .nil => rfl
  | _, _, .cons _ r => by rw [List.length_cons, List.length_cons, Rls.length r]
theorem Rls.get : ∀ {vs : List V} {xs : List PV} {i : Nat} {x : PV}, Rls K fa io H vs xs → xs[i]? = some x → ∃ v, vs[i]? = some v ∧ Rl K fa io H v x
  | _, _, _, _, .nil, h => by simp at h
  | _, _, 0, _, .cons a _, h => by simp at h; subst h; exact ⟨_, rfl, a⟩
  | _, _, i + 1, _, .cons _ r, h => by
    obtain ⟨v, h1, h2⟩ := Rls.get (i := i) r (by simpa using h)
    exact ⟨v, by simpa using h1, h2⟩
theorem Rls.append : ∀ {vs ws : List V} {xs ys : List PV}, Rls K fa io H vs xs → Rls K fa io H ws ys → Rls K fa io H (vs ++ ws) (xs ++ ys)
  | _, _, _, _, .nil, q => q
  | _, _, _, _, .cons a r, q => .cons a (Rls.append r q)
theorem Rls.take : ∀ {vs : List V} {xs : List PV} (n : Nat), Rls K fa io H vs xs → Rls K fa io H (vs.take n) (xs.take n)
  | _, _, 0, _ => .nil
  | _, _, _ + 1, .nil => .nil
  | _, _, n + 1, .cons a r => .cons a (Rls.take n r)
theorem Rls.drop : ∀ {vs : List V} {xs : List PV} (n : Nat), Rls K fa io H vs xs → Rls K fa io H (vs.drop n) (xs.drop n)
  | _, _, 0, r => r
  | _, _, _ + 1, .nil => .nil
  | _, _, n + 1, .cons _ r => Rls.drop n r
theorem Rls.set {v : V} {x : PV} (q : Rl K fa io H v x) : ∀ {vs : List V} {xs : List PV} (n : Nat), Rls K fa io H vs xs → Rls K fa io H (vs.set n v) (xs.set n x)
  | _, _, _, .nil => .nil
  | _, _, 0, .cons _ r => .cons q r
  | _, _, n + 1, .cons a r => .cons a (Rls.set q n r)
theorem Rls.reverse : ∀ {vs : List V} {xs : List PV}, Rls K fa io H vs xs → Rls K fa io H vs.reverse xs.reverse
  | _, _, .nil => .nil
  | _, _, .cons a r => by rw [List.reverse_cons, List.reverse_cons]; exact (Rls.reverse r).append (.cons a .nil)
theorem Rls.flat : ∀ (n : Nat) {vs : List V} {xs : List PV}, Rls K fa io H vs xs → Rls K fa io H (List.replicate n vs).flatten (List.replicate n xs).flatten
  | 0, _, _, _ => .nil
  | n + 1, _, _, r => by rw [List.replicate_succ, List.replicate_succ, List.flatten_cons, List.flatten_cons]; exact r.append (Rls.flat n r)
theorem Rls.dropLast {vs : List V} {xs : List PV} (r : Rls K fa io H vs xs) : Rls K fa io H vs.dropLast xs.dropLast := by
  rw [List.dropLast_eq_take, List.dropLast_eq_take, r.length]; exact r.take _
theorem Rls.ints : ∀ {vs : List V} {ns : List Int}, Rls K fa io H vs (ns.map PV.int) → vs = ns.map V.int
  | _, [], h => by cases h; rfl
  | _, n :: ns, h => by
    cases h with
    | cons a r => cases a; rw [Rls.ints r]; rfl
theorem Rls.of_ints : ∀ (ns : List Int), Rls K fa io H (ns.map V.int) (ns.map PV.int)
  | [] => .nil
  | n :: ns => .cons (.int n) (Rls.of_ints ns)
theorem Rls.bls : ∀ {vs : List V} {bs : List Bool}, Rls K fa io H vs (bs.map PV.bl) → vs = bs.map V.bl
  | _, [], h => by cases h; rfl
  | _, b :: bs, h => by
    cases h with
    | cons a r => cases a; rw [Rls.bls r]; rfl

/-! ### the heap's changes -/
theorem RH.lt (r : RH K fa io H h) {n : Nat} {a : Addr} (e : io[n]? = some a) : n < h.length := by
  rw [← r.len]; exact (List.getElem?_eq_some_iff.mp e).1
theorem RH.addr (r : RH K fa io H h) {n : Nat} {a : Addr} (e : io[n]? = some a) : ∃ xs vs, h[n]? = some (.lst xs) ∧ H a = some (.lst vs) ∧ Rls K fa io H vs xs := by
  have hl := r.lt e
  obtain ⟨⟨xs⟩, hx⟩ : ∃ c, h[n]? = some c := ⟨h[n], List.getElem?_eq_getElem hl⟩
  obtain ⟨b, vs, e1, e2, e3⟩ := r.cell n xs hx
  rw [e] at e1; cases e1
  exact ⟨xs, vs, hx, e2, e3⟩
theorem RH.mem (r : RH K fa io H h) {a : Addr} (e : a ∈ io) : ∃ vs, H a = some (.lst vs) := by
  obtain ⟨n, hn, rfl⟩ := List.mem_iff_getElem.mp e
  obtain ⟨_, vs, _, h2, _⟩ := r.addr (List.getElem?_eq_getElem hn)
  exact ⟨vs, h2⟩
/-- a new object that is no list of ours -/
theorem ext_new {p : Addr} {o : HO} (hp : H p = none) : Ext io H io (upd H p o) := by
  refine ⟨⟨[], by simp, fun _ h => nomatch h⟩, fun a u h _ _ => ?_, fun a h => ?_⟩
  · rw [upd_ne (ne_of_none h hp)]; exact h
  · by_cases e : a = p
    · subst e; exact .inl hp
    · unfold Nt at h; rw [upd_ne e] at h; exact h
theorem RH.stay (r : RH K fa io H h) (e : Ext io H io H1) (k : ∀ a ∈ io, H1 a = H a) (ht : LamX.Tabs fa.tb H1) : RH K fa io H1 h :=
  ⟨r.len, r.nd, fun n xs hx => by
    obtain ⟨a, vs, e1, e2, e3⟩ := r.cell n xs hx
    exact ⟨a, vs, e1, by rw [k a (List.mem_of_getElem? e1)]; exact e2, e3.mono e⟩, ht⟩
theorem RH.new (r : RH K fa io H h) {p : Addr} {o : HO} (hp : H p = none) : RH K fa io (upd H p o) h := by
  refine r.stay (ext_new hp) (fun a ha => ?_) (tabs_new hp r.tab)
  obtain ⟨vs, e⟩ := r.mem ha
  rw [upd_ne (ne_of_none e hp)]
/-- a new list -/
theorem ext_lst {p : Addr} {o : HO} (hp : H p = none) : Ext io H (io ++ [p]) (upd H p o) := by
  refine ⟨⟨[p], rfl, fun q hq => ?_⟩, fun a u h _ _ => ?_, fun a h => ?_⟩
  · rw [List.mem_singleton] at hq; subst hq; exact .inl hp
  · rw [upd_ne (ne_of_none h hp)]; exact h
  · by_cases e : a = p
    · subst e; exact .inl hp
    · unfold Nt at h; rw [upd_ne e] at h; exact h
theorem RH.lst (r : RH K fa io H h) {p : Addr} {vs : List V} {xs : List PV} (hp : H p = none) (q : Rls K fa io H vs xs) : RH K fa (io ++ [p]) (upd H p (.lst vs)) (h ++ [.lst xs]) := by
  have e := ext_lst (io := io) (o := .lst vs) hp
  have np : p ∉ io := fun hm => by
    obtain ⟨ws, z⟩ := r.mem hm
    rw [hp] at z; cases z
  refine ⟨by simp [r.len], ?_, fun n ys hy => ?_, tabs_new hp r.tab⟩
  · rw [List.nodup_append]
    refine ⟨r.nd, by simp, fun a ha b hb => ?_⟩
    rw [List.mem_singleton] at hb
    subst hb
    rintro rfl
    exact np ha
  · by_cases hn : n < h.length
    · rw [List.getElem?_append_left hn] at hy
      obtain ⟨a, ws, e1, e2, e3⟩ := r.cell n ys hy
      exact ⟨a, ws, e.at_ e1, by rw [upd_ne (ne_of_none e2 hp)]; exact e2, e3.mono e⟩
    · rw [List.getElem?_append_right (by omega)] at hy
      have hz : n - h.length = 0 := by
        rcases Nat.eq_zero_or_pos (n - h.length) with z | z
        · exact z
        · rw [List.getElem?_eq_none (by simp; omega)] at hy; cases hy
      rw [hz] at hy
      simp at hy
      subst hy
      refine ⟨p, vs, ?_, upd_same, q.mono e⟩
      rw [List.getElem?_append_right (by rw [r.len]; omega), r.len, hz]
      rfl
theorem Ext.sub (e : Ext io H io1 H1) {a : Addr} (h : a ∈ io) : a ∈ io1 := by
  obtain ⟨t, rfl, _⟩ := e.more
  exact List.mem_append_left _ h
/-- a list is written -/
theorem ext_write {a : Addr} {vs : List V} (ha : a ∈ io) (hv : ∃ ws, H a = some (.lst ws)) : Ext io H io (upd H a (.lst vs)) := by
  obtain ⟨ws, hv⟩ := hv
  refine ⟨⟨[], by simp, fun _ h => nomatch h⟩, fun b u h hn _ => ?_, fun b h => ?_⟩
  · have nb : b ≠ a := by
      rintro rfl
      rcases hn with z | z
      · exact z ha
      · rw [hv] at h; cases h; exact z ws rfl
    rw [upd_ne nb]; exact h
  · by_cases e : b = a
    · subst e; unfold Nt at h; rw [upd_same] at h
      rcases h with h | ⟨_, h⟩ <;> cases h
    · unfold Nt at h; rw [upd_ne e] at h; exact h
theorem RH.write (r : RH K fa io H h) {n : Nat} {a : Addr} {vs : List V} {xs : List PV} (ha : io[n]? = some a) (q : Rls K fa io H vs xs) : RH K fa io (upd H a (.lst vs)) (h.set n (.lst xs)) := by
  obtain ⟨_, ws, _, hw, _⟩ := r.addr ha
  have e := ext_write (vs := vs) (List.mem_of_getElem? ha) ⟨ws, hw⟩
  refine ⟨by rw [List.length_set]; exact r.len, r.nd, fun m ys hy => ?_, tabs_write hw r.tab⟩
  by_cases hm : m = n
  · subst hm
    rw [List.getElem?_set_self (r.lt ha)] at hy
    simp at hy
    subst hy
    exact ⟨a, vs, ha, upd_same, q.mono e⟩
  · rw [List.getElem?_set_ne (Ne.symm hm)] at hy
    obtain ⟨b, us, e1, e2, e3⟩ := r.cell m ys hy
    have nb : b ≠ a := fun z => by
      subst z
      obtain ⟨l1, x1⟩ := List.getElem?_eq_some_iff.mp e1
      obtain ⟨l2, x2⟩ := List.getElem?_eq_some_iff.mp ha
      exact hm ((List.getElem_inj r.nd).mp (x1.trans x2.symm))
    exact ⟨b, us, e1, by rw [upd_ne nb]; exact e2, e3.mono e⟩

/-! ### what a value is, from its pure one -/
/-- a list or a tuple that may be read -/
def Sq (K : PySem.W.Frag) (H : Hp) (a : Addr) (vs : List V) : Prop := SqL K H a vs ∨ SqT K H a vs
theorem RH.items (r : RH K fa io H h) {v : V} {x : PV} {xs : List PV} (q : Rl K fa io H v x) (e : items h x = some xs) : ∃ a vs, v = .ref a ∧ Sq K H a vs ∧ Rls K fa io H vs xs := by
  cases q with
  | tup s q => cases e; exact ⟨_, _, rfl, .inr s.t, q⟩
  | scr s q => cases e; exact ⟨_, _, rfl, .inl s.l, q⟩
  | @ref a n hn =>
    simp only [PB.items] at e
    split at e <;> cases e
    rename_i hx
    obtain ⟨b, vs, e1, e2, e3⟩ := r.cell _ _ hx
    rw [hn] at e1; cases e1
    exact ⟨_, _, rfl, .inl (.inl (.inl e2)), e3⟩
  | _ => cases e
theorem RH.list (r : RH K fa io H h) {v : V} {n : Nat} {xs : List PV} (q : Rl K fa io H v (.ref n)) (e : h[n]? = some (.lst xs)) : ∃ a vs, v = .ref a ∧ io[n]? = some a ∧ H a = some (.lst vs) ∧ Rls K fa io H vs xs := by
  cases q with
  | ref hn =>
    obtain ⟨b, vs, e1, e2, e3⟩ := r.cell _ _ e
    rw [hn] at e1; cases e1
    exact ⟨_, _, rfl, hn, e2, e3⟩
theorem toDs_cons {f : PV → Option PyData} {x : PV} {r : List PV} {ds : List PyData} (h : toDs f (x :: r) = some ds) : ∃ d e, f x = some d ∧ toDs f r = some e ∧ ds = d :: e := by
  simp only [toDs] at h
  split at h <;> cases h
  exact ⟨_, _, by assumption, by assumption, rfl⟩
/-- the data of a value -/
theorem RH.data (r : RH K fa io H h) : ∀ (n : Nat) (v : V) (x : PV) (d : PyData), Rl K fa io H v x → toD h n x = some d → Dp K H v d ∧ PyData.canLay0 d = true ∧ PyData.depth d ≤ n := by
  intro n
  induction n with
  | zero =>
    intro v x d q e
    cases q with
    | non => simp only [toD] at e; cases e; exact ⟨.non, rfl, Nat.le_refl _⟩
    | bl b => simp only [toD] at e; cases e; exact ⟨.bl b, rfl, Nat.le_refl _⟩
    | int i => simp only [toD] at e; cases e; exact ⟨.int i, rfl, Nat.le_refl _⟩
    | str x =>
      simp only [toD] at e
      split at e
      · cases e; exact ⟨.str x, by assumption, Nat.le_refl _⟩
      · cases e
    | _ => simp [toD] at e
  | succ n ih =>
    have all : ∀ (vs : List V) (xs : List PV) (ds : List PyData), Rls K fa io H vs xs → toDs (toD h n) xs = some ds → DpAll K H vs ds ∧ PyData.canLayAll0 ds = true ∧ PyData.depthAll ds ≤ n := by
      intro vs xs
      induction xs generalizing vs with
      | nil => intro ds q e; cases q; simp only [toDs] at e; cases e; exact ⟨.nil, rfl, Nat.zero_le _⟩
      | cons x xs ih2 =>
        intro ds q e
        cases q with
        | cons a q =>
          obtain ⟨d, e', h1, h2, rfl⟩ := toDs_cons e
          obtain ⟨g1, g2, g3⟩ := ih _ _ _ a h1
          obtain ⟨k1, k2, k3⟩ := ih2 _ _ q h2
          refine ⟨.cons g1 k1, ?_, ?_⟩
          · simp only [PyData.canLayAll0, Bool.and_eq_true]; exact ⟨g2, k2⟩
          · simp only [PyData.depthAll]; omega
    intro v x d q e
    cases q with
    | non => simp only [toD] at e; cases e; exact ⟨.non, rfl, Nat.zero_le _⟩
    | bl b => simp only [toD] at e; cases e; exact ⟨.bl b, rfl, Nat.zero_le _⟩
    | int i => simp only [toD] at e; cases e; exact ⟨.int i, rfl, Nat.zero_le _⟩
    | str x =>
      simp only [toD] at e
      split at e
      · cases e; exact ⟨.str x, by assumption, Nat.zero_le _⟩
      · cases e
    | @tup a vs xs s q =>
      simp only [toD] at e
      cases z : toDs (toD h n) xs with
      | none => rw [z] at e; cases e
      | some ds =>
        rw [z] at e; cases e
        obtain ⟨k1, k2, k3⟩ := all _ _ _ q z
        exact ⟨.tup s.t k1, k2, by simp only [PyData.depth]; omega⟩
    | @scr a vs xs s q =>
      simp only [toD] at e
      cases z : toDs (toD h n) xs with
      | none => rw [z] at e; cases e
      | some ds =>
        rw [z] at e; cases e
        obtain ⟨k1, k2, k3⟩ := all _ _ _ q z
        exact ⟨.lst s.l k1, k2, by simp only [PyData.depth]; omega⟩
    | @ref a m hm =>
      simp only [toD] at e
      split at e
      · rename_i xs hx
        cases z : toDs (toD h n) xs with
        | none => rw [z] at e; cases e
        | some ds =>
          rw [z] at e; cases e
          obtain ⟨b, vs, e1, e2, e3⟩ := r.cell _ _ hx
          rw [hm] at e1; cases e1
          obtain ⟨k1, k2, k3⟩ := all _ _ _ e3 z
          exact ⟨.lst (.inl (.inl e2)) k1, k2, by simp only [PyData.depth]; omega⟩
      · cases e
    | fn hf => simp [toD] at e
    | dct hf => simp [toD] at e
    | wtup _ _ => simp [toD] at e
theorem RH.eqD (r : RH K fa io H h) {v w : V} {x y : PV} {b : Bool} (q : Rl K fa io H v x) (q' : Rl K fa io H w y) (e : eqD h x y = some b) :
    ∃ d d', Dp K H v d ∧ Dp K H w d' ∧ SeqAt.shaped d = true ∧ SeqAt.shaped d' = true ∧ PyData.depth d ≤ 12 ∧ PyData.depth d' ≤ 12 ∧ toD h 12 x = some d ∧ toD h 12 y = some d' ∧ PyData.eqv d d' = b := by
  unfold PB.eqD at e
  split at e
  · rename_i d d' e1 e2
    cases e
    obtain ⟨a1, a2, a3⟩ := r.data 12 v x d q e1
    obtain ⟨b1, b2, b3⟩ := r.data 12 w y d' q' e2
    have sh : ∀ z : PyData, PyData.canLay0 z = true → PyData.depth z ≤ 12 → SeqAt.shaped z = true := fun z h1 h2 => by
      unfold SeqAt.shaped
      rw [h1, Bool.true_and]
      exact decide_eq_true (by omega)
    exact ⟨d, d', a1, b1, sh d a2 a3, sh d' b2 b3, a3, b3, e1, e2, rfl⟩
  · cases e
end
end PB

set_option Elab.async false
set_option linter.all false
set_option maxRecDepth 100000
set_option maxHeartbeats 4000000
namespace PB
open PySem PySem.Spec PyProof.Rows L2
/-! ### new tuples, known to have no dict -/
def NewT (Q : VK) (H : Hp) (vs : List V) : Prop := ∀ (p : Addr) (o : Obj), H p = none → o.dict = none → Q (.ref p) (upd H p (.frz o (.tup vs)))
theorem new_tup {P : Program} {w : World} {H : Hp} {h : Heap} {vs : List V} {its : List Value} (hz : vs.length ≤ sizeLine) (r : Vals vs its) :
    ObjOk P w H (h.push { cls := .type "tuple", data := .seq its.toArray }) h.objs.size (.frz { cls := .type "tuple", data := .seq its.toArray } (.tup vs)) := ⟨Heap.get?_push_size _ rfl, hz, its, r, IsTup.new _ _⟩
section
variable {X : Cx} {es : List Expr} {t : TA} {pos : Pos}
theorem laid_tup {pins : List (Addr × Obj)} {σ : L2.St} {H : Hp} {s : Shared} {Q : VK} {vs : List V} {its : List Value} (I : Inv X pins σ H s) (hz : vs.length ≤ sizeLine) (r : Vals vs its) (q : NewT Q H vs) :
    EP X pins σ Q (.ref s.heap.objs.size) { s with heap := s.heap.push { cls := .type "tuple", data := .seq its.toArray } } :=
  ⟨.ref s.heap.objs.size, _, I.laid (t' := s.toks) (o := .frz { cls := .type "tuple", data := .seq its.toArray } (.tup vs)) (fun b u e => Heap.get?_push_of_some _ e) (Nat.le_refl _) (new_tup hz r), rfl, q _ _ (I.hok.fresh (Nat.le_refl _)) rfl⟩
/-- a display -/
def tTupN (t : TA) : TE := fun σ H Q => t σ H fun xs H1 => xs.length ≤ sizeLine ∧ NewT Q H1 xs
theorem pe_tupN {x1} (h : PA X es t) : PE X (.Tuple es x1 pos) (tTupN t) := by
  refine ⟨fun pins s σ H Q I hq => ?_⟩
  refine wpAny_Tuple_spliced (thn (h.run pos pins s σ H _ I hq) fun us s1 ⟨xs, H1, I1, r, z, q⟩ => ⟨by rw [← r.length]; exact z, ?_⟩)
  exact laid_tup I1 z r q
/-- slices -/
def rSlN (K : PySem.W.Frag) : V → Option Int → Option Int → Hp → VK → Prop := fun x lo hi H Q => ∃ a xs, x = .ref a ∧ SqT K H a xs ∧
  (HT.sIx xs.length 0 lo = 0 ∧ HT.sIx xs.length xs.length hi = xs.length → Q (.ref a) H) ∧ (¬ (HT.sIx xs.length 0 lo = 0 ∧ HT.sIx xs.length xs.length hi = xs.length) → NewT Q H (cutV xs lo hi))
theorem sl_tupN : SlR X (rSlN X.K) := by
  intro pins s σ H x v vl vu lo hi sl Q I rx hs pl pu h
  obtain ⟨a, xs, rfl, hx, q1, q2⟩ := h
  cases rx
  obtain ⟨its, r, ht, hz⟩ := I.tuple hx
  have hlen : its.toArray.size = xs.length := by rw [List.size_toArray]; exact r.length.symm
  refine ⟨"tuple", _, PyProof.Rows.slot_tuple_getitem.lookup, ht.typeIs, ?_⟩
  by_cases hw : HT.sIx xs.length 0 lo = 0 ∧ HT.sIx xs.length xs.length hi = xs.length
  · exact getItem_tuple_whole ht hs pl pu (by rw [hlen]; exact hw) ⟨.ref a, H, I, rfl, q1 hw⟩
  · refine HT.getItem_tuple_cut ht hs pl pu (by rw [hlen]; exact hw) ?_ (by rw [hlen]; exact hz)
    rw [hlen]
    exact laid_tup I (Nat.le_trans (cutV_length xs lo hi) hz) ((r.drop (HT.sIx xs.length 0 lo)).take (HT.sIx xs.length xs.length hi - HT.sIx xs.length 0 lo)) (q2 hw)
/-- sums -/
def rCatN (K : PySem.W.Frag) : R2 := fun x y H Q => ∃ a b xs ys, x = .ref a ∧ y = .ref b ∧ SqT K H a xs ∧ SqT K H b ys ∧ xs.length + ys.length ≤ sizeLine ∧
  (xs = [] → Q (.ref b) H) ∧ (xs ≠ [] → ys = [] → Q (.ref a) H) ∧ (xs ≠ [] → ys ≠ [] → NewT Q H (xs ++ ys))
theorem op_catN : OpR X (binaryOp .Add) (rCatN X.K) := by
  intro pins s σ H x y v u Q I rx ry h
  obtain ⟨a, b, xs, ys, rfl, rfl, ha, hb, hz, q0, q1, q2⟩ := h
  cases rx
  cases ry
  obtain ⟨its, r1, p1, _⟩ := I.tuple ha
  obtain ⟨its2, r2, p2, _⟩ := I.tuple hb
  by_cases hx : xs = []
  · subst hx
    cases r1
    exact cat_tup0 p1 p2 ⟨.ref b, H, I, rfl, q0 rfl⟩
  · refine HT.cat_tup p1 p2 (fun z => hx (r1.nil_iff.mp z)) (fun z => ⟨.ref a, H, I, rfl, q1 hx (r2.nil_iff.mp z)⟩) (fun z => ?_) (by rw [← r1.length, ← r2.length]; exact hz)
    exact laid_tup I (by rw [List.length_append]; exact hz) (r1.append r2) (q2 hx (fun w => z (r2.nil_iff.mpr w)))
/-- tuple(..) -/
theorem call_tupleN : CallR X (.type "tuple") (fun xs H Q => ∃ p ys, xs = [.ref p] ∧ ((SqL X.K H p ys ∧ NewT Q H ys) ∨ (SqT X.K H p ys ∧ Q (.ref p) H))) := by
  intro pins s σ H xs us Q I r h
  obtain ⟨p, ys, rfl, h⟩ := h
  obtain ⟨u, rfl, rx⟩ := vals1 r
  cases rx
  rcases h with ⟨hq, q⟩ | ⟨hq, q⟩
  · obtain ⟨its, r', pl, hz⟩ := I.list hq
    have hlen := r'.length
    refine call_tuple_list pl.isList (fun h' kp => ?_) (by simp only [List.size_toArray] <;> omega)
    have I1 : Inv X pins σ H { s with heap := h' } := I.kept (t' := s.toks) kp
    exact laid_tup I1 hz r' q
  · obtain ⟨its, r', pl, hz⟩ := I.tuple hq
    exact call_tuple_same pl ⟨.ref p, H, I, rfl, q⟩
end
end PB

set_option Elab.async false
set_option linter.all false
set_option maxRecDepth 100000
set_option maxHeartbeats 2000000
namespace PB
open PySem PySem.Spec L2

theorem bind_ok {α β : Type} {x : Res α} {f : α → PH → Res β} {r : β} {h : PH} (e : x.bind f = .ok r h) : ∃ a h1, x = .ok a h1 ∧ f a h1 = .ok r h := by
  cases x with
  | ok a h1 => exact ⟨a, h1, rfl, e⟩
  | exc c v h1 => cases e
  | bad => cases e

section
variable (K : PySem.W.Frag) (fa : FA) (cf : Nat → List PV → PH → Res PV)
/-- the readings of a code -/
def tE (c : CE) : TE := fun sg H Q => ∃ io s h r h', RS K fa io H sg s ∧ RH K fa io H h ∧ evE cf c s h = .ok r h' ∧ ∀ io' H' v, Ext io H io' H' → RH K fa io' H' h' → Rl K fa io' H' v r → Q v H'
def tA (c : CA) : TA := fun sg H Q => ∃ io s h r h', RS K fa io H sg s ∧ RH K fa io H h ∧ evA cf c s h = .ok r h' ∧ ∀ io' H' v, Ext io H io' H' → RH K fa io' H' h' → Rls K fa io' H' v r → Q v H'
def tT (c : CE) : TT := fun sg H Q => ∃ io s h b h', RS K fa io H sg s ∧ RH K fa io H h ∧ evE cf c s h = .ok (.bl b) h' ∧ ∀ io' H', Ext io H io' H' → RH K fa io' H' h' → Q b H'
/-- an optional part: an int -/
def tO (c : CO) : L2.TO := fun sg H Q => ∃ io s h r o h', RS K fa io H sg s ∧ RH K fa io H h ∧ evO cf c s h = .ok r h' ∧ optI h' r = .ok o h' ∧ ∀ io' H', Ext io H io' H' → RH K fa io' H' h' → Q o H'
/-- the slots of a target -/
def slots : CT → List Nat
  | .v i => [i]
  | .s _ _ => []
  | .nil => []
  | .cons a r => slots a ++ slots r
def tG (c : CT) : TG := fun v sg H Q => ∃ io s h x s' h', RS K fa io H sg s ∧ RH K fa io H h ∧ Rl K fa io H v x ∧ asT cf c x s h = .ok s' h' ∧
  ∀ io' H' sg', Ext io H io' H' → RH K fa io' H' h' → RS K fa io' H' sg' s' → (∀ j, j ∉ slots c → sg'[j]? = sg[j]?) → Q sg' H'
def tGs (c : CT) : TGs := fun vs sg H Q => ∃ io s h xs s' h', RS K fa io H sg s ∧ RH K fa io H h ∧ Rls K fa io H vs xs ∧ asTs cf c xs s h = .ok s' h' ∧
  ∀ io' H' sg', Ext io H io' H' → RH K fa io' H' h' → RS K fa io' H' sg' s' → (∀ j, j ∉ slots c → sg'[j]? = sg[j]?) → Q sg' H'
/-- a walk over pure items -/
def GoodJ (p : List PV × Lean_) (io : List Addr) (H : Hp) (J : It) : Prop :=
  ∀ io2 H2 h2, Ext io H io2 H2 → RH K fa io2 H2 h2 → leans p.2 h2 = true →
    (∀ (i : Nat) (y : PV), p.1[i]? = some y → J.go i H2 ∧ ∀ x H3, J.yld i H2 x H3 → Ext io2 H2 io2 H3 ∧ RH K fa io2 H3 h2 ∧ Rl K fa io2 H3 x y) ∧ J.stop p.1.length H2
def tI (c : CI) : TI := fun sg H R => ∃ io s h p h', RS K fa io H sg s ∧ RH K fa io H h ∧ evI cf c s h = .ok p h' ∧
  ∀ io' H', Ext io H io' H' → RH K fa io' H' h' → ∀ J, GoodJ K fa p io' H' J → R J H'
def fin (io : List Addr) (H : Hp) (D : Ends) (f : Fl) (h' : PH) : Prop :=
  ∀ io' H', Ext io H io' H' → RH K fa io' H' h' → match f with
    | .nx s' => ∀ sg', RS K fa io' H' sg' s' → D.nx sg' H'
    | .bk s' => ∀ sg', RS K fa io' H' sg' s' → D.bk sg' H'
    | .ct s' => ∀ sg', RS K fa io' H' sg' s' → D.ct sg' H'
    | .rt v => ∀ u, Rl K fa io' H' u v → D.rt u H'
def tS (c : CS) : TS := fun D sg H => ∃ io s h f h', RS K fa io H sg s ∧ RH K fa io H h ∧ evS cf c s h = .ok f h' ∧ fin K fa io H D f h'
def tK (c : CB) : TS := fun D sg H => ∃ io s h f h', RS K fa io H sg s ∧ RH K fa io H h ∧ evB cf c s h = .ok f h' ∧ fin K fa io H D f h'
/-- a def's promise -/
def spI (G : Nat → Option Fn) (k i : Nat) : Sp := fun vs H Q _ => ∃ io h args r h', Rls K fa io H vs args ∧ RH K fa io H h ∧ callF G k i args h = .ok r h' ∧
  ∀ io' H' v, Ext io H io' H' → RH K fa io' H' h' → Rl K fa io' H' v r → Q v H'
end

section
variable {X : Cx} {fa : FA} {cf : Nat → List PV → PH → Res PV}
theorem wkE {e : Expr} {t t' : TE} (h : PE X e t) (w : ∀ sg H Q, t' sg H Q → t sg H Q) : PE X e t' := ⟨fun pins s sg H Q I q => h.run pins s sg H Q I (w _ _ _ q)⟩
theorem wkA {e : List Expr} {t t' : TA} (h : PA X e t) (w : ∀ sg H Q, t' sg H Q → t sg H Q) : PA X e t' := ⟨fun pos pins s sg H Q I q => h.run pos pins s sg H Q I (w _ _ _ q)⟩
theorem wkT {e : Expr} {t t' : TT} (h : PT X e t) (w : ∀ sg H Q, t' sg H Q → t sg H Q) : PT X e t' := ⟨fun pins s sg H Q I q => h.run pins s sg H Q I (w _ _ _ q)⟩
theorem wkW {e : Expr} {t t' : TT} (h : PW X e t) (w : ∀ sg H Q, t' sg H Q → t sg H Q) : PW X e t' := ⟨fun wh pins s sg H Q I q => h.run wh pins s sg H Q I (w _ _ _ q)⟩
theorem wkG {e : Expr} {t t' : TG} (h : PG X e t) (w : ∀ v sg H Q, t' v sg H Q → t v sg H Q) : PG X e t' := ⟨fun pins s sg H v u Q I r q => h.run pins s sg H v u Q I r (w _ _ _ _ q)⟩
theorem wkGs {e : List Expr} {t t' : TGs} (h : PGs X e t) (w : ∀ v sg H Q, t' v sg H Q → t v sg H Q) : PGs X e t' := ⟨fun pins s sg H v u Q I r q => h.run pins s sg H v u Q I r (w _ _ _ _ q)⟩
theorem wkS {e : Stmt} {t t' : TS} (h : PS X e t) (w : ∀ D sg H, t' D sg H → t D sg H) : PS X e t' := ⟨fun pins s sg H D I q => h.run pins s sg H D I (w _ _ _ q)⟩
theorem wkK {e : List Stmt} {t t' : TS} (h : PSs X e t) (w : ∀ D sg H, t' D sg H → t D sg H) : PSs X e t' := ⟨fun pins s sg H D I q => h.run pins s sg H D I (w _ _ _ q)⟩
theorem wkI {tg e : Expr} {t t' : TI} (h : PI X tg e t) (w : ∀ sg H Q, t' sg H Q → t sg H Q) : PI X tg e t' := ⟨fun pins s sg H Q I q => h.run pins s sg H Q I (w _ _ _ q)⟩
theorem wkO {e : Option Expr} {t t' : L2.TO} (h : L2.PO X e t) (w : ∀ sg H Q, t' sg H Q → t sg H Q) : L2.PO X e t' := ⟨fun pins s sg H Q I q => h.run pins s sg H Q I (w _ _ _ q)⟩

/-! ### names, constants -/
theorem e_var {i : Nat} {x : Str} {pos : Pos} (h : PE X (.Name x pos) (tVar i)) (hi : fa.xok i = true := by rfl) : PE X (.Name x pos) (tE X.K fa cf (.var i)) :=
  wkE h fun sg H Q ⟨io, s, hp, r, h', rs, rh, e, q⟩ => by
    simp only [evE] at e
    split at e <;> cases e
    obtain ⟨v, h1, h2⟩ := rs.at_ i _ hi (by assumption)
    exact ⟨v, h1, q io H v .refl rh h2⟩
/-- a value that never changes -/
def Con (K : PySem.W.Frag) (fa : FA) (v : V) (x : PV) : Prop := ∀ io H, Rl K fa io H v x
theorem e_con {e : Expr} {v : V} {x : PV} (h : PE X e (tC v)) (c : Con X.K fa v x) : PE X e (tE X.K fa cf (.con x)) :=
  wkE h fun sg H Q ⟨io, s, hp, r, h', rs, rh, e, q⟩ => by
    simp only [evE] at e
    cases e
    exact q io H v .refl rh (c io H)
theorem e_int {i : Int} {j : Nat} {pos : Pos} : PE X (.Constant (.int i) j pos) (tE X.K fa cf (.con (.int i))) := e_con pe_int fun _ _ => .int i
theorem e_bl {b : Bool} {j : Nat} {pos : Pos} : PE X (.Constant (.bool b) j pos) (tE X.K fa cf (.con (.bl b))) := e_con pe_bl fun _ _ => .bl b
theorem e_non {j : Nat} {pos : Pos} : PE X (.Constant .none j pos) (tE X.K fa cf (.con .non)) := e_con pe_non fun _ _ => .non
theorem e_str {x : Str} {j : Nat} {pos : Pos} : PE X (.Constant (.str x) j pos) (tE X.K fa cf (.con (.str x))) := e_con pe_str fun _ _ => .str x

/-! ### operators -/
theorem bin2 {e1 e2 : CE} {sg : L2.St} {H : Hp} {Q : VK} {f : PV → PV → PH → Res PV} {R : V → V → Hp → VK → Prop} {io : List Addr} {s : Sl} {h : PH} {r : PV} {h' : PH}
    (rs : RS X.K fa io H sg s) (rh : RH X.K fa io H h) (e : ((evE cf e1 s h).bind fun x h1 => (evE cf e2 s h1).bind fun y h2 => f x y h2) = .ok r h')
    (q : ∀ io' H' v, Ext io H io' H' → RH X.K fa io' H' h' → Rl X.K fa io' H' v r → Q v H')
    (op : ∀ io2 H2 h2 a b x y, RH X.K fa io2 H2 h2 → Rl X.K fa io2 H2 a x → Rl X.K fa io2 H2 b y → f x y h2 = .ok r h' → (∀ io' H' v, Ext io2 H2 io' H' → RH X.K fa io' H' h' → Rl X.K fa io' H' v r → Q v H') → R a b H2 Q) :
    tE X.K fa cf e1 sg H fun x H1 => tE X.K fa cf e2 sg H1 fun y H2 => R x y H2 Q := by
  obtain ⟨x, h1, ea, e⟩ := bind_ok e
  obtain ⟨y, h2, eb, e⟩ := bind_ok e
  refine ⟨io, s, h, x, h1, rs, rh, ea, fun io1 H1 a ex1 rh1 ra => ⟨io1, s, h1, y, h2, rs.mono ex1, rh1, eb, fun io2 H2 b ex2 rh2 rb => ?_⟩⟩
  exact op io2 H2 h2 a b x y rh2 (ra.mono ex2) rb e fun io' H' v ex3 rh3 rv => q io' H' v ((ex1.trans ex2).trans ex3) rh3 rv
/-- what a rule by values must show -/
def OpOk (X : Cx) (fa : FA) (f : PV → PV → PH → Res PV) (R : R2) : Prop :=
  ∀ (io : List Addr) (H : Hp) (h : PH) (a b : V) (x y r : PV) (h' : PH) (Q : VK), RH X.K fa io H h → Rl X.K fa io H a x → Rl X.K fa io H b y → f x y h = .ok r h' →
    (∀ io' H' v, Ext io H io' H' → RH X.K fa io' H' h' → Rl X.K fa io' H' v r → Q v H') → R a b H Q
theorem many_le {n : Nat} (h : n ≤ many) : n ≤ sizeLine := Nat.le_trans h (by decide)
theorem many_lt {n : Nat} (h : n < many) : n < sizeLine := Nat.lt_of_lt_of_le h (by decide)
theorem alloc_ok {io : List Addr} {H : Hp} {h : PH} {vs : List V} {xs : List PV} {r : PV} {h' : PH} {K : PySem.W.Frag} {Q : VK} (rh : RH K fa io H h) (rv : Rls K fa io H vs xs) (e : alloc xs h = .ok r h')
    (q : ∀ io' H' v, Ext io H io' H' → RH K fa io' H' h' → Rl K fa io' H' v r → Q v H') : ∀ p, H p = none → Q (.ref p) (upd H p (.lst vs)) := by
  intro p hp
  unfold alloc at e
  cases e
  refine q (io ++ [p]) _ _ (ext_lst hp) (rh.lst hp rv) (.ref ?_)
  rw [List.getElem?_append_right (by rw [rh.len]; exact Nat.le_refl _), rh.len, Nat.sub_self]
  rfl
theorem tup_ok {io : List Addr} {H : Hp} {h : PH} {vs : List V} {xs : List PV} {K : PySem.W.Frag} {Q : VK} (rh : RH K fa io H h) (rv : Rls K fa io H vs xs)
    (q : ∀ io' H' v, Ext io H io' H' → RH K fa io' H' h → Rl K fa io' H' v (.tup xs) → Q v H') : NewT Q H vs := fun p o hp hd =>
  q io _ _ (ext_new hp) (rh.new hp) (.tup (.inl ⟨o, upd_same, hd⟩) (rv.mono (ext_new hp)))

/-- all integer operators -/
def rInt (f : Int → Int → Prop) (g : Int → Int → Int) : R2 := rI f fun i j => .int (g i j)
theorem op_fdivP : OpR X (binaryOp .FloorDiv) (rI (fun _ j => j ≠ 0 ∧ j.natAbs.log2 < 9000) fun i j => .int (i.fdiv j)) := opI fun i j _ _ _ _ _ hc q =>
  PyProof.Rows.floordiv_int hc.1 q (.inl (PyProof.noPylong_of_log2 hc.2))
theorem ok_add : OpOk X fa (binop .add) (fun x y H Q => (rI0 fun i j => .int (i + j)) x y H Q ∨ rCatN X.K x y H Q ∨ rCat x y H Q) := by
  intro io H h a b x y r h' Q rh ra rb e q
  cases x <;> try (simp only [binop] at e; cases e; done)
  case int i =>
    cases y <;> try (simp only [binop] at e; cases e; done)
    case int j =>
      cases ra; cases rb
      simp only [binop] at e; cases e
      exact .inl ⟨i, j, rfl, rfl, q io H _ .refl rh (.int _)⟩
  case tup xs =>
    cases y <;> try (simp only [binop] at e; cases e; done)
    case tup ys =>
      simp only [binop] at e
      split at e <;> cases e
      rename_i hl
      cases ra with
      | @tup a vs _ sa ra =>
      cases rb with
      | @tup b ws _ sb rb =>
      refine .inr (.inl ⟨a, b, vs, ws, rfl, rfl, sa.t, sb.t, by rw [ra.length, rb.length]; exact many_le hl, fun e1 => ?_, fun e1 e2 => ?_, fun e1 e2 => ?_⟩)
      · subst e1; cases ra; exact q io H _ .refl rh (.tup sb rb)
      · subst e2; cases rb; rw [List.append_nil] at q; exact q io H _ .refl rh (.tup sa ra)
      · exact tup_ok rh (ra.append rb) q
  case ref n =>
    cases y <;> try (simp only [binop] at e; cases e; done)
    case ref m =>
      simp only [binop] at e
      split at e
      · rename_i xs ys hx hy
        by_cases hl : xs.length + ys.length ≤ many
        · rw [if_pos hl] at e
          obtain ⟨a, vs, rfl, _, ha, rv⟩ := rh.list ra hx
          obtain ⟨b, ws, rfl, _, hb, rw'⟩ := rh.list rb hy
          refine .inr (.inr ⟨a, b, vs, ws, rfl, rfl, ha, hb, by rw [rv.length, rw'.length]; exact many_le hl, ?_⟩)
          exact alloc_ok rh (rv.append rw') e q
        · rw [if_neg hl] at e; cases e
      · cases e
theorem ok_sub : OpOk X fa (binop .sub) (rI0 fun i j => .int (i - j)) := by
  intro io H h a b x y r h' Q rh ra rb e q
  cases x <;> cases y <;> simp only [binop] at e <;> cases e
  cases ra; cases rb
  exact ⟨_, _, rfl, rfl, q io H _ .refl rh (.int _)⟩
theorem ok_fdiv : OpOk X fa (binop .fdiv) (rI (fun _ j => j ≠ 0 ∧ j.natAbs.log2 < 9000) fun i j => .int (i.fdiv j)) := by
  intro io H h a b x y r h' Q rh ra rb e q
  cases x <;> cases y <;> simp only [binop] at e <;> try cases e
  split at e <;> cases e
  rename_i hc
  cases ra; cases rb
  exact ⟨_, _, rfl, rfl, hc, q io H _ .refl rh (.int _)⟩
theorem ok_mod : OpOk X fa (binop .mod) (rI (fun _ j => j ≠ 0) fun i j => .int (i.fmod j)) := by
  intro io H h a b x y r h' Q rh ra rb e q
  cases x <;> cases y <;> simp only [binop] at e <;> try cases e
  split at e <;> cases e
  rename_i hc
  cases ra; cases rb
  exact ⟨_, _, rfl, rfl, hc, q io H _ .refl rh (.int _)⟩
theorem ok_pow : OpOk X fa (binop .pow) (rI CPow fun i j => .int (i ^ j.toNat)) := by
  intro io H h a b x y r h' Q rh ra rb e q
  cases x <;> cases y <;> simp only [binop] at e <;> try cases e
  split at e <;> cases e
  rename_i hc
  cases ra; cases rb
  exact ⟨_, _, rfl, rfl, ⟨hc.1, by omega, hc.2.2⟩, q io H _ .refl rh (.int _)⟩
theorem bin_of {ba : Operator} {bo : BinO} {R : R2} {a b : Expr} {pos : Pos} {ca cb : CE} (ho : OpR X (binaryOp ba) R) (hk : OpOk X fa (binop bo) R) (ha : PE X a (tE X.K fa cf ca)) (hb : PE X b (tE X.K fa cf cb)) :
    PE X (.BinOp a ba b pos) (tE X.K fa cf (.bin bo ca cb)) :=
  wkE (pe_op ho ha hb) fun sg H Q ⟨io, s, h, r, h', rs, rh, e, q⟩ =>
    bin2 (R := R) rs rh (by simpa only [evE] using e) q fun io2 H2 h2 a b x y rh2 ra rb e2 q2 => hk io2 H2 h2 a b x y r h' Q rh2 ra rb e2 q2
variable {a b c : Expr} {pos : Pos} {ca cb cc : CE}
theorem e_add (ha : PE X a (tE X.K fa cf ca)) (hb : PE X b (tE X.K fa cf cb)) : PE X (.BinOp a .Add b pos) (tE X.K fa cf (.bin .add ca cb)) := bin_of (op_add.or (op_catN.or op_cat)) ok_add ha hb
theorem e_sub (ha : PE X a (tE X.K fa cf ca)) (hb : PE X b (tE X.K fa cf cb)) : PE X (.BinOp a .Sub b pos) (tE X.K fa cf (.bin .sub ca cb)) := bin_of op_sub ok_sub ha hb
theorem e_fdiv (ha : PE X a (tE X.K fa cf ca)) (hb : PE X b (tE X.K fa cf cb)) : PE X (.BinOp a .FloorDiv b pos) (tE X.K fa cf (.bin .fdiv ca cb)) := bin_of op_fdivP ok_fdiv ha hb
theorem e_mod (ha : PE X a (tE X.K fa cf ca)) (hb : PE X b (tE X.K fa cf cb)) : PE X (.BinOp a .Mod b pos) (tE X.K fa cf (.bin .mod ca cb)) := bin_of op_modN ok_mod ha hb
theorem e_pow (ha : PE X a (tE X.K fa cf ca)) (hb : PE X b (tE X.K fa cf cb)) : PE X (.BinOp a .Pow b pos) (tE X.K fa cf (.bin .pow ca cb)) := bin_of op_pow ok_pow ha hb
end
end PB

set_option Elab.async false
set_option linter.all false
set_option maxRecDepth 100000
set_option maxHeartbeats 4000000
namespace PB
open PySem PySem.Spec PyProof.Rows L2
theorem tuple_mul_same (l : Addr) (items : Array Value) (n : Nat) (dd : Option Addr) (sl : Array (Option Value)) (x : Int) (u : Tok) (c0 : (decide (x < -(2 ^ 63)) || decide (x ≥ 2 ^ 63)) = false) (c1 : (items.isEmpty || x == 1) = true) :
    Meets (Builtin.«tuple.__mul__» ⟨[.ref l, .int x u], []⟩) (fun _ R s => s.heap.get? l = some { cls := .type "tuple", dict := dd, data := .seq items n, slots := sl } ∧
      R (.ok (.ret (Value.ref l))) s) :=
  .of_wp fun prog w A R s h => by
    obtain ⟨hp, g, d, tk, os⟩ := s
    obtain ⟨hl, h⟩ := h
    have f1 := AutoSeq1.idx_int
    wp_walk using wpAny_loadPart' hl
    repeat (first
      | (refine wpAny_ite_false (decide_eq_false (by rw [c0]; exact Bool.false_ne_true)) ?_; wp_walk using wpAny_loadPart' hl)
      | (refine wpAny_ite_true (decide_eq_true c1) ?_; wp_walk using wpAny_loadPart' hl))
    exact ⟨_, rfl, h⟩
theorem tuple_mul_none (l : Addr) (items : Array Value) (n : Nat) (dd : Option Addr) (sl : Array (Option Value)) (x : Int) (u : Tok) (c0 : (decide (x < -(2 ^ 63)) || decide (x ≥ 2 ^ 63)) = false) (c1 : (items.isEmpty || x == 1) = false) (c2 : (decide (x ≤ 0) || items.isEmpty) = true) :
    Meets (Builtin.«tuple.__mul__» ⟨[.ref l, .int x u], []⟩) (fun _ R s => s.heap.get? l = some { cls := .type "tuple", dict := dd, data := .seq items n, slots := sl } ∧
      R (.ok (.ret (Value.ref s.heap.objs.size))) { s with heap := s.heap.push { cls := Value.type "tuple", data := Data.seq #[] }, toks := s.toks }) :=
  .of_wp fun prog w A R s h => by
    obtain ⟨hp, g, d, tk, os⟩ := s
    obtain ⟨hl, h⟩ := h
    have f1 := AutoSeq1.idx_int
    wp_walk using wpAny_loadPart' hl
    repeat (first
      | (refine wpAny_ite_false (decide_eq_false (by rw [c0]; exact Bool.false_ne_true)) ?_; wp_walk using wpAny_loadPart' hl)
      | (refine wpAny_ite_false (decide_eq_false (by rw [c1]; exact Bool.false_ne_true)) ?_; wp_walk using wpAny_loadPart' hl)
      | (refine wpAny_ite_true (decide_eq_true c2) ?_; wp_walk using wpAny_loadPart' hl))
    exact ⟨_, rfl, h⟩

def rRepA (K : PySem.W.Frag) : R2 := fun x y H Q => ∃ l k xs, x = .ref l ∧ y = .int k ∧ SqT K H l xs ∧ -1000 ≤ k ∧ k ≤ 1000 ∧ xs.length ≤ 1000 ∧
  (xs = [] ∨ k = 1 → Q (.ref l) H) ∧ (xs ≠ [] → k ≠ 1 → NewT Q H (List.replicate k.toNat xs).flatten)
section
variable {X : Cx}
theorem repN {pins : List (Addr × Obj)} {s : Shared} {σ : L2.St} {H : Hp} {l : Addr} {k : Int} {xs : List V} {v u : Value} {Q : VK} (I : Inv X pins σ H s) (rx : RelV (.ref l) v) (ry : RelV (.int k) u) (hT : SqT X.K H l xs) (hne : xs ≠ []) (h1 : 2 ≤ k) (h2 : k ≤ 1000) (hz : xs.length ≤ 1000)
    (q : NewT Q H (List.replicate k.toNat xs).flatten) : wpAny (model X.prog X.w) X.A (binaryOp .Mult v u) (EP X pins σ Q) X.xe s := by
  cases rx
  obtain ⟨t, rfl⟩ := ry
  obtain ⟨its, r, ⟨⟨cls, dd, data, sl⟩, ho, hc, n, hd⟩, hs⟩ := I.tuple hT
  simp only at hc hd
  subst hc hd
  have hle : its.length = xs.length := r.length.symm
  have hn : its ≠ [] := fun e => hne (by
    rw [e] at hle
    exact List.eq_nil_of_length_eq_zero hle.symm)
  have hi : its.toArray.isEmpty = false := by
    cases its with
    | nil => exact absurd rfl hn
    | cons a b => rfl
  have hsz0 : its.toArray.size = xs.length := by rw [List.size_toArray, hle]
  have hm : ((its.toArray.size : Nat) : Int) * k ≤ 1000000 := by
    rw [hsz0]
    have a1 : ((xs.length : Nat) : Int) * k ≤ 1000 * k := Int.mul_le_mul_of_nonneg_right (by omega) (by omega)
    omega
  have flen : (List.replicate k.toNat its).flatten.length ≤ sizeLine := by
    rw [PyProof.Rows.lm_len_rep_flat, hle, sizeLine_eq]
    have a1 : k.toNat * xs.length ≤ 1000 * 1000 := Nat.mul_le_mul (by omega) hz
    omega
  have c0 : (decide (k < -(2 ^ 63)) || decide (k ≥ 2 ^ 63)) = false := by
    rw [decide_eq_false (by omega), decide_eq_false (by omega)] <;> rfl
  have c1 : (its.toArray.isEmpty || k == 1) = false := by
    rw [hi, Bool.false_or]
    exact beq_eq_false_iff_ne.mpr (by omega)
  have c2 : (decide (k ≤ 0) || its.toArray.isEmpty) = false := by
    rw [hi, Bool.or_false]
    exact decide_eq_false (by omega)
  have c4 : Builtin.Tuple.tupleTooMany (((its.toArray.size : Nat) : Int) * k) = false := by
    unfold Builtin.Tuple.tupleTooMany
    rw [sizeLine_eq]
    exact decide_eq_false (by omega)
  refine wpAny_binaryOp_repeat_ref (T := "tuple") (U := "int") (by decide) ⟨_, ho, rfl⟩ (fun s' => typeIs_int s' k t) noFill_tuple_mul F.fills_int_mul F.slot_int_rmul repeat_tuple F.slot_int_index.lookup
    (call_meets F.slot_int_rmul (typeIs_int s k t) F.entry_int_rmul (F.args_int_rmul_2 _ _) (int_rmul_tuple k t l its.toArray n dd sl)
      ⟨ho, rfl, ⟨_, ho, rfl⟩, call_meets F.slot_tuple_mul ⟨_, ho, rfl⟩ F.entry_tuple_mul (F.args_tuple_mul_2 _ _) (tuple_mulW l its.toArray n dd sl k t c0 c1 c2 (by omega) c4 (by rw [size_rep, List.size_toArray]; exact flen)) ⟨ho, ?_⟩⟩)
  rw [size_rep]
  exact laid_tup I (by rw [PyProof.Rows.lm_len_rep_flat, sizeLine_eq]; have a1 : k.toNat * xs.length ≤ 1000 * 1000 := Nat.mul_le_mul (by omega) hz; omega) (r.rep k.toNat) q
theorem op_repA : OpR X (binaryOp .Mult) (rRepA X.K) := by
  intro pins s σ H x y v u Q I rx ry h
  obtain ⟨l, k, xs, rfl, rfl, hT, h1, h2, hz, q1, q2⟩ := h
  by_cases hk : 2 ≤ k ∧ xs ≠ []
  · exact repN I rx ry hT hk.2 hk.1 h2 hz (q2 hk.2 (by omega))
  · cases rx
    obtain ⟨t, rfl⟩ := ry
    obtain ⟨its, r, ⟨⟨cls, dd, data, sl⟩, ho, hc, n, hd⟩, hs⟩ := I.tuple hT
    simp only at hc hd
    subst hc hd
    have hle : its.length = xs.length := r.length.symm
    have c0 : (decide (k < -(2 ^ 63)) || decide (k ≥ 2 ^ 63)) = false := by
      rw [decide_eq_false (by omega), decide_eq_false (by omega)] <;> rfl
    by_cases hsame : xs = [] ∨ k = 1
    · have c1 : (its.toArray.isEmpty || k == 1) = true := by
        rcases hsame with e | e
        · subst e
          have : its = [] := List.eq_nil_of_length_eq_zero hle
          subst this; rfl
        · subst e; simp
      refine wpAny_binaryOp_repeat_ref (T := "tuple") (U := "int") (by decide) ⟨_, ho, rfl⟩ (fun s' => typeIs_int s' k t) noFill_tuple_mul F.fills_int_mul F.slot_int_rmul repeat_tuple F.slot_int_index.lookup
        (call_meets F.slot_int_rmul (typeIs_int s k t) F.entry_int_rmul (F.args_int_rmul_2 _ _) (int_rmul_tuple k t l its.toArray n dd sl)
          ⟨ho, rfl, ⟨_, ho, rfl⟩, call_meets F.slot_tuple_mul ⟨_, ho, rfl⟩ F.entry_tuple_mul (F.args_tuple_mul_2 _ _) (tuple_mul_same l its.toArray n dd sl k t c0 c1) ⟨ho, ?_⟩⟩)
      exact ⟨.ref l, H, I, rfl, q1 hsame⟩
    · have hne : xs ≠ [] := fun e => hsame (.inl e)
      have hk1 : k ≠ 1 := fun e => hsame (.inr e)
      have hk0 : k ≤ 0 := by
        by_cases z : 2 ≤ k
        · exact absurd ⟨z, hne⟩ hk
        · omega
      have hi : its.toArray.isEmpty = false := by
        cases its with
        | nil => exact absurd (List.eq_nil_of_length_eq_zero hle.symm) hne
        | cons a b => rfl
      have c1 : (its.toArray.isEmpty || k == 1) = false := by rw [hi, Bool.false_or]; exact beq_eq_false_iff_ne.mpr hk1
      have c2 : (decide (k ≤ 0) || its.toArray.isEmpty) = true := by rw [decide_eq_true hk0]; rfl
      refine wpAny_binaryOp_repeat_ref (T := "tuple") (U := "int") (by decide) ⟨_, ho, rfl⟩ (fun s' => typeIs_int s' k t) noFill_tuple_mul F.fills_int_mul F.slot_int_rmul repeat_tuple F.slot_int_index.lookup
        (call_meets F.slot_int_rmul (typeIs_int s k t) F.entry_int_rmul (F.args_int_rmul_2 _ _) (int_rmul_tuple k t l its.toArray n dd sl)
          ⟨ho, rfl, ⟨_, ho, rfl⟩, call_meets F.slot_tuple_mul ⟨_, ho, rfl⟩ F.entry_tuple_mul (F.args_tuple_mul_2 _ _) (tuple_mul_none l its.toArray n dd sl k t c0 c1 c2) ⟨ho, ?_⟩⟩)
      have e0 : (List.replicate k.toNat xs).flatten = [] := by rw [show k.toNat = 0 by omega]; rfl
      have q := q2 hne hk1
      rw [e0] at q
      exact laid_tup (its := []) I (Nat.zero_le _) .nil q
end
end PB

set_option Elab.async false
set_option linter.all false
set_option maxRecDepth 100000
set_option maxHeartbeats 2000000
namespace PB
open PySem PySem.Spec L2
section
variable {X : Cx} {fa : FA} {cf : Nat → List PV → PH → Res PV} {a b c : Expr} {pos : Pos} {ca cb cc : CE}
theorem mulOk_to {i j : Int} (h : mulOk i j = true) : CMulW i j := by
  unfold mulOk at h
  have h2 : i.natAbs.log2 + j.natAbs.log2 < 1000000 := by simpa using h
  exact h2
theorem ok_mul : OpOk X fa (binop .mul) (fun x y H Q => (rI CMulW fun i j => .int (i * j)) x y H Q ∨ rRep x y H Q ∨ rRepA X.K x y H Q) := by
  intro io H h a b x y r h' Q rh ra rb e q
  cases x <;> try (simp only [binop] at e; cases e; done)
  case int i =>
    cases y <;> try (simp only [binop] at e; cases e; done)
    case int j =>
      cases ra; cases rb
      simp only [binop] at e
      split at e <;> cases e
      rename_i hc
      exact .inl ⟨i, j, rfl, rfl, mulOk_to hc, q io H _ .refl rh (.int _)⟩
  case tup xs =>
    cases y <;> try (simp only [binop] at e; cases e; done)
    case int k =>
      simp only [binop] at e
      split at e <;> cases e
      rename_i hl
      cases rb
      cases ra with
      | @tup a vs _ sa ra =>
      refine .inr (.inr ⟨a, k, vs, rfl, rfl, sa.t, hl.1, hl.2.1, by rw [ra.length]; exact hl.2.2, fun hs => ?_, fun h1 h2 => tup_ok rh (ra.flat _) q⟩)
      refine q io H _ .refl rh (.tup sa ?_)
      rcases hs with hs | hs
      · subst hs; cases ra
        have : ∀ n : Nat, (List.replicate n ([] : List PV)).flatten = [] := fun n => by simp
        rw [this]; exact .nil
      · subst hs
        have : (List.replicate (Int.toNat 1) xs).flatten = xs := by simp [List.replicate_succ]
        rw [this]; exact ra
  case ref n =>
    cases y <;> try (simp only [binop] at e; cases e; done)
    case int k =>
      simp only [binop] at e
      split at e
      · rename_i xs hx
        by_cases hl : -1000 ≤ k ∧ k ≤ many ∧ xs.length * k.toNat ≤ many
        · rw [if_pos hl] at e
          cases rb
          obtain ⟨a, vs, rfl, _, ha, rv⟩ := rh.list ra hx
          have hm : (many : Int) = 1000000 := rfl
          refine .inr (.inl ⟨a, k, vs, rfl, rfl, ha, by omega, by omega, by rw [rv.length]; exact many_le hl.2.2, ?_⟩)
          exact alloc_ok rh (rv.flat _) e q
        · rw [if_neg hl] at e; cases e
      · cases e
theorem e_mul (ha : PE X a (tE X.K fa cf ca)) (hb : PE X b (tE X.K fa cf cb)) : PE X (.BinOp a .Mult b pos) (tE X.K fa cf (.bin .mul ca cb)) := bin_of (op_mulW.or (op_rep.or op_repA)) ok_mul ha hb

theorem un2 {e1 : CE} {sg : L2.St} {H : Hp} {Q : VK} {f : PV → PH → Res PV} {R : V → Hp → Prop} {io : List Addr} {s : Sl} {h : PH} {r : PV} {h' : PH}
    (rs : RS X.K fa io H sg s) (rh : RH X.K fa io H h) (e : ((evE cf e1 s h).bind fun x h1 => f x h1) = .ok r h')
    (q : ∀ io' H' v, Ext io H io' H' → RH X.K fa io' H' h' → Rl X.K fa io' H' v r → Q v H')
    (op : ∀ io2 H2 h2 a x, Ext io H io2 H2 → RH X.K fa io2 H2 h2 → Rl X.K fa io2 H2 a x → f x h2 = .ok r h' → (∀ io' H' v, Ext io2 H2 io' H' → RH X.K fa io' H' h' → Rl X.K fa io' H' v r → Q v H') → R a H2) :
    tE X.K fa cf e1 sg H R := by
  obtain ⟨x, h1, ea, e⟩ := bind_ok e
  exact ⟨io, s, h, x, h1, rs, rh, ea, fun io1 H1 a ex1 rh1 ra => op io1 H1 h1 a x ex1 rh1 ra e fun io' H' v ex3 rh3 rv => q io' H' v (ex1.trans ex3) rh3 rv⟩
theorem e_neg (ha : PE X a (tE X.K fa cf ca)) : PE X (.UnaryOp .USub a pos) (tE X.K fa cf (.neg ca)) :=
  wkE (pe_un un_neg ha) fun sg H Q ⟨io, s, h, r, h', rs, rh, e, q⟩ =>
    un2 (R := fun x H1 => rU (fun i => .int (-i)) x H1 Q) rs rh (by simpa only [evE] using e) q fun io2 H2 h2 a x ex rh2 ra e2 q2 => by
      cases x <;> simp only at e2 <;> cases e2
      cases ra
      exact ⟨_, rfl, q2 io2 H2 _ .refl rh2 (.int _)⟩
theorem e_not (ha : PE X a (tE X.K fa cf ca)) : PE X (.UnaryOp .Not a pos) (tE X.K fa cf (.not ca)) :=
  wkE (pe_not ha) fun sg H Q ⟨io, s, h, r, h', rs, rh, e, q⟩ =>
    un2 (R := fun x H1 => ∃ c, x = .bl c ∧ Q (.bl (!c)) H1) rs rh (by simpa only [evE] using e) q fun io2 H2 h2 a x ex rh2 ra e2 q2 => by
      cases x <;> simp only at e2 <;> cases e2
      cases ra
      exact ⟨_, rfl, q2 io2 H2 _ .refl rh2 (.bl _)⟩
theorem e_one {op} (ha : PE X a (tE X.K fa cf ca)) : PE X (.BoolOp op [a] pos) (tE X.K fa cf ca) := pe_one ha
variable {rest : List Expr}
theorem e_and (ha : PE X a (tE X.K fa cf ca)) (hb : PE X (.BoolOp .And (b :: rest) pos) (tE X.K fa cf cb)) : PE X (.BoolOp .And (a :: b :: rest) pos) (tE X.K fa cf (.and ca cb)) :=
  wkE (pe_and ha hb) fun sg H Q ⟨io, s, h, r, h', rs, rh, e, q⟩ =>
    un2 (R := fun x H1 => ∃ c, x = .bl c ∧ if c = true then tE X.K fa cf cb sg H1 Q else Q (.bl false) H1) rs rh (by simpa only [evE] using e) q fun io2 H2 h2 a x ex rh2 ra e2 q2 => by
      cases x <;> try (simp only at e2; cases e2; done)
      case bl c =>
        cases ra
        refine ⟨c, rfl, ?_⟩
        cases c with
        | true => rw [if_pos rfl]; exact ⟨io2, s, h2, r, h', rs.mono ex, rh2, e2, q2⟩
        | false => rw [if_neg Bool.false_ne_true]; simp only at e2; cases e2; exact q2 io2 H2 _ .refl rh2 (.bl _)
theorem e_or (ha : PE X a (tE X.K fa cf ca)) (hb : PE X (.BoolOp .Or (b :: rest) pos) (tE X.K fa cf cb)) : PE X (.BoolOp .Or (a :: b :: rest) pos) (tE X.K fa cf (.or ca cb)) :=
  wkE (pe_or ha hb) fun sg H Q ⟨io, s, h, r, h', rs, rh, e, q⟩ =>
    un2 (R := fun x H1 => ∃ c, x = .bl c ∧ if c = true then Q (.bl true) H1 else tE X.K fa cf cb sg H1 Q) rs rh (by simpa only [evE] using e) q fun io2 H2 h2 a x ex rh2 ra e2 q2 => by
      cases x <;> try (simp only at e2; cases e2; done)
      case bl c =>
        cases ra
        refine ⟨c, rfl, ?_⟩
        cases c with
        | false => rw [if_neg Bool.false_ne_true]; exact ⟨io2, s, h2, r, h', rs.mono ex, rh2, e2, q2⟩
        | true => rw [if_pos rfl]; simp only at e2; cases e2; exact q2 io2 H2 _ .refl rh2 (.bl _)

/-! ### tests -/
theorem t_val (ha : PE X a (tE X.K fa cf ca)) (he : ∀ whole, isTrue a X.env whole = (do let v ← whole; standAt a.pos; holding [v] (truthy v)) := by intro _; rfl) : PT X a (tT X.K fa cf ca) :=
  wkT (pt_val ha he) fun sg H Q ⟨io, s, h, r, h', rs, rh, e, q⟩ => ⟨io, s, h, .bl r, h', rs, rh, e, fun io' H' v ex rh' rv => by cases rv; exact ⟨r, rfl, q io' H' ex rh'⟩⟩
theorem t2 {e1 : CE} {sg : L2.St} {H : Hp} {Q : Bool → Hp → Prop} {f : PV → PH → Res PV} {R : Bool → Hp → Prop} {io : List Addr} {s : Sl} {h : PH} {r : Bool} {h' : PH}
    (rs : RS X.K fa io H sg s) (rh : RH X.K fa io H h) (e : ((evE cf e1 s h).bind fun x h1 => f x h1) = .ok (.bl r) h')
    (q : ∀ io' H', Ext io H io' H' → RH X.K fa io' H' h' → Q r H') (bad : ∀ x h1 v h2, f x h1 = .ok v h2 → ∃ b, x = .bl b)
    (op : ∀ io2 H2 h2 b, Ext io H io2 H2 → RH X.K fa io2 H2 h2 → f (.bl b) h2 = .ok (.bl r) h' → (∀ io' H', Ext io2 H2 io' H' → RH X.K fa io' H' h' → Q r H') → R b H2) :
    tT X.K fa cf e1 sg H R := by
  obtain ⟨x, h1, ea, e⟩ := bind_ok e
  obtain ⟨b, rfl⟩ := bad _ _ _ _ e
  exact ⟨io, s, h, b, h1, rs, rh, ea, fun io1 H1 ex1 rh1 => op io1 H1 h1 b ex1 rh1 e fun io' H' ex3 rh3 => q io' H' (ex1.trans ex3) rh3⟩
theorem t_not (ha : PT X a (tT X.K fa cf ca)) : PT X (.UnaryOp .Not a pos) (tT X.K fa cf (.not ca)) :=
  wkT (pt_not ha) fun sg H Q ⟨io, s, h, r, h', rs, rh, e, q⟩ =>
    t2 (R := fun c H1 => Q (!c) H1) rs rh (by simpa only [evE] using e) q (fun x h1 v h2 e => by cases x <;> simp only at e <;> cases e; exact ⟨_, rfl⟩) fun io2 H2 h2 b ex rh2 e2 q2 => by
      simp only at e2; cases e2
      exact q2 io2 H2 .refl rh2
theorem t_and1 (ha : PT X a (tT X.K fa cf ca)) : PW X (.BoolOp .And [a] pos) (tT X.K fa cf ca) := pw_and1 ha
theorem t_or1 (ha : PT X a (tT X.K fa cf ca)) : PW X (.BoolOp .Or [a] pos) (tT X.K fa cf ca) := pw_or1 ha
theorem t_and (ha : PT X a (tT X.K fa cf ca)) (hb : PW X (.BoolOp .And (b :: rest) pos) (tT X.K fa cf cb)) : PW X (.BoolOp .And (a :: b :: rest) pos) (tT X.K fa cf (.and ca cb)) :=
  wkW (pw_and ha hb) fun sg H Q ⟨io, s, h, r, h', rs, rh, e, q⟩ =>
    t2 (R := fun c H1 => if c = true then tT X.K fa cf cb sg H1 Q else Q false H1) rs rh (by simpa only [evE] using e) q (fun x h1 v h2 e => by cases x <;> first | exact ⟨_, rfl⟩ | (simp only at e; cases e)) fun io2 H2 h2 b ex rh2 e2 q2 => by
      cases b with
      | true => rw [if_pos rfl]; exact ⟨io2, s, h2, r, h', rs.mono ex, rh2, e2, q2⟩
      | false => rw [if_neg Bool.false_ne_true]; simp only at e2; cases e2; exact q2 io2 H2 .refl rh2
theorem t_or (ha : PT X a (tT X.K fa cf ca)) (hb : PW X (.BoolOp .Or (b :: rest) pos) (tT X.K fa cf cb)) : PW X (.BoolOp .Or (a :: b :: rest) pos) (tT X.K fa cf (.or ca cb)) :=
  wkW (pw_or ha hb) fun sg H Q ⟨io, s, h, r, h', rs, rh, e, q⟩ =>
    t2 (R := fun c H1 => if c = true then Q true H1 else tT X.K fa cf cb sg H1 Q) rs rh (by simpa only [evE] using e) q (fun x h1 v h2 e => by cases x <;> first | exact ⟨_, rfl⟩ | (simp only at e; cases e)) fun io2 H2 h2 b ex rh2 e2 q2 => by
      cases b with
      | false => rw [if_neg Bool.false_ne_true]; exact ⟨io2, s, h2, r, h', rs.mono ex, rh2, e2, q2⟩
      | true => rw [if_pos rfl]; simp only at e2; cases e2; exact q2 io2 H2 .refl rh2

/-! ### comparisons -/
theorem ok_eq : OpOk X fa (cmpop .eq) (rEqD X.K) := by
  intro io H h a b x y r h' Q rh ra rb e q
  simp only [cmpop] at e
  split at e <;> cases e
  obtain ⟨d, d', h1, h2, h3, h4, _, _, _, _, rfl⟩ := rh.eqD ra rb (by assumption)
  exact ⟨d, d', h1, h2, h3, h4, q io H _ .refl rh (.bl _)⟩
theorem ok_ne : OpOk X fa (cmpop .ne) (rNeD X.K) := by
  intro io H h a b x y r h' Q rh ra rb e q
  simp only [cmpop] at e
  split at e <;> cases e
  obtain ⟨d, d', h1, h2, h3, h4, _, _, _, _, rfl⟩ := rh.eqD ra rb (by assumption)
  exact ⟨d, d', h1, h2, h3, h4, q io H _ .refl rh (.bl _)⟩
theorem ok_lt : OpOk X fa (cmpop .lt) (rI0 fun i j => .bl (decide (i < j))) := by
  intro io H h a b x y r h' Q rh ra rb e q
  cases x <;> cases y <;> simp only [cmpop] at e <;> cases e
  cases ra; cases rb
  exact ⟨_, _, rfl, rfl, q io H _ .refl rh (.bl _)⟩
theorem ok_le : OpOk X fa (cmpop .le) (rI0 fun i j => .bl (decide (i ≤ j))) := by
  intro io H h a b x y r h' Q rh ra rb e q
  cases x <;> cases y <;> simp only [cmpop] at e <;> cases e
  cases ra; cases rb
  exact ⟨_, _, rfl, rfl, q io H _ .refl rh (.bl _)⟩
theorem ok_gt : OpOk X fa (cmpop .gt) (rI0 fun i j => .bl (decide (j < i))) := by
  intro io H h a b x y r h' Q rh ra rb e q
  cases x <;> cases y <;> simp only [cmpop] at e <;> cases e
  cases ra; cases rb
  exact ⟨_, _, rfl, rfl, q io H _ .refl rh (.bl _)⟩
theorem ok_ge : OpOk X fa (cmpop .ge) (rI0 fun i j => .bl (decide (j ≤ i))) := by
  intro io H h a b x y r h' Q rh ra rb e q
  cases x <;> cases y <;> simp only [cmpop] at e <;> cases e
  cases ra; cases rb
  exact ⟨_, _, rfl, rfl, q io H _ .refl rh (.bl _)⟩
/-- is, is not: None or a bool at the right -/
def rIsA : R2 := fun x y H Q => (y = .non ∧ Q (.bl (decide (x = .non))) H) ∨ rIsB x y H Q
def rNotA : R2 := fun x y H Q => (y = .non ∧ Q (.bl (!decide (x = .non))) H) ∨ rNotB x y H Q
theorem op_isA : OpR X (compareOp .Is) rIsA := by
  intro pins s sg H x y v u Q I rx ry h
  rcases h with h | h
  · exact op_isN pins s sg H x y v u Q I rx ry h
  · exact op_isBl pins s sg H x y v u Q I rx ry h
theorem op_notA : OpR X (compareOp .IsNot) rNotA := by
  intro pins s sg H x y v u Q I rx ry h
  rcases h with h | h
  · exact op_notN pins s sg H x y v u Q I rx ry h
  · exact op_notBl pins s sg H x y v u Q I rx ry h
theorem ok_isN : OpOk X fa (cmpop .isN) rIsA := by
  intro io H h a b x y r h' Q rh ra rb e q
  simp only [cmpop] at e
  split at e
  · cases e
    cases rb
    refine .inl ⟨rfl, q io H _ .refl rh ?_⟩
    cases ra <;> exact .bl _
  · split at e <;> cases e
    cases ra; cases rb
    exact .inr ⟨_, _, rfl, rfl, q io H _ .refl rh (.bl _)⟩
  · cases e
theorem ok_notN : OpOk X fa (cmpop .notN) rNotA := by
  intro io H h a b x y r h' Q rh ra rb e q
  simp only [cmpop] at e
  split at e
  · cases e
    cases rb
    refine .inl ⟨rfl, q io H _ .refl rh ?_⟩
    cases ra <;> exact .bl _
  · split at e <;> cases e
    cases ra; cases rb
    exact .inr ⟨_, _, rfl, rfl, q io H _ .refl rh (.bl _)⟩
  · cases e
/-- in, not in: a list or a tuple of data -/
def rInA (K : PySem.W.Frag) (neg : Bool) : R2 := fun x y H Q => ∃ d ds, Dp K H x d ∧ (Dp K H y (.list ds) ∨ Dp K H y (.tuple ds)) ∧ SeqAt.shaped d = true ∧ SeqAt.shaped (.list ds) = true ∧
  Q (.bl (if neg then !ds.any fun z => PyData.eqv z d else ds.any fun z => PyData.eqv z d)) H
theorem op_inA (hu : X.A.units + 65 < cLine) : OpR X (compareOp .In) (rInA X.K false) := by
  intro pins s σ H x y v u Q I rx ry h
  obtain ⟨d, ds, hd, he, sd, se, q⟩ := h
  obtain ⟨as, r1⟩ := Dp.reads I d x v hd rx
  rcases he with he | he
  · obtain ⟨bs, r2⟩ := Dp.reads I (.list ds) y u he ry
    exact SeqAt.in_list_reads r2 r1 (SeqAt.canLay_of_shaped se) (SeqAt.canLay_of_shaped sd) (PyProof.Rows.room_in_shaped sd hu) ⟨.bl _, H, I, rfl, q⟩
  · obtain ⟨bs, r2⟩ := Dp.reads I (.tuple ds) y u he ry
    exact SeqAt.in_tuple_reads r2 r1 (SeqAt.canLay_of_shaped se) (SeqAt.canLay_of_shaped sd) (PyProof.Rows.room_in_shaped sd hu) ⟨.bl _, H, I, rfl, q⟩
theorem op_notInA (hu : X.A.units + 65 < cLine) : OpR X (compareOp .NotIn) (rInA X.K true) := by
  intro pins s σ H x y v u Q I rx ry h
  obtain ⟨d, ds, hd, he, sd, se, q⟩ := h
  obtain ⟨as, r1⟩ := Dp.reads I d x v hd rx
  rcases he with he | he
  · obtain ⟨bs, r2⟩ := Dp.reads I (.list ds) y u he ry
    exact SeqAt.notIn_list_reads r2 r1 (SeqAt.canLay_of_shaped se) (SeqAt.canLay_of_shaped sd) (PyProof.Rows.room_in_shaped sd hu) ⟨.bl _, H, I, rfl, q⟩
  · obtain ⟨bs, r2⟩ := Dp.reads I (.tuple ds) y u he ry
    exact SeqAt.notIn_tuple_reads r2 r1 (SeqAt.canLay_of_shaped se) (SeqAt.canLay_of_shaped sd) (PyProof.Rows.room_in_shaped sd hu) ⟨.bl _, H, I, rfl, q⟩
theorem shaped_of {z : PyData} (h1 : PyData.canLay0 z = true) (h2 : PyData.depth z ≤ 12) : SeqAt.shaped z = true := by
  unfold SeqAt.shaped
  rw [h1, Bool.true_and]
  exact decide_eq_true (by omega)
theorem seq_data {io : List Addr} {H : Hp} {h : PH} {K : PySem.W.Frag} {v : V} {x : PV} {ds : List PyData} (rh : RH K fa io H h) (rv : Rl K fa io H v x) (e : seqD h x = some ds) :
    (Dp K H v (.list ds) ∨ Dp K H v (.tuple ds)) ∧ SeqAt.shaped (.list ds) = true := by
  unfold seqD at e
  split at e
  · rename_i ds' e1
    cases e
    obtain ⟨h1, h2, h3⟩ := rh.data 12 v x _ rv e1
    exact ⟨.inl h1, shaped_of h2 h3⟩
  · rename_i ds' e1
    cases e
    obtain ⟨h1, h2, h3⟩ := rh.data 12 v x _ rv e1
    exact ⟨.inr h1, shaped_of (show PyData.canLay0 (.list ds) = true from h2) (show PyData.depth (.list ds) ≤ 12 from h3)⟩
  · cases e
theorem ok_in : OpOk X fa (cmpop .isIn) (rInA X.K false) := by
  intro io H h a b x y r h' Q rh ra rb e q
  simp only [cmpop] at e
  split at e <;> cases e
  rename_i d ds e1 e2
  obtain ⟨h1, h2, h3⟩ := rh.data 12 a x d ra e1
  obtain ⟨g1, g2⟩ := seq_data rh rb e2
  exact ⟨d, ds, h1, g1, shaped_of h2 h3, g2, q io H _ .refl rh (.bl _)⟩
theorem ok_notIn : OpOk X fa (cmpop .notIn) (rInA X.K true) := by
  intro io H h a b x y r h' Q rh ra rb e q
  simp only [cmpop] at e
  split at e <;> cases e
  rename_i d ds e1 e2
  obtain ⟨h1, h2, h3⟩ := rh.data 12 a x d ra e1
  obtain ⟨g1, g2⟩ := seq_data rh rb e2
  exact ⟨d, ds, h1, g1, shaped_of h2 h3, g2, q io H _ .refl rh (.bl _)⟩
/-- a comparison of the text, its code -/
structure CmpR (X : Cx) (fa : FA) (op : CmpOp) (co : CmpO) : Prop where
  to : ∃ R, OpR X (compareOp op) R ∧ OpOk X fa (cmpop co) R
  bool : ∀ x y h r h', cmpop co x y h = .ok r h' → ∃ b, r = .bl b
theorem cmp_bl (co : CmpO) : ∀ x y h r h', cmpop co x y h = .ok r h' → ∃ b, r = .bl b := by
  intro x y h r h' e
  cases co <;> simp only [cmpop] at e <;> (try (split at e <;> cases e <;> exact ⟨_, rfl⟩)) <;>
    (cases x <;> cases y <;> simp only [cmpop] at e <;> cases e <;> exact ⟨_, rfl⟩)
variable {k : Nat}
theorem c_eq (hr : Room k X.A) : CmpR X fa .Eq .eq := ⟨⟨_, op_eqD hr.units, ok_eq⟩, cmp_bl _⟩
theorem c_ne (hr : Room k X.A) : CmpR X fa .NotEq .ne := ⟨⟨_, op_neD hr.units, ok_ne⟩, cmp_bl _⟩
theorem c_lt : CmpR X fa .Lt .lt := ⟨⟨_, op_lt, ok_lt⟩, cmp_bl _⟩
theorem c_le : CmpR X fa .LtE .le := ⟨⟨_, op_le, ok_le⟩, cmp_bl _⟩
theorem c_gt : CmpR X fa .Gt .gt := ⟨⟨_, op_gt, ok_gt⟩, cmp_bl _⟩
theorem c_ge : CmpR X fa .GtE .ge := ⟨⟨_, op_ge, ok_ge⟩, cmp_bl _⟩
theorem c_isN : CmpR X fa .Is .isN := ⟨⟨_, op_isA, ok_isN⟩, cmp_bl _⟩
theorem c_notN : CmpR X fa .IsNot .notN := ⟨⟨_, op_notA, ok_notN⟩, cmp_bl _⟩
theorem c_in (hr : Room k X.A) : CmpR X fa .In .isIn := ⟨⟨_, op_inA (by have := hr.un; omega), ok_in⟩, cmp_bl _⟩
theorem c_notIn (hr : Room k X.A) : CmpR X fa .NotIn .notIn := ⟨⟨_, op_notInA (by have := hr.un; omega), ok_notIn⟩, cmp_bl _⟩
theorem e_cmp {op : CmpOp} {co : CmpO} (hc : CmpR X fa op co) (ha : PE X a (tE X.K fa cf ca)) (hb : PE X b (tE X.K fa cf cb)) (hm : behindInMarks op b = false := by rfl) : PE X (.Compare a [op] [b] pos) (tE X.K fa cf (.cmp co ca cb)) := by
  obtain ⟨⟨R, ho, hk⟩, _⟩ := hc
  exact wkE (pe_cmpR ho ha hb hm) fun sg H Q ⟨io, s, h, r, h', rs, rh, e, q⟩ =>
    bin2 (R := R) rs rh (by simpa only [evE] using e) q fun io2 H2 h2 a b x y rh2 ra rb e2 q2 => hk io2 H2 h2 a b x y r h' Q rh2 ra rb e2 q2
theorem t_cmp {op : CmpOp} {co : CmpO} (hc : CmpR X fa op co) (ha : PE X a (tE X.K fa cf ca)) (hb : PE X b (tE X.K fa cf cb)) (hm : behindInMarks op b = false := by rfl) : PT X (.Compare a [op] [b] pos) (tT X.K fa cf (.cmp co ca cb)) := by
  obtain ⟨⟨R, ho, hk⟩, _⟩ := hc
  refine wkT (pt_cmpR ho ha hb hm) fun sg H Q ⟨io, s, h, r, h', rs, rh, e, q⟩ => ?_
  refine bin2 (R := R) (Q := fun x H' => ∃ k, x = .bl k ∧ Q k H') rs rh (by simpa only [evE] using e) (fun io' H' v ex rh' rv => ?_) fun io2 H2 h2 a b x y rh2 ra rb e2 q2 => hk io2 H2 h2 a b x y _ h' _ rh2 ra rb e2 q2
  cases rv
  exact ⟨r, rfl, q io' H' ex rh'⟩
theorem chain_to {op op' : CmpO} {R R' : R2} {sg : L2.St} {H : Hp} {Q : VK} {io : List Addr} {s : Sl} {h : PH} {r : PV} {h' : PH} (hk : OpOk X fa (cmpop op) R) (hk' : OpOk X fa (cmpop op') R') (hb : ∀ x y h r h', cmpop op x y h = .ok r h' → ∃ b, r = .bl b)
    (rs : RS X.K fa io H sg s) (rh : RH X.K fa io H h) (e : evE cf (.chn op op' ca cb cc) s h = .ok r h')
    (q : ∀ io' H' v, Ext io H io' H' → RH X.K fa io' H' h' → Rl X.K fa io' H' v r → Q v H') : tChain R R' (tE X.K fa cf ca) (tE X.K fa cf cb) (tE X.K fa cf cc) sg H Q := by
  simp only [evE] at e
  obtain ⟨x, h1, ea, e⟩ := bind_ok e
  obtain ⟨y, h2, eb, e⟩ := bind_ok e
  obtain ⟨z, h3, ec, e⟩ := bind_ok e
  obtain ⟨k, rfl⟩ := hb _ _ _ _ _ ec
  refine ⟨io, s, h, x, h1, rs, rh, ea, fun io1 H1 a ex1 rh1 ra => ⟨io1, s, h1, y, h2, rs.mono ex1, rh1, eb, fun io2 H2 b ex2 rh2 rb => ?_⟩⟩
  refine hk io2 H2 h2 a b x y _ h3 _ rh2 (ra.mono ex2) rb ec fun io3 H3 v ex3 rh3 rv => ?_
  cases rv
  refine ⟨k, rfl, ?_⟩
  have ex : Ext io H io3 H3 := (ex1.trans ex2).trans ex3
  cases k with
  | false =>
    rw [if_neg Bool.false_ne_true]
    simp only at e; cases e
    exact q io3 H3 _ ex rh3 (.bl _)
  | true =>
    rw [if_pos rfl]
    simp only at e
    obtain ⟨w, h4, ed, e⟩ := bind_ok e
    exact ⟨io3, s, h3, w, h4, rs.mono ex, rh3, ed, fun io4 H4 c ex4 rh4 rc => hk' io4 H4 h4 b c y w r h' Q rh4 ((rb.mono ex3).mono ex4) rc e fun io' H' v ex5 rh5 rv => q io' H' v ((ex.trans ex4).trans ex5) rh5 rv⟩
theorem e_chn {op op' : CmpOp} {co co' : CmpO} (hc : CmpR X fa op co) (hc' : CmpR X fa op' co') (h1 : PE X a (tE X.K fa cf ca)) (h2 : PE X b (tE X.K fa cf cb)) (h3 : PE X c (tE X.K fa cf cc))
    (hm : lastMarks [op, op'] [b, c] = false := by with_unfolding_all rfl) : PE X (.Compare a [op, op'] [b, c] pos) (tE X.K fa cf (.chn co co' ca cb cc)) := by
  obtain ⟨⟨R, ho, hk⟩, hb⟩ := hc
  obtain ⟨⟨R', ho', hk'⟩, _⟩ := hc'
  exact wkE (pe_chain ho ho' h1 h2 h3 hm) fun sg H Q ⟨io, s, h, r, h', rs, rh, e, q⟩ => chain_to hk hk' hb rs rh e q
theorem t_chn {op op' : CmpOp} {co co' : CmpO} (hc : CmpR X fa op co) (hc' : CmpR X fa op' co') (h1 : PE X a (tE X.K fa cf ca)) (h2 : PE X b (tE X.K fa cf cb)) (h3 : PE X c (tE X.K fa cf cc))
    (hm : lastMarks [op, op'] [b, c] = false := by with_unfolding_all rfl) : PT X (.Compare a [op, op'] [b, c] pos) (tT X.K fa cf (.chn co co' ca cb cc)) := by
  obtain ⟨⟨R, ho, hk⟩, hb⟩ := hc
  obtain ⟨⟨R', ho', hk'⟩, _⟩ := hc'
  exact wkT (pt_chain ho ho' h1 h2 h3 hm) fun sg H Q ⟨io, s, h, r, h', rs, rh, e, q⟩ => chain_to (Q := fun x H' => ∃ k, x = .bl k ∧ Q k H') hk hk' hb rs rh e fun io' H' v ex rh' rv => by cases rv; exact ⟨r, rfl, q io' H' ex rh'⟩
theorem e_ite (hc : PT X c (tT X.K fa cf cc)) (ha : PE X a (tE X.K fa cf ca)) (hb : PE X b (tE X.K fa cf cb)) : PE X (.IfExp c a b pos) (tE X.K fa cf (.ite cc ca cb)) :=
  wkE (pe_ifExp hc ha hb) fun sg H Q ⟨io, s, h, r, h', rs, rh, e, q⟩ => by
    simp only [evE] at e
    obtain ⟨x, h1, ec, e⟩ := bind_ok e
    cases x <;> try (simp only at e; cases e; done)
    case bl k =>
      refine ⟨io, s, h, k, h1, rs, rh, ec, fun io1 H1 ex1 rh1 => ?_⟩
      cases k with
      | true => rw [if_pos rfl]; exact ⟨io1, s, h1, r, h', rs.mono ex1, rh1, e, fun io' H' v ex rh' rv => q io' H' v (ex1.trans ex) rh' rv⟩
      | false => rw [if_neg Bool.false_ne_true]; exact ⟨io1, s, h1, r, h', rs.mono ex1, rh1, e, fun io' H' v ex rh' rv => q io' H' v (ex1.trans ex) rh' rv⟩
end
end PB

set_option Elab.async false
set_option linter.all false
set_option maxRecDepth 100000
set_option maxHeartbeats 2000000
namespace PB
open PySem PySem.Spec L2
section
variable {X : Cx} {fa : FA} {cf : Nat → List PV → PH → Res PV} {a b c e : Expr} {es : List Expr} {pos : Pos} {ca cb cc : CE} {cs : CA}

/-! ### arguments -/
theorem a_nil : PA X [] (tA X.K fa cf .nil) :=
  wkA pa_nil fun sg H Q ⟨io, s, h, r, h', rs, rh, e, q⟩ => by
    simp only [evA] at e; cases e
    exact q io H _ .refl rh .nil
theorem a_cons (ha : PE X e (tE X.K fa cf ca)) (hr : PA X es (tA X.K fa cf cs)) (hs : starEach (e :: es) X.env = (false, eval e X.env) :: starEach es X.env := by rfl) : PA X (e :: es) (tA X.K fa cf (.cons ca cs)) :=
  wkA (pa_cons ha hr hs) fun sg H Q ⟨io, s, h, r, h', rs, rh, e, q⟩ => by
    simp only [evA] at e
    obtain ⟨x, h1, e1, e⟩ := bind_ok e
    obtain ⟨xs, h2, e2, e⟩ := bind_ok e
    cases e
    exact ⟨io, s, h, x, h1, rs, rh, e1, fun io1 H1 v ex1 rh1 rv => ⟨io1, s, h1, xs, _, rs.mono ex1, rh1, e2, fun io2 H2 vs ex2 rh2 rvs => q io2 H2 _ (ex1.trans ex2) rh2 (.cons (rv.mono ex2) rvs)⟩⟩
theorem a_star {p : Pos} (ha : PE X e (tE X.K fa cf ca)) (hr : PA X es (tA X.K fa cf cs)) : PA X (.Starred e p :: es) (tA X.K fa cf (.star ca cs)) :=
  wkA (StX.pa_star ha hr) fun sg H Q ⟨io, s, h, r, h', rs, rh, e, q⟩ => by
    simp only [evA] at e
    obtain ⟨x, h1, e1, e⟩ := bind_ok e
    split at e
    · rename_i ys hy
      obtain ⟨xs, h2, e2, e⟩ := bind_ok e
      cases e
      refine ⟨io, s, h, x, h1, rs, rh, e1, fun io1 H1 v ex1 rh1 rv => ?_⟩
      obtain ⟨a, vs, rfl, sq, rvs⟩ := rh1.items rv hy
      exact ⟨a, vs, rfl, sq.symm, io1, s, h1, xs, _, rs.mono ex1, rh1, e2, fun io2 H2 ws ex2 rh2 rws => q io2 H2 _ (ex1.trans ex2) rh2 ((rvs.mono ex2).append rws)⟩
    · cases e
theorem e_tup {k : Nat} (h : PA X es (tA X.K fa cf cs)) : PE X (.Tuple es k pos) (tE X.K fa cf (.tup cs)) :=
  wkE (pe_tupN h) fun sg H Q ⟨io, s, h, r, h', rs, rh, e, q⟩ => by
    simp only [evE] at e
    obtain ⟨xs, h1, e1, e⟩ := bind_ok e
    split at e <;> cases e
    rename_i hl
    exact ⟨io, s, h, xs, _, rs, rh, e1, fun io1 H1 vs ex1 rh1 rv => ⟨by rw [rv.length]; exact many_le hl, tup_ok rh1 rv fun io' H' v ex2 rh2 rv2 => q io' H' v (ex1.trans ex2) rh2 rv2⟩⟩
theorem e_lst (h : PA X es (tA X.K fa cf cs)) : PE X (.List es pos) (tE X.K fa cf (.lst cs)) :=
  wkE (pe_lst h) fun sg H Q ⟨io, s, h, r, h', rs, rh, e, q⟩ => by
    simp only [evE] at e
    obtain ⟨xs, h1, e1, e⟩ := bind_ok e
    by_cases hl : xs.length ≤ many
    · rw [if_pos hl] at e
      exact ⟨io, s, h, xs, _, rs, rh, e1, fun io1 H1 vs ex1 rh1 rv => ⟨by rw [rv.length]; exact many_le hl, alloc_ok rh1 rv e fun io' H' v ex2 rh2 rv2 => q io' H' v (ex1.trans ex2) rh2 rv2⟩⟩
    · rw [if_neg hl] at e; cases e

/-! ### subscripts -/
theorem Rls.atI {K : PySem.W.Frag} {io : List Addr} {H : Hp} {vs : List V} {xs : List PV} {i : Int} {x : PV} (r : Rls K fa io H vs xs) (e : L2.atI xs i = some x) : ∃ v, L2.atI vs i = some v ∧ Rl K fa io H v x := by
  unfold L2.atI at e ⊢
  rw [r.length]
  cases z : ixN xs.length i with
  | none => rw [z] at e; cases e
  | some j =>
    rw [z] at e
    exact r.get (i := j) e
theorem ok_idx : OpOk X fa idxop (rIx X.K) := by
  intro io H h a b x y r h' Q rh ra rb e q
  unfold idxop at e
  split at e
  · rename_i xs i h1
    split at e <;> cases e
    rename_i h2
    obtain ⟨p, vs, rfl, sq, rv⟩ := rh.items ra h1
    cases rb
    obtain ⟨w, hw, rw'⟩ := rv.atI h2
    have fin := q io H w .refl rh rw'
    rcases sq with sq | sq
    · exact .inl ⟨p, vs, i, w, rfl, rfl, sq, hw, fin⟩
    · exact .inr (.inl ⟨p, vs, i, w, rfl, rfl, sq, hw, fin⟩)
  · cases e
theorem e_idx (ha : PE X a (tE X.K fa cf ca)) (hb : PE X b (tE X.K fa cf cb)) (hs : PlainIx b := by exact fun _ _ => rfl) : PE X (.Subscript a b pos) (tE X.K fa cf (.idx ca cb)) :=
  wkE (pe_ix ix_seq ha hb hs) fun sg H Q ⟨io, s, h, r, h', rs, rh, e, q⟩ =>
    bin2 (R := rIx X.K) rs rh (by simpa only [evE] using e) q fun io2 H2 h2 a b x y rh2 ra rb e2 q2 => ok_idx io2 H2 h2 a b x y r h' Q rh2 ra rb e2 q2
theorem o_none : L2.PO X none (tO X.K fa cf .none) :=
  wkO po_none fun sg H Q ⟨io, s, h, r, o, h', rs, rh, e, e2, q⟩ => by
    simp only [evO] at e; cases e
    simp only [optI] at e2; cases e2
    exact q io H .refl rh
theorem o_some (ha : PE X a (tE X.K fa cf ca)) : L2.PO X (some a) (tO X.K fa cf (.some ca)) :=
  wkO (po_some ha) fun sg H Q ⟨io, s, h, r, o, h', rs, rh, e, e2, q⟩ => by
    simp only [evO] at e
    obtain ⟨x, h1, e1, e⟩ := bind_ok e
    cases e
    cases x <;> simp only [optI] at e2 <;> cases e2
    exact ⟨io, s, h, _, _, rs, rh, e1, fun io1 H1 v ex1 rh1 rv => by cases rv; exact ⟨_, rfl, q io1 H1 ex1 rh1⟩⟩
theorem Rls.cut {K : PySem.W.Frag} {io : List Addr} {H : Hp} {vs : List V} {xs : List PV} (r : Rls K fa io H vs xs) (lo hi : Option Int) : Rls K fa io H (cutV vs lo hi) (PB.cut xs lo hi) := by
  unfold cutV PB.cut
  rw [r.length]
  exact (r.drop _).take _
theorem optI_ok {h : PH} {r : Option PV} {o : Option Int} {h' : PH} (e : optI h r = .ok o h') : h' = h := by
  cases r with
  | none => simp only [optI] at e; cases e; rfl
  | some x => cases x <;> simp only [optI] at e <;> cases e; rfl
theorem slc_ok {K : PySem.W.Frag} {io : List Addr} {H : Hp} {h : PH} {x r : PV} {v : V} {l' u' : Option Int} {h' : PH} {Q : VK} (rh3 : RH K fa io H h) (rv3 : Rl K fa io H v x) (ef : slcop x l' u' h = .ok r h')
    (q3 : ∀ io' H' v, Ext io H io' H' → RH K fa io' H' h' → Rl K fa io' H' v r → Q v H') : rSlL K v l' u' H Q ∨ rSlN K v l' u' H Q := by
  cases x <;> try (simp only [slcop] at ef; cases ef; done)
  case tup xs =>
    simp only [slcop] at ef; cases ef
    cases rv3 with
    | @tup p vs _ sq rvs =>
    refine .inr ⟨p, vs, rfl, sq.t, fun hw => ?_, fun _ => tup_ok rh3 (rvs.cut l' u') q3⟩
    refine q3 io H _ .refl rh3 (.tup sq ?_)
    have : PB.cut xs l' u' = xs := by
      unfold PB.cut
      rw [rvs.length] at hw
      rw [hw.1, hw.2]
      simp
    rw [this]; exact rvs
  case ref n =>
    simp only [slcop] at ef
    split at ef
    · rename_i xs hx
      obtain ⟨p, vs, rfl, _, hp, rvs⟩ := rh3.list rv3 hx
      exact .inl ⟨p, vs, rfl, .inl (.inl hp), alloc_ok rh3 (rvs.cut l' u') ef q3⟩
    · cases ef
variable {lo hi : Option Expr} {cl cu : CO} {p2 : Pos}
theorem e_slc (ha : PE X a (tE X.K fa cf ca)) (hl : L2.PO X lo (tO X.K fa cf cl)) (hu : L2.PO X hi (tO X.K fa cf cu)) : PE X (.Subscript a (.Slice lo hi none p2) pos) (tE X.K fa cf (.slc ca cl cu)) :=
  wkE (pe_slice (sl_list.or sl_tupN) ha hl hu) fun sg H Q ⟨io, s, h, r, h', rs, rh, e, q⟩ => by
    simp only [evE] at e
    obtain ⟨x, h1, e1, e⟩ := bind_ok e
    obtain ⟨l, h2, e2, e⟩ := bind_ok e
    obtain ⟨u, h3, e3, e⟩ := bind_ok e
    obtain ⟨l', h4, e4, e⟩ := bind_ok e
    obtain ⟨u', h5, e5, ef⟩ := bind_ok e
    have z4 := optI_ok e4
    have z5 := optI_ok e5
    subst z4; subst z5
    have e4' : optI h2 l = .ok l' h2 := by
      cases l with
      | none => simp only [optI] at e4 ⊢; cases e4; rfl
      | some x => cases x <;> simp only [optI] at e4 ⊢ <;> cases e4; rfl
    refine ⟨io, s, h, x, h1, rs, rh, e1, fun io1 H1 v ex1 rh1 rv => ⟨io1, s, h1, l, l', h2, rs.mono ex1, rh1, e2, e4', fun io2 H2 ex2 rh2 => ⟨io2, s, h2, u, u', _, rs.mono (ex1.trans ex2), rh2, e3, e5, fun io3 H3 ex3 rh3 => ?_⟩⟩⟩
    exact slc_ok rh3 (rv.mono (ex2.trans ex3)) ef fun io' H' v ex rh' rv' => q io' H' v ((ex1.trans (ex2.trans ex3)).trans ex) rh' rv'

/-! ### calls -/
variable {P : Program} {k j : Nat} {x : Str} {p : Pos} {i : Nat} {G : Nat → Option Fn}
theorem e_call {j : Nat} (hc : C8.Cal X.prog X.w X.K X.mg X.base j x (spI X.K fa G k i) []) (hr : Room j X.A) (hg : Gl X x) (ha : PA X (e :: es) (tA X.K fa (callF G k) cs))
    (hdb : (x == ("__debug__" : Str)) = false := by decide) (he : starEach (e :: es) X.env = (false, eval e X.env) :: starEach es X.env := by rfl) (hpl : (backTo pos (starEach es X.env)).any (·.1) = false := by rfl) :
    PE X (.Call (.Name x p) (e :: es) [] pos) (tE X.K fa (callF G k) (.call i cs)) :=
  wkE (C8.pe_c hc hr (Nat.le_refl _) hg ha hdb he hpl) fun sg H Q ⟨io, s, h, r, h', rs, rh, e, q⟩ => by
    simp only [evE] at e
    obtain ⟨xs, h1, e1, e⟩ := bind_ok e
    refine ⟨io, s, h, xs, h1, rs, rh, e1, fun io1 H1 vs ex1 rh1 rv => ?_⟩
    show spI X.K fa G k i (vs ++ []) H1 Q _
    rw [List.append_nil]
    exact ⟨io1, h1, xs, r, h', rv, rh1, e, fun io' H' v ex2 rh2 rv2 => q io' H' v (ex1.trans ex2) rh2 rv2⟩
theorem e_call0 {j : Nat} (hc : C8.Cal X.prog X.w X.K X.mg X.base j x (spI X.K fa G k i) []) (hr : Room j X.A) (hg : Gl X x) (hdb : (x == ("__debug__" : Str)) = false := by decide) :
    PE X (.Call (.Name x p) [] [] pos) (tE X.K fa (callF G k) (.call i .nil)) := by
  obtain ⟨f, fd, ps, ds, F, hm, kp, b, d⟩ := hc.ex
  refine wkE (pe_call0 F hr hg hm kp b d pass0 hdb) fun sg H Q ⟨io, s, h, r, h', rs, rh, e, q⟩ => ?_
  simp only [evE, evA] at e
  obtain ⟨xs, h1, e1, e⟩ := bind_ok e
  cases e1
  exact ⟨io, h, [], r, h', .nil, rh, e, q⟩
/-- the defs that may be held by a name: by their ids -/
structure Held' (P : Program) (w : World) (K : PySem.W.Frag) (mg : Str → Option Value) (base : Heap) (fa : FA) (G : Nat → Option Fn) (j k : Nat) : Prop where
  at_ : ∀ n f, fa.fn n = some f → ∃ (fd : FuncData) (ps : List Str), FnOk P w K mg base L2.CX0 j f fd ps (spI K fa G k n) ∧ PySem.W.keepIn K (.ref f) = true ∧ Binds K fd ps []

/-! ### built-in functions -/
/-- a built-in's rule by values and its pure one -/
def BltOk (X : Cx) (fa : FA) (f : Blt) (R : List V → Hp → VK → Prop) : Prop :=
  ∀ (io : List Addr) (H : Hp) (h : PH) (vs : List V) (xs : List PV) (r : PV) (h' : PH) (Q : VK), RH X.K fa io H h → Rls X.K fa io H vs xs → blt f xs h = .ok r h' →
    (∀ io' H' v, Ext io H io' H' → RH X.K fa io' H' h' → Rl X.K fa io' H' v r → Q v H') → R vs H Q
theorem blt_to {f : Blt} {R : List V → Hp → VK → Prop} (hk : BltOk X fa f R) (h : PE X e (tCB R (tA X.K fa cf cs))) : PE X e (tE X.K fa cf (.blt f cs)) :=
  wkE h fun sg H Q ⟨io, s, h, r, h', rs, rh, e, q⟩ => by
    simp only [evE] at e
    obtain ⟨xs, h1, e1, e⟩ := bind_ok e
    exact ⟨io, s, h, xs, h1, rs, rh, e1, fun io1 H1 vs ex1 rh1 rv => hk io1 H1 h1 vs xs r h' Q rh1 rv e fun io' H' v ex2 rh2 rv2 => q io' H' v (ex1.trans ex2) rh2 rv2⟩
theorem Rls.one {K : PySem.W.Frag} {io : List Addr} {H : Hp} {vs : List V} {x : PV} (r : Rls K fa io H vs [x]) : ∃ v, vs = [v] ∧ Rl K fa io H v x := by
  cases r with
  | cons a q => cases q; exact ⟨_, rfl, a⟩
theorem Rls.two {K : PySem.W.Frag} {io : List Addr} {H : Hp} {vs : List V} {x y : PV} (r : Rls K fa io H vs [x, y]) : ∃ v w, vs = [v, w] ∧ Rl K fa io H v x ∧ Rl K fa io H w y := by
  cases r with
  | cons a q =>
    obtain ⟨w, rfl, b⟩ := Rls.one q
    exact ⟨_, _, rfl, a, b⟩
theorem bk_len : BltOk X fa .len (fun xs H Q => ∃ p ys, xs = [.ref p] ∧ (SqL X.K H p ys ∨ SqT X.K H p ys) ∧ Q (.int ys.length) H) := by
  intro io H h vs xs r h' Q rh rv e q
  match xs, e with
  | [a], e =>
    simp only [blt] at e
    split at e <;> cases e
    obtain ⟨v, rfl, ra⟩ := rv.one
    obtain ⟨p, ws, rfl, sq, rw'⟩ := rh.items ra (by assumption)
    exact ⟨p, ws, rfl, sq, by rw [rw'.length]; exact q io H _ .refl rh (.int _)⟩
  | [], e => simp [blt] at e
  | _ :: _ :: _, e => simp [blt] at e
theorem bk_abs : BltOk X fa .abs (fun xs H Q => ∃ i, xs = [.int i] ∧ Q (.int (if i < 0 then -i else i)) H) := by
  intro io H h vs xs r h' Q rh rv e q
  match xs, e with
  | [a], e =>
    cases a <;> simp only [blt] at e <;> cases e
    rename_i i
    obtain ⟨v, rfl, ra⟩ := rv.one
    cases ra
    refine ⟨i, rfl, ?_⟩
    have e : (if i < 0 then -i else i) = (i.natAbs : Int) := by split <;> omega
    rw [e]
    exact q io H _ .refl rh (.int _)
  | [], e => simp [blt] at e
  | _ :: _ :: _, e => simp [blt] at e
theorem bk_min : BltOk X fa .min2 (fun xs H Q => ∃ i j, xs = [.int i, .int j] ∧ Q (.int (if j < i then j else i)) H) := by
  intro io H h vs xs r h' Q rh rv e q
  match xs, e with
  | [a, b], e =>
    cases a <;> cases b <;> simp only [blt] at e <;> cases e
    obtain ⟨v, w, rfl, ra, rb⟩ := rv.two
    cases ra; cases rb
    exact ⟨_, _, rfl, q io H _ .refl rh (.int _)⟩
  | [], e => simp [blt] at e
  | [_], e => simp [blt] at e
  | _ :: _ :: _ :: _, e => simp [blt] at e
theorem bk_max : BltOk X fa .max2 (fun xs H Q => ∃ i j, xs = [.int i, .int j] ∧ Q (.int (if j > i then j else i)) H) := by
  intro io H h vs xs r h' Q rh rv e q
  match xs, e with
  | [a, b], e =>
    cases a <;> cases b <;> simp only [blt] at e <;> cases e
    obtain ⟨v, w, rfl, ra, rb⟩ := rv.two
    cases ra; cases rb
    exact ⟨_, _, rfl, q io H _ .refl rh (.int _)⟩
  | [], e => simp [blt] at e
  | [_], e => simp [blt] at e
  | _ :: _ :: _ :: _, e => simp [blt] at e
theorem bk_gcd : BltOk X fa .gcd rGcd := by
  intro io H h vs xs r h' Q rh rv e q
  match xs, e with
  | [a, b], e =>
    cases a <;> cases b <;> simp only [blt] at e <;> cases e
    obtain ⟨v, w, rfl, ra, rb⟩ := rv.two
    cases ra; cases rb
    exact ⟨_, _, rfl, q io H _ .refl rh (.int _)⟩
  | [], e => simp [blt] at e
  | [_], e => simp [blt] at e
  | _ :: _ :: _ :: _, e => simp [blt] at e
theorem bk_tuple : BltOk X fa .tuple (fun xs H Q => ∃ p ys, xs = [.ref p] ∧ ((SqL X.K H p ys ∧ NewT Q H ys) ∨ (SqT X.K H p ys ∧ Q (.ref p) H))) := by
  intro io H h vs xs r h' Q rh rv e q
  match xs, e with
  | [a], e =>
    simp only [blt] at e
    split at e <;> cases e
    rename_i ys hy
    obtain ⟨v, rfl, ra⟩ := rv.one
    cases ra with
    | tup sq rr => cases hy; exact ⟨_, _, rfl, .inr ⟨sq.t, q io H _ .refl rh (.tup sq rr)⟩⟩
    | scr sq rr => cases hy; exact ⟨_, _, rfl, .inl ⟨sq.l, tup_ok rh rr q⟩⟩
    | @ref p n hn =>
      simp only [PB.items] at hy
      split at hy <;> cases hy
      rename_i hx
      obtain ⟨a, ws, e1, _, ha, rr⟩ := rh.list (.ref hn) hx
      cases e1
      exact ⟨_, _, rfl, .inl ⟨.inl (.inl ha), tup_ok rh rr q⟩⟩
    | _ => cases hy
  | [], e => simp [blt] at e
  | _ :: _ :: _, e => simp [blt] at e
theorem bk_list : BltOk X fa .list (fun xs H Q => ∃ p ys, xs = [.ref p] ∧ (SqL X.K H p ys ∨ SqT X.K H p ys) ∧ ∀ l, H l = none → Q (.ref l) (upd H l (.lst ys))) := by
  intro io H h vs xs r h' Q rh rv e q
  match xs, e with
  | [a], e =>
    simp only [blt] at e
    split at e
    · obtain ⟨v, rfl, ra⟩ := rv.one
      obtain ⟨p, ws, rfl, sq, rw'⟩ := rh.items ra (by assumption)
      exact ⟨p, ws, rfl, sq, alloc_ok rh rw' e q⟩
    · cases e
  | [], e => simp [blt] at e
  | _ :: _ :: _, e => simp [blt] at e
theorem bk_int : BltOk X fa .int (fun xs H Q => (∃ i, xs = [.int i] ∧ Q (.int i) H) ∨ ∃ k, xs = [.bl k] ∧ Q (.int (if k then 1 else 0)) H) := by
  intro io H h vs xs r h' Q rh rv e q
  match xs, e with
  | [a], e =>
    cases a <;> simp only [blt] at e <;> cases e
    obtain ⟨v, rfl, ra⟩ := rv.one
    cases ra
    exact .inl ⟨_, rfl, q io H _ .refl rh (.int _)⟩
  | [], e => simp [blt] at e
  | _ :: _ :: _, e => simp [blt] at e
theorem truths_all : ∀ {xs : List PV} {b : Bool}, truths (· && ·) true xs = some b → ∃ bs : List Bool, xs = bs.map PV.bl ∧ bs.all id = b
  | [], b, e => by simp only [truths] at e; cases e; exact ⟨[], rfl, rfl⟩
  | x :: r, b, e => by
    cases x <;> simp only [truths] at e <;> try cases e
    rename_i c
    split at e <;> cases e
    obtain ⟨bs, rfl, rfl⟩ := truths_all (by assumption)
    exact ⟨c :: bs, rfl, rfl⟩
theorem truths_any : ∀ {xs : List PV} {b : Bool}, truths (· || ·) false xs = some b → ∃ bs : List Bool, xs = bs.map PV.bl ∧ bs.any id = b
  | [], b, e => by simp only [truths] at e; cases e; exact ⟨[], rfl, rfl⟩
  | x :: r, b, e => by
    cases x <;> simp only [truths] at e <;> try cases e
    rename_i c
    split at e <;> cases e
    obtain ⟨bs, rfl, rfl⟩ := truths_any (by assumption)
    exact ⟨c :: bs, rfl, rfl⟩
theorem ints_of : ∀ {xs : List PV} {is : List Int}, intsOf xs = some is → xs = is.map PV.int
  | [], is, e => by simp only [intsOf] at e; cases e; rfl
  | x :: r, is, e => by
    cases x <;> simp only [intsOf] at e <;> try cases e
    split at e <;> cases e
    rename_i is' z
    rw [ints_of z]; rfl
theorem lst1 {f : Blt} {xs : List PV} {h : PH} {r : PV} {h' : PH} (hf : f = .all ∨ f = .any ∨ f = .sum ∨ f = .min1 ∨ f = .max1) (e : blt f xs h = .ok r h') : ∃ n ys, xs = [.ref n] ∧ h[n]? = some (.lst ys) := by
  match xs, e with
  | [], e => rcases hf with rfl | rfl | rfl | rfl | rfl <;> simp [blt] at e
  | _ :: _ :: _, e => rcases hf with rfl | rfl | rfl | rfl | rfl <;> simp [blt] at e
  | [a], e =>
    rcases hf with rfl | rfl | rfl | rfl | rfl <;>
    (cases a <;> simp only [blt] at e <;> try (cases e; done)
     rename_i n
     cases hx : h[n]? with
     | none => rw [hx] at e; cases e
     | some o => obtain ⟨ys⟩ := o; exact ⟨n, ys, rfl, hx⟩)
theorem bk_all : BltOk X fa .all (rAll X.K) := by
  intro io H h vs xs r h' Q rh rv e q
  obtain ⟨n, ys, rfl, hx⟩ := lst1 (.inl rfl) e
  simp only [blt, hx] at e
  split at e <;> cases e
  rename_i b hb
  obtain ⟨bs, rfl, rfl⟩ := truths_all hb
  obtain ⟨v, rfl, ra⟩ := rv.one
  obtain ⟨p, ws, rfl, _, hp, rw'⟩ := rh.list ra hx
  have := rw'.bls
  subst this
  exact ⟨p, bs, rfl, .inl (.inl hp), q io H _ .refl rh (.bl _)⟩
theorem bk_any : BltOk X fa .any (rAny X.K) := by
  intro io H h vs xs r h' Q rh rv e q
  obtain ⟨n, ys, rfl, hx⟩ := lst1 (.inr (.inl rfl)) e
  simp only [blt, hx] at e
  split at e <;> cases e
  rename_i b hb
  obtain ⟨bs, rfl, rfl⟩ := truths_any hb
  obtain ⟨v, rfl, ra⟩ := rv.one
  obtain ⟨p, ws, rfl, _, hp, rw'⟩ := rh.list ra hx
  have := rw'.bls
  subst this
  exact ⟨p, bs, rfl, .inl (.inl hp), q io H _ .refl rh (.bl _)⟩
theorem bk_sum : BltOk X fa .sum (rSum X.K) := by
  intro io H h vs xs r h' Q rh rv e q
  obtain ⟨n, ys, rfl, hx⟩ := lst1 (.inr (.inr (.inl rfl))) e
  simp only [blt, hx] at e
  split at e <;> cases e
  rename_i is hb
  have z := ints_of hb
  subst z
  obtain ⟨v, rfl, ra⟩ := rv.one
  obtain ⟨p, ws, rfl, _, hp, rw'⟩ := rh.list ra hx
  have := rw'.ints
  subst this
  exact ⟨p, is, rfl, .inl (.inl hp), q io H _ .refl rh (.int _)⟩
theorem foldl_min : ∀ (is : List Int) (i : Int), (is.foldl min i ∈ i :: is) ∧ ∀ y, y ∈ i :: is → is.foldl min i ≤ y
  | [], i => by simp
  | j :: is, i => by
    obtain ⟨h1, h2⟩ := foldl_min is (min i j)
    rw [List.foldl_cons]
    constructor
    · rcases List.mem_cons.mp h1 with h1 | h1
      · rw [h1]
        by_cases h : i ≤ j
        · rw [Int.min_eq_left h]; simp
        · rw [Int.min_eq_right (by omega)]; simp
      · simp [h1]
    · intro y hy
      have h3 := h2 (min i j) (by simp)
      rcases List.mem_cons.mp hy with rfl | hy
      · omega
      · rcases List.mem_cons.mp hy with rfl | hy
        · omega
        · exact h2 y (by simp [hy])
theorem foldl_max : ∀ (is : List Int) (i : Int), (is.foldl max i ∈ i :: is) ∧ ∀ y, y ∈ i :: is → y ≤ is.foldl max i
  | [], i => by simp
  | j :: is, i => by
    obtain ⟨h1, h2⟩ := foldl_max is (max i j)
    rw [List.foldl_cons]
    constructor
    · rcases List.mem_cons.mp h1 with h1 | h1
      · rw [h1]
        by_cases h : i ≤ j
        · rw [Int.max_eq_right h]; simp
        · rw [Int.max_eq_left (by omega)]; simp
      · simp [h1]
    · intro y hy
      have h3 := h2 (max i j) (by simp)
      rcases List.mem_cons.mp hy with rfl | hy
      · omega
      · rcases List.mem_cons.mp hy with rfl | hy
        · omega
        · exact h2 y (by simp [hy])
theorem bk_min1 : BltOk X fa .min1 (rMin X.K) := by
  intro io H h vs xs r h' Q rh rv e q
  obtain ⟨n, ys, rfl, hx⟩ := lst1 (.inr (.inr (.inr (.inl rfl)))) e
  simp only [blt, hx] at e
  split at e <;> cases e
  rename_i i is hb
  have z := ints_of hb
  subst z
  obtain ⟨v, rfl, ra⟩ := rv.one
  obtain ⟨p, ws, rfl, _, hp, rw'⟩ := rh.list ra hx
  have := rw'.ints
  subst this
  obtain ⟨f1, f2⟩ := foldl_min is i
  refine ⟨p, i :: is, rfl, .inl (.inl hp), by simp, fun m hm hle => ?_⟩
  have : m = is.foldl min i := Int.le_antisymm (hle _ f1) (f2 m hm)
  subst this
  exact q io H _ .refl rh (.int _)
theorem bk_max1 : BltOk X fa .max1 (rMax X.K) := by
  intro io H h vs xs r h' Q rh rv e q
  obtain ⟨n, ys, rfl, hx⟩ := lst1 (.inr (.inr (.inr (.inr rfl)))) e
  simp only [blt, hx] at e
  split at e <;> cases e
  rename_i i is hb
  have z := ints_of hb
  subst z
  obtain ⟨v, rfl, ra⟩ := rv.one
  obtain ⟨p, ws, rfl, _, hp, rw'⟩ := rh.list ra hx
  have := rw'.ints
  subst this
  obtain ⟨f1, f2⟩ := foldl_max is i
  refine ⟨p, i :: is, rfl, .inl (.inl hp), by simp, fun m hm hle => ?_⟩
  have : m = is.foldl max i := Int.le_antisymm (f2 m hm) (hle _ f1)
  subst this
  exact q io H _ .refl rh (.int _)
theorem e_len (hg : Gl X "len") (hm : X.mg "len" = none) (h : PA X [e] (tA X.K fa cf cs)) (he : starEach [e] X.env = (false, eval e X.env) :: starEach [] X.env := by rfl) {p : Pos} : PE X (.Call (.Name "len" p) [e] [] pos) (tE X.K fa cf (.blt .len cs)) :=
  blt_to bk_len (pe_callB call_len_seq hg hm PySem.boot_len h (he := he))
theorem e_abs (hg : Gl X "abs") (hm : X.mg "abs" = none) (h : PA X [e] (tA X.K fa cf cs)) (he : starEach [e] X.env = (false, eval e X.env) :: starEach [] X.env := by rfl) {p : Pos} : PE X (.Call (.Name "abs" p) [e] [] pos) (tE X.K fa cf (.blt .abs cs)) :=
  blt_to bk_abs (pe_callB call_abs hg hm (by decide +kernel) h (he := he))
theorem e_all (hc : X.calm = true) (hg : Gl X "all") (hm : X.mg "all" = none) (h : PA X [e] (tA X.K fa cf cs)) (he : starEach [e] X.env = (false, eval e X.env) :: starEach [] X.env := by rfl) {p : Pos} : PE X (.Call (.Name "all" p) [e] [] pos) (tE X.K fa cf (.blt .all cs)) :=
  blt_to bk_all (pe_callB (cr_all hc) hg hm (by decide +kernel) h (he := he))
theorem e_any (hc : X.calm = true) (hg : Gl X "any") (hm : X.mg "any" = none) (h : PA X [e] (tA X.K fa cf cs)) (he : starEach [e] X.env = (false, eval e X.env) :: starEach [] X.env := by rfl) {p : Pos} : PE X (.Call (.Name "any" p) [e] [] pos) (tE X.K fa cf (.blt .any cs)) :=
  blt_to bk_any (pe_callB (cr_any hc) hg hm (by decide +kernel) h (he := he))
theorem e_sum (hc : X.calm = true) (hg : Gl X "sum") (hm : X.mg "sum" = none) (h : PA X [e] (tA X.K fa cf cs)) (he : starEach [e] X.env = (false, eval e X.env) :: starEach [] X.env := by rfl) {p : Pos} : PE X (.Call (.Name "sum" p) [e] [] pos) (tE X.K fa cf (.blt .sum cs)) :=
  blt_to bk_sum (pe_callB (cr_sum hc) hg hm (by decide +kernel) h (he := he))
theorem e_min1 (hc : X.calm = true) (hg : Gl X "min") (hm : X.mg "min" = none) (h : PA X [e] (tA X.K fa cf cs)) (he : starEach [e] X.env = (false, eval e X.env) :: starEach [] X.env := by rfl) {p : Pos} : PE X (.Call (.Name "min" p) [e] [] pos) (tE X.K fa cf (.blt .min1 cs)) :=
  blt_to bk_min1 (pe_callB (cr_min hc) hg hm (by decide +kernel) h (he := he))
theorem e_max1 (hc : X.calm = true) (hg : Gl X "max") (hm : X.mg "max" = none) (h : PA X [e] (tA X.K fa cf cs)) (he : starEach [e] X.env = (false, eval e X.env) :: starEach [] X.env := by rfl) {p : Pos} : PE X (.Call (.Name "max" p) [e] [] pos) (tE X.K fa cf (.blt .max1 cs)) :=
  blt_to bk_max1 (pe_callB (cr_max hc) hg hm (by decide +kernel) h (he := he))
theorem e_min2 (hc : X.calm = true) (hg : Gl X "min") (hm : X.mg "min" = none) (h : PA X [a, b] (tA X.K fa cf cs)) (he : starEach [a, b] X.env = (false, eval a X.env) :: starEach [b] X.env := by rfl) (hpl : (backTo pos (starEach [b] X.env)).any (·.1) = false := by rfl) {p : Pos} : PE X (.Call (.Name "min" p) [a, b] [] pos) (tE X.K fa cf (.blt .min2 cs)) :=
  blt_to bk_min (pe_callB (call_min2 hc) hg hm (by decide +kernel) h (he := he) (hpl := hpl))
theorem e_max2 (hc : X.calm = true) (hg : Gl X "max") (hm : X.mg "max" = none) (h : PA X [a, b] (tA X.K fa cf cs)) (he : starEach [a, b] X.env = (false, eval a X.env) :: starEach [b] X.env := by rfl) (hpl : (backTo pos (starEach [b] X.env)).any (·.1) = false := by rfl) {p : Pos} : PE X (.Call (.Name "max" p) [a, b] [] pos) (tE X.K fa cf (.blt .max2 cs)) :=
  blt_to bk_max (pe_callB (call_max2 hc) hg hm (by decide +kernel) h (he := he) (hpl := hpl))
theorem e_gcd (hg : Gl X "gcd") (hm : X.mg "gcd" = some (.builtin "math.gcd")) (h : PA X [a, b] (tA X.K fa cf cs)) (he : starEach [a, b] X.env = (false, eval a X.env) :: starEach [b] X.env := by rfl) (hpl : (backTo pos (starEach [b] X.env)).any (·.1) = false := by rfl) {p : Pos} : PE X (.Call (.Name "gcd" p) [a, b] [] pos) (tE X.K fa cf (.blt .gcd cs)) :=
  blt_to bk_gcd (pe_callBfun cr_gcd hg hm h (he := he) (hpl := hpl))
theorem e_tuple (hg : Gl X "tuple") (hm : X.mg "tuple" = none) (h : PA X [e] (tA X.K fa cf cs)) (he : starEach [e] X.env = (false, eval e X.env) :: starEach [] X.env := by rfl) {p : Pos} : PE X (.Call (.Name "tuple" p) [e] [] pos) (tE X.K fa cf (.blt .tuple cs)) :=
  blt_to bk_tuple (pe_callTy call_tupleN hg hm (by decide +kernel) h (he := he))
theorem e_list (hg : Gl X "list") (hm : X.mg "list" = none) (h : PA X [e] (tA X.K fa cf cs)) (he : starEach [e] X.env = (false, eval e X.env) :: starEach [] X.env := by rfl) {p : Pos} : PE X (.Call (.Name "list" p) [e] [] pos) (tE X.K fa cf (.blt .list cs)) :=
  blt_to bk_list (pe_callTy call_list_of hg hm (by decide +kernel) h (he := he))
theorem e_intf (hg : Gl X "int") (hm : X.mg "int" = none) (h : PA X [e] (tA X.K fa cf cs)) (he : starEach [e] X.env = (false, eval e X.env) :: starEach [] X.env := by rfl) {p : Pos} : PE X (.Call (.Name "int" p) [e] [] pos) (tE X.K fa cf (.blt .int cs)) :=
  blt_to bk_int (pe_callTy call_int1 hg hm (by decide +kernel) h (he := he))
end
end PB

set_option Elab.async false
set_option linter.all false
set_option maxRecDepth 100000
set_option maxHeartbeats 2000000
namespace PB
open PySem PySem.Spec PyProof.Rows L2

/-! ### sources: a list or a tuple -/
def Src (K : PySem.W.Frag) (t : Bool) (H : Hp) (a : Addr) (vs : List V) : Prop := match t with | true => SqT K H a vs | false => SqL K H a vs
def SrcIt (t : Bool) (h : Heap) (it a : Addr) (i : Nat) : Prop := match t with | true => h.IsTupleIter it a i | false => h.IsListIter it a i
def SrcAt (t : Bool) (h : Heap) (a : Addr) (its : Array Value) : Prop := match t with | true => h.IsTuple a its | false => h.IsList a its
section
variable {X : Cx} {pins : List (Addr × Obj)} {sg : L2.St} {H : Hp} {s : Shared} {t : Bool} {a : Addr} {vs ws : List V}
theorem src_at (I : Inv X pins sg H s) (h : Src X.K t H a vs) : ∃ its : List Value, Vals vs its ∧ SrcAt t s.heap a its.toArray ∧ vs.length ≤ sizeLine := by
  cases t with
  | true => obtain ⟨its, r, p, z⟩ := I.tuple h; exact ⟨its, r, p, z⟩
  | false => obtain ⟨its, r, p, z⟩ := I.list h; exact ⟨its, r, p.isList, z⟩
theorem src_inj (I : Inv X pins sg H s) (h : Src X.K t H a vs) (h' : Src X.K t H a ws) : vs = ws := by
  cases t with
  | true => exact I.tuple_inj h h'
  | false => exact I.list_inj h h'
theorem src_draws {prog : Program} {w : World} {A : Around} (t : Bool) (hh : A.handled = none) (it a : Addr) (hne : a ≠ it) (its : Array Value) :
    Draws prog w A it [it, a] its.size (fun i v => its[i]? = some v) (fun i h => SrcIt t h it a i ∧ SrcAt t h a its) := by
  cases t with
  | true => exact Draws.tuple hh it a hne its
  | false => exact Draws.list hh it a hne its
def srcO (t : Bool) (a : Addr) : Obj := { cls := .type (match t with | true => "tuple_iterator" | false => "list_iterator"), data := .fields #[.ref a, .int 0 0] }
theorem src_begins (t : Bool) (a : Addr) (its : Array Value) : Begins (.ref a) (srcO t a) fun h => SrcAt t h a its := by
  cases t with
  | true => exact begins_tuple a its
  | false => exact begins_list a its
theorem src_start {h : Heap} {it : Addr} (e : h.get? it = some (srcO t a)) : SrcIt t h it a 0 := by
  cases t with
  | true => exact ⟨_, e, rfl, rfl⟩
  | false => exact ⟨_, e, rfl, rfl⟩
theorem srcIt_obj {h : Heap} {it : Addr} {i : Nat} (e : SrcIt t h it a i) : ∃ o, h.get? it = some o ∧ ∀ v, o.data ≠ .cell v := by
  cases t with
  | true => obtain ⟨o, e, _, d⟩ := e; exact ⟨o, e, fun v z => by rw [d] at z; cases z⟩
  | false => obtain ⟨o, e, _, d⟩ := e; exact ⟨o, e, fun v z => by rw [d] at z; cases z⟩
theorem srcIt_keep {h h' : Heap} {it : Addr} {i : Nat} (e : SrcIt t h it a i) (k : ∀ o, h.get? it = some o → h'.get? it = some o) : SrcIt t h' it a i := by
  cases t with
  | true => obtain ⟨o, e, c, d⟩ := e; exact ⟨o, k o e, c, d⟩
  | false => obtain ⟨o, e, c, d⟩ := e; exact ⟨o, k o e, c, d⟩
/-- a source is no record of an iterator -/
theorem src_ne {it : Addr} (I : Inv X pins sg H s) (h : Src X.K t H a vs) (f : FpOk X pins H it) : a ≠ it := by
  rintro rfl
  have key : (∃ o, X.K.lookup a = some o) → False := fun ⟨o, hk⟩ => by
    have hb : X.base.get? a = some o := I.ok.mod.kin a o hk
    rcases f.2.2.2.1 with z | z
    · exact I.ok.noex a o hb z
    · exact absurd (Nat.lt_of_lt_of_le (Heap.lt_size hb) (Nat.le_trans I.ok.bsz z)) (Nat.lt_irrefl _)
  cases t with
  | true =>
    rcases h with (h | ⟨o, h⟩) | ⟨o, its, n, hk, _⟩
    · rw [f.1] at h; cases h
    · rw [f.1] at h; cases h
    · exact key ⟨o, hk⟩
  | false =>
    rcases h with (h | ⟨o, h⟩) | ⟨o, its, n, hk, _⟩
    · rw [f.1] at h; cases h
    · rw [f.1] at h; cases h
    · exact key ⟨o, hk⟩
theorem src_lt {t : Bool} {h : Heap} {a : Addr} {its : Array Value} (e : SrcAt t h a its) : a < h.objs.size := by
  cases t with
  | true => obtain ⟨o, e, _⟩ := e; exact Heap.lt_size e
  | false => obtain ⟨o, e, _⟩ := e; exact Heap.lt_size e
end

/-! ### the walks -/
def ItS (K : PySem.W.Frag) (t : Bool) (a : Addr) : It :=
  ⟨fun i H => ∃ (xs : List V) (x : V), Src K t H a xs ∧ xs[i]? = some x, fun i H x H' => H' = H ∧ ∀ xs, Src K t H a xs → xs[i]? = some x, fun i H => ∃ xs : List V, Src K t H a xs ∧ xs.length = i⟩
def ItE (K : PySem.W.Frag) (t : Bool) (a : Addr) : It :=
  ⟨fun i H => ∃ (xs : List V) (x : V), Src K t H a xs ∧ xs[i]? = some x,
    fun i H v H' => ∃ T x, v = .ref T ∧ H T = none ∧ H' = upd H T (.tup [.int (i : Nat), x]) ∧ ∀ xs, Src K t H a xs → xs[i]? = some x, fun i H => ∃ xs : List V, Src K t H a xs ∧ xs.length = i⟩
def ItZ (K : PySem.W.Frag) (t u : Bool) (a b : Addr) : It :=
  ⟨fun i H => ∃ (xs ys : List V) (x y : V), Src K t H a xs ∧ Src K u H b ys ∧ xs[i]? = some x ∧ ys[i]? = some y,
    fun i H v H' => ∃ T x y, v = .ref T ∧ H T = none ∧ H' = upd H T (.tup [x, y]) ∧ (∀ xs, Src K t H a xs → xs[i]? = some x) ∧ ∀ ys, Src K u H b ys → ys[i]? = some y,
    fun i H => ∃ xs ys : List V, Src K t H a xs ∧ Src K u H b ys ∧ min xs.length ys.length = i⟩
theorem turn_enumS {P : Program} {w : World} {K : PySem.W.Frag} {elts : List Expr} {kk : Nat} {tpos : Pos} (t : Bool) (a e it : Addr) :
    Turn P w K (.Tuple elts kk tpos) (ItE K t a) [e, it] e (fun i h => (∃ old, IsEnum h e it (0 + ((i : Nat) : Int)) old) ∧ SrcIt t h it a i ∧ e ≠ it) where
  mem := by simp
  obj := fun i h st b hb => by
    obtain ⟨⟨old, he⟩, hit, _⟩ := st
    have e' : b = e ∨ b = it := by simpa using hb
    rcases e' with z | z
    · rw [z]; exact ⟨_, he, fun v q => nomatch q⟩
    · rw [z]; exact srcIt_obj hit
  keep := fun i h h' st k => let ⟨⟨old, he⟩, hi, hne⟩ := st; ⟨⟨old, k e (by simp) _ he⟩, srcIt_keep hi fun o q => k it (by simp) o q, hne⟩
  item := by
    intro X hP hw hK hc i pins s sg H E I hf st hg
    subst hP hw hK
    obtain ⟨⟨old, he⟩, hit, hne⟩ := st
    obtain ⟨xs, x, hq, hx⟩ := hg
    obtain ⟨its, rv, p, hz⟩ := src_at I hq
    obtain ⟨u, hu, ru⟩ := rv.get hx
    have nat : a ≠ it := src_ne I hq (hf it (by simp))
    have nae : a ≠ e := src_ne I hq (hf e (by simp))
    have hlt : i < its.toArray.size := by
      have := (List.getElem?_eq_some_iff.mp hu).1
      simpa using this
    have D := src_draws (prog := X.prog) (w := X.w) (A := X.A.in1) t (show X.A.in1.handled = none from I.ok.hd hc) it a nat its.toArray
    have W := WalksT.enumFrom (prog := X.prog) (w := X.w) (A := X.A) 0 D e hne (by simp; exact ⟨hne, fun q => nae q.symm⟩) (by simp)
    refine W.item i s _ _ hlt ⟨⟨old, he⟩, hit, p⟩ fun T vals h' tk hP hT hTt hm hk => ⟨_, rfl, W.go elts kk tpos i T { s with heap := h', toks := tk } _ _ hm fun h'' st'' hk'' => ?_⟩
    obtain ⟨tt, y, hy, rfl⟩ := hP
    have ey : y = u := by
      have h1 : its.toArray[i]? = some u := by simpa using hu
      rw [h1] at hy; cases hy; rfl
    subst ey
    obtain ⟨⟨old', he''⟩, hit'', _⟩ := st''
    have nTw : T ∉ [e, it] := W.apart i T h' hm
    have hT2 : h''.IsTuple T #[.int (0 + (i : Int)) tt, y] := hTt.at fun o q => hk'' T o nTw q
    have new : ObjOk X.prog X.w (upd H T (.tup [.int (i : Nat), x])) h'' T (.tup [.int (i : Nat), x]) := by
      obtain ⟨o, ho, hc', n, hd⟩ := hT2
      refine ⟨by show 2 ≤ sizeLine; decide, [.int (0 + (i : Int)) tt, y], .cons ⟨tt, by simp⟩ (.cons ru .nil), ⟨o, ho, hc', n, hd⟩⟩
    have I1 : Inv X pins sg (upd H T (.tup [.int (i : Nat), x])) { s with heap := h'', toks := tk } :=
      I.turnedNew (ch := [e, it]) (fun b ob hb q => hk'' b ob hb (hk b ob hb q)) hf hT new
    refine ⟨.ref T, _, I1, rfl, ⟨_, x, rfl, I.hok.fresh hT, rfl, fun ys hy => by rw [src_inj I hy hq]; exact hx⟩, ⟨⟨old', he''⟩, hit'', hne⟩, fun b hb => ?_⟩
    have hb' : b < s.heap.objs.size := by
      have e' : b = e ∨ b = it := by simpa using hb
      rcases e' with z | z
      · rw [z]; exact Heap.lt_size he
      · rw [z]; obtain ⟨o, q, _⟩ := srcIt_obj hit; exact Heap.lt_size q
    rw [upd_ne (Nat.ne_of_lt (Nat.lt_of_lt_of_le hb' hT))]
    exact (hf b hb).1
  done := by
    intro X hP hw hK hc i pins s sg H E I hf st hg
    subst hP hw hK
    obtain ⟨⟨old, he⟩, hit, hne⟩ := st
    obtain ⟨xs, hq, hx⟩ := hg
    obtain ⟨its, rv, p, hz⟩ := src_at I hq
    have nat : a ≠ it := src_ne I hq (hf it (by simp))
    have nae : a ≠ e := src_ne I hq (hf e (by simp))
    obtain ⟨f0, f1, f2, f3, f4, f5⟩ := hf it (by simp)
    have hl := rv.length
    have D := src_draws (prog := X.prog) (w := X.w) (A := X.A.in1) t (show X.A.in1.handled = none from I.ok.hd hc) it a nat its.toArray
    have ei : i = its.toArray.size := by rw [List.size_toArray]; omega
    subst ei
    exact wpAny_pyNext_enum_endD D he ⟨hit, p⟩ fun h' eb => ⟨rfl, I.turned (t' := s.toks) (fun b o hb q => eb b o hb q) f0 f1 f3 f4 f5⟩
  self := fun A i s Q E st h => let ⟨⟨_, he⟩, _⟩ := st; wpAny_pyIter_enum he h
theorem zip_sep_more {z TI TO i1 i2 a b : Addr} (S : ZipSep2 z TI TO i1 i2 [i1] [i2]) (nA : ∀ c ∈ [z, TI, TO, i1, i2], a ≠ c) (nB : ∀ c ∈ [z, TI, TO, i1, i2], b ≠ c) : ZipSep2 z TI TO i1 i2 [i1, a] [i2, b] where
  TIz := S.TIz
  TOz := S.TOz
  TITO := S.TITO
  TIi1 := S.TIi1
  mem1 := by simp
  zf1 := fun h => by
    have : z = i1 ∨ z = a := by simpa using h
    rcases this with q | q
    · exact S.zf1 (by simp [q])
    · exact nA z (by simp) q.symm
  Tf1 := fun h => by
    have : TO = i1 ∨ TO = a := by simpa using h
    rcases this with q | q
    · exact S.Tf1 (by simp [q])
    · exact nA TO (by simp) q.symm
  TIi2 := S.TIi2
  mem2 := by simp
  zf2 := fun h => by
    have : z = i2 ∨ z = b := by simpa using h
    rcases this with q | q
    · exact S.zf2 (by simp [q])
    · exact nB z (by simp) q.symm
  Tf2 := fun h => by
    have : TO = i2 ∨ TO = b := by simpa using h
    rcases this with q | q
    · exact S.Tf2 (by simp [q])
    · exact nB TO (by simp) q.symm
  sep1_2 := fun h => by
    have : i1 = i2 ∨ i1 = b := by simpa using h
    rcases this with q | q
    · exact S.sep1_2 (by simp [q])
    · exact nB i1 (by simp) q.symm
  sep2_1 := fun h => by
    have : i2 = i1 ∨ i2 = a := by simpa using h
    rcases this with q | q
    · exact S.sep2_1 (by simp [q])
    · exact nA i2 (by simp) q.symm
theorem turn_zipS {P : Program} {w : World} {K : PySem.W.Frag} {elts : List Expr} {kk : Nat} {tpos : Pos} {z TI TO i1 i2 : Addr} (t u : Bool) (a b : Addr) (S : ZipSep2 z TI TO i1 i2 [i1] [i2]) :
    Turn P w K (.Tuple elts kk tpos) (ItZ K t u a b) [z, TI, TO, i1, i2] z (fun i h => IsZip h z TI TO .none ∧ IsTupOf2 h TI (.ref i1) (.ref i2) ∧ (∃ a1 a2, IsTupOf2 h TO a1 a2) ∧ SrcIt t h i1 a i ∧ SrcIt u h i2 b i) where
  mem := by simp
  obj := fun i h st c hc => by
    obtain ⟨hz, hTI, ⟨x, y, hTO⟩, h1, h2⟩ := st
    have e' : c = z ∨ c = TI ∨ c = TO ∨ c = i1 ∨ c = i2 := by simpa using hc
    rcases e' with q | q | q | q | q
    · rw [q]; exact ⟨_, hz, fun v q => nomatch q⟩
    · rw [q]; exact ⟨_, hTI, fun v q => nomatch q⟩
    · rw [q]; exact ⟨_, hTO, fun v q => nomatch q⟩
    · rw [q]; exact srcIt_obj h1
    · rw [q]; exact srcIt_obj h2
  keep := fun i h h' st k => by
    obtain ⟨hz, hTI, ⟨x, y, hTO⟩, h1, h2⟩ := st
    exact ⟨k z (by simp) _ hz, k TI (by simp) _ hTI, ⟨x, y, k TO (by simp) _ hTO⟩, srcIt_keep h1 fun o q => k i1 (by simp) o q, srcIt_keep h2 fun o q => k i2 (by simp) o q⟩
  item := by
    intro X hP hw hK hc i pins s sg H E I hf st hg
    subst hP hw hK
    obtain ⟨hz, hTI, hTO, h1, h2⟩ := st
    obtain ⟨xs, ys, x, y, hqx, hqy, hx, hy⟩ := hg
    obtain ⟨its, rv, p, _⟩ := src_at I hqx
    obtain ⟨its2, rv2, p2, _⟩ := src_at I hqy
    obtain ⟨u1, hu, ru⟩ := rv.get hx
    obtain ⟨u2, hu2, ru2⟩ := rv2.get hy
    have nA : ∀ c ∈ [z, TI, TO, i1, i2], a ≠ c := fun c hc => src_ne I hqx (hf c hc)
    have nB : ∀ c ∈ [z, TI, TO, i1, i2], b ≠ c := fun c hc => src_ne I hqy (hf c hc)
    have D1 := src_draws (prog := X.prog) (w := X.w) (A := X.A.in1) t (show X.A.in1.handled = none from I.ok.hd hc) i1 a (nA i1 (by simp)) its.toArray
    have D2 := src_draws (prog := X.prog) (w := X.w) (A := X.A.in1) u (show X.A.in1.handled = none from I.ok.hd hc) i2 b (nB i2 (by simp)) its2.toArray
    have S2 : ZipSep2 z TI TO i1 i2 [i1, a] [i2, b] := zip_sep_more S nA nB
    have W := WalksT.zipD2 (prog := X.prog) (w := X.w) (A := X.A) S2 D1 D2
    have l1 : i < its.toArray.size := by have := (List.getElem?_eq_some_iff.mp hu).1; simpa using this
    have l2 : i < its2.toArray.size := by have := (List.getElem?_eq_some_iff.mp hu2).1; simpa using this
    refine W.item i s _ _ (by omega) ⟨hz, hTI, hTO, ⟨h1, p⟩, ⟨h2, p2⟩⟩ fun T vals h' tk hP hT hTt hm hk => ⟨_, rfl, W.go elts kk tpos i T { s with heap := h', toks := tk } _ _ hm fun h'' st'' hk'' => ?_⟩
    obtain ⟨y1, y2, e1, e2, rfl⟩ := hP
    have ey1 : y1 = u1 := by
      have q : its.toArray[i]? = some u1 := by simpa using hu
      rw [q] at e1; cases e1; rfl
    have ey2 : y2 = u2 := by
      have q : its2.toArray[i]? = some u2 := by simpa using hu2
      rw [q] at e2; cases e2; rfl
    subst ey1; subst ey2
    obtain ⟨hz'', hTI'', hTO'', ⟨h1'', _⟩, ⟨h2'', _⟩⟩ := st''
    have nTw := W.apart i T h' hm
    have hT2 : h''.IsTuple T #[y1, y2] := hTt.at fun o q => hk'' T o nTw q
    have new : ObjOk X.prog X.w (upd H T (.tup [x, y])) h'' T (.tup [x, y]) := by
      obtain ⟨o, ho, hc', n, hd⟩ := hT2
      exact ⟨by show 2 ≤ sizeLine; decide, [y1, y2], .cons ru (.cons ru2 .nil), ⟨o, ho, hc', n, hd⟩⟩
    have sub : ∀ c, c ∉ [z, TI, TO, i1, i2] → c ∉ [z, TO, i1, i2] := fun c hc hm => hc (by
      have : c = z ∨ c = TO ∨ c = i1 ∨ c = i2 := by simpa using hm
      rcases this with q | q | q | q <;> simp [q])
    have I1 : Inv X pins sg (upd H T (.tup [x, y])) { s with heap := h'', toks := tk } :=
      I.turnedNew (ch := [z, TI, TO, i1, i2]) (fun c o hb q => hk'' c o (sub c hb) (hk c o (sub c hb) q)) hf hT new
    refine ⟨.ref T, _, I1, rfl, ⟨_, x, y, rfl, I.hok.fresh hT, rfl, fun l hl => by rw [src_inj I hl hqx]; exact hx, fun l hl => by rw [src_inj I hl hqy]; exact hy⟩, ⟨hz'', hTI'', hTO'', h1'', h2''⟩, fun c hcm => ?_⟩
    have hlt : c < s.heap.objs.size := by
      obtain ⟨x0, y0, hTO⟩ := hTO
      have e' : c = z ∨ c = TI ∨ c = TO ∨ c = i1 ∨ c = i2 := by simpa using hcm
      rcases e' with q | q | q | q | q
      · rw [q]; exact Heap.lt_size hz
      · rw [q]; exact Heap.lt_size hTI
      · rw [q]; exact Heap.lt_size hTO
      · rw [q]; obtain ⟨_, q, _⟩ := srcIt_obj h1; exact Heap.lt_size q
      · rw [q]; obtain ⟨_, q, _⟩ := srcIt_obj h2; exact Heap.lt_size q
    rw [upd_ne (Nat.ne_of_lt (Nat.lt_of_lt_of_le hlt hT))]
    exact (hf c hcm).1
  done := by
    intro X hP hw hK hc i pins s sg H E I hf st hg
    subst hP hw hK
    obtain ⟨hz, hTI, hTO, h1, h2⟩ := st
    obtain ⟨xs, ys, hqx, hqy, hend⟩ := hg
    obtain ⟨its, rv, p, _⟩ := src_at I hqx
    obtain ⟨its2, rv2, p2, _⟩ := src_at I hqy
    have nA : ∀ c ∈ [z, TI, TO, i1, i2], a ≠ c := fun c hc => src_ne I hqx (hf c hc)
    have nB : ∀ c ∈ [z, TI, TO, i1, i2], b ≠ c := fun c hc => src_ne I hqy (hf c hc)
    have D1 := src_draws (prog := X.prog) (w := X.w) (A := X.A.in1) t (show X.A.in1.handled = none from I.ok.hd hc) i1 a (nA i1 (by simp)) its.toArray
    have D2 := src_draws (prog := X.prog) (w := X.w) (A := X.A.in1) u (show X.A.in1.handled = none from I.ok.hd hc) i2 b (nB i2 (by simp)) its2.toArray
    have S2 : ZipSep2 z TI TO i1 i2 [i1, a] [i2, b] := zip_sep_more S nA nB
    have W := WalksT.zipD2 (prog := X.prog) (w := X.w) (A := X.A) S2 D1 D2
    have l1 := rv.length
    have l2 := rv2.length
    have ei : i = min its.toArray.size its2.toArray.size := by rw [List.size_toArray, List.size_toArray]; omega
    subst ei
    exact W.done s _ _ ⟨hz, hTI, hTO, ⟨h1, p⟩, ⟨h2, p2⟩⟩ fun h' tk hk => ⟨rfl, I.turnedL (t' := tk) (ch := [z, TI, TO, i1, i2]) (fun c o hb q => hk c o (fun hm => hb (by
      have : c = z ∨ c = TO ∨ c = i1 ∨ c = i2 := by simpa using hm
      rcases this with q | q | q | q <;> simp [q])) q) hf⟩
  self := fun A i s Q E st h => wpAny_pyIter_zip st.1 h
end PB

set_option Elab.async false
set_option linter.all false
set_option maxRecDepth 100000
set_option maxHeartbeats 2000000
namespace PB
open PySem PySem.Spec PyProof.Rows L2

theorem meets_enumerate_newB1 {v : Value} {o : Obj} {H : Heap → Prop} (B : Begins v o H) :
    Meets (Builtin.«enumerate.__new__» ⟨[.type "enumerate", v], []⟩) (fun _ R s => H s.heap ∧
      R (.ok (.ret (.ref (s.heap.push o).objs.size))) { s with heap := (s.heap.push o).push { cls := .type "enumerate", data := .fields #[.none, .bool false, .ref s.heap.objs.size, rawInt 0, .none, .none] } }) :=
  .of_wp fun prog w A R s h => by
    obtain ⟨hp, g, d, tk, os⟩ := s; obtain ⟨h1, h⟩ := h
    have hsub := sub_enumerate
    have q1 : ∀ {A' : Around} {E : Value → Shared → Prop} {Q : Value → Shared → Prop}, Q (.ref hp.objs.size) ⟨hp.push o, g, d, tk, os⟩ → wpAny (model prog w) A' (pyIter v) Q E ⟨hp, g, d, tk, os⟩ :=
      fun q => B.iter prog w _ _ ⟨hp, g, d, tk, os⟩ _ h1 q
    wp_walk using q1
    refine wpAny_stack_any fun st => wpAny_pure ?_
    split
    · rename_i c _ _ _ _ _
      cases (c == Value.type "enumerate")
      · wp_walk using q1
        exact ⟨_, rfl, h⟩
      · wp_walk using q1
        exact ⟨_, rfl, h⟩
    · wp_walk using q1
      exact ⟨_, rfl, h⟩
theorem enum_begins1 {prog : Program} {w : World} {A : Around} {E : Value → Shared → Prop} {s : Shared} {v : Value} {o : Obj} {H : Heap → Prop} {Q : Value → Shared → Prop} (B : Begins v o H) (h1 : H s.heap)
    (h : ∀ h', IsEnum h' (s.heap.objs.size + 1) s.heap.objs.size 0 .none → h'.get? s.heap.objs.size = some o → h'.objs.size = s.heap.objs.size + 2 →
      (∀ b o, s.heap.get? b = some o → h'.get? b = some o) → Q (.ref (s.heap.objs.size + 1)) { s with heap := h' }) :
    wpAny (model prog w) A (call (.type "enumerate") [v]) Q E s := by
  refine callType_new F.called_enumerate (by decide) (F.typeCall_enumerate_1 _) (F.newCall_enumerate_1 _) (fun obj => F.args_object_init_2 obj _) F.entry_enumerate_new
    (meets_enumerate_newB1 B) ⟨h1, ?_⟩
  have hz : (s.heap.push o).objs.size = s.heap.objs.size + 1 := Heap.size_push ..
  show _ ∧ _
  rw [hz]
  have he : IsEnum ((s.heap.push o).push { cls := .type "enumerate", data := .fields #[.none, .bool false, .ref s.heap.objs.size, rawInt 0, .none, .none] }) (s.heap.objs.size + 1) s.heap.objs.size 0 .none := by
    have := Heap.get?_push_size (s.heap.push o) (o := { cls := .type "enumerate", data := .fields #[.none, .bool false, .ref s.heap.objs.size, rawInt 0, .none, .none] }) rfl
    rw [hz] at this; exact this
  refine ⟨⟨_, he, rfl⟩, h _ he (Heap.get?_push_of_some _ (Heap.get?_push_size _ B.free)) (by rw [Heap.size_push, hz]) fun b o x => Heap.get?_push_of_some _ (Heap.get?_push_of_some _ x)⟩

section
variable {X : Cx} {tg : Expr}
/-- one source, walked -/
def iSrc (K : PySem.W.Frag) (te : TE) : TI := fun sg H R => te sg H fun x H1 => ∃ a t vs, x = .ref a ∧ Src K t H1 a vs ∧ R (ItS K t a) H1
theorem pi_src {l : Expr} {tl : TE} (hl : PE X l tl) : PI X tg l (iSrc X.K tl) := by
  refine ⟨fun pins s sg H R I h => ?_⟩
  refine thn (hl.run pins s sg H _ I h) fun v s1 ⟨x, H1, I1, r1, q1⟩ => ?_
  obtain ⟨a, t, vs, e, hq, q⟩ := q1
  subst e
  cases r1
  cases t with
  | false =>
    obtain ⟨its, rv, p, hz⟩ := I1.list hq
    refine wpAny_pyIter_list p.isList ?_
    have T := turn_list (P := X.prog) (w := X.w) (K := X.K) (tg := tg) a s1.heap.objs.size
    refine ⟨s1.heap.objs.size, [s1.heap.objs.size], _, ItS X.K false a, H1, rfl, I1.kept (t' := s1.toks) fun b o e => Heap.get?_push_of_some _ e, ⟨T.mem, T.obj, T.keep, ?_, ?_, T.self⟩, ⟨_, Heap.get?_push_size _ rfl, rfl, rfl⟩, fun b hb => ?_, q⟩
    · intro X' e1 e2 e3 hc i pins s sg H E I hf st go
      exact T.item X' e1 e2 e3 hc i pins s sg H E I hf st go
    · intro X' e1 e2 e3 hc i pins s sg H E I hf st stop
      obtain ⟨xs, h1, h2⟩ := stop
      exact T.done X' e1 e2 e3 hc i pins s sg H E I hf st ⟨xs, h1, Nat.le_of_eq h2⟩
    · have e : b = s1.heap.objs.size := by simpa using hb
      subst e
      exact I1.fpOk (Nat.le_refl _) (I1.hok.fresh (Nat.le_refl _))
  | true =>
    obtain ⟨its, rv, p, hz⟩ := I1.tuple hq
    refine wpAny_pyIter_tuple (show s1.heap.IsTuple a its.toArray from p) ?_
    have T := turn_tuple (P := X.prog) (w := X.w) (K := X.K) (tg := tg) a s1.heap.objs.size
    refine ⟨s1.heap.objs.size, [s1.heap.objs.size], _, ItS X.K true a, H1, rfl, I1.kept (t' := s1.toks) fun b o e => Heap.get?_push_of_some _ e, ⟨T.mem, T.obj, T.keep, ?_, ?_, T.self⟩, ⟨_, Heap.get?_push_size _ rfl, rfl, rfl⟩, fun b hb => ?_, q⟩
    · intro X' e1 e2 e3 hc i pins s sg H E I hf st go
      exact T.item X' e1 e2 e3 hc i pins s sg H E I hf st go
    · intro X' e1 e2 e3 hc i pins s sg H E I hf st stop
      obtain ⟨xs, h1, h2⟩ := stop
      exact T.done X' e1 e2 e3 hc i pins s sg H E I hf st ⟨xs, h1, Nat.le_of_eq h2⟩
    · have e : b = s1.heap.objs.size := by simpa using hb
      subst e
      exact I1.fpOk (Nat.le_refl _) (I1.hok.fresh (Nat.le_refl _))
def iEnu (K : PySem.W.Frag) (ta : TA) : TI := fun sg H R => ta sg H fun vs H1 => ∃ a t xs, vs = [.ref a] ∧ Src K t H1 a xs ∧ R (ItE K t a) H1
theorem pi_enumS {e : Expr} {ta : TA} {p pos tpos : Pos} {elts : List Expr} {kk : Nat} (hg : Gl X "enumerate") (hm : X.mg "enumerate" = none) (ha : PA X [e] ta) (hs : starEach [e] X.env = [(false, eval e X.env)] := by rfl) :
    PI X (.Tuple elts kk tpos) (.Call (.Name "enumerate" p) [e] [] pos) (iEnu X.K ta) := by
  refine ⟨fun pins s sg H R I h => ?_⟩
  refine Call_ (ld_blt I hg hm boot_enumerate (PyProof.Rows.callWith_type1 (thn (ha.run pos pins s sg H _ I h) fun us s1 ⟨vs, H1, I1, r1, q1⟩ => ?_) hs rfl))
  obtain ⟨a, t, xs, ex, hq, q⟩ := q1
  subst ex
  cases r1 with
  | cons r rr =>
    cases rr
    cases r
    obtain ⟨its, rv, p', hz⟩ := src_at I1 hq
    refine enum_begins1 (src_begins t a its.toArray) p' fun h' he hit hsz hk => wpAny_pyIter_enum he ?_
    have I2 : Inv X pins sg H1 { s1 with heap := h' } := I1.kept (t' := s1.toks) hk
    refine ⟨s1.heap.objs.size + 1, [s1.heap.objs.size + 1, s1.heap.objs.size], _, _, H1, rfl, I2, turn_enumS t a (s1.heap.objs.size + 1) s1.heap.objs.size, ⟨⟨.none, he⟩, src_start hit, Nat.succ_ne_self _⟩, fun b hb => ?_, q⟩
    have e' : b = s1.heap.objs.size + 1 ∨ b = s1.heap.objs.size := by simpa using hb
    have hle : s1.heap.objs.size ≤ b := by
      rcases e' with z | z
      · rw [z]; exact Nat.le_add_right _ _
      · rw [z]; exact Nat.le_refl _
    exact I1.fpOk hle (I1.hok.fresh hle)
def iZp (K : PySem.W.Frag) (ta : TA) : TI := fun sg H R => ta sg H fun vs H1 => ∃ a b t u xs ys, vs = [.ref a, .ref b] ∧ Src K t H1 a xs ∧ Src K u H1 b ys ∧ R (ItZ K t u a b) H1
theorem pi_zipS {e e2 : Expr} {ta : TA} {p pos tpos : Pos} {elts : List Expr} {kk : Nat} (hg : Gl X "zip") (hm : X.mg "zip" = none) (ha : PA X [e, e2] ta)
    (hs : starEach [e, e2] X.env = (false, eval e X.env) :: starEach [e2] X.env := by rfl) (hpl : (backTo pos (starEach [e2] X.env)).any (·.1) = false := by rfl) :
    PI X (.Tuple elts kk tpos) (.Call (.Name "zip" p) [e, e2] [] pos) (iZp X.K ta) := by
  refine ⟨fun pins s sg H R I h => ?_⟩
  refine Call_ (ld_blt I hg hm PyProof.Rows.boot_zip (PyProof.Rows.callWith_type1 (thn (ha.run pos pins s sg H _ I h) fun us s1 ⟨vs, H1, I1, r1, q1⟩ => ?_) hs hpl))
  obtain ⟨a, b, t, u, xs, ys, ex, hqx, hqy, q⟩ := q1
  subst ex
  cases r1 with
  | cons r rr =>
    cases rr with
    | cons r' rr =>
      cases rr
      cases r
      cases r'
      obtain ⟨its, rv, p1, _⟩ := src_at I1 hqx
      obtain ⟨its2, rv2, p2, _⟩ := src_at I1 hqy
      refine zip_begins2 (src_begins t a its.toArray) (src_begins u b its2.toArray) p1 p2 fun h' hz hTI hTO h1 h2 hsz hk => wpAny_pyIter_zip hz ?_
      have I2 : Inv X pins sg H1 { s1 with heap := h' } := I1.kept (t' := s1.toks) hk
      have S : ZipSep2 (s1.heap.objs.size + 4) (s1.heap.objs.size + 2) (s1.heap.objs.size + 3) s1.heap.objs.size (s1.heap.objs.size + 1) [s1.heap.objs.size] [s1.heap.objs.size + 1] := zip_sep2 (fun b hb => nomatch hb) (fun b hb => nomatch hb)
      refine ⟨s1.heap.objs.size + 4, [s1.heap.objs.size + 4, s1.heap.objs.size + 2, s1.heap.objs.size + 3, s1.heap.objs.size, s1.heap.objs.size + 1], _, _, H1, rfl, I2, turn_zipS t u a b S, ⟨hz, hTI, ⟨_, _, hTO⟩, src_start h1, src_start h2⟩, fun c hcm => ?_, q⟩
      have e' : c = s1.heap.objs.size + 4 ∨ c = s1.heap.objs.size + 2 ∨ c = s1.heap.objs.size + 3 ∨ c = s1.heap.objs.size ∨ c = s1.heap.objs.size + 1 := by simpa using hcm
      have hle : s1.heap.objs.size ≤ c := by
        rcases e' with z | z | z | z | z
        · rw [z]; exact Nat.le_add_right _ _
        · rw [z]; exact Nat.le_add_right _ _
        · rw [z]; exact Nat.le_add_right _ _
        · rw [z]; exact Nat.le_refl _
        · rw [z]; exact Nat.le_add_right _ _
      exact I1.fpOk hle (I1.hok.fresh hle)
end
end PB

set_option Elab.async false
set_option linter.all false
set_option maxRecDepth 100000
set_option maxHeartbeats 2000000
namespace PB
open PySem PySem.Spec L2
section
variable {X : Cx} {fa : FA} {cf : Nat → List PV → PH → Res PV} {K : PySem.W.Frag} {io : List Addr} {H : Hp} {h : PH}

/-! ### targets -/
theorem RS.set {sg : L2.St} {s : Sl} {v : V} {x : PV} (rs : RS K fa io H sg s) (rv : Rl K fa io H v x) (i : Nat) (hi : fa.xok i = true) : RS K fa io H (sg.set i (some v)) (s.set i (some x)) := by
  refine ⟨by rw [List.length_set, List.length_set]; exact rs.len, fun j y hjx hy => ?_, fun z hz => ?_⟩
  rotate_left
  · obtain ⟨h1, h2, h3⟩ := rs.ex z hz
    have hne : i ≠ z.i := by
      unfold FA.xok at hi; rw [hz] at hi; simpa using hi
    exact ⟨by rw [List.getElem?_set_ne hne]; exact h1, by rw [List.getElem?_set_ne hne]; exact h2, h3⟩
  by_cases hj : j = i
  · subst hj
    have hlt : j < s.length := by
      have := (List.getElem?_eq_some_iff.mp hy).1
      rw [List.length_set] at this; exact this
    rw [List.getElem?_set_self hlt] at hy
    cases hy
    exact ⟨v, by rw [List.getElem?_set_self (by rw [rs.len]; exact hlt)], rv⟩
  · rw [List.getElem?_set_ne (Ne.symm hj)] at hy
    obtain ⟨w, h1, h2⟩ := rs.at_ j y hjx hy
    exact ⟨w, by rw [List.getElem?_set_ne (Ne.symm hj)]; exact h1, h2⟩
theorem g_v {i : Nat} {x : Str} {pos : Pos} (h : PG X (.Name x pos) (gName i)) (hi : fa.xok i = true := by rfl) : PG X (.Name x pos) (tG X.K fa cf (.v i)) :=
  wkG h fun v sg H Q ⟨io, s, h, x, s', h', rs, rh, rv, e, q⟩ => by
    simp only [asT] at e; cases e
    exact q io H _ .refl rh (rs.set rv i hi) fun j hj => List.getElem?_set_ne fun z => hj (by simp [slots, z])
theorem gs_nil : PGs X [] (tGs X.K fa cf .nil) :=
  wkGs pgs_nil fun vs sg H Q ⟨io, s, h, xs, s', h', rs, rh, rv, e, q⟩ => by
    cases rv with
    | nil => simp only [asTs] at e; cases e; exact ⟨rfl, q io H _ .refl rh rs fun j _ => rfl⟩
    | cons _ _ => simp only [asTs] at e; cases e
variable {e a b c : Expr} {es : List Expr} {pos : Pos} {ct cr : CT} {ca cb cc ce : CE} {cs : CA}
theorem gs_cons (h1 : PG X e (tG X.K fa cf ct)) (h2 : PGs X es (tGs X.K fa cf cr)) (hs : (assignEach (e :: es) X.env).map (·.2) = assign e X.env :: (assignEach es X.env).map (·.2) := by rfl) : PGs X (e :: es) (tGs X.K fa cf (.cons ct cr)) :=
  wkGs (pgs_cons h1 h2 hs) fun vs sg H Q ⟨io, s, h, xs, s', h', rs, rh, rv, e, q⟩ => by
    cases rv with
    | nil => simp only [asTs] at e; cases e
    | @cons v x vs xs rx rr =>
      simp only [asTs] at e
      obtain ⟨s1, h1, e1, e⟩ := bind_ok e
      refine ⟨v, vs, rfl, io, s, h, x, s1, h1, rs, rh, rx, e1, fun io1 H1 sg1 ex1 rh1 rs1 k1 => ⟨io1, s1, h1, xs, s', h', rs1, rh1, rr.mono ex1, e, fun io2 H2 sg2 ex2 rh2 rs2 k2 => q io2 H2 sg2 (ex1.trans ex2) rh2 rs2 fun j hj => ?_⟩⟩
      simp only [slots, List.mem_append, not_or] at hj
      rw [k2 j hj.2, k1 j hj.1]
theorem pg_or {e : Expr} {t u : TG} (h1 : PG X e t) (h2 : PG X e u) : PG X e (fun v sg H Q => t v sg H Q ∨ u v sg H Q) :=
  ⟨fun pins s σ H v u' Q I r hw => hw.elim (h1.run pins s σ H v u' Q I r) (h2.run pins s σ H v u' Q I r)⟩
def tlen : CT → Nat
  | .cons _ r => tlen r + 1
  | _ => 0
theorem asTs_len : ∀ {t : CT} {xs : List PV} {s : Sl} {h : PH} {s' : Sl} {h' : PH}, asTs cf t xs s h = .ok s' h' → xs.length = tlen t
  | .nil, [], _, _, _, _, _ => rfl
  | .cons a r, x :: xs, s, h, s', h', e => by
    simp only [asTs] at e
    obtain ⟨s1, h1, e1, e⟩ := bind_ok e
    rw [List.length_cons, asTs_len e]; rfl
  | .nil, _ :: _, _, _, _, _, e => by simp only [asTs] at e; cases e
  | .cons _ _, [], _, _, _, _, e => by simp only [asTs] at e; cases e
  | .v _, [], _, _, _, _, e => by simp only [asTs] at e; cases e
  | .v _, _ :: _, _, _, _, _, e => by simp only [asTs] at e; cases e
  | .s _ _, [], _, _, _, _, e => by simp only [asTs] at e; cases e
  | .s _ _, _ :: _, _, _, _, _, e => by simp only [asTs] at e; cases e
theorem g_tup {k : Nat} (hc : X.calm = true) (h : PGs X es (tGs X.K fa cf (.cons ct cr))) (hn : (assignEach es X.env).length = tlen cr + 1 := by rfl) (hst : (assignEach es X.env).findIdx? (·.1) = none := by rfl) : PG X (.Tuple es k pos) (tG X.K fa cf (.cons ct cr)) :=
  wkG (pg_or (pg_tup hc h hn hst) (pg_lst hc h hn hst)) fun v sg H Q ⟨io, s, h, x, s', h', rs, rh, rv, e, q⟩ => by
    cases x <;> try (simp only [asT] at e; cases e; done)
    case ref n =>
      simp only [asT] at e
      split at e
      · rename_i y ys hx
        obtain ⟨p, vs, rfl, _, hp, rr⟩ := rh.list rv hx
        have e2 : asTs cf (.cons ct cr) (y :: ys) s h = .ok s' h' := by simp only [asTs]; exact e
        exact .inr ⟨p, vs, rfl, .inl (.inl hp), by rw [rr.length]; exact asTs_len e2, io, s, h, y :: ys, s', h', rs, rh, rr, e2, q⟩
      · cases e
    case tup ys =>
      have e2 : asTs cf (.cons ct cr) ys s h = .ok s' h' := by
        cases ys with
        | nil => simp only [asT] at e; cases e
        | cons y ys => simp only [asT] at e; simp only [asTs]; exact e
      cases rv with
      | @tup p vs _ sq rr => exact .inl ⟨p, vs, rfl, sq.t, by rw [rr.length]; exact asTs_len e2, io, s, h, ys, s', h', rs, rh, rr, e2, q⟩
    case wtup ys =>
      have e2 : asTs cf (.cons ct cr) ys s h = .ok s' h' := by
        cases ys with
        | nil => simp only [asT] at e; cases e
        | cons y ys => simp only [asT] at e; simp only [asTs]; exact e
      cases rv with
      | @wtup p vs _ sq rr => exact .inl ⟨p, vs, rfl, sq, by rw [rr.length]; exact asTs_len e2, io, s, h, ys, s', h', rs, rh, rr, e2, q⟩
theorem g_sub {o i : Expr} {co ci : CE} (ho : PE X o (tE X.K fa cf co)) (hi : PE X i (tE X.K fa cf ci)) (ha : ∀ v, assign (.Subscript o i pos) X.env v = (do
      let ov ← holding [v] (eval o X.env)
      let iv ← holding [v, ov] (eval i X.env)
      standAt pos
      holding [v, ov, iv] (setItem ov iv v)
      release [v, ov, iv] []) := by intro _; rfl) : PG X (.Subscript o i pos) (tG X.K fa cf (.s co ci)) :=
  wkG (pg_sub ho hi set_list ha) fun v sg H Q ⟨io, s, h, x, s', h', rs, rh, rv, e, q⟩ => by
    simp only [asT] at e
    obtain ⟨ov, h1, e1, e⟩ := bind_ok e
    obtain ⟨iv, h2, e2, e⟩ := bind_ok e
    obtain ⟨u, h3, e3, e⟩ := bind_ok e
    cases e
    refine ⟨io, s, h, ov, h1, rs, rh, e1, fun io1 H1 o' ex1 rh1 ro => ⟨io1, s, h1, iv, h2, rs.mono ex1, rh1, e2, fun io2 H2 i' ex2 rh2 ri => ?_⟩⟩
    have ro2 := ro.mono ex2
    unfold setop at e3
    split at e3
    · rename_i n i _
      cases hx : h2[n]? with
      | none => rw [hx] at e3; cases e3
      | some o =>
        obtain ⟨xs⟩ := o
        rw [hx] at e3
        simp only at e3
        cases hj : ixN xs.length i with
        | none => rw [hj] at e3; cases e3
        | some j =>
        rw [hj] at e3
        cases e3
        obtain ⟨p, vs, rfl, hp, ha, rr⟩ := rh2.list ro2 hx
        cases ri
        have rv2 := rv.mono (ex1.trans ex2)
        have exw := ext_write (vs := vs.set j v) (List.mem_of_getElem? hp) ⟨vs, ha⟩
        exact ⟨p, vs, i, j, rfl, rfl, ha, by rw [rr.length]; exact hj, q io2 _ sg ((ex1.trans ex2).trans exw) (rh2.write hp (rr.set rv2 j)) ((rs.mono (ex1.trans ex2)).mono exw) fun _ _ => rfl⟩
    · cases e3

/-! ### walks -/
theorem leans_at {l : Lean_} {n : Nat} {o : PO} (hl : leans l h = true) (hm : (n, o) ∈ l) : h[n]? = some o := by
  unfold leans at hl
  have := List.all_eq_true.mp hl _ hm
  simp only at this
  split at this
  · rename_i c hc
    rw [hc, PO.same_eq this]
  · cases this
theorem leans_app {l l' : Lean_} (hl : leans (l ++ l') h = true) : leans l h = true ∧ leans l' h = true := by
  unfold leans at hl ⊢
  rw [List.all_append, Bool.and_eq_true] at hl
  exact hl
theorem src_of {v : V} {x : PV} {xs : List PV} (rh : RH K fa io H h) (rv : Rl K fa io H v x) (e : items h x = some xs) :
    ∃ a t vs, v = .ref a ∧ Src K t H a vs ∧ ∀ io2 H2 h2, Ext io H io2 H2 → RH K fa io2 H2 h2 → leans (leanOf h x) h2 = true → ∃ vs2, Src K t H2 a vs2 ∧ Rls K fa io2 H2 vs2 xs := by
  cases rv with
  | @tup a vs _ sq rr => cases e; exact ⟨a, true, vs, rfl, sq.t, fun io2 H2 h2 ex rh2 _ => ⟨vs, ex.sqT sq.t, rr.mono ex⟩⟩
  | @scr a vs _ sq rr => cases e; exact ⟨a, false, vs, rfl, sq.l, fun io2 H2 h2 ex rh2 _ => ⟨vs, (ex.sqF sq).l, rr.mono ex⟩⟩
  | @ref a n hn =>
    simp only [PB.items] at e
    split at e <;> cases e
    rename_i hx
    obtain ⟨b, vs, e1, e2, e3⟩ := rh.cell _ _ hx
    rw [hn] at e1; cases e1
    refine ⟨a, false, vs, rfl, .inl (.inl e2), fun io2 H2 h2 ex rh2 hl => ?_⟩
    have hx2 := leans_at (n := n) (o := .lst xs) hl (by simp [leanOf, hx])
    obtain ⟨b, vs2, g1, g2, g3⟩ := rh2.cell _ _ hx2
    rw [ex.at_ hn] at g1; cases g1
    exact ⟨vs2, .inl (.inl g2), g3⟩
  | _ => cases e
theorem Rls.at' {vs : List V} {xs : List PV} {i : Nat} {y : PV} {v : V} (r : Rls K fa io H vs xs) (e : xs[i]? = some y) (e' : vs[i]? = some v) : Rl K fa io H v y := by
  obtain ⟨w, h1, h2⟩ := r.get e
  rw [e'] at h1; cases h1
  exact h2
variable {tg : Expr} {ci : CI}
theorem i_seq (ha : PE X a (tE X.K fa cf ca)) : PI X tg a (tI X.K fa cf (.seq ca)) :=
  wkI (pi_src ha) fun sg H R ⟨io, s, h, p, h', rs, rh, e, q⟩ => by
    simp only [evI] at e
    obtain ⟨x, h1, e1, e⟩ := bind_ok e
    split at e <;> cases e
    rename_i xs hx
    refine ⟨io, s, h, x, _, rs, rh, e1, fun io1 H1 v ex1 rh1 rv => ?_⟩
    obtain ⟨a, t, vs, rfl, sq, more⟩ := src_of rh1 rv hx
    refine ⟨a, t, vs, rfl, sq, q io1 H1 ex1 rh1 _ fun io2 H2 h2 ex2 rh2 hl => ?_⟩
    obtain ⟨vs2, sq2, rr⟩ := more io2 H2 h2 ex2 rh2 hl
    refine ⟨fun i y hy => ?_, vs2, sq2, rr.length⟩
    obtain ⟨w, hw, rw'⟩ := rr.get hy
    refine ⟨⟨vs2, w, sq2, hw⟩, fun x H3 hyl => ?_⟩
    obtain ⟨rfl, hh⟩ := hyl
    have := hh vs2 sq2
    rw [hw] at this; cases this
    exact ⟨.refl, rh2, rw'⟩
theorem enums_get : ∀ {xs : List PV} {k : Int} {i : Nat} {y : PV}, (enums k xs)[i]? = some y → ∃ x, xs[i]? = some x ∧ y = .wtup [.int (k + i), x]
  | [], k, i, y, e => by simp [enums] at e
  | x :: r, k, 0, y, e => by simp [enums] at e; exact ⟨x, rfl, by simp [e]⟩
  | x :: r, k, i + 1, y, e => by
    obtain ⟨z, h1, h2⟩ := enums_get (xs := r) (k := k + 1) (i := i) (by simpa [enums] using e)
    refine ⟨z, by simpa using h1, ?_⟩
    rw [h2]
    have : k + 1 + (i : Int) = k + ((i + 1 : Nat) : Int) := by omega
    rw [this]
theorem enums_len : ∀ (xs : List PV) (k : Int), (enums k xs).length = xs.length
  | [], _ => rfl
  | x :: r, k => by simp [enums, enums_len r]
theorem i_enu {p tpos : Pos} {elts : List Expr} {kk : Nat} (hg : Gl X "enumerate") (hm : X.mg "enumerate" = none) (ha : PA X [a] (tA X.K fa cf cs)) (hs : starEach [a] X.env = [(false, eval a X.env)] := by rfl) :
    PI X (.Tuple elts kk tpos) (.Call (.Name "enumerate" p) [a] [] pos) (tI X.K fa cf (.enu cs)) :=
  wkI (pi_enumS hg hm ha hs) fun sg H R ⟨io, s, h, p, h', rs, rh, e, q⟩ => by
    simp only [evI] at e
    obtain ⟨xs, h1, e1, e⟩ := bind_ok e
    split at e
    · rename_i x
      split at e <;> cases e
      rename_i ys hy
      refine ⟨io, s, h, _, _, rs, rh, e1, fun io1 H1 vs ex1 rh1 rvs => ?_⟩
      obtain ⟨v, rfl, rv⟩ := rvs.one
      obtain ⟨a, t, vs, rfl, sq, more⟩ := src_of rh1 rv hy
      refine ⟨a, t, vs, rfl, sq, q io1 H1 ex1 rh1 _ fun io2 H2 h2 ex2 rh2 hl => ?_⟩
      obtain ⟨vs2, sq2, rr⟩ := more io2 H2 h2 ex2 rh2 hl
      refine ⟨fun i y hy => ?_, vs2, sq2, by rw [enums_len]; exact rr.length⟩
      obtain ⟨z, hz, rfl⟩ := enums_get hy
      obtain ⟨w, hw, rw'⟩ := rr.get hz
      refine ⟨⟨vs2, w, sq2, hw⟩, fun x H3 hyl => ?_⟩
      obtain ⟨T, x', rfl, hT, rfl, hh⟩ := hyl
      have := hh vs2 sq2
      rw [hw] at this; cases this
      have ex := ext_new (io := io2) (o := .tup [.int (i : Nat), w]) hT
      refine ⟨ex, rh2.new hT, .wtup (.inl (.inl upd_same)) (.cons ?_ (.cons (rw'.mono ex) .nil))⟩
      have e0 : (0 : Int) + (i : Int) = (i : Int) := by omega
      rw [e0]; exact .int _
    · cases e
theorem zips_get : ∀ {xs ys : List PV} {i : Nat} {z : PV}, (zips xs ys)[i]? = some z → ∃ x y, xs[i]? = some x ∧ ys[i]? = some y ∧ z = .wtup [x, y]
  | [], ys, i, z, e => by simp [zips] at e
  | x :: r, [], i, z, e => by simp [zips] at e
  | x :: r, y :: q, 0, z, e => by simp [zips] at e; exact ⟨x, y, rfl, rfl, e.symm⟩
  | x :: r, y :: q, i + 1, z, e => by
    obtain ⟨x', y', h1, h2, h3⟩ := zips_get (xs := r) (ys := q) (i := i) (by simpa [zips] using e)
    exact ⟨x', y', by simpa using h1, by simpa using h2, h3⟩
theorem zips_len : ∀ (xs ys : List PV), (zips xs ys).length = min xs.length ys.length
  | [], ys => by simp [zips]
  | x :: r, [] => by simp [zips]
  | x :: r, y :: q => by simp only [zips, List.length_cons, zips_len r q]; omega
theorem i_zip {p tpos : Pos} {elts : List Expr} {kk : Nat} (hg : Gl X "zip") (hm : X.mg "zip" = none) (ha : PA X [a, b] (tA X.K fa cf cs))
    (hs : starEach [a, b] X.env = (false, eval a X.env) :: starEach [b] X.env := by rfl) (hpl : (backTo pos (starEach [b] X.env)).any (·.1) = false := by rfl) :
    PI X (.Tuple elts kk tpos) (.Call (.Name "zip" p) [a, b] [] pos) (tI X.K fa cf (.zip cs)) :=
  wkI (pi_zipS hg hm ha hs hpl) fun sg H R ⟨io, s, h, p, h', rs, rh, e, q⟩ => by
    simp only [evI] at e
    obtain ⟨xs, h1, e1, e⟩ := bind_ok e
    split at e
    · rename_i x y
      split at e <;> cases e
      rename_i us ws hu hw
      refine ⟨io, s, h, _, _, rs, rh, e1, fun io1 H1 vs ex1 rh1 rvs => ?_⟩
      obtain ⟨v, w, rfl, rv, rw'⟩ := rvs.two
      obtain ⟨a, t, vs, rfl, sq, more⟩ := src_of rh1 rv hu
      obtain ⟨b, u, vs', rfl, sq', more'⟩ := src_of rh1 rw' hw
      refine ⟨a, b, t, u, vs, vs', rfl, sq, sq', q io1 H1 ex1 rh1 _ fun io2 H2 h2 ex2 rh2 hl => ?_⟩
      obtain ⟨hl1, hl2⟩ := leans_app hl
      obtain ⟨vs2, sq2, rr⟩ := more io2 H2 h2 ex2 rh2 hl1
      obtain ⟨ws2, sq2', rr'⟩ := more' io2 H2 h2 ex2 rh2 hl2
      refine ⟨fun i y hy => ?_, vs2, ws2, sq2, sq2', by rw [zips_len, rr.length, rr'.length]⟩
      obtain ⟨z, z', hz, hz', rfl⟩ := zips_get hy
      obtain ⟨w, hw, rw1⟩ := rr.get hz
      obtain ⟨w', hw', rw2⟩ := rr'.get hz'
      refine ⟨⟨vs2, ws2, w, w', sq2, sq2', hw, hw'⟩, fun x H3 hyl => ?_⟩
      obtain ⟨T, x1, x2, rfl, hT, rfl, hh, hh'⟩ := hyl
      have := hh vs2 sq2
      rw [hw] at this; cases this
      have := hh' ws2 sq2'
      rw [hw'] at this; cases this
      have ex := ext_new (io := io2) (o := .tup [w, w']) hT
      exact ⟨ex, rh2.new hT, .wtup (.inl (.inl upd_same)) (.cons (rw1.mono ex) (.cons (rw2.mono ex) .nil))⟩
    · cases e
theorem range_get : ∀ {n : Nat} {a c : Int} {i : Nat} {y : PV}, (range a n c)[i]? = some y → i < n ∧ y = .int (a + (i : Nat) * c)
  | 0, a, c, i, y, e => by simp [range] at e
  | n + 1, a, c, 0, y, e => by simp [range] at e; exact ⟨by omega, by rw [← e]; simp⟩
  | n + 1, a, c, i + 1, y, e => by
    obtain ⟨h1, h2⟩ := range_get (n := n) (a := a + c) (i := i) (by simpa [range] using e)
    refine ⟨by omega, ?_⟩
    rw [h2]
    have : a + c + (i : Int) * c = a + ((i + 1 : Nat) : Int) * c := by
      have : ((i + 1 : Nat) : Int) = (i : Int) + 1 := by omega
      rw [this, Int.add_mul, Int.one_mul]
      omega
    rw [this]
theorem range_len : ∀ (n : Nat) (a c : Int), (range a n c).length = n
  | 0, _, _ => rfl
  | n + 1, a, c => by simp [range, range_len n]
theorem good_range {lo : Int} {n : Nat} : GoodJ K fa (range lo n 1, []) io H (Itr lo n) := fun io2 H2 h2 ex rh _ =>
  ⟨fun i y hy => by
    obtain ⟨h1, rfl⟩ := range_get hy
    refine ⟨h1, fun x H3 hyl => ?_⟩
    obtain ⟨rfl, rfl⟩ := hyl
    rw [Int.mul_one]
    exact ⟨.refl, rh, .int _⟩, by show n ≤ (range lo n 1).length; rw [range_len]; exact Nat.le_refl _⟩
theorem good_rangeC {lo c : Int} {n : Nat} : GoodJ K fa (range lo n c, []) io H (Itc lo c n) := fun io2 H2 h2 ex rh _ =>
  ⟨fun i y hy => by
    obtain ⟨h1, rfl⟩ := range_get hy
    refine ⟨h1, fun x H3 hyl => ?_⟩
    obtain ⟨rfl, rfl⟩ := hyl
    exact ⟨.refl, rh, .int _⟩, by show n ≤ (range lo n c).length; rw [range_len]; exact Nat.le_refl _⟩
theorem i_rng1 {p : Pos} (hg : Gl X "range") (hm : X.mg "range" = none) (ha : PA X [a] (tA X.K fa cf cs)) (hs : starEach [a] X.env = [(false, eval a X.env)] := by rfl) : PI X tg (.Call (.Name "range" p) [a] [] pos) (tI X.K fa cf (.rng1 cs)) :=
  wkI (pi_range1 hg hm ha hs) fun sg H R ⟨io, s, h, p, h', rs, rh, e, q⟩ => by
    simp only [evI] at e
    obtain ⟨xs, h1, e1, e⟩ := bind_ok e
    split at e
    · split at e <;> cases e
      rename_i b hb
      have hB : bigR = 1000000 := rfl
      refine ⟨io, s, h, _, _, rs, rh, e1, fun io1 H1 vs ex1 rh1 rvs => ?_⟩
      obtain ⟨v, rfl, rv⟩ := rvs.one
      cases rv
      exact ⟨b, rfl, by omega, by omega, q io1 H1 ex1 rh1 _ good_range⟩
    · cases e
theorem i_rng2 {p : Pos} (hg : Gl X "range") (hm : X.mg "range" = none) (ha : PA X [a, b] (tA X.K fa cf cs)) (hs : starEach [a, b] X.env = [(false, eval a X.env), (false, eval b X.env)] := by rfl) (hs2 : starEach [b] X.env = [(false, eval b X.env)] := by rfl) :
    PI X tg (.Call (.Name "range" p) [a, b] [] pos) (tI X.K fa cf (.rng2 cs)) :=
  wkI (pi_range2 hg hm ha hs hs2) fun sg H R ⟨io, s, h, p, h', rs, rh, e, q⟩ => by
    simp only [evI] at e
    obtain ⟨xs, h1, e1, e⟩ := bind_ok e
    split at e
    · split at e <;> cases e
      rename_i a b hb
      have hB : bigR = 1000000 := rfl
      refine ⟨io, s, h, _, _, rs, rh, e1, fun io1 H1 vs ex1 rh1 rvs => ?_⟩
      obtain ⟨v, w, rfl, rv, rw'⟩ := rvs.two
      cases rv; cases rw'
      exact ⟨a, b, rfl, by omega, q io1 H1 ex1 rh1 _ good_range⟩
    · cases e
theorem i_rng3 {p : Pos} (hg : Gl X "range") (hm : X.mg "range" = none) (ha : PA X [a, b, c] (tA X.K fa cf cs)) (hs : starEach [a, b, c] X.env = (false, eval a X.env) :: starEach [b, c] X.env := by rfl) (hpl : (backTo pos (starEach [b, c] X.env)).any (·.1) = false := by rfl) :
    PI X tg (.Call (.Name "range" p) [a, b, c] [] pos) (tI X.K fa cf (.rng3 cs)) :=
  wkI (pi_range3 hg hm ha hs hpl) fun sg H R ⟨io, s, h, p, h', rs, rh, e, q⟩ => by
    simp only [evI] at e
    obtain ⟨xs, h1, e1, e⟩ := bind_ok e
    split at e
    · split at e <;> cases e
      rename_i a b c hb
      have hB : bigR = 1000000 := rfl
      refine ⟨io, s, h, _, _, rs, rh, e1, fun io1 H1 vs ex1 rh1 rvs => ?_⟩
      cases rvs with
      | cons r1 rr =>
      obtain ⟨v, w, rfl, rv, rw'⟩ := rr.two
      cases r1; cases rv; cases rw'
      obtain ⟨_, _, _, _, rfl⟩ := hb
      exact ⟨a, b, -1, _, rfl, .neg (by omega) (by omega) (by omega) (by omega), q io1 H1 ex1 rh1 _ good_rangeC⟩
    · cases e
end
end PB

set_option Elab.async false
set_option linter.all false
set_option maxRecDepth 100000
set_option maxHeartbeats 2000000
namespace PB
open PySem PySem.Spec L2
section
variable {X : Cx} {fa : FA} {cf : Nat → List PV → PH → Res PV} {K : PySem.W.Frag} {io io1 io2 : List Addr} {H H1 H2 : Hp} {h : PH}
/-! ### one list outside the pure heap is written -/
theorem Ext.notin (e : Ext io H io1 H1) {D : Addr} {o : List V} (n : D ∉ io) (hD : H D = some (.lst o)) : D ∉ io1 := by
  obtain ⟨t, rfl, f⟩ := e.more
  intro hm
  rcases List.mem_append.mp hm with hm | hm
  · exact n hm
  · exact (f D hm).no hD (fun _ z => nomatch z)
mutual
theorem Rl.keep {D : Addr} {acc acc' : List V} (hD : H D = some (.lst acc)) : ∀ {v : V} {x : PV}, Rl K fa io H v x → Rl K fa io (upd H D (.lst acc')) v x
  | _, _, .non => .non
  | _, _, .bl b => .bl b
  | _, _, .int i => .int i
  | _, _, .str x => .str x
  | _, _, .tup h r => by
    refine .tup ?_ (Rls.keep hD r)
    rcases h with ⟨o, h, hd⟩ | h
    · exact .inl ⟨o, by rw [upd_ne (ne_of h hD (by intro z; cases z))]; exact h, hd⟩
    · exact .inr h
  | _, _, .wtup h r => by
    refine .wtup ?_ (Rls.keep hD r)
    rcases h with (h | ⟨o, h⟩) | h
    · exact .inl (.inl (by rw [upd_ne (ne_of h hD (by intro z; cases z))]; exact h))
    · exact .inl (.inr ⟨o, by rw [upd_ne (ne_of h hD (by intro z; cases z))]; exact h⟩)
    · exact .inr h
  | _, _, .scr h r => by
    refine .scr ?_ (Rls.keep hD r)
    rcases h with ⟨o, h⟩ | h
    · exact .inl ⟨o, by rw [upd_ne (ne_of h hD (by intro z; cases z))]; exact h⟩
    · exact .inr h
  | _, _, .ref h => .ref h
  | _, _, .fn h => .fn h
  | _, _, .dct h => .dct (by rw [upd_ne (ne_of h hD (by intro z; cases z))]; exact h)
theorem Rls.keep {D : Addr} {acc acc' : List V} (hD : H D = some (.lst acc)) : ∀ {v : List V} {x : List PV}, Rls K fa io H v x → Rls K fa io (upd H D (.lst acc')) v x
  | _, _, .nil => .nil
  | _, _, .cons a r => .cons (Rl.keep hD a) (Rls.keep hD r)
end
mutual
theorem Rl.grow {t : List Addr} : ∀ {v : V} {x : PV}, Rl K fa io H v x → Rl K fa (io ++ t) H v x
  | _, _, .non => .non
  | _, _, .bl b => .bl b
  | _, _, .int i => .int i
  | _, _, .str x => .str x
  | _, _, .tup h r => .tup h (Rls.grow r)
  | _, _, .wtup h r => .wtup h (Rls.grow r)
  | _, _, .scr h r => .scr h (Rls.grow r)
  | _, _, .ref h => .ref (by rw [List.getElem?_append_left (List.getElem?_eq_some_iff.mp h).1]; exact h)
  | _, _, .fn h => .fn h
  | _, _, .dct h => .dct h
theorem Rls.grow {t : List Addr} : ∀ {v : List V} {x : List PV}, Rls K fa io H v x → Rls K fa (io ++ t) H v x
  | _, _, .nil => .nil
  | _, _, .cons a r => .cons (Rl.grow a) (Rls.grow r)
end
theorem RH.keep (r : RH K fa io H h) {D : Addr} {acc acc' : List V} (hD : H D = some (.lst acc)) (n : D ∉ io) : RH K fa io (upd H D (.lst acc')) h :=
  ⟨r.len, r.nd, fun m xs hx => by
    obtain ⟨a, vs, e1, e2, e3⟩ := r.cell m xs hx
    have na : a ≠ D := fun z => n (z ▸ List.mem_of_getElem? e1)
    exact ⟨a, vs, e1, by rw [upd_ne na]; exact e2, e3.keep hD⟩, tabs_of (fun a o h k => by
    have na : a ≠ D := fun z => by rw [z, hD] at h; cases h; exact k _ rfl
    rw [upd_ne na]; exact h) _ r.tab⟩
theorem Ext.keep (e : Ext io H io1 H1) {D : Addr} {acc acc' : List V} (hD : H D = none) (hD1 : H1 D = some (.lst acc')) : Ext io H io1 (upd H1 D (.lst acc)) :=
  ⟨e.more, fun a o h hn hk => by rw [upd_ne (ne_of_none h hD)]; exact e.stay a o h hn hk, fun a h => by
    by_cases z : a = D
    · subst z; exact .inl hD
    · unfold Nt at h; rw [upd_ne z] at h; exact e.there a h⟩
/-- the list comes into the pure heap -/
theorem RH.adopt (r : RH K fa io H h) {D : Addr} {acc : List V} {ys : List PV} (hD : H D = some (.lst acc)) (n : D ∉ io) (rv : Rls K fa io H acc ys) : RH K fa (io ++ [D]) H (h ++ [.lst ys]) := by
  refine ⟨by simp [r.len], ?_, fun m xs hx => ?_, r.tab⟩
  · rw [List.nodup_append]
    refine ⟨r.nd, by simp, fun a ha b hb => ?_⟩
    rw [List.mem_singleton] at hb
    subst hb
    rintro rfl
    exact n ha
  · by_cases hm : m < h.length
    · rw [List.getElem?_append_left hm] at hx
      obtain ⟨a, ws, e1, e2, e3⟩ := r.cell m xs hx
      exact ⟨a, ws, by rw [List.getElem?_append_left (by rw [r.len]; exact hm)]; exact e1, e2, e3.grow⟩
    · rw [List.getElem?_append_right (by omega)] at hx
      have hz : m - h.length = 0 := by
        rcases Nat.eq_zero_or_pos (m - h.length) with z | z
        · exact z
        · rw [List.getElem?_eq_none (by simp; omega)] at hx; cases hx
      rw [hz] at hx
      simp at hx
      subst hx
      refine ⟨D, acc, ?_, hD, rv.grow⟩
      rw [List.getElem?_append_right (by rw [r.len]; omega), r.len, hz]
      rfl
theorem Ext.adopt (e : Ext io H io1 H1) {D : Addr} (hD : H D = none) : Ext io H (io1 ++ [D]) H1 := by
  obtain ⟨t, rfl, f⟩ := e.more
  refine ⟨⟨t ++ [D], by simp, fun p hp => ?_⟩, e.stay, e.there⟩
  rcases List.mem_append.mp hp with hp | hp
  · exact f p hp
  · rw [List.mem_singleton] at hp; subst hp; exact .inl hD

/-! ### the own slots -/
theorem wipe_len (s : Sl) : ∀ vs : List Nat, (PB.wipe s vs).length = s.length
  | [] => rfl
  | v :: vs => by unfold PB.wipe; rw [List.length_set, wipe_len s vs]
theorem wipe_get {s : Sl} {i : Nat} {x : PV} : ∀ {vs : List Nat}, (PB.wipe s vs)[i]? = some (some x) → s[i]? = some (some x) ∧ i ∉ vs
  | [], h => ⟨h, by simp⟩
  | v :: vs, h => by
    unfold PB.wipe at h
    by_cases hi : v = i
    · subst hi
      by_cases hv : v < (PB.wipe s vs).length
      · rw [List.getElem?_set_self hv] at h; cases h
      · rw [List.getElem?_eq_none (by simpa using hv)] at h; cases h
    · rw [List.getElem?_set_ne hi] at h
      obtain ⟨h1, h2⟩ := wipe_get h
      exact ⟨h1, by simp only [List.mem_cons, not_or]; exact ⟨fun e => hi e.symm, h2⟩⟩
theorem wipe_at {sg : L2.St} {i : Nat} : ∀ {vs : List Nat}, i ∉ vs → (L2.wipe sg vs)[i]? = sg[i]?
  | [], _ => rfl
  | v :: vs, h => by
    simp only [List.mem_cons, not_or] at h
    unfold L2.wipe
    rw [List.getElem?_set_ne (Ne.symm h.1)]
    exact wipe_at h.2
theorem wipe_in {sg : L2.St} {i : Nat} : ∀ {vs : List Nat}, i ∈ vs → i < sg.length → (L2.wipe sg vs)[i]? = some none
  | [], h, _ => by simp at h
  | v :: vs, h, hl => by
    unfold L2.wipe
    by_cases hi : v = i
    · subst hi
      rw [List.getElem?_set_self (by rw [wipe_length]; exact hl)]
    · rw [List.getElem?_set_ne hi]
      have : i ∈ vs := by
        rcases List.mem_cons.mp h with z | z
        · exact absurd z.symm hi
        · exact z
      exact wipe_in this hl
theorem wipe_same {sg sg2 : L2.St} {vs : List Nat} (hl : sg2.length = sg.length) (h : ∀ j, j ∉ vs → sg2[j]? = (L2.wipe sg vs)[j]?) : L2.wipe sg2 vs = L2.wipe sg vs := by
  apply List.ext_getElem?
  intro j
  by_cases hj : j ∈ vs
  · by_cases hlt : j < sg.length
    · rw [wipe_in hj hlt, wipe_in hj (by rw [hl]; exact hlt)]
    · rw [List.getElem?_eq_none (by rw [wipe_length]; omega), List.getElem?_eq_none (by rw [wipe_length]; omega)]
  · rw [wipe_at hj, h j hj]
theorem RS.wipe {sg : L2.St} {s : Sl} (rs : RS K fa io H sg s) (vs : List Nat) (hxa : fa.xa = none) : RS K fa io H (L2.wipe sg vs) (PB.wipe s vs) :=
  ⟨by rw [wipe_length, wipe_len]; exact rs.len, fun i x hx h => by
    obtain ⟨h1, h2⟩ := wipe_get h
    obtain ⟨v, g1, g2⟩ := rs.at_ i x hx h1
    exact ⟨v, by rw [wipe_at h2]; exact g1, g2⟩, fun x h => by rw [hxa] at h; cases h⟩
mutual
theorem asT_len : ∀ {t : CT} {x : PV} {s : Sl} {h : PH} {s' : Sl} {h' : PH}, asT cf t x s h = .ok s' h' → s'.length = s.length
  | .v i, x, s, h, s', h', e => by simp only [asT] at e; cases e; exact List.length_set
  | .s o i, x, s, h, s', h', e => by
      simp only [asT] at e
      obtain ⟨_, _, _, e⟩ := bind_ok e
      obtain ⟨_, _, _, e⟩ := bind_ok e
      obtain ⟨_, _, _, e⟩ := bind_ok e
      cases e; rfl
  | .nil, x, s, h, s', h', e => by
      simp only [asT] at e
      split at e <;> cases e
      rfl
  | .cons a r, x, s, h, s', h', e => by
      simp only [asT] at e
      split at e
      · obtain ⟨s1, h1, e1, e⟩ := bind_ok e
        rw [asTs_slen e, asT_len e1]
      · obtain ⟨s1, h1, e1, e⟩ := bind_ok e
        rw [asTs_slen e, asT_len e1]
      · split at e
        · obtain ⟨s1, h1, e1, e⟩ := bind_ok e
          rw [asTs_slen e, asT_len e1]
        · cases e
      · cases e
theorem asTs_slen : ∀ {t : CT} {xs : List PV} {s : Sl} {h : PH} {s' : Sl} {h' : PH}, asTs cf t xs s h = .ok s' h' → s'.length = s.length
  | .v i, xs, s, h, s', h', e => by cases xs <;> simp only [asTs] at e <;> cases e
  | .s o i, xs, s, h, s', h', e => by cases xs <;> simp only [asTs] at e <;> cases e
  | .nil, xs, s, h, s', h', e => by cases xs <;> simp only [asTs] at e <;> cases e; rfl
  | .cons a r, xs, s, h, s', h', e => by
      cases xs with
      | nil => simp only [asTs] at e; cases e
      | cons x xs =>
        simp only [asTs] at e
        obtain ⟨s1, h1, e1, e⟩ := bind_ok e
        rw [asTs_slen e, asT_len e1]
end
end
end PB

set_option Elab.async false
set_option linter.all false
set_option maxRecDepth 100000
set_option maxHeartbeats 2000000
namespace PB
open PySem PySem.Spec L2
section
variable {X : Cx} {fa : FA} {cf : Nat → List PV → PH → Res PV} {K : PySem.W.Frag} {io io1 io2 : List Addr} {H H1 H2 : Hp} {h : PH}
/-- a comprehension's condition -/
def tW (K : PySem.W.Frag) (fa : FA) (cf : Nat → List PV → PH → Res PV) (c : CO) : TT := fun sg H Q => ∃ io s h t h' b, RS K fa io H sg s ∧ RH K fa io H h ∧ evO cf c s h = .ok t h' ∧ (t = none ∧ b = true ∨ t = some (.bl b)) ∧
  ∀ io' H', Ext io H io' H' → RH K fa io' H' h' → Q b H'
theorem wkPTs {e : List Expr} {t t' : TT} (h : PTs X e t) (w : ∀ sg H Q, t' sg H Q → t sg H Q) : PTs X e t' := ⟨fun pins s sg H Q I q => h.run pins s sg H Q I (w _ _ _ q)⟩
theorem w_nil : PTs X [] (tW X.K fa cf .none) := wkPTs pts_nil fun sg H Q ⟨io, s, h, t, h', b, rs, rh, e, hb, q⟩ => by
  simp only [evO] at e; cases e
  rcases hb with ⟨_, rfl⟩ | hb
  · exact q io H .refl rh
  · cases hb
theorem w_one {c : Expr} {cc : CE} (hc : PT X c (tT X.K fa cf cc)) : PTs X [c] (tW X.K fa cf (.some cc)) := wkPTs (pts_one hc) fun sg H Q ⟨io, s, h, t, h', b, rs, rh, e, hb, q⟩ => by
  simp only [evO] at e
  obtain ⟨x, h1, e1, e⟩ := bind_ok e
  cases e
  rcases hb with ⟨z, _⟩ | hb
  · cases z
  · cases hb; exact ⟨io, s, h, b, _, rs, rh, e1, q⟩
theorem compL_items {f : PV → PH → Res (Option PV)} {l : Lean_} : ∀ {xs : List PV} {h : PH} {ys : List PV} {h' : PH}, compL f l xs h = .ok ys h' → ys.length ≤ xs.length
  | [], h, ys, h', e => by simp only [compL] at e; split at e <;> cases e; simp
  | x :: r, h, ys, h', e => by
    simp only [compL] at e
    split at e
    · obtain ⟨y, h1, e1, e⟩ := bind_ok e
      obtain ⟨zs, h2, e2, e⟩ := bind_ok e
      have := compL_items e2
      cases e
      cases y <;> simp <;> omega
    · cases e
theorem comp_to {ce : CE} {own : List Nat} {ct : CT} {ci : CI} {co : CO} (hsub : ∀ j, j ∈ slots ct → j ∈ own) (hxa : fa.xa = none) (sg : L2.St) (H : Hp) (Q : VK)
    (w : tE K fa cf (.comp ce own ct ci co) sg H Q) : tLc (tI K fa cf ci) (tG K fa cf ct) (tW K fa cf co) (tE K fa cf ce) own sg H Q := by
  obtain ⟨io, s, h, r, h', rs, rh, e, q⟩ := w
  simp only [evE] at e
  obtain ⟨p, h1, e1, e⟩ := bind_ok e
  by_cases hlen : p.1.length ≤ many
  case neg => rw [if_neg hlen] at e; cases e
  rw [if_pos hlen] at e
  obtain ⟨ys, h2, e2, e⟩ := bind_ok e
  refine ⟨io, s, h, p, h1, rs, rh, e1, fun io1 H1 ex1 rh1 J gd D hD => ?_⟩
  generalize hF : (fun (x : PV) (h2 : PH) => (asT cf ct x (PB.wipe s own) h2).bind fun s3 h3 => (evO cf co s3 h3).bind fun t h4 =>
        match t with
        | some (.bl false) => .ok none h4
        | some (.bl true) => (evE cf ce s3 h4).bind fun y h5 => .ok (some y) h5
        | none => (evE cf ce s3 h4).bind fun y h5 => .ok (some y) h5
        | _ => .bad) = F at e2
  have nD : D ∉ io1 := fun hm => by obtain ⟨vs, hv⟩ := rh1.mem hm; rw [hD] at hv; cases hv
  refine ⟨fun i m Hc => m = p.1.length - i ∧ i ≤ p.1.length ∧ ∃ ioc hc acc ys0 zs, Ext io1 H1 ioc Hc ∧ D ∉ ioc ∧ RH K fa ioc Hc hc ∧ Hc D = some (.lst acc) ∧ Rls K fa ioc Hc acc ys0 ∧
      compL F p.2 (p.1.drop i) hc = .ok zs h2 ∧ ys = ys0 ++ zs ∧ acc.length ≤ i,
    ⟨p.1.length, by simp, Nat.zero_le _, io1, h1, [], [], ys, ext_new hD, nD, rh1.new hD, upd_same, .nil, by simpa using e2, rfl, Nat.zero_le _⟩, ?_⟩
  rintro i m Hc ⟨rfl, hi, ioc, hc, acc, ys0, zs, exc, nc, rhc, hDc, rac, ec, hys, hal⟩
  cases hd : p.1.drop i with
  | nil =>
    rw [hd] at ec
    simp only [compL] at ec
    by_cases hl : leans p.2 hc = true
    case neg => rw [if_neg hl] at ec; cases ec
    rw [if_pos hl] at ec
    have hgd := (gd ioc Hc hc exc rhc hl).2
    obtain ⟨rfl, rfl⟩ : zs = [] ∧ hc = h2 := by cases ec; exact ⟨rfl, rfl⟩
    have hli : i = p.1.length := by
      have := congrArg List.length hd
      simp at this; omega
    subst hli
    refine .inl ⟨hgd, ?_⟩
    unfold alloc at e
    cases e
    rw [List.append_nil] at hys
    subst hys
    exact q (ioc ++ [D]) Hc (.ref D) (ex1.trans (exc.adopt hD)) (rhc.adopt hDc nc rac) (.ref (by rw [List.getElem?_append_right (by rw [rhc.len]; exact Nat.le_refl _), rhc.len, Nat.sub_self]; rfl))
  | cons x rest =>
    have hx : p.1[i]? = some x := by
      have := congrArg (·[0]?) hd
      simpa using this
    have hrest : p.1.drop (i + 1) = rest := by
      have := congrArg (·.drop 1) hd
      simpa [List.drop_drop, Nat.add_comm] using this
    have hlt : i < p.1.length := (List.getElem?_eq_some_iff.mp hx).1
    rw [hd] at ec
    simp only [compL] at ec
    by_cases hl : leans p.2 hc = true
    case neg => rw [if_neg hl] at ec; cases ec
    rw [if_pos hl] at ec
    obtain ⟨y, h3, e3, ec⟩ := bind_ok ec
    obtain ⟨zs', h4, e4, ec⟩ := bind_ok ec
    obtain ⟨hgo, hyl⟩ := (gd ioc Hc hc exc rhc hl).1 i x hx
    have hz : zs = (match (generalizing := false) y with | some y => y :: zs' | none => zs') ∧ h4 = h2 := by cases ec; exact ⟨rfl, rfl⟩
    obtain ⟨hz, rfl⟩ := hz
    refine .inr ⟨hgo, _, fun H' w => ⟨p.1.length - (i + 1), by omega, w⟩, fun v H3 hy => ?_⟩
    obtain ⟨ex3, rh3, rv3⟩ := hyl v H3 hy
    have hD3 : H3 D = some (.lst acc) := ex3.stay _ _ hDc (.inl nc) (fun _ z => nomatch z)
    rw [← hF] at e3
    simp only at e3
    obtain ⟨s3, h5, e5, e3⟩ := bind_ok e3
    obtain ⟨t, h6, e6, e3⟩ := bind_ok e3
    have rs3 := ((rs.mono ex1).mono (exc.trans ex3)).wipe own hxa
    refine ⟨ioc, PB.wipe s own, hc, x, s3, h5, rs3, rh3, rv3, e5, fun io4 H4 sg4 ex4 rh4 rs4 kp => ?_⟩
    refine ⟨wipe_same (by rw [rs4.len, asT_len e5, wipe_len, rs.len]) fun j hj => kp j fun hm => hj (hsub j hm), ?_⟩
    have nD4 : D ∉ io4 := ex4.notin nc hD3
    have hD4 : H4 D = some (.lst acc) := ex4.stay _ _ hD3 (.inl nc) (fun _ z => nomatch z)
    have key : ∀ b, (b = true → ∃ yy hh, evE cf ce s3 h6 = .ok yy hh ∧ y = some yy ∧ hh = h3) → (b = false → y = none ∧ h6 = h3) → ∀ io' H', Ext io4 H4 io' H' → RH K fa io' H' h6 →
        (if b = true then tE K fa cf ce sg4 H' fun y H4 => ∃ acc, H4 D = some (.lst acc) ∧ acc.length < sizeLine ∧ (p.1.length - (i + 1) = p.1.length - (i + 1) ∧ i + 1 ≤ p.1.length ∧ ∃ ioc hc acc' ys0 zs, Ext io1 H1 ioc (upd H4 D (.lst (acc ++ [y]))) ∧ D ∉ ioc ∧ RH K fa ioc (upd H4 D (.lst (acc ++ [y]))) hc ∧ (upd H4 D (.lst (acc ++ [y]))) D = some (.lst acc') ∧ Rls K fa ioc (upd H4 D (.lst (acc ++ [y]))) acc' ys0 ∧
      compL F p.2 (p.1.drop (i + 1)) hc = .ok zs h4 ∧ ys = ys0 ++ zs ∧ acc'.length ≤ i + 1) else (p.1.length - (i + 1) = p.1.length - (i + 1) ∧ i + 1 ≤ p.1.length ∧ ∃ ioc hc acc ys0 zs, Ext io1 H1 ioc H' ∧ D ∉ ioc ∧ RH K fa ioc H' hc ∧ H' D = some (.lst acc) ∧ Rls K fa ioc H' acc ys0 ∧
      compL F p.2 (p.1.drop (i + 1)) hc = .ok zs h4 ∧ ys = ys0 ++ zs ∧ acc.length ≤ i + 1)) := by
      intro b ht hf io' H' ex' rh'
      have n' : D ∉ io' := ex'.notin nD4 hD4
      have hD' : H' D = some (.lst acc) := ex'.stay _ _ hD4 (.inl nD4) (fun _ z => nomatch z)
      have exT := ((exc.trans ex3).trans ex4).trans ex'
      cases b with
      | false =>
        obtain ⟨rfl, rfl⟩ := hf rfl
        simp only [Bool.false_eq_true, if_false]
        exact ⟨trivial, hlt, io', h6, acc, ys0, zs, exT, n', rh', hD', rac.mono ((ex3.trans ex4).trans ex'), by rw [hrest, e4, hz], hys, by omega⟩
      | true =>
        obtain ⟨yy, hh, ey, rfl, rfl⟩ := ht rfl
        simp only [if_true]
        refine ⟨io', s3, h6, yy, hh, rs4.mono ex', rh', ey, fun io5 H5 v5 ex5 rh5 rv5 => ?_⟩
        have n5 := ex5.notin n' hD'
        have hD5 : H5 D = some (.lst acc) := ex5.stay _ _ hD' (.inl n') (fun _ z => nomatch z)
        refine ⟨acc, hD5, many_lt (Nat.lt_of_le_of_lt hal (Nat.lt_of_lt_of_le hlt hlen)), trivial, hlt, io5, hh, acc ++ [v5], ys0 ++ [yy], zs', (exT.trans ex5).keep hD hD5, n5, rh5.keep hD5 n5, upd_same, ?_, by rw [hrest, e4], ?_, by simp; omega⟩
        · exact (((rac.mono ((ex3.trans ex4).trans ex')).mono ex5).keep hD5).append (.cons (rv5.keep hD5) .nil)
        · rw [hys, hz]; simp
    cases ht : t with
    | none =>
      subst ht
      simp only at e3
      obtain ⟨yy, h7, e7, e3⟩ := bind_ok e3
      cases e3
      exact ⟨io4, s3, h5, none, h6, true, rs4, rh4, e6, .inl ⟨rfl, rfl⟩, key true (fun _ => ⟨yy, _, e7, rfl, rfl⟩) fun z => nomatch z⟩
    | some tv =>
      subst ht
      cases tv <;> try (simp only at e3; cases e3; done)
      case bl b =>
        cases b with
        | false =>
          simp only at e3; cases e3
          exact ⟨io4, s3, h5, _, _, false, rs4, rh4, e6, .inr rfl, key false (fun z => nomatch z) fun _ => ⟨rfl, rfl⟩⟩
        | true =>
          simp only at e3
          obtain ⟨yy, h7, e7, e3⟩ := bind_ok e3
          cases e3
          exact ⟨io4, s3, h5, _, h6, true, rs4, rh4, e6, .inr rfl, key true (fun _ => ⟨yy, _, e7, rfl, rfl⟩) fun z => nomatch z⟩
variable {elt tg iter : Expr} {ifs : List Expr} {scope : Scope} {pos spos : Pos} {ce : CE} {ct : CT} {ci : CI} {co : CO}
theorem e_comp (own : List (Str × Nat)) (hc : X.calm = true) (hN : X.N.Nodup) (hi : PI X tg iter (tI X.K fa cf ci)) (ok : BlkOk X.N X.env.scope scope own)
    (hg : ∀ (s : Shared) (H : Hp) (C : Addr) (cl : List (Str × Addr)) (fp : List Addr), PG (X.blk s H scope (compEnvC scope cl C X.env) fp) tg (tG X.K fa cf ct))
    (ht : ∀ (s : Shared) (H : Hp) (C : Addr) (cl : List (Str × Addr)) (fp : List Addr), PTs (X.blk s H scope (compEnvC scope cl C X.env) fp) ifs (tW X.K fa cf co))
    (he : ∀ (s : Shared) (H : Hp) (C : Addr) (cl : List (Str × Addr)) (fp : List Addr), PE (X.blk s H scope (compEnvC scope cl C X.env) fp) elt (tE X.K fa cf ce))
    (hsub : ∀ j, j ∈ slots ct → j ∈ own.map (·.2) := by decide) (hxa : fa.xa = none := by rfl) (hs : ∀ x, foldedSetIterable iter X.env x = pure x := by intro _; rfl) :
    PE X (.ListComp elt [⟨tg, iter, ifs, 0⟩] scope pos) (tE X.K fa cf (.comp ce (own.map (·.2)) ct ci co)) :=
  wkE (pe_lc hc hN hi ok hg ht he hs) (comp_to hsub hxa)
theorem s_setComp {i : Nat} {y : Str} {py : Pos} (own : List (Str × Nat)) (hc : X.calm = true) (hN : X.N.Nodup) (hy : X.N[i]? = some y) (hyl : X.env.scope.names.lookup y = some .local) (hi : PI X tg iter (tI X.K fa cf ci)) (ok : BlkOk X.N X.env.scope scope own)
    (hg : ∀ (s : Shared) (H : Hp) (C : Addr) (cl : List (Str × Addr)) (fp : List Addr), PG (X.blk s H scope (compEnvC scope cl C X.env) fp) tg (tG X.K fa cf ct))
    (ht : ∀ (s : Shared) (H : Hp) (C : Addr) (cl : List (Str × Addr)) (fp : List Addr), PTs (X.blk s H scope (compEnvC scope cl C X.env) fp) ifs (tW X.K fa cf co))
    (he : ∀ (s : Shared) (H : Hp) (C : Addr) (cl : List (Str × Addr)) (fp : List Addr), PE (X.blk s H scope (compEnvC scope cl C X.env) fp) elt (tE X.K fa cf ce))
    (hsw : swapsWith (.ListComp elt [⟨tg, iter, ifs, 0⟩] scope pos) (some (.Name y py)) spos.line X.env = pure true := by rfl)
    (hsub : ∀ j, j ∈ slots ct → j ∈ own.map (·.2) := by decide) (hxa : fa.xa = none := by rfl) (hs : ∀ x, foldedSetIterable iter X.env x = pure x := by intro _; rfl) :
    PS X (.Assign [.Name y py] (.ListComp elt [⟨tg, iter, ifs, 0⟩] scope pos) spos) (tS X.K fa cf (.asg (.v i) (.comp ce (own.map (·.2)) ct ci co))) :=
  wkS (ps_setLc hc hN hy hyl hsw hi ok hg ht he hs) fun D sg H ⟨io, s, h, f, h', rs, rh, e, q⟩ => by
    simp only [evS] at e
    obtain ⟨x, h1, e1, e⟩ := bind_ok e
    obtain ⟨s2, h2, e2, e⟩ := bind_ok e
    cases e
    simp only [asT] at e2
    cases e2
    exact comp_to (K := X.K) hsub hxa sg H _ ⟨io, s, h, x, _, rs, rh, e1, fun io1 H1 v ex1 rh1 rv => q io1 H1 ex1 rh1 _ ((rs.mono ex1).set rv i (by rw [FA.xok, hxa]))⟩
end
end PB

set_option Elab.async false
set_option linter.all false
set_option maxRecDepth 100000
set_option maxHeartbeats 2000000
namespace PB
open PySem PySem.Spec L2
section
variable {X : Cx} {fa : FA} {cf : Nat → List PV → PH → Res PV} {K : PySem.W.Frag} {io io1 io2 : List Addr} {H H1 H2 : Hp} {h : PH}
  {a b c e tg : Expr} {es : List Expr} {st : Stmt} {sts sts' : List Stmt} {pos : Pos} {ca cb cc ce : CE} {cs : CA} {ct : CT} {st1 : CS} {b1 b2 : CB}
theorem fin.ext {D : Ends} {f : Fl} {h' : PH} (q : fin K fa io H D f h') (ex : Ext io H io1 H1) : fin K fa io1 H1 D f h' := fun io' H' ex' rh' => q io' H' (ex.trans ex') rh'
/-! ### blocks -/
theorem k_nil : PSs X [] (tK X.K fa cf .nil) := wkK pss_nil fun D sg H ⟨io, s, h, f, h', rs, rh, e, q⟩ => by
  simp only [evB] at e; cases e
  exact q io H .refl rh sg rs
theorem k_cons (h1 : PS X st (tS X.K fa cf st1)) (h2 : PSs X sts (tK X.K fa cf b1)) : PSs X (st :: sts) (tK X.K fa cf (.cons st1 b1)) := wkK (pss_cons h1 h2) fun D sg H ⟨io, s, h, f, h', rs, rh, e, q⟩ => by
  simp only [evB] at e
  obtain ⟨f1, h1, e1, e⟩ := bind_ok e
  refine ⟨io, s, h, f1, h1, rs, rh, e1, fun io1 H1 ex1 rh1 => ?_⟩
  cases f1 with
  | nx s2 => exact fun sg' rs' => ⟨io1, s2, h1, f, h', rs', rh1, e, q.ext ex1⟩
  | rt v => cases e; exact q io1 H1 ex1 rh1
  | bk s2 => cases e; exact q io1 H1 ex1 rh1
  | ct s2 => cases e; exact q io1 H1 ex1 rh1
/-! ### statements -/
theorem s_pass : PS X (.Pass pos) (tS X.K fa cf .pass) := wkS ps_pass fun D sg H ⟨io, s, h, f, h', rs, rh, e, q⟩ => by
  simp only [evS] at e; cases e
  exact q io H .refl rh sg rs
theorem s_doc {x j pos'} : PS X (.Expr (.Constant (.str x) j pos) pos') (tS X.K fa cf .pass) := wkS ps_doc fun D sg H ⟨io, s, h, f, h', rs, rh, e, q⟩ => by
  simp only [evS] at e; cases e
  exact q io H .refl rh sg rs
theorem s_brk : PS X (.Break pos) (tS X.K fa cf .brk) := wkS ps_break fun D sg H ⟨io, s, h, f, h', rs, rh, e, q⟩ => by
  simp only [evS] at e; cases e
  exact q io H .refl rh sg rs
theorem s_cnt : PS X (.Continue pos) (tS X.K fa cf .cnt) := wkS ps_continue fun D sg H ⟨io, s, h, f, h', rs, rh, e, q⟩ => by
  simp only [evS] at e; cases e
  exact q io H .refl rh sg rs
theorem s_expr (he : PE X e (tE X.K fa cf ce)) (hs : swapsWith e none pos.line X.env = pure false := by rfl) : PS X (.Expr e pos) (tS X.K fa cf (.expr ce)) := wkS (ps_expr he hs) fun D sg H ⟨io, s, h, f, h', rs, rh, e, q⟩ => by
  simp only [evS] at e
  obtain ⟨x, h1, e1, e⟩ := bind_ok e
  cases e
  exact ⟨io, s, h, x, _, rs, rh, e1, fun io1 H1 v ex1 rh1 rv => q io1 H1 ex1 rh1 sg (rs.mono ex1)⟩
theorem s_ret (he : PE X e (tE X.K fa cf ce)) : PS X (.Return (some e) pos) (tS X.K fa cf (.ret ce)) := wkS (ps_ret he) fun D sg H ⟨io, s, h, f, h', rs, rh, e, q⟩ => by
  simp only [evS] at e
  obtain ⟨x, h1, e1, e⟩ := bind_ok e
  cases e
  exact ⟨io, s, h, x, _, rs, rh, e1, fun io1 H1 v ex1 rh1 rv => q io1 H1 ex1 rh1 v rv⟩
theorem s_retN : PS X (.Return none pos) (tS X.K fa cf .retN) := wkS ps_retN fun D sg H ⟨io, s, h, f, h', rs, rh, e, q⟩ => by
  simp only [evS] at e; cases e
  exact q io H .refl rh .non .non
/-- a raise that the run never comes to -/
theorem s_raise {c : Nat} {es : CA} : PS X st (tS X.K fa cf (.raise c es)) := wkS ps_never fun D sg H ⟨io, s, h, f, h', rs, rh, e, q⟩ => by
  simp only [evS] at e
  obtain ⟨x, h1, e1, e⟩ := bind_ok e
  split at e <;> cases e
theorem s_set {i : Nat} {x : Str} {pos' : Pos} (hN : X.N.Nodup) (hi : X.N[i]? = some x) (hx : Loc X.env.scope x) (he : PE X e (tE X.K fa cf ce)) (hs : swapsWith e (some (.Name x pos')) pos.line X.env = pure false := by rfl)
    (hf : X.fn x = true ∨ X.env.scope.names.lookup x = some .local := by first | exact .inl rfl | exact .inr rfl | assumption) (hi2 : fa.xok i = true := by rfl) :
    PS X (.Assign [.Name x pos'] e pos) (tS X.K fa cf (.asg (.v i) ce)) := wkS (ps_set hN hi hx he hs hf) fun D sg H ⟨io, s, h, f, h', rs, rh, e, q⟩ => by
  simp only [evS] at e
  obtain ⟨x, h1, e1, e⟩ := bind_ok e
  obtain ⟨s2, h2, e2, e⟩ := bind_ok e
  cases e
  simp only [asT] at e2
  cases e2
  exact ⟨io, s, h, x, _, rs, rh, e1, fun io1 H1 v ex1 rh1 rv => q io1 H1 ex1 rh1 _ ((rs.mono ex1).set rv i hi2)⟩
theorem s_asg (he : PE X e (tE X.K fa cf ce)) (hg : PG X tg (tG X.K fa cf ct)) (hs : swapsWithSole [tg] e pos.line X.env = pure false := by rfl) (hw : swappedStores [tg] e X.env = pure none := by rfl)
    (h1 : (assignEach [tg] X.env).map (·.2) = [assign tg X.env] := by rfl) : PS X (.Assign [tg] e pos) (tS X.K fa cf (.asg ct ce)) := wkS (ps_asg he hg hs hw h1) fun D sg H ⟨io, s, h, f, h', rs, rh, e, q⟩ => by
  simp only [evS] at e
  obtain ⟨x, h1, e1, e⟩ := bind_ok e
  obtain ⟨s2, h2, e2, e⟩ := bind_ok e
  cases e
  refine ⟨io, s, h, x, _, rs, rh, e1, fun io1 H1 v ex1 rh1 rv => ⟨io1, s, h1, x, s2, _, rs.mono ex1, rh1, rv, e2, fun io2 H2 sg2 ex2 rh2 rs2 _ => q io2 H2 (ex1.trans ex2) rh2 sg2 rs2⟩⟩
theorem s_par2 {i j : Nat} {x y : Str} {px py pt : Pos} {kt k2 pt2} (hc : X.calm = true) (hN : X.N.Nodup) (hi : X.N[i]? = some x) (hj : X.N[j]? = some y) (hij : i ≠ j)
    (hx : X.env.scope.names.lookup x = some .local) (hy : X.env.scope.names.lookup y = some .local) (ha : PA X [a, b] (tA X.K fa cf cs))
    (hw : swappedStores [.Tuple [.Name x px, .Name y py] kt pt] (.Tuple [a, b] k2 pt2) X.env = pure (some [x, y]) := by rfl)
    (hs : swapsWithSole [.Tuple [.Name x px, .Name y py] kt pt] (.Tuple [a, b] k2 pt2) pos.line X.env = pure false := by rfl) (hxi : fa.xok i = true := by rfl) (hxj : fa.xok j = true := by rfl) :
    PS X (.Assign [.Tuple [.Name x px, .Name y py] kt pt] (.Tuple [a, b] k2 pt2) pos) (tS X.K fa cf (.par [i, j] cs)) := wkS (ps_par hc hN hi hj hij hx hy ha hw hs) fun D sg H ⟨io, s, h, f, h', rs, rh, e, q⟩ => by
  simp only [evS] at e
  obtain ⟨xs, h1, e1, e⟩ := bind_ok e
  cases hs2 : setAll [i, j] xs s with
  | none => rw [hs2] at e; cases e
  | some s2 =>
    rw [hs2] at e
    cases e
    refine ⟨io, s, h, xs, _, rs, rh, e1, fun io1 H1 vs ex1 rh1 rvs => ?_⟩
    cases rvs with
    | nil => simp [setAll] at hs2
    | cons r1 rvs =>
    cases rvs with
    | nil => simp [setAll] at hs2
    | cons r2 rvs =>
    cases rvs with
    | cons _ _ => simp [setAll] at hs2
    | nil =>
    simp only [setAll, Option.some.injEq] at hs2
    subst hs2
    exact ⟨_, _, rfl, q io1 H1 ex1 rh1 _ (((rs.mono ex1).set r1 i hxi).set r2 j hxj)⟩
theorem s_par3 {i j l : Nat} {x y z : Str} {px py pz pt : Pos} {kt k2 pt2} (hc : X.calm = true) (hN : X.N.Nodup) (hi : X.N[i]? = some x) (hj : X.N[j]? = some y) (hl : X.N[l]? = some z) (hij : i ≠ j) (hil : i ≠ l) (hjl : j ≠ l)
    (hx : X.env.scope.names.lookup x = some .local) (hy : X.env.scope.names.lookup y = some .local) (hz : X.env.scope.names.lookup z = some .local) (ha : PA X [a, b, c] (tA X.K fa cf cs))
    (hw : swappedStores [.Tuple [.Name x px, .Name y py, .Name z pz] kt pt] (.Tuple [a, b, c] k2 pt2) X.env = pure (some [x, y, z]) := by rfl)
    (hs : swapsWithSole [.Tuple [.Name x px, .Name y py, .Name z pz] kt pt] (.Tuple [a, b, c] k2 pt2) pos.line X.env = pure false := by rfl) (hxi : fa.xok i = true := by rfl) (hxj : fa.xok j = true := by rfl) (hxl : fa.xok l = true := by rfl) :
    PS X (.Assign [.Tuple [.Name x px, .Name y py, .Name z pz] kt pt] (.Tuple [a, b, c] k2 pt2) pos) (tS X.K fa cf (.par [i, j, l] cs)) := wkS (ps_par3 hc hN hi hj hl hij hil hjl hx hy hz ha hw hs) fun D sg H ⟨io, s, h, f, h', rs, rh, e, q⟩ => by
  simp only [evS] at e
  obtain ⟨xs, h1, e1, e⟩ := bind_ok e
  cases hs2 : setAll [i, j, l] xs s with
  | none => rw [hs2] at e; cases e
  | some s2 =>
    rw [hs2] at e
    cases e
    refine ⟨io, s, h, xs, _, rs, rh, e1, fun io1 H1 vs ex1 rh1 rvs => ?_⟩
    cases rvs with
    | nil => simp [setAll] at hs2
    | cons r1 rvs =>
    cases rvs with
    | nil => simp [setAll] at hs2
    | cons r2 rvs =>
    cases rvs with
    | nil => simp [setAll] at hs2
    | cons r3 rvs =>
    cases rvs with
    | cons _ _ => simp [setAll] at hs2
    | nil =>
    simp only [setAll, Option.some.injEq] at hs2
    subst hs2
    exact ⟨_, _, _, rfl, q io1 H1 ex1 rh1 _ ((((rs.mono ex1).set r1 i hxi).set r2 j hxj).set r3 l hxl)⟩
theorem aug_of {i : Nat} {x : Str} {pos' : Pos} {op : Operator} {bo : BinO} {g : Int → Int → Int} (hp : PIp X op (ipI g)) (hb : ∀ i j h, binop bo (.int i) (.int j) h = .ok (.int (g i j)) h)
    (hN : X.N.Nodup) (hi : X.N[i]? = some x) (hx : Loc X.env.scope x) (he : PE X e (tE X.K fa cf ce)) (hf : X.fn x = true ∨ X.env.scope.names.lookup x = some .local) (hxi : fa.xok i = true) :
    PS X (.AugAssign (.Name x pos') op e pos) (tS X.K fa cf (.aug i bo ce)) := wkS (ps_aug hN hi hx he hp hf) fun D sg H ⟨io, s, h, f, h', rs, rh, e, q⟩ => by
  simp only [evS] at e
  cases hx : s[i]? with
  | none => rw [hx] at e; cases e
  | some ox =>
  cases ox with
  | none => rw [hx] at e; cases e
  | some x =>
    rw [hx] at e
    obtain ⟨y, h1, e1, e⟩ := bind_ok e
    split at e
    · rename_i hn
      obtain ⟨hn1, hn2⟩ := hn
      cases x <;> try (simp [isNum] at hn1; done)
      cases y <;> try (simp [isNum] at hn2; done)
      rename_i m n
      rw [hb] at e
      simp only [Res.bind] at e
      cases e
      obtain ⟨v, g1, g2⟩ := rs.at_ i _ hxi hx
      cases g2
      refine ⟨_, g1, io, s, h, _, _, rs, rh, e1, fun io1 H1 v ex1 rh1 rv => ?_⟩
      cases rv
      exact ⟨_, _, rfl, rfl, q io1 H1 ex1 rh1 _ ((rs.mono ex1).set (.int _) i hxi)⟩
    · cases e
theorem s_iadd {i : Nat} {x : Str} {pos' : Pos} (hN : X.N.Nodup) (hi : X.N[i]? = some x) (hx : Loc X.env.scope x) (he : PE X e (tE X.K fa cf ce)) (hf : X.fn x = true ∨ X.env.scope.names.lookup x = some .local := by first | exact .inl rfl | exact .inr rfl | assumption) (hxi : fa.xok i = true := by rfl) :
    PS X (.AugAssign (.Name x pos') .Add e pos) (tS X.K fa cf (.aug i .add ce)) := aug_of ip_add (fun i j h => rfl) hN hi hx he hf hxi
theorem s_isub {i : Nat} {x : Str} {pos' : Pos} (hN : X.N.Nodup) (hi : X.N[i]? = some x) (hx : Loc X.env.scope x) (he : PE X e (tE X.K fa cf ce)) (hf : X.fn x = true ∨ X.env.scope.names.lookup x = some .local := by first | exact .inl rfl | exact .inr rfl | assumption) (hxi : fa.xok i = true := by rfl) :
    PS X (.AugAssign (.Name x pos') .Sub e pos) (tS X.K fa cf (.aug i .sub ce)) := aug_of ip_sub (fun i j h => rfl) hN hi hx he hf hxi
theorem s_if (hc : PT X c (tT X.K fa cf cc)) (ha : PSs X sts (tK X.K fa cf b1)) (hb : PSs X sts' (tK X.K fa cf b2)) : PS X (.If c sts sts' pos) (tS X.K fa cf (.ifs cc b1 b2)) := wkS (ps_if hc ha hb) fun D sg H ⟨io, s, h, f, h', rs, rh, e, q⟩ => by
  simp only [evS] at e
  obtain ⟨x, h1, e1, e⟩ := bind_ok e
  cases x <;> try (cases e; done)
  rename_i bb
  refine ⟨io, s, h, bb, h1, rs, rh, e1, fun io1 H1 ex1 rh1 => ?_⟩
  cases bb with
  | true => exact ⟨io1, s, h1, f, h', rs.mono ex1, rh1, e, q.ext ex1⟩
  | false => exact ⟨io1, s, h1, f, h', rs.mono ex1, rh1, e, q.ext ex1⟩
theorem s_while (hp : PassesOwn (model X.prog X.w) X.A X.env X.xe) (hc : PT X c (tT X.K fa cf cc)) (hb : PSs X sts (tK X.K fa cf b1)) : PS X (.While c sts [] pos) (tS X.K fa cf (.whl cc b1)) := wkS (ps_while hp hc hb) fun D sg H ⟨io, s, h, f, h', rs, rh, e, q⟩ => by
  simp only [evS] at e
  generalize fuel = n at e
  refine ⟨fun m sg1 H1 => ∃ io1 s1 h1, Ext io H io1 H1 ∧ RS X.K fa io1 H1 sg1 s1 ∧ RH X.K fa io1 H1 h1 ∧ whL (evE cf cc) (evB cf b1) m s1 h1 = .ok f h', ⟨n, io, s, h, .refl, rs, rh, e⟩, ?_⟩
  rintro m sg1 H1 ⟨io1, s1, h1, ex1, rs1, rh1, e⟩
  cases m with
  | zero => simp only [whL] at e; cases e
  | succ m =>
    simp only [whL] at e
    obtain ⟨x, h2, e2, e⟩ := bind_ok e
    cases x <;> try (cases e; done)
    rename_i bb
    refine ⟨io1, s1, h1, bb, h2, rs1, rh1, e2, fun io2 H2 ex2 rh2 => ?_⟩
    cases bb with
    | false =>
      cases e
      exact q io2 H2 (ex1.trans ex2) rh2 sg1 (rs1.mono ex2)
    | true =>
      simp only [if_true]
      obtain ⟨f2, h3, e3, e⟩ := bind_ok e
      refine ⟨_, fun sg' H' w => ⟨m, Nat.lt_succ_self m, w⟩, io2, s1, h2, f2, h3, rs1.mono ex2, rh2, e3, fun io3 H3 ex3 rh3 => ?_⟩
      have exT := (ex1.trans ex2).trans ex3
      cases f2 with
      | nx s2 => exact fun sg' rs' => ⟨io3, s2, h3, exT, rs', rh3, e⟩
      | ct s2 => exact fun sg' rs' => ⟨io3, s2, h3, exT, rs', rh3, e⟩
      | bk s2 => cases e; exact q io3 H3 exT rh3
      | rt v => cases e; exact q io3 H3 exT rh3
theorem s_for {ci : CI} (hp : PassesOwn (model X.prog X.w) X.A X.env X.xe) (hc : X.calm = true) (hi : PI X tg e (tI X.K fa cf ci)) (hg : PG X tg (tG X.K fa cf ct)) (hb : PSs X sts (tK X.K fa cf b1))
    (hs : ∀ x, foldedSetIterable e X.env x = pure x := by intro _; rfl) : PS X (.For tg e sts [] pos) (tS X.K fa cf (.for_ ct ci b1)) := wkS (ps_for hp hc hi hg hb hs) fun D sg H ⟨io, s, h, f, h', rs, rh, e, q⟩ => by
  simp only [evS] at e
  obtain ⟨p, h1, e1, e⟩ := bind_ok e
  refine ⟨io, s, h, p, h1, rs, rh, e1, fun io1 H1 ex1 rh1 J gd => ?_⟩
  refine ⟨fun i m sg2 H2 => m = p.1.length - i ∧ i ≤ p.1.length ∧ ∃ io2 s2 h2, Ext io1 H1 io2 H2 ∧ RS X.K fa io2 H2 sg2 s2 ∧ RH X.K fa io2 H2 h2 ∧ frL (asT cf ct) (evB cf b1) p.2 (p.1.drop i) s2 h2 = .ok f h',
    ⟨p.1.length, by simp, Nat.zero_le _, io1, s, h1, .refl, rs.mono ex1, rh1, by simpa using e⟩, ?_⟩
  rintro i m sg2 H2 ⟨rfl, hi, io2, s2, h2, ex2, rs2, rh2, e⟩
  cases hd : p.1.drop i with
  | nil =>
    rw [hd] at e
    simp only [frL] at e
    by_cases hl : leans p.2 h2 = true
    case neg => rw [if_neg hl] at e; cases e
    rw [if_pos hl] at e
    have hgd := (gd io2 H2 h2 ex2 rh2 hl).2
    have hli : i = p.1.length := by
      have := congrArg List.length hd
      simp at this; omega
    subst hli
    cases e
    exact .inl ⟨hgd, q io2 H2 (ex1.trans ex2) rh2 sg2 rs2⟩
  | cons x rest =>
    have hx : p.1[i]? = some x := by
      have := congrArg (·[0]?) hd
      simpa using this
    have hrest : p.1.drop (i + 1) = rest := by
      have := congrArg (·.drop 1) hd
      simpa [List.drop_drop, Nat.add_comm] using this
    have hlt : i < p.1.length := (List.getElem?_eq_some_iff.mp hx).1
    rw [hd] at e
    simp only [frL] at e
    by_cases hl : leans p.2 h2 = true
    case neg => rw [if_neg hl] at e; cases e
    rw [if_pos hl] at e
    obtain ⟨s3, h3, e3, e⟩ := bind_ok e
    obtain ⟨f4, h4, e4, e⟩ := bind_ok e
    obtain ⟨hgo, hyl⟩ := (gd io2 H2 h2 ex2 rh2 hl).1 i x hx
    refine .inr ⟨hgo, _, fun sg' H' w => ⟨p.1.length - (i + 1), by omega, w⟩, fun v H3 hy => ?_⟩
    obtain ⟨ex3, rh3, rv3⟩ := hyl v H3 hy
    refine ⟨io2, s2, h2, x, s3, h3, rs2.mono ex3, rh3, rv3, e3, fun io4 H4 sg4 ex4 rh4 rs4 _ => ⟨io4, s3, h3, f4, h4, rs4, rh4, e4, fun io5 H5 ex5 rh5 => ?_⟩⟩
    have exT := ((ex2.trans ex3).trans ex4).trans ex5
    cases f4 with
    | nx s5 => exact fun sg' rs' => ⟨rfl, hlt, io5, s5, h4, exT, rs', rh5, by rw [hrest]; exact e⟩
    | ct s5 => exact fun sg' rs' => ⟨rfl, hlt, io5, s5, h4, exT, rs', rh5, by rw [hrest]; exact e⟩
    | bk s5 => cases e; exact q io5 H5 (ex1.trans exT) rh5
    | rt v => cases e; exact q io5 H5 (ex1.trans exT) rh5
end
end PB

set_option Elab.async false
set_option linter.all false
set_option maxRecDepth 100000
set_option maxHeartbeats 2000000
namespace PB
open PySem PySem.Spec PyProof.Rows L2 HT
section
variable {prog : Program} {w : World} {A : Around} {E : Value → Shared → Prop} {s : Shared}
theorem sliceApplied_rev {sl : Addr} {vs : Value} {n : Nat} {Q : Int × Int × Nat → Shared → Prop} (hs : s.heap.IsSliceOf sl .none .none vs) (ps : IsPart vs (some (-1)))
    (h : Q ((n : Int) - 1, -1, n) s) : wpAny (model prog w) A (Builtin.Slice.sliceApplied (.ref sl) (pure (n : Int))) Q E s := by
  obtain ⟨os, hos, hcs, hds⟩ := id hs
  unfold Builtin.Slice.sliceApplied Builtin.Slice.sliceFields
  refine wpAny_bind (wpAny_bind (wpAny_field hos hds (x := .none) rfl (wpAny_bind (wpAny_field hos hds (x := .none) rfl (wpAny_bind (wpAny_field hos hds (x := vs) rfl (wpAny_pure ?_)))))))
  refine wpAny_bind (slicePart_ ps ?_)
  show wpAny _ _ (if ((-1 : Int) == 0) = true then _ else _) _ _ s
  rw [if_neg (by decide)]
  refine wpAny_bind (slicePart_none (wpAny_bind (slicePart_none (wpAny_bind (wpAny_pure ?_)))))
  have e1 : Builtin.Slice.sliceAdjust none none (-1) (n : Int) = ((n : Int) - 1, -1) := rfl
  have e2 : Builtin.Slice.slicePlaces ((n : Int) - 1) (-1) (-1) = n := by
    unfold Builtin.Slice.slicePlaces
    have h1 : ¬ ((-1 : Int) > 0) := by omega
    have h2 : (- -1 : Int) = 1 := rfl
    simp only [h1, if_false, h2, Int.ediv_one]
    split <;> omega
  show wpAny _ _ (match Builtin.Slice.sliceAdjust none none (-1) (n : Int) with | (lo, hi) => pure (lo, (-1 : Int), Builtin.Slice.slicePlaces lo hi (-1))) _ _ s
  rw [e1]
  show wpAny _ _ (pure ((n : Int) - 1, (-1 : Int), Builtin.Slice.slicePlaces ((n : Int) - 1) (-1) (-1))) _ _ s
  rw [e2]
  exact wpAny_pure h
theorem pick_rev (xs : Array Value) : ((List.range xs.size).filterMap fun (k : Nat) => xs[(((xs.size : Int) - 1) + (k : Int) * (-1)).toNat]?).toArray = xs.toList.reverse.toArray := by
  have h := PySem.W.krv_all xs
  have e : (List.range xs.size).filterMap (fun (k : Nat) => xs[(((xs.size : Int) - 1) + (k : Int) * (-1)).toNat]?) = ((List.range xs.size).map (fun k => xs.size - 1 - k)).filterMap (xs[·]?) := by
    rw [List.filterMap_map]
    have key : ∀ l : List Nat, (∀ k ∈ l, k < xs.size) → l.filterMap (fun (k : Nat) => xs[(((xs.size : Int) - 1) + (k : Int) * (-1)).toNat]?) = l.filterMap ((fun x => xs[x]?) ∘ fun k => xs.size - 1 - k) := by
      intro l
      induction l with
      | nil => intro _; rfl
      | cons k l ih =>
        intro hl
        have hk := hl k (by simp)
        have e : (((xs.size : Int) - 1) + (k : Int) * (-1)).toNat = xs.size - 1 - k := by omega
        rw [List.filterMap_cons, List.filterMap_cons, ih fun j hj => hl j (by simp [hj]), e]; rfl
    exact key _ fun k hk => List.mem_range.mp hk
  rw [e, PySem.W.krv_range, List.filterMap_reverse, h]
theorem getItem_tuple_rev {t sl : Addr} {items : Array Value} {vs : Value} {Q : Value → Shared → Prop} (ht : IsTup s.heap t items) (hs : s.heap.IsSliceOf sl .none .none vs) (ps : IsPart vs (some (-1)))
    (h : Q (.ref s.heap.objs.size) { s with heap := s.heap.push { cls := .type "tuple", data := .seq items.toList.reverse.toArray } })
    (hsz : items.size ≤ sizeLine) : wpAny (model prog w) A (getItem (.ref t) (.ref sl)) Q E s := by
  have htake : sizeOk (.seq items.toList.reverse.toArray) := by
    show items.toList.reverse.toArray.size ≤ sizeLine
    simpa using hsz
  obtain ⟨os, hos, hcs, hds⟩ := id hs
  have hTs : s.TypeIs (.ref sl) "slice" := ⟨os, hos, hcs⟩
  unfold getItem
  try with_reducible refine wpAny_holding ?_
  first | refine wpAny_bind (wpAny_pure ?_) | skip
  refine wpAny_bind (wpAny_sequenceKey ht.typeIs (by decide) ?_)
  refine wpAny_bind (wpAny_callSpecial?_slot (name := Str.ofString "__getitem__") ht.typeIs PyProof.Rows.slot_tuple_getitem
    (wpAny_call_entry PyProof.Rows.slot_tuple_getitem ht.typeIs PyProof.Rows.entry_tuple_getitem ?_ (PyProof.Rows.args_tuple_getitem _ _)))
  show wpAny _ _ (Builtin.Tuple.tupleItemsOf (.ref t) >>= _) _ _ s
  refine wpAny_bind (tupleItemsOf_ ht ?_)
  refine wpAny_bind (wpAny_typeOf hTs ?_)
  rw [if_pos (by decide)]
  refine wpAny_bind (sliceApplied_rev hs ps ?_)
  have hno : ¬ ((((items.size : Int) - 1) == 0 && (-1 : Int) == 1 && items.size == items.size) = true) := by
    intro q
    rw [Bool.and_eq_true, Bool.and_eq_true] at q
    exact absurd q.1.2 (by decide)
  show wpAny _ _ (if (((items.size : Int) - 1) == 0 && (-1 : Int) == 1 && items.size == items.size) = true then _ else _) _ _ s
  rw [if_neg hno, pick_rev]
  first
    | exact wpAny_bind (m := Builtin.Tuple.tupleExact _) (wpAny_newObj_type (wpAny_pure ⟨_, rfl, wpAny_pure h⟩) htake)
    | exact wpAny_bind (m := Builtin.Tuple.tupleExact _) (wpAny_newObj_type (wpAny_bind (wpAny_pure (wpAny_pure ⟨_, rfl, wpAny_pure h⟩))) htake)
    | exact wpAny_bind (wpAny_bind (m := Builtin.Tuple.tupleExact _) (wpAny_newObj_type (wpAny_pure (wpAny_pure ⟨_, rfl, wpAny_pure h⟩)) htake))
    | exact wpAny_bind (wpAny_bind (m := Builtin.Tuple.tupleExact _) (wpAny_newObj_type (wpAny_pure ⟨_, rfl, wpAny_pure h⟩) htake))
end
section
variable {X : Cx} {fa : FA} {cf : Nat → List PV → PH → Res PV}
def tRevA (K : PySem.W.Frag) (te : TE) : TE := fun σ H Q => te σ H fun x H1 => ∃ a xs, x = .ref a ∧ ((SqL K H1 a xs ∧ ∀ p, H1 p = none → Q (.ref p) (upd H1 p (.lst xs.reverse))) ∨ (SqT K H1 a xs ∧ NewT Q H1 xs.reverse))
theorem pe_revA {e : Expr} {te : TE} {k : Nat} {p1 p2 p3 pos : Pos} (he : PE X e te) : PE X (.Subscript e (.Slice none none (some (.UnaryOp .USub (.Constant (.int 1) k p1) p2)) p3) pos) (tRevA X.K te) := by
  refine ⟨fun pins s σ H Q I h => ?_⟩
  refine Subscript_ (thn (he.run pins s σ H _ I h) fun v s1 ⟨x, H1, I1, r1, q1⟩ => ?_)
  obtain ⟨a, xs, ex, q1⟩ := q1
  subst ex
  cases r1
  have hst : L2.PO X (some (.UnaryOp .USub (.Constant (.int 1) k p1) p2)) (tPart (tUn (rU fun i => .int (-i)) (tC (.int 1)))) := po_some (pe_un un_neg pe_int)
  refine wpAny_Slice (thn (po_none.run pins s1 σ H1 (fun o H2 => o = none ∧ H2 = H1) I1 ⟨rfl, rfl⟩) fun vl s2 ⟨l, H2, I2, pl, el, e2⟩ => ?_)
  subst el e2
  refine thn (po_none.run pins s2 σ H2 (fun o H3 => o = none ∧ H3 = H2) I2 ⟨rfl, rfl⟩) fun vu s3 ⟨u, H3, I3, pu, eu, e3⟩ => ?_
  subst eu e3
  refine thn (hst.run pins s3 σ H3 (fun o H4 => o = some (-1) ∧ H4 = H3) I3 ⟨1, rfl, -1, rfl, rfl, rfl⟩) fun vs s4 ⟨o, H4, I4, ps, eo, e4⟩ => ?_
  subst eo e4
  have I5 : Inv X pins σ H4 { s4 with heap := s4.heap.push { cls := .type "slice", data := .fields #[vl, vu, vs] } } := I4.kept (t' := s4.toks) fun b ob q => Heap.get?_push_of_some _ q
  show wpAny (model X.prog X.w) X.A (subscriptTail e (.Slice none none (some (.UnaryOp .USub (.Constant (.int 1) k p1) p2)) p3) (.ref a) (.ref s4.heap.objs.size)) (EP X pins σ Q) X.xe { s4 with heap := s4.heap.push { cls := .type "slice", data := .fields #[vl, vu, vs] } }
  rcases q1 with ⟨hx, q⟩ | ⟨hx, q⟩
  · obtain ⟨its, r, ht, hz⟩ := I5.list hx
    have hlen := r.length
    refine tail_any (ops := [.ref a, .ref s4.heap.objs.size]) ht.isList.typeIs (PySem.slot_list_getitem.lookup) ?_ (by with_unfolding_all rfl)
    refine wpAny_getItem_list_slice ht.isList (Heap.IsSliceOf.new _ vl vu vs) pl pu ps (by decide) ?_ (by rw [List.size_toArray]; omega)
    rw [PySem.W.krv_pick]
    refine ⟨.ref _, _, I5.laid (t' := s4.toks) (o := .lst xs.reverse) (fun b ob q => Heap.get?_push_of_some _ q) (Nat.le_refl _) ?_, rfl, q _ (I5.hok.fresh (Nat.le_refl _))⟩
    exact ⟨by rw [List.length_reverse]; exact hz, _, 0, r.reverse, Heap.get?_push_size _ rfl⟩
  · obtain ⟨its, r, ht, hz⟩ := I5.tuple hx
    have hlen := r.length
    cases pl
    cases pu
    refine tail_any (ops := [.ref a, .ref s4.heap.objs.size]) ht.typeIs (PyProof.Rows.slot_tuple_getitem.lookup) ?_ (by with_unfolding_all rfl)
    refine getItem_tuple_rev ht (Heap.IsSliceOf.new _ .none .none vs) ps ?_ (by rw [List.size_toArray]; omega)
    exact laid_tup I5 (by rw [List.length_reverse]; exact hz) r.reverse q
theorem e_rev {e : Expr} {ce : CE} {k : Nat} {p1 p2 p3 pos : Pos} (he : PE X e (tE X.K fa cf ce)) : PE X (.Subscript e (.Slice none none (some (.UnaryOp .USub (.Constant (.int 1) k p1) p2)) p3) pos) (tE X.K fa cf (.rev ce)) :=
  wkE (pe_revA he) fun sg H Q ⟨io, s, h, r, h', rs, rh, e, q⟩ => by
    simp only [evE] at e
    obtain ⟨x, h1, e1, e⟩ := bind_ok e
    refine ⟨io, s, h, x, h1, rs, rh, e1, fun io1 H1 v ex1 rh1 rv => ?_⟩
    unfold revop at e
    split at e
    · rename_i xs
      cases e
      cases rv with
      | @tup a vs _ sq rr => exact ⟨a, vs, rfl, .inr ⟨sq.t, tup_ok rh1 rr.reverse fun io' H' v ex2 rh2 rv2 => q io' H' v (ex1.trans ex2) rh2 rv2⟩⟩
    · rename_i n
      split at e
      · rename_i xs hx
        obtain ⟨a, vs, rfl, _, ha, rr⟩ := rh1.list rv hx
        exact ⟨a, vs, rfl, .inl ⟨.inl (.inl ha), alloc_ok rh1 rr.reverse e fun io' H' v ex2 rh2 rv2 => q io' H' v (ex1.trans ex2) rh2 rv2⟩⟩
      · cases e
    · cases e
end
end PB

set_option Elab.async false
set_option linter.all false
set_option maxRecDepth 100000
set_option maxHeartbeats 2000000
namespace PB
open PySem PySem.Spec PyProof.Rows L2 HT
theorem seconds_range {α : Type} : ∀ (xs : List α), (List.range ((xs.length + 1) / 2)).filterMap (fun k => xs[2 * k]?) = seconds xs
  | [] => by simp [seconds]
  | [x] => by simp [seconds, List.range_succ]
  | x :: y :: r => by
    have e : ((x :: y :: r).length + 1) / 2 = (r.length + 1) / 2 + 1 := by simp only [List.length_cons]; omega
    rw [e, List.range_succ_eq_map, List.filterMap_cons, List.filterMap_map]
    have ih := seconds_range r
    show x :: _ = x :: seconds r
    rw [← ih]
    refine congrArg (x :: ·) ?_
    have key : ∀ l : List Nat, l.filterMap ((fun k => (x :: y :: r)[2 * k]?) ∘ Nat.succ) = l.filterMap (fun k => r[2 * k]?) := by
      intro l
      induction l with
      | nil => rfl
      | cons k l ih =>
        have e2 : 2 * Nat.succ k = 2 * k + 1 + 1 := by omega
        rw [List.filterMap_cons, List.filterMap_cons, ih]
        simp only [Function.comp, e2, List.getElem?_cons_succ]
    exact key _
theorem seconds_length {α : Type} : ∀ (xs : List α), (seconds xs).length = (xs.length + 1) / 2
  | [] => by simp [seconds]
  | [x] => by simp [seconds]
  | x :: y :: r => by simp only [seconds, List.length_cons, seconds_length r]; omega
theorem seconds_mem {α : Type} : ∀ (xs : List α), ∀ x ∈ seconds xs, x ∈ xs
  | [], x, h => by simp [seconds] at h
  | [y], x, h => by simpa [seconds] using h
  | a :: b :: r, x, h => by
    simp only [seconds, List.mem_cons] at h
    rcases h with h | h
    · simp [h]
    · simp [seconds_mem r x h]
theorem pick_two (xs : Array Value) (k : Nat) : ((List.range ((xs.size - k + 1) / 2)).filterMap fun (j : Nat) => xs[((k : Int) + (j : Int) * 2).toNat]?).toArray = (seconds (xs.toList.drop k)).toArray := by
  have h := seconds_range (xs.toList.drop k)
  rw [List.length_drop, Array.length_toList] at h
  rw [← h]
  congr 1
  have key : ∀ l : List Nat, l.filterMap (fun (j : Nat) => xs[((k : Int) + (j : Int) * 2).toNat]?) = l.filterMap (fun j => (xs.toList.drop k)[2 * j]?) := by
    intro l
    induction l with
    | nil => rfl
    | cons j l ih =>
      have e : ((k : Int) + (j : Int) * 2).toNat = k + 2 * j := by omega
      rw [List.filterMap_cons, List.filterMap_cons, ih, e, List.getElem?_drop, Array.getElem?_toList]
  exact key _
theorem Vals.drop' {xs : List V} {vs : List Value} (h : Vals xs vs) : ∀ k, Vals (xs.drop k) (vs.drop k) := by
  induction h with
  | nil => intro k; cases k <;> exact .nil
  | cons a r ih =>
    intro k
    cases k with
    | zero => exact .cons a r
    | succ k => exact ih k
theorem Vals.seconds' : ∀ {xs : List V} {vs : List Value}, Vals xs vs → Vals (seconds xs) (seconds vs)
  | _, _, .nil => .nil
  | _, _, .cons a .nil => .cons a .nil
  | _, _, .cons a (.cons b r) => .cons a (Vals.seconds' r)
section
variable {prog : Program} {w : World} {A : Around} {E : Value → Shared → Prop} {s : Shared}
theorem sliceApplied_two {sl : Addr} {vl vs : Value} {lo : Option Int} {n : Nat} {Q : Int × Int × Nat → Shared → Prop} (hs : s.heap.IsSliceOf sl vl .none vs) (pl : IsPart vl lo) (ps : IsPart vs (some 2)) (h0 : 0 ≤ lo.getD 0)
    (h : Q (((min (lo.getD 0).toNat n : Nat) : Int), 2, (n - min (lo.getD 0).toNat n + 1) / 2) s) : wpAny (model prog w) A (Builtin.Slice.sliceApplied (.ref sl) (pure (n : Int))) Q E s := by
  obtain ⟨os, hos, hcs, hds⟩ := id hs
  unfold Builtin.Slice.sliceApplied Builtin.Slice.sliceFields
  refine wpAny_bind (wpAny_bind (wpAny_field hos hds (x := vl) rfl (wpAny_bind (wpAny_field hos hds (x := .none) rfl (wpAny_bind (wpAny_field hos hds (x := vs) rfl (wpAny_pure ?_)))))))
  refine wpAny_bind (slicePart_ ps ?_)
  show wpAny _ _ (if ((2 : Int) == 0) = true then _ else _) _ _ s
  rw [if_neg (by decide)]
  refine wpAny_bind (slicePart_ pl (wpAny_bind (slicePart_none (wpAny_bind (wpAny_pure ?_)))))
  have e1 : Builtin.Slice.sliceAdjust lo none 2 (n : Int) = (((min (lo.getD 0).toNat n : Nat) : Int), (n : Int)) := by
    unfold Builtin.Slice.sliceAdjust
    cases lo with
    | none =>
      show ((0 : Int), (n : Int)) = _
      have : (Option.getD (none : Option Int) 0).toNat = 0 := rfl
      rw [this, Nat.zero_min]; rfl
    | some v =>
      have h0' : 0 ≤ v := h0
      have hn : ¬ v < 0 := by omega
      have h2 : ¬ ((2 : Int) < 0) := by omega
      simp only [h2, hn, if_false, Option.getD_some, Prod.mk.injEq, and_true]
      omega
  have e2 : Builtin.Slice.slicePlaces ((min (lo.getD 0).toNat n : Nat) : Int) (n : Int) 2 = (n - min (lo.getD 0).toNat n + 1) / 2 := by
    unfold Builtin.Slice.slicePlaces
    have h1 : (2 : Int) > 0 := by omega
    simp only [h1, if_true]
    split <;> omega
  show wpAny _ _ (match Builtin.Slice.sliceAdjust lo none 2 (n : Int) with | (lo, hi) => pure (lo, (2 : Int), Builtin.Slice.slicePlaces lo hi 2)) _ _ s
  rw [e1]
  show wpAny _ _ (pure (((min (lo.getD 0).toNat n : Nat) : Int), (2 : Int), Builtin.Slice.slicePlaces ((min (lo.getD 0).toNat n : Nat) : Int) (n : Int) 2)) _ _ s
  rw [e2]
  exact wpAny_pure h
theorem getItem_tuple_two {t sl : Addr} {items : Array Value} {vl vs : Value} {lo : Option Int} {Q : Value → Shared → Prop} (ht : IsTup s.heap t items) (hs : s.heap.IsSliceOf sl vl .none vs) (pl : IsPart vl lo) (ps : IsPart vs (some 2)) (h0 : 0 ≤ lo.getD 0)
    (h : Q (.ref s.heap.objs.size) { s with heap := s.heap.push { cls := .type "tuple", data := .seq (seconds (items.toList.drop (lo.getD 0).toNat)).toArray } })
    (hsz : items.size ≤ sizeLine) : wpAny (model prog w) A (getItem (.ref t) (.ref sl)) Q E s := by
  have htake : sizeOk (.seq (seconds (items.toList.drop (lo.getD 0).toNat)).toArray) := by
    show (seconds (items.toList.drop (lo.getD 0).toNat)).toArray.size ≤ sizeLine
    rw [List.size_toArray, seconds_length, List.length_drop, Array.length_toList]
    omega
  obtain ⟨os, hos, hcs, hds⟩ := id hs
  have hTs : s.TypeIs (.ref sl) "slice" := ⟨os, hos, hcs⟩
  unfold getItem
  try with_reducible refine wpAny_holding ?_
  first | refine wpAny_bind (wpAny_pure ?_) | skip
  refine wpAny_bind (wpAny_sequenceKey ht.typeIs (by decide) ?_)
  refine wpAny_bind (wpAny_callSpecial?_slot (name := Str.ofString "__getitem__") ht.typeIs PyProof.Rows.slot_tuple_getitem
    (wpAny_call_entry PyProof.Rows.slot_tuple_getitem ht.typeIs PyProof.Rows.entry_tuple_getitem ?_ (PyProof.Rows.args_tuple_getitem _ _)))
  show wpAny _ _ (Builtin.Tuple.tupleItemsOf (.ref t) >>= _) _ _ s
  refine wpAny_bind (tupleItemsOf_ ht ?_)
  refine wpAny_bind (wpAny_typeOf hTs ?_)
  rw [if_pos (by decide)]
  refine wpAny_bind (sliceApplied_two hs pl ps h0 ?_)
  have hno : ¬ ((((min (lo.getD 0).toNat items.size : Nat) : Int) == 0 && (2 : Int) == 1 && (items.size - min (lo.getD 0).toNat items.size + 1) / 2 == items.size) = true) := by
    intro q
    rw [Bool.and_eq_true, Bool.and_eq_true] at q
    exact absurd q.1.2 (by decide)
  show wpAny _ _ (if (((min (lo.getD 0).toNat items.size : Nat) : Int) == 0 && (2 : Int) == 1 && (items.size - min (lo.getD 0).toNat items.size + 1) / 2 == items.size) = true then _ else _) _ _ s
  rw [if_neg hno, pick_two]
  have hd : items.toList.drop (min (lo.getD 0).toNat items.size) = items.toList.drop (lo.getD 0).toNat := by
    rcases Nat.le_total (lo.getD 0).toNat items.size with z | z
    · rw [Nat.min_eq_left z]
    · rw [Nat.min_eq_right z, List.drop_eq_nil_of_le (by rw [Array.length_toList]; omega), List.drop_eq_nil_of_le (by rw [Array.length_toList]; omega)]
  rw [hd]
  first
    | exact wpAny_bind (m := Builtin.Tuple.tupleExact _) (wpAny_newObj_type (wpAny_pure ⟨_, rfl, wpAny_pure h⟩) htake)
    | exact wpAny_bind (m := Builtin.Tuple.tupleExact _) (wpAny_newObj_type (wpAny_bind (wpAny_pure (wpAny_pure ⟨_, rfl, wpAny_pure h⟩))) htake)
    | exact wpAny_bind (wpAny_bind (m := Builtin.Tuple.tupleExact _) (wpAny_newObj_type (wpAny_pure (wpAny_pure ⟨_, rfl, wpAny_pure h⟩)) htake))
    | exact wpAny_bind (wpAny_bind (m := Builtin.Tuple.tupleExact _) (wpAny_newObj_type (wpAny_pure ⟨_, rfl, wpAny_pure h⟩) htake))
end
section
variable {X : Cx} {fa : FA} {cf : Nat → List PV → PH → Res PV}
def tTwoA (K : PySem.W.Frag) (te : TE) (tl : L2.TO) : TE := fun σ H Q => te σ H fun x H1 => tl σ H1 fun l H2 => 0 ≤ l.getD 0 ∧ ∃ a xs, x = .ref a ∧ SqT K H2 a xs ∧ NewT Q H2 (seconds (xs.drop (l.getD 0).toNat))
theorem pe_twoA {e : Expr} {lo : Option Expr} {te : TE} {tl : L2.TO} {k : Nat} {p1 p3 pos : Pos} (he : PE X e te) (hl : L2.PO X lo tl) : PE X (.Subscript e (.Slice lo none (some (.Constant (.int 2) k p1)) p3) pos) (tTwoA X.K te tl) := by
  refine ⟨fun pins s σ H Q I h => ?_⟩
  refine Subscript_ (thn (he.run pins s σ H _ I h) fun v s1 ⟨x, H1, I1, r1, q1⟩ => ?_)
  have hst : L2.PO X (some (.Constant (.int 2) k p1)) (tPart (tC (.int 2))) := po_some pe_int
  refine wpAny_Slice (thn (hl.run pins s1 σ H1 _ I1 q1) fun vl s2 ⟨l, H2, I2, pl, q2⟩ => ?_)
  obtain ⟨h0, a, xs, ex, hx, q⟩ := q2
  subst ex
  cases r1
  refine thn (po_none.run pins s2 σ H2 (fun o H3 => o = none ∧ H3 = H2) I2 ⟨rfl, rfl⟩) fun vu s3 ⟨u, H3, I3, pu, eu, e3⟩ => ?_
  subst eu e3
  refine thn (hst.run pins s3 σ H3 (fun o H4 => o = some 2 ∧ H4 = H3) I3 ⟨2, rfl, rfl, rfl⟩) fun vs s4 ⟨o, H4, I4, ps, eo, e4⟩ => ?_
  subst eo e4
  have I5 : Inv X pins σ H4 { s4 with heap := s4.heap.push { cls := .type "slice", data := .fields #[vl, vu, vs] } } := I4.kept (t' := s4.toks) fun b ob q => Heap.get?_push_of_some _ q
  show wpAny (model X.prog X.w) X.A (subscriptTail e (.Slice lo none (some (.Constant (.int 2) k p1)) p3) (.ref a) (.ref s4.heap.objs.size)) (EP X pins σ Q) X.xe { s4 with heap := s4.heap.push { cls := .type "slice", data := .fields #[vl, vu, vs] } }
  obtain ⟨its, r, ht, hz⟩ := I5.tuple hx
  have hlen := r.length
  cases pu
  refine tail_any (ops := [.ref a, .ref s4.heap.objs.size]) ht.typeIs (PyProof.Rows.slot_tuple_getitem.lookup) ?_ (by with_unfolding_all rfl)
  refine getItem_tuple_two ht (Heap.IsSliceOf.new _ vl .none vs) pl ps h0 ?_ (by rw [List.size_toArray]; omega)
  refine laid_tup I5 ?_ (Vals.seconds' (Vals.drop' r _)) q
  rw [seconds_length, List.length_drop]; omega
theorem Rls.seconds {K : PySem.W.Frag} {io : List Addr} {H : Hp} : ∀ {vs : List V} {xs : List PV}, Rls K fa io H vs xs → Rls K fa io H (PB.seconds vs) (PB.seconds xs)
  | _, _, .nil => .nil
  | _, _, .cons a .nil => .cons a .nil
  | _, _, .cons a (.cons b r) => .cons a (Rls.seconds r)
theorem e_two {e : Expr} {lo : Option Expr} {ce : CE} {cl : CO} {k : Nat} {p1 p3 pos : Pos} (he : PE X e (tE X.K fa cf ce)) (hl : L2.PO X lo (tO X.K fa cf cl)) : PE X (.Subscript e (.Slice lo none (some (.Constant (.int 2) k p1)) p3) pos) (tE X.K fa cf (.two ce cl)) :=
  wkE (pe_twoA he hl) fun sg H Q ⟨io, s, h, r, h', rs, rh, e, q⟩ => by
    simp only [evE] at e
    obtain ⟨x, h1, e1, e⟩ := bind_ok e
    obtain ⟨l, h2, e2, e⟩ := bind_ok e
    obtain ⟨l', h4, e4, ef⟩ := bind_ok e
    have z4 := optI_ok e4
    subst z4
    clear e
    refine ⟨io, s, h, x, h1, rs, rh, e1, fun io1 H1 v ex1 rh1 rv => ⟨io1, s, h1, l, l', _, rs.mono ex1, rh1, e2, e4, fun io2 H2 ex2 rh2 => ?_⟩⟩
    unfold twoop at ef
    split at ef
    · rename_i xs
      by_cases h0 : 0 ≤ l'.getD 0
      · rw [if_pos h0] at ef
        cases ef
        cases rv with
        | @tup a vs _ sq rr =>
        exact ⟨h0, a, vs, rfl, ex2.sqT sq.t, tup_ok rh2 (((rr.mono ex2).drop _).seconds) fun io' H' v ex3 rh3 rv3 => q io' H' v ((ex1.trans ex2).trans ex3) rh3 rv3⟩
      · rw [if_neg h0] at ef; cases ef
    · cases ef
end
end PB

set_option Elab.async false
set_option linter.all false
set_option maxRecDepth 100000
set_option maxHeartbeats 2000000
namespace PB
open PySem PySem.Spec L2
section
variable {X : Cx} {fa : FA} {cf : Nat → List PV → PH → Res PV} {e o a b : Expr} {es : List Expr} {ce co : CE} {cs : CA} {pos p apos cpos : Pos} {T id : String} {name : Str}
/-! ### isinstance -/
theorem kindOf_ty {io : List Addr} {H : Hp} {h : PH} {v : V} {x : PV} {k : Nat} (rh : RH X.K fa io H h) (rv : Rl X.K fa io H v x) (e : kindOf h x = some k) :
    ∃ T, (T, k) ∈ [("NoneType", 0), ("bool", 1), ("int", 2), ("str", 3), ("tuple", 4), ("list", 5), ("dict", 6)] ∧ TyX X.K H v (.type T) := by
  cases rv with
  | non => simp only [kindOf] at e; cases e; exact ⟨"NoneType", by simp, .base .non⟩
  | bl b => simp only [kindOf] at e; cases e; exact ⟨"bool", by simp, .base (.bl b)⟩
  | int i => simp only [kindOf] at e; cases e; exact ⟨"int", by simp, .base (.int i)⟩
  | str x => simp only [kindOf] at e; cases e; exact ⟨"str", by simp, .base (.str x)⟩
  | tup sq r =>
    simp only [kindOf] at e; cases e
    refine ⟨"tuple", by simp, ?_⟩
    rcases sq with ⟨o, h, _⟩ | ⟨o, its, n, h1, h2, _⟩
    · exact .fTuple h
    · exact .kTuple h1 h2
  | wtup _ _ => simp only [kindOf] at e; cases e
  | scr _ _ => simp only [kindOf] at e; cases e
  | fn _ => simp only [kindOf] at e; cases e
  | dct hd => simp only [kindOf] at e; cases e; exact ⟨"dict", by simp, .base (.dK hd)⟩
  | @ref a n hn =>
    simp only [kindOf] at e
    split at e <;> cases e
    rename_i hx
    obtain ⟨b, vs, e1, e2, _⟩ := rh.cell _ _ hx
    rw [hn] at e1; cases e1
    exact ⟨"list", by simp, .base (.lst e2)⟩
/-- the class that is asked for, and the answer by kind -/
def isiB (f : Blt) : List String := match f with
  | .isInt => ["int"] | .isBool => ["bool"] | .isTup => ["tuple"] | .isStr => ["str"] | .isList => ["list"] | _ => []
def isiAns (f : Blt) (k : Nat) : Bool := match f with
  | .isInt => k == 2 || k == 1 | .isBool => k == 1 | .isTup => k == 4 | .isStr => k == 3 | .isList => k == 5 | _ => false
theorem kitB_int : ∀ q ∈ [("NoneType", 0), ("bool", 1), ("int", 2), ("str", 3), ("tuple", 4), ("list", 5), ("dict", 6)], kitB q.1 "int" = some (isiAns .isInt q.2) := by decide +kernel
theorem kitB_bool : ∀ q ∈ [("NoneType", 0), ("bool", 1), ("int", 2), ("str", 3), ("tuple", 4), ("list", 5), ("dict", 6)], kitB q.1 "bool" = some (isiAns .isBool q.2) := by decide +kernel
theorem kitB_tup : ∀ q ∈ [("NoneType", 0), ("bool", 1), ("int", 2), ("str", 3), ("tuple", 4), ("list", 5), ("dict", 6)], kitB q.1 "tuple" = some (isiAns .isTup q.2) := by decide +kernel
theorem kitB_str : ∀ q ∈ [("NoneType", 0), ("bool", 1), ("int", 2), ("str", 3), ("tuple", 4), ("list", 5), ("dict", 6)], kitB q.1 "str" = some (isiAns .isStr q.2) := by decide +kernel
theorem kitB_list : ∀ q ∈ [("NoneType", 0), ("bool", 1), ("int", 2), ("str", 3), ("tuple", 4), ("list", 5), ("dict", 6)], kitB q.1 "list" = some (isiAns .isList q.2) := by decide +kernel
theorem isi_of {f : Blt} {c : Str} {C : String} {p2 : Pos} (hB : ∀ q ∈ [("NoneType", 0), ("bool", 1), ("int", 2), ("str", 3), ("tuple", 4), ("list", 5), ("dict", 6)], kitB q.1 C = some (isiAns f q.2))
    (hf : ∀ x h, blt f [x] h = match kindOf h x with | some k => .ok (.bl (isiAns f k)) h | none => .bad)
    (hg : Gl X "isinstance") (hm : X.mg "isinstance" = none) (hg2 : Gl X c) (hm2 : X.mg c = none) (hv : bootBuiltins c = some (.type C)) (hn : c ≠ "__name__") (hd : (c == ("__debug__" : Str)) = false)
    (h : PE X e (tE X.K fa cf ce)) (hs1 : starEach [e, .Name c p2] X.env = (false, eval e X.env) :: starEach [.Name c p2] X.env) (hs2 : starEach [.Name c p2] X.env = (false, eval (.Name c p2) X.env) :: starEach [] X.env) (hpl : (backTo pos (starEach [.Name c p2] X.env)).any (·.1) = false) :
    PE X (.Call (.Name "isinstance" p) [e, .Name c p2] [] pos) (tE X.K fa cf (.blt f (.cons ce .nil))) :=
  wkE (pe_callB call_isi hg hm PyProof.Rows.boot_isinstance (pa_cons h (pa_cons (pe_bltn (v := .ty C) hg2 hm2 hv rfl hn hd) pa_nil hs2) hs1) (he := hs1) (hpl := hpl)) fun sg H Q ⟨io, s, h, r, h', rs, rh, e, q⟩ => by
    simp only [evE] at e
    obtain ⟨xs, h1, e1, e⟩ := bind_ok e
    simp only [evA] at e1
    obtain ⟨x, h2, e2, e1⟩ := bind_ok e1
    cases e1
    refine ⟨io, s, h, x, h1, rs, rh, e2, fun io1 H1 v ex1 rh1 rv => ?_⟩
    rw [hf] at e
    cases hk : kindOf h1 x with
    | none => rw [hk] at e; cases e
    | some k =>
      rw [hk] at e
      cases e
      obtain ⟨T, hT, ty⟩ := kindOf_ty rh1 rv hk
      exact ⟨v, .ty C, .type T, .type C, isiAns f k, rfl, .ty C, ty, kit_ty (hB _ hT), q io1 H1 _ ex1 rh1 (.bl _)⟩
theorem e_isInt {p2 : Pos} (hg : Gl X "isinstance") (hm : X.mg "isinstance" = none) (hg2 : Gl X "int") (hm2 : X.mg "int" = none) (h : PE X e (tE X.K fa cf ce)) (hs1 : starEach [e, .Name "int" p2] X.env = (false, eval e X.env) :: starEach [.Name "int" p2] X.env := by rfl) (hs2 : starEach [.Name "int" p2] X.env = (false, eval (.Name "int" p2) X.env) :: starEach [] X.env := by rfl) (hpl : (backTo pos (starEach [.Name "int" p2] X.env)).any (·.1) = false := by rfl) :
    PE X (.Call (.Name "isinstance" p) [e, .Name "int" p2] [] pos) (tE X.K fa cf (.blt .isInt (.cons ce .nil))) := isi_of kitB_int (fun _ _ => rfl) hg hm hg2 hm2 (by decide +kernel) (by decide) (by decide) h hs1 hs2 hpl
theorem e_isBool {p2 : Pos} (hg : Gl X "isinstance") (hm : X.mg "isinstance" = none) (hg2 : Gl X "bool") (hm2 : X.mg "bool" = none) (h : PE X e (tE X.K fa cf ce)) (hs1 : starEach [e, .Name "bool" p2] X.env = (false, eval e X.env) :: starEach [.Name "bool" p2] X.env := by rfl) (hs2 : starEach [.Name "bool" p2] X.env = (false, eval (.Name "bool" p2) X.env) :: starEach [] X.env := by rfl) (hpl : (backTo pos (starEach [.Name "bool" p2] X.env)).any (·.1) = false := by rfl) :
    PE X (.Call (.Name "isinstance" p) [e, .Name "bool" p2] [] pos) (tE X.K fa cf (.blt .isBool (.cons ce .nil))) := isi_of kitB_bool (fun _ _ => rfl) hg hm hg2 hm2 (by decide +kernel) (by decide) (by decide) h hs1 hs2 hpl
theorem e_isTup {p2 : Pos} (hg : Gl X "isinstance") (hm : X.mg "isinstance" = none) (hg2 : Gl X "tuple") (hm2 : X.mg "tuple" = none) (h : PE X e (tE X.K fa cf ce)) (hs1 : starEach [e, .Name "tuple" p2] X.env = (false, eval e X.env) :: starEach [.Name "tuple" p2] X.env := by rfl) (hs2 : starEach [.Name "tuple" p2] X.env = (false, eval (.Name "tuple" p2) X.env) :: starEach [] X.env := by rfl) (hpl : (backTo pos (starEach [.Name "tuple" p2] X.env)).any (·.1) = false := by rfl) :
    PE X (.Call (.Name "isinstance" p) [e, .Name "tuple" p2] [] pos) (tE X.K fa cf (.blt .isTup (.cons ce .nil))) := isi_of kitB_tup (fun _ _ => rfl) hg hm hg2 hm2 (by decide +kernel) (by decide) (by decide) h hs1 hs2 hpl
theorem e_isStr {p2 : Pos} (hg : Gl X "isinstance") (hm : X.mg "isinstance" = none) (hg2 : Gl X "str") (hm2 : X.mg "str" = none) (h : PE X e (tE X.K fa cf ce)) (hs1 : starEach [e, .Name "str" p2] X.env = (false, eval e X.env) :: starEach [.Name "str" p2] X.env := by rfl) (hs2 : starEach [.Name "str" p2] X.env = (false, eval (.Name "str" p2) X.env) :: starEach [] X.env := by rfl) (hpl : (backTo pos (starEach [.Name "str" p2] X.env)).any (·.1) = false := by rfl) :
    PE X (.Call (.Name "isinstance" p) [e, .Name "str" p2] [] pos) (tE X.K fa cf (.blt .isStr (.cons ce .nil))) := isi_of kitB_str (fun _ _ => rfl) hg hm hg2 hm2 (by decide +kernel) (by decide) (by decide) h hs1 hs2 hpl
theorem e_isList {p2 : Pos} (hg : Gl X "isinstance") (hm : X.mg "isinstance" = none) (hg2 : Gl X "list") (hm2 : X.mg "list" = none) (h : PE X e (tE X.K fa cf ce)) (hs1 : starEach [e, .Name "list" p2] X.env = (false, eval e X.env) :: starEach [.Name "list" p2] X.env := by rfl) (hs2 : starEach [.Name "list" p2] X.env = (false, eval (.Name "list" p2) X.env) :: starEach [] X.env := by rfl) (hpl : (backTo pos (starEach [.Name "list" p2] X.env)).any (·.1) = false := by rfl) :
    PE X (.Call (.Name "isinstance" p) [e, .Name "list" p2] [] pos) (tE X.K fa cf (.blt .isList (.cons ce .nil))) := isi_of kitB_list (fun _ _ => rfl) hg hm hg2 hm2 (by decide +kernel) (by decide) (by decide) h hs1 hs2 hpl
theorem kitTL {K : PySem.W.Frag} : ∀ q ∈ [("NoneType", 0), ("bool", 1), ("int", 2), ("str", 3), ("tuple", 4), ("list", 5), ("dict", 6)], PySem.W.kitAny K (.type q.1) [.type "tuple", .type "list"] = some (q.2 == 4 || q.2 == 5) := by
  intro q hq
  have h1 := kitB_tup q hq
  have h2 := kitB_list q hq
  refine kitAny_cons (kit_ty h1) (fun z => kitAny_cons (b := isiAns .isList q.2) (kit_ty h2) (fun z2 => ?_) (fun z2 => ?_)) fun z => ?_
  · simp only [isiAns] at z z2
    rw [z, z2]; exact kitAny_nil
  · simp only [isiAns] at z2; rw [z2, Bool.or_true]
  · simp only [isiAns] at z; rw [z, Bool.true_or]
theorem e_isTL {k : Nat} {p2 p3 tpos : Pos} (hg : Gl X "isinstance") (hm : X.mg "isinstance" = none) (hg2 : Gl X "tuple") (hm2 : X.mg "tuple" = none) (hg3 : Gl X "list") (hm3 : X.mg "list" = none) (h : PE X e (tE X.K fa cf ce))
    (hs1 : starEach [e, .Tuple [.Name "tuple" p2, .Name "list" p3] k tpos] X.env = (false, eval e X.env) :: starEach [.Tuple [.Name "tuple" p2, .Name "list" p3] k tpos] X.env := by rfl)
    (hs2 : starEach [.Tuple [.Name "tuple" p2, .Name "list" p3] k tpos] X.env = (false, eval (.Tuple [.Name "tuple" p2, .Name "list" p3] k tpos) X.env) :: starEach [] X.env := by rfl)
    (hs3 : starEach [.Name "tuple" p2, .Name "list" p3] X.env = (false, eval (.Name "tuple" p2) X.env) :: starEach [.Name "list" p3] X.env := by rfl) (hs4 : starEach [.Name "list" p3] X.env = (false, eval (.Name "list" p3) X.env) :: starEach [] X.env := by rfl)
    (hpl : (backTo pos (starEach [.Tuple [.Name "tuple" p2, .Name "list" p3] k tpos] X.env)).any (·.1) = false := by rfl) :
    PE X (.Call (.Name "isinstance" p) [e, .Tuple [.Name "tuple" p2, .Name "list" p3] k tpos] [] pos) (tE X.K fa cf (.blt .isTL (.cons ce .nil))) :=
  wkE (pe_callB call_isiT hg hm PyProof.Rows.boot_isinstance (pa_cons h (pa_cons (pe_tup (pa_cons (pe_bltn (v := .ty "tuple") hg2 hm2 (by decide +kernel) rfl) (pa_cons (pe_bltn (v := .ty "list") hg3 hm3 (by decide +kernel) rfl) pa_nil hs4) hs3)) pa_nil hs2) hs1) (he := hs1) (hpl := hpl)) fun sg H Q ⟨io, s, h, r, h', rs, rh, e, q⟩ => by
    simp only [evE] at e
    obtain ⟨xs, h1, e1, e⟩ := bind_ok e
    simp only [evA] at e1
    obtain ⟨x, h2, e2, e1⟩ := bind_ok e1
    cases e1
    refine ⟨io, s, h, x, h1, rs, rh, e2, fun io1 H1 v ex1 rh1 rv => ?_⟩
    simp only [blt] at e
    cases hk : kindOf h1 x with
    | none => rw [hk] at e; cases e
    | some k =>
      rw [hk] at e
      cases e
      refine ⟨by decide, fun tp hp => ?_⟩
      have ex2 := ext_new (io := io1) (o := .tup [.ty "tuple", .ty "list"]) hp
      obtain ⟨T, hT, ty⟩ := kindOf_ty (rh1.new hp) (rv.mono ex2) hk
      exact ⟨v, tp, [.ty "tuple", .ty "list"], .type T, [.type "tuple", .type "list"], _, rfl, upd_same, .cons (.ty _) (.cons (.ty _) .nil), ty, kitTL _ hT, q io1 _ _ (ex1.trans ex2) (rh1.new hp) (.bl _)⟩

/-! ### methods of lists -/
def rCountD (K : PySem.W.Frag) : V → List V → Hp → VK → Prop := fun x xs H Q => ∃ (a : Addr) (y : V) (d : PyData) (ds : List PyData), x = V.ref a ∧ xs = [y] ∧ Dp K H (V.ref a) (.list ds) ∧ Dp K H y d ∧
  SeqAt.shaped (.list ds) = true ∧ SeqAt.shaped d = true ∧ Q (.int ((ds.countP fun z => PyData.eqv z d : Nat) : Int)) H
theorem mt_countD (hu : X.A.units + 65 < cLine) : MtR X "list.count" (rCountD X.K) := by
  intro pins s σ H x xs v us Q I rx rxs h
  obtain ⟨a, y, d, ds, rfl, rfl, hl, hy, sl, sd, q⟩ := h
  cases rx
  cases rxs with
  | cons ry rt =>
    rename_i uy ut
    cases rt
    obtain ⟨bs, r1⟩ := Dp.reads I d y uy hy ry
    have hxs : PyData.canLayAll0 ds = true := SeqAt.canLay_of_shaped sl
    have hroom : X.A.units + 1 + min (PyData.depthAll ds) d.depth < cLine := PyProof.Rows.room_in_shaped sd hu
    cases hl with
    | lst hs ha =>
      obtain ⟨its, rv, ⟨⟨cls, dd, data, sls⟩, n, ho, hc, hdn, hdt⟩, hlen⟩ := I.list hs
      simp only at hc hdt
      subst hc hdt
      obtain ⟨as, h4⟩ := Dp.readsAll I ds _ its ha rv
      have hmap : its.map (SeqAt.readOf s.heap) = ds := SeqAt.readsAll_map ds its as hxs h4
      refine call_meets PySem.F.slot_list_count ⟨_, ho, rfl⟩ PySem.F.entry_list_count (PySem.F.args_list_count_2 _ _)
        (SeqAt.list_countAt a its.toArray n dd sls uy (fun u => PyData.eqv (SeqAt.readOf s.heap u) d)) ⟨ho, SeqAt.items_eqAt (vs := its.toArray) (show ReadsAll s.heap its.toArray.toList ds as from h4) r1 hxs (SeqAt.canLay_of_shaped sd) hroom, ?_⟩
      have e1 : its.toArray.toList.countP (fun u => PyData.eqv (SeqAt.readOf s.heap u) d) = ds.countP fun z => PyData.eqv z d := by
        rw [← hmap, List.countP_map]
        rfl
      rw [e1]
      exact ⟨.int _, H, I.tok _, ⟨_, rfl⟩, q⟩
/-- a method's rule by values and its pure one -/
def MthOk (X : Cx) (fa : FA) (m : Mth) (R : V → List V → Hp → VK → Prop) : Prop :=
  ∀ (io : List Addr) (H : Hp) (h : PH) (v : V) (vs : List V) (x : PV) (xs : List PV) (r : PV) (h' : PH) (Q : VK), RH X.K fa io H h → Rl X.K fa io H v x → Rls X.K fa io H vs xs → mth m x xs h = .ok r h' →
    (∀ io' H' v, Ext io H io' H' → RH X.K fa io' H' h' → Rl X.K fa io' H' v r → Q v H') → R v vs H Q
theorem mth_lst {m : Mth} {x : PV} {xs : List PV} {h : PH} {r : PV} {h' : PH} (hm : m ≠ .count) (hm2 : m ≠ .index) (e : mth m x xs h = .ok r h') : (∃ n, x = .ref n) ∨ ∃ ys, x = .scr ys := by
  unfold mth at e
  split at e <;> (first | (cases e; done) | exact .inl ⟨_, rfl⟩ | (exact absurd rfl hm) | (exact absurd rfl hm2))
theorem mk_append : MthOk X fa .append rAppend := by
  intro io H h v vs x xs r h' Q rh rv rvs e q
  unfold mth at e
  split at e <;> try (cases e; done)
  all_goals rename_i hm; (try (cases hm; done))
  split at e
  · rename_i xs hx
    split at e <;> cases e
    rename_i hl
    obtain ⟨y, rfl, ry⟩ := rvs.one
    obtain ⟨a, ws, rfl, ha, hH, rr⟩ := rh.list rv hx
    exact ⟨a, ws, y, rfl, rfl, hH, many_lt (by rw [rr.length]; exact hl), q io _ .non (ext_write (List.mem_of_getElem? ha) ⟨_, hH⟩) (rh.write ha (rr.append (.cons ry .nil))) .non⟩
  · cases e
theorem mk_extend : MthOk X fa .extend rExtend := by
  intro io H h v vs x xs r h' Q rh rv rvs e q
  unfold mth at e
  split at e <;> try (cases e; done)
  all_goals rename_i hm; (try (cases hm; done))
  split at e
  · rename_i xs ys hx hy
    split at e <;> cases e
    rename_i hl
    obtain ⟨y, rfl, ry⟩ := rvs.one
    obtain ⟨a, ws, rfl, ha, hH, rr⟩ := rh.list rv hx
    obtain ⟨b, zs, rfl, hb, hB, rz⟩ := rh.list ry hy
    exact ⟨a, b, ws, zs, rfl, rfl, hH, hB, by rw [rr.length, rz.length]; exact many_le (Nat.le_of_lt hl), q io _ .non (ext_write (List.mem_of_getElem? ha) ⟨_, hH⟩) (rh.write ha (rr.append rz)) .non⟩
  · cases e
theorem mk_pop : MthOk X fa .pop rPop := by
  intro io H h v vs x xs r h' Q rh rv rvs e q
  unfold mth at e
  split at e <;> try (cases e; done)
  all_goals rename_i hm; (try (cases hm; done))
  split at e
  · rename_i xs hx
    split at e <;> cases e
    rename_i y hl
    cases rvs
    obtain ⟨a, ws, rfl, ha, hH, rr⟩ := rh.list rv hx
    have hl2 : xs[xs.length - 1]? = some r := by rw [← List.getLast?_eq_getElem?]; exact hl
    obtain ⟨w, hw, rw'⟩ := rr.get hl2
    refine ⟨a, ws, w, rfl, rfl, hH, by rw [rr.length]; exact hw, q io _ w (ext_write (List.mem_of_getElem? ha) ⟨_, hH⟩) (rh.write ha rr.dropLast) (rw'.mono (ext_write (List.mem_of_getElem? ha) ⟨_, hH⟩))⟩
  · cases e
theorem mk_popAt : MthOk X fa .pop0 rPopAt := by
  intro io H h v vs x xs r h' Q rh rv rvs e q
  unfold mth at e
  split at e <;> try (cases e; done)
  all_goals rename_i hm; (try (cases hm; done))
  split at e
  · rename_i y ys hx
    split at e <;> cases e
    rename_i hl
    subst hl
    obtain ⟨z, rfl, rz⟩ := rvs.one
    cases rz
    obtain ⟨a, ws, rfl, ha, hH, rr⟩ := rh.list rv hx
    cases rr with
    | @cons w _ ws _ rw' rr =>
    refine ⟨a, w :: ws, 0, 0, w, rfl, rfl, hH, by decide, by decide, ?_, rfl, q io _ w (ext_write (List.mem_of_getElem? ha) ⟨_, hH⟩) (rh.write ha rr) (rw'.mono (ext_write (List.mem_of_getElem? ha) ⟨_, hH⟩))⟩
    unfold seqIndex?
    simp
  · cases e
/-! count and index, of lists and tuples -/
def rCountT (K : PySem.W.Frag) : V → List V → Hp → VK → Prop := fun x xs H Q => ∃ (a : Addr) (y : V) (d : PyData) (ds : List PyData), x = V.ref a ∧ xs = [y] ∧ Dp K H (V.ref a) (.tuple ds) ∧ Dp K H y d ∧
  SeqAt.shaped (.tuple ds) = true ∧ SeqAt.shaped d = true ∧ Q (.int ((ds.countP fun z => PyData.eqv z d : Nat) : Int)) H
def rIndexT (K : PySem.W.Frag) : V → List V → Hp → VK → Prop := fun x xs H Q => ∃ (a : Addr) (y : V) (d : PyData) (ds : List PyData) (j : Nat) (z : PyData), x = V.ref a ∧ xs = [y] ∧ Dp K H (V.ref a) (.tuple ds) ∧ Dp K H y d ∧
  SeqAt.shaped (.tuple ds) = true ∧ SeqAt.shaped d = true ∧ ds[j]? = some z ∧ PyData.eqv z d = true ∧ (∀ (m : Nat) (z' : PyData), m < j → ds[m]? = some z' → PyData.eqv z' d = false) ∧ Q (.int (j : Nat)) H
theorem canLay_tup {ds : List PyData} (h : SeqAt.shaped (.tuple ds) = true) : PyData.canLayAll0 ds = true := by
  have := SeqAt.canLay_of_shaped h
  simpa only [PyData.canLay0] using this
theorem mt_countT (hu : X.A.units + 65 < cLine) : MtR X "tuple.count" (rCountT X.K) := by
  intro pins s σ H x xs v us Q I rx rxs h
  obtain ⟨a, y, d, ds, rfl, rfl, hl, hy, sl, sd, q⟩ := h
  cases rx
  cases rxs with
  | cons ry rt =>
    rename_i uy ut
    cases rt
    obtain ⟨bs, r1⟩ := Dp.reads I d y uy hy ry
    have hxs : PyData.canLayAll0 ds = true := canLay_tup sl
    have hroom : X.A.units + 1 + min (PyData.depthAll ds) d.depth < cLine := PyProof.Rows.room_in_shaped sd hu
    cases hl with
    | tup hs ha =>
      obtain ⟨its, rv, ⟨⟨cls, dd, data, sls⟩, ho, hc, n, hdt⟩, hlen⟩ := I.tuple hs
      simp only at hc hdt
      subst hc hdt
      obtain ⟨as, h4⟩ := Dp.readsAll I ds _ its ha rv
      have hmap : its.map (SeqAt.readOf s.heap) = ds := SeqAt.readsAll_map ds its as hxs h4
      refine call_meets PySem.F.slot_tuple_count ⟨_, ho, rfl⟩ PySem.F.entry_tuple_count (PySem.F.args_tuple_count_2 _ _)
        (SeqAt.tuple_countAt a its.toArray n dd sls uy (fun u => PyData.eqv (SeqAt.readOf s.heap u) d)) ⟨ho, SeqAt.items_eqAt (vs := its.toArray) (show ReadsAll s.heap its.toArray.toList ds as from h4) r1 hxs (SeqAt.canLay_of_shaped sd) hroom, ?_⟩
      have e1 : its.toArray.toList.countP (fun u => PyData.eqv (SeqAt.readOf s.heap u) d) = ds.countP fun z => PyData.eqv z d := by
        rw [← hmap, List.countP_map]
        rfl
      rw [e1]
      exact ⟨.int _, H, I.tok _, ⟨_, rfl⟩, q⟩
theorem mt_indexT (hu : X.A.units + 65 < cLine) : MtR X "tuple.index" (rIndexT X.K) := by
  intro pins s σ H x xs v us Q I rx rxs h
  obtain ⟨a, y, d, ds, j, z, rfl, rfl, hl, hy, sl, sd, hz, hzj, hno, q⟩ := h
  cases rx
  cases rxs with
  | cons ry rt =>
    rename_i uy ut
    cases rt
    obtain ⟨bs, r1⟩ := Dp.reads I d y uy hy ry
    have hxs : PyData.canLayAll0 ds = true := canLay_tup sl
    have hroom : X.A.units + 1 + min (PyData.depthAll ds) d.depth < cLine := PyProof.Rows.room_in_shaped sd hu
    cases hl with
    | tup hs ha =>
      obtain ⟨its, rv, ⟨⟨cls, dd, data, sls⟩, ho, hc, n, hdt⟩, hlen⟩ := I.tuple hs
      simp only at hc hdt
      subst hc hdt
      obtain ⟨as, h4⟩ := Dp.readsAll I ds _ its ha rv
      have hn : its.length = ds.length := SeqAt.ReadsAll.length ds its as h4
      have hmap : its.map (SeqAt.readOf s.heap) = ds := SeqAt.readsAll_map ds its as hxs h4
      obtain ⟨hjd, _⟩ := List.getElem?_eq_some_iff.mp hz
      have hjl : j < its.length := by omega
      have hj : j < its.toArray.size := by simpa using hjl
      have at_ : ∀ (m : Nat) (hm : m < its.toArray.size) (z' : PyData), ds[m]? = some z' → SeqAt.readOf s.heap its.toArray[m] = z' := by
        intro m hm z' hz'
        have hml : m < its.length := by simpa using hm
        rw [← hmap, List.getElem?_map, List.getElem?_eq_getElem hml] at hz'
        have e1 : SeqAt.readOf s.heap its[m] = z' := Option.some.inj (show some (SeqAt.readOf s.heap its[m]) = some z' from hz')
        simpa using e1
      refine call_meets PySem.F.slot_tuple_index ⟨_, ho, rfl⟩ PySem.F.entry_tuple_index (PySem.F.args_tuple_index_2 _ _)
        (_root_.TI.tuple_indexAt a its.toArray n dd sls uy (fun u => PyData.eqv (SeqAt.readOf s.heap u) d) j hj ?_ ?_) ⟨ho, SeqAt.items_eqAt (vs := its.toArray) (show ReadsAll s.heap its.toArray.toList ds as from h4) r1 hxs (SeqAt.canLay_of_shaped sd) hroom, ?_⟩
      · show PyData.eqv (SeqAt.readOf s.heap its.toArray[j]) d = true
        rw [at_ j hj z hz]
        exact hzj
      · intro m hm hmj
        have hmd : m < ds.length := by omega
        have hz' : ds[m]? = some ds[m] := List.getElem?_eq_getElem hmd
        show PyData.eqv (SeqAt.readOf s.heap its.toArray[m]) d = false
        rw [at_ m hm _ hz']
        exact hno m _ hmj hz'
      · exact ⟨.int (j : Nat), H, I.tok _, ⟨_, rfl⟩, q⟩
theorem seqD_tup {h : PH} {xs : List PV} {ds : List PyData} (e : seqD h (.tup xs) = some ds) : toD h 12 (.tup xs) = some (.tuple ds) := by
  unfold seqD at e
  split at e <;> cases e
  · rename_i z; simp [toD] at z
  · assumption
theorem seqD_lst {h : PH} {x : PV} {ds : List PyData} (hx : (∃ n, x = .ref n) ∨ ∃ ys, x = .scr ys) (e : seqD h x = some ds) : toD h 12 x = some (.list ds) := by
  unfold seqD at e
  split at e <;> cases e
  · assumption
  · rename_i z
    rcases hx with ⟨n, rfl⟩ | ⟨ys, rfl⟩
    · simp only [toD] at z
      split at z
      · cases q : toDs (toD h 11) _ with
        | none => rw [q] at z; cases z
        | some _ => rw [q] at z; cases z
      · cases z
    · simp [toD] at z
theorem seqD_kind {h : PH} {x : PV} {ds : List PyData} (e : seqD h x = some ds) : ((∃ n, x = .ref n) ∨ ∃ ys, x = .scr ys) ∨ ∃ ys, x = .tup ys := by
  cases x with
  | ref n => exact .inl (.inl ⟨n, rfl⟩)
  | scr ys => exact .inl (.inr ⟨ys, rfl⟩)
  | tup ys => exact .inr ⟨ys, rfl⟩
  | str z => by_cases c : PyData.canLay0 (.str z) = true <;> simp [seqD, toD, c] at e
  | _ => simp [seqD, toD] at e
/-- a method of lists and of tuples: its rules by values and its pure one -/
structure MthOk2 (X : Cx) (fa : FA) (m : Mth) (RL RT : V → List V → Hp → VK → Prop) : Prop where
  kind : ∀ x xs h r h', mth m x xs h = .ok r h' → ((∃ n, x = .ref n) ∨ ∃ ys, x = .scr ys) ∨ ∃ ys, x = .tup ys
  lst : ∀ (io : List Addr) (H : Hp) (h : PH) (v : V) (vs : List V) (x : PV) (xs : List PV) (r : PV) (h' : PH) (Q : VK), ((∃ n, x = .ref n) ∨ ∃ ys, x = .scr ys) → RH X.K fa io H h → Rl X.K fa io H v x → Rls X.K fa io H vs xs → mth m x xs h = .ok r h' →
    (∀ io' H' v, Ext io H io' H' → RH X.K fa io' H' h' → Rl X.K fa io' H' v r → Q v H') → RL v vs H Q
  tup : ∀ (io : List Addr) (H : Hp) (h : PH) (v : V) (vs : List V) (ys xs : List PV) (r : PV) (h' : PH) (Q : VK), RH X.K fa io H h → Rl X.K fa io H v (.tup ys) → Rls X.K fa io H vs xs → mth m (.tup ys) xs h = .ok r h' →
    (∀ io' H' v, Ext io H io' H' → RH X.K fa io' H' h' → Rl X.K fa io' H' v r → Q v H') → RT v vs H Q
theorem mk_count : MthOk2 X fa .count (rCountD X.K) (rCountT X.K) := by
  refine ⟨fun x xs h r h' e => ?_, fun io H h v vs x xs r h' Q hx rh rv rvs e q => ?_, fun io H h v vs x xs r h' Q rh rv rvs e q => ?_⟩
  all_goals
    unfold mth at e
    split at e <;> try (cases e; done)
    all_goals rename_i hm; (try (cases hm; done))
    split at e <;> cases e
    rename_i ds d e1 e2
  · exact seqD_kind e1
  · obtain ⟨y, rfl, ry⟩ := rvs.one
    obtain ⟨h1, h2, h3⟩ := rh.data 12 _ _ _ ry e2
    obtain ⟨g1, g2, g3⟩ := rh.data 12 _ _ _ rv (seqD_lst hx e1)
    cases g1 with
    | lst sq ha => exact ⟨_, y, d, ds, rfl, rfl, .lst sq ha, h1, shaped_of g2 g3, shaped_of h2 h3, q io H _ .refl rh (.int _)⟩
  · obtain ⟨y, rfl, ry⟩ := rvs.one
    obtain ⟨h1, h2, h3⟩ := rh.data 12 _ _ _ ry e2
    obtain ⟨g1, g2, g3⟩ := rh.data 12 _ _ _ rv (seqD_tup e1)
    cases g1 with
    | tup sq ha => exact ⟨_, y, d, ds, rfl, rfl, .tup sq ha, h1, shaped_of g2 g3, shaped_of h2 h3, q io H _ .refl rh (.int _)⟩
theorem mk_index : MthOk2 X fa .index (rIndexD X.K) (rIndexT X.K) := by
  refine ⟨fun x xs h r h' e => ?_, fun io H h v vs x xs r h' Q hx rh rv rvs e q => ?_, fun io H h v vs x xs r h' Q rh rv rvs e q => ?_⟩
  all_goals
    unfold mth at e
    split at e <;> try (cases e; done)
    all_goals rename_i hm; (try (cases hm; done))
    split at e
    case h_2 => cases e
    rename_i ds d e1 e2
    split at e <;> cases e
    rename_i j hj
  · exact seqD_kind e1
  · obtain ⟨y, rfl, ry⟩ := rvs.one
    obtain ⟨h1, h2, h3⟩ := rh.data 12 _ _ _ ry e2
    obtain ⟨g1, g2, g3⟩ := rh.data 12 _ _ _ rv (seqD_lst hx e1)
    obtain ⟨hlt, hz, hno⟩ := List.findIdx?_eq_some_iff_getElem.mp hj
    cases g1 with
    | lst sq ha => exact ⟨_, y, d, ds, j, ds[j], rfl, rfl, .lst sq ha, h1, shaped_of g2 g3, shaped_of h2 h3, List.getElem?_eq_getElem hlt, hz, fun m z hm hz => by
        have hml : m < ds.length := by omega
        rw [List.getElem?_eq_getElem hml] at hz
        cases hz
        simpa using hno m hm, q io H _ .refl rh (.int _)⟩
  · obtain ⟨y, rfl, ry⟩ := rvs.one
    obtain ⟨h1, h2, h3⟩ := rh.data 12 _ _ _ ry e2
    obtain ⟨g1, g2, g3⟩ := rh.data 12 _ _ _ rv (seqD_tup e1)
    obtain ⟨hlt, hz, hno⟩ := List.findIdx?_eq_some_iff_getElem.mp hj
    cases g1 with
    | tup sq ha => exact ⟨_, y, d, ds, j, ds[j], rfl, rfl, .tup sq ha, h1, shaped_of g2 g3, shaped_of h2 h3, List.getElem?_eq_getElem hlt, hz, fun m z hm hz => by
        have hml : m < ds.length := by omega
        rw [List.getElem?_eq_getElem hml] at hz
        cases hz
        simpa using hno m hm, q io H _ .refl rh (.int _)⟩
def tBM2 (K : PySem.W.Frag) (RL RT : V → List V → Hp → VK → Prop) (to : TE) (t : TA) : TE := fun σ H Q => to σ H fun x H1 => (tyV K "list" x H1 ∧ t σ H1 fun xs H2 => RL x xs H2 Q) ∨ ((∃ a vs, x = .ref a ∧ SqN K H1 a vs) ∧ t σ H1 fun xs H2 => RT x xs H2 Q)
theorem pe_bm2 {idL idT : String} {to : TE} {t : TA} {RL RT : V → List V → Hp → VK → Prop} (slotL : Slot "list" name idL) (slotT : Slot "tuple" name idT) (htyL : typeOf (.builtin idL) = pure (.type "method_descriptor")) (htyT : typeOf (.builtin idT) = pure (.type "method_descriptor"))
    (hmL : MtR X idL RL) (hmT : MtR X idT RT) (ho : PE X o to) (ha : PA X (e :: es) t)
    (hbase : attributeBase o name X.env (eval o X.env) = eval o X.env := by rfl)
    (hfew : ((backTo cpos (starEach (e :: es) X.env)).all (fun x => !x.1) && (backToKw cpos (keywordEach [] X.env)).all (fun x => x.1.isSome)
      && decide ((e :: es).length + ([] : List Keyword).length + (if ([] : List Keyword).isEmpty then 0 else 1) < 30)) = true := by rfl)
    (hline : (apos.endLine == cpos.line) = true := by rfl) (hs : starEach (e :: es) X.env = (false, eval e X.env) :: starEach es X.env := by rfl) (hplain : (backTo cpos (starEach es X.env)).any (·.1) = false := by rfl) :
    PE X (.Call (.Attribute o name apos) (e :: es) [] cpos) (tBM2 X.K RL RT to t) := by
  refine ⟨fun pins s σ H Q I h => ?_⟩
  refine wpAny_Call_method_late hbase hfew hline rfl (thn (ho.run pins s σ H _ I h) fun v s1 ⟨x, H1, I1, r1, q1⟩ => ?_)
  rcases q1 with ⟨ty, q1⟩ | ⟨⟨a, vs, rfl, ty⟩, q1⟩
  · obtain ⟨h1, h2⟩ := tyV_is I1 r1 ty
    refine ⟨"list", idL, PySem.F.plainAttrs_list, slotL, htyL, h1, h2, ?_⟩
    have hA := ha.run cpos pins s1 σ H1 _ I1 q1
    rw [hs] at hA ⊢
    refine Calls.callWith_builtin (by show (false || (backTo cpos (starEach es X.env)).any (·.1)) = false; rw [hplain] <;> rfl) (Calls.evalArgs_plain ?_)
    exact thn hA fun us s2 ⟨vs, H2, I2, r2, q2⟩ => hmL pins s2 σ H2 x vs v us Q I2 r1 r2 q2
  · cases r1
    obtain ⟨h1, ob, h2, h3⟩ := SqN.ty I1 ty
    refine ⟨"tuple", idT, PySem.F.plainAttrs_tuple, slotT, htyT, h1, fun b hb => by cases hb; exact ⟨ob, h2, h3⟩, ?_⟩
    have hA := ha.run cpos pins s1 σ H1 _ I1 q1
    rw [hs] at hA ⊢
    refine Calls.callWith_builtin (by show (false || (backTo cpos (starEach es X.env)).any (·.1)) = false; rw [hplain] <;> rfl) (Calls.evalArgs_plain ?_)
    exact thn hA fun us s2 ⟨vs, H2, I2, r2, q2⟩ => hmT pins s2 σ H2 (.ref a) vs (.ref a) us Q I2 (by first | rfl | exact .ref _) r2 q2
theorem mth_to2 {m : Mth} {RL RT : V → List V → Hp → VK → Prop} (hk : MthOk2 X fa m RL RT)
    (h : PE X e (tBM2 X.K RL RT (tE X.K fa cf co) (tA X.K fa cf cs))) : PE X e (tE X.K fa cf (.mth m co cs)) :=
  wkE h fun sg H Q ⟨io, s, h, r, h', rs, rh, e, q⟩ => by
    simp only [evE] at e
    obtain ⟨x, h1, e1, e⟩ := bind_ok e
    obtain ⟨xs, h2, e2, e⟩ := bind_ok e
    refine ⟨io, s, h, x, h1, rs, rh, e1, fun io1 H1 v ex1 rh1 rv => ?_⟩
    rcases hk.kind _ _ _ _ _ e with hx | ⟨ys, rfl⟩
    · have ty : tyV X.K "list" v H1 := by
        rcases hx with ⟨n, rfl⟩ | ⟨ys, rfl⟩
        · cases rv with
          | ref hn =>
            obtain ⟨xs', vs', _, hH, _⟩ := rh1.addr hn
            exact .inl ⟨rfl, vs', .inl (.inl hH)⟩
        · cases rv with
          | scr sq rr => exact .inl ⟨rfl, _, sq.l⟩
      exact .inl ⟨ty, io1, s, h1, xs, h2, rs.mono ex1, rh1, e2, fun io2 H2 vs ex2 rh2 rvs => hk.lst io2 H2 h2 v vs x xs r h' Q hx rh2 (rv.mono ex2) rvs e fun io' H' v ex3 rh3 rv3 => q io' H' v ((ex1.trans ex2).trans ex3) rh3 rv3⟩
    · have ty : ∃ a vs, v = .ref a ∧ SqN X.K H1 a vs := by
        cases rv with
        | tup sq rr => exact ⟨_, _, rfl, sq⟩
      exact .inr ⟨ty, io1, s, h1, xs, h2, rs.mono ex1, rh1, e2, fun io2 H2 vs ex2 rh2 rvs => hk.tup io2 H2 h2 v vs ys xs r h' Q rh2 (rv.mono ex2) rvs e fun io' H' v ex3 rh3 rv3 => q io' H' v ((ex1.trans ex2).trans ex3) rh3 rv3⟩
/-- the receiver of a list's method -/
theorem mth_to0 {m : Mth} {R : V → List V → Hp → VK → Prop} (hk : MthOk X fa m R) (hl : ∀ x h r h', mth m x [] h = .ok r h' → ∃ n xs, x = .ref n ∧ h[n]? = some (.lst xs))
    (h : PE X e (tBM0 X.K "list" R (tE X.K fa cf co))) : PE X e (tE X.K fa cf (.mth m co .nil)) :=
  wkE h fun sg H Q ⟨io, s, h, r, h', rs, rh, e, q⟩ => by
    simp only [evE] at e
    obtain ⟨x, h1, e1, e⟩ := bind_ok e
    obtain ⟨xs, h2, e2, e⟩ := bind_ok e
    simp only [evA] at e2
    cases e2
    refine ⟨io, s, h, x, h1, rs, rh, e1, fun io1 H1 v ex1 rh1 rv => ?_⟩
    obtain ⟨n, ys, rfl, hx⟩ := hl _ _ _ _ e
    obtain ⟨a, ws, rfl, ha, hH, rr⟩ := rh1.list rv hx
    exact ⟨.inl ⟨rfl, ws, .inl (.inl hH)⟩, hk io1 H1 h1 _ [] _ [] r h' Q rh1 rv .nil e fun io' H' v ex2 rh2 rv2 => q io' H' v (ex1.trans ex2) rh2 rv2⟩
/-- .. whatever the arguments do to the heap, it stays a list -/
theorem mth_to {m : Mth} {R : V → List V → Hp → VK → Prop} (hk : MthOk X fa m R) (hl : ∀ x xs h r h', mth m x xs h = .ok r h' → (∃ n, x = .ref n) ∨ ∃ ys, x = .scr ys)
    (h : PE X e (tBM X.K "list" R (tE X.K fa cf co) (tA X.K fa cf cs))) : PE X e (tE X.K fa cf (.mth m co cs)) :=
  wkE h fun sg H Q ⟨io, s, h, r, h', rs, rh, e, q⟩ => by
    simp only [evE] at e
    obtain ⟨x, h1, e1, e⟩ := bind_ok e
    obtain ⟨xs, h2, e2, e⟩ := bind_ok e
    refine ⟨io, s, h, x, h1, rs, rh, e1, fun io1 H1 v ex1 rh1 rv => ?_⟩
    have ty : tyV X.K "list" v H1 := by
      rcases hl _ _ _ _ _ e with ⟨n, rfl⟩ | ⟨ys, rfl⟩
      · cases rv with
        | ref hn =>
          obtain ⟨xs', vs', _, hH, _⟩ := rh1.addr hn
          exact .inl ⟨rfl, vs', .inl (.inl hH)⟩
      · cases rv with
        | scr sq rr => exact .inl ⟨rfl, _, sq.l⟩
    exact ⟨ty, io1, s, h1, xs, h2, rs.mono ex1, rh1, e2, fun io2 H2 vs ex2 rh2 rvs => hk io2 H2 h2 v vs x xs r h' Q rh2 (rv.mono ex2) rvs e fun io' H' v ex3 rh3 rv3 => q io' H' v ((ex1.trans ex2).trans ex3) rh3 rv3⟩
theorem e_append (ho : PE X o (tE X.K fa cf co)) (ha : PA X [a] (tA X.K fa cf cs))
    (hbase : attributeBase o "append" X.env (eval o X.env) = eval o X.env := by rfl)
    (hfew : ((backTo cpos (starEach [a] X.env)).all (fun x => !x.1) && (backToKw cpos (keywordEach [] X.env)).all (fun x => x.1.isSome)
      && decide (([a] : List Expr).length + ([] : List Keyword).length + (if ([] : List Keyword).isEmpty then 0 else 1) < 30)) = true := by rfl)
    (hline : (apos.endLine == cpos.line) = true := by rfl) (hs : starEach [a] X.env = (false, eval a X.env) :: starEach [] X.env := by rfl) :
    PE X (.Call (.Attribute o "append" apos) [a] [] cpos) (tE X.K fa cf (.mth .append co cs)) := mth_to mk_append (fun _ _ _ _ _ => mth_lst (fun z => nomatch z) (fun z => nomatch z)) (pe_bm PySem.F.plainAttrs_list PySem.F.slot_list_append PySem.F.type_list_append mt_append ho ha hbase hfew hline hs)
theorem e_extend (ho : PE X o (tE X.K fa cf co)) (ha : PA X [a] (tA X.K fa cf cs))
    (hbase : attributeBase o "extend" X.env (eval o X.env) = eval o X.env := by rfl)
    (hfew : ((backTo cpos (starEach [a] X.env)).all (fun x => !x.1) && (backToKw cpos (keywordEach [] X.env)).all (fun x => x.1.isSome)
      && decide (([a] : List Expr).length + ([] : List Keyword).length + (if ([] : List Keyword).isEmpty then 0 else 1) < 30)) = true := by rfl)
    (hline : (apos.endLine == cpos.line) = true := by rfl) (hs : starEach [a] X.env = (false, eval a X.env) :: starEach [] X.env := by rfl) :
    PE X (.Call (.Attribute o "extend" apos) [a] [] cpos) (tE X.K fa cf (.mth .extend co cs)) := mth_to mk_extend (fun _ _ _ _ _ => mth_lst (fun z => nomatch z) (fun z => nomatch z)) (pe_bm PySem.F.plainAttrs_list PySem.F.slot_list_extend PySem.F.type_list_extend mt_extend ho ha hbase hfew hline hs)
theorem e_popAt (ho : PE X o (tE X.K fa cf co)) (ha : PA X [a] (tA X.K fa cf cs))
    (hbase : attributeBase o "pop" X.env (eval o X.env) = eval o X.env := by rfl)
    (hfew : ((backTo cpos (starEach [a] X.env)).all (fun x => !x.1) && (backToKw cpos (keywordEach [] X.env)).all (fun x => x.1.isSome)
      && decide (([a] : List Expr).length + ([] : List Keyword).length + (if ([] : List Keyword).isEmpty then 0 else 1) < 30)) = true := by rfl)
    (hline : (apos.endLine == cpos.line) = true := by rfl) (hs : starEach [a] X.env = (false, eval a X.env) :: starEach [] X.env := by rfl) :
    PE X (.Call (.Attribute o "pop" apos) [a] [] cpos) (tE X.K fa cf (.mth .pop0 co cs)) := mth_to mk_popAt (fun _ _ _ _ _ => mth_lst (fun z => nomatch z) (fun z => nomatch z)) (pe_bm PySem.F.plainAttrs_list PySem.F.slot_list_pop PySem.F.type_list_pop mt_popAt ho ha hbase hfew hline hs)
theorem e_pop (ho : PE X o (tE X.K fa cf co)) (hbase : attributeBase o "pop" X.env (eval o X.env) = eval o X.env := by rfl) (hline : (apos.endLine == cpos.line) = true := by rfl) :
    PE X (.Call (.Attribute o "pop" apos) [] [] cpos) (tE X.K fa cf (.mth .pop co .nil)) := mth_to0 mk_pop (fun x h r h' e => by
      unfold mth at e
      split at e <;> try (cases e; done)
      all_goals rename_i hm; (try (cases hm; done))
      split at e
      · exact ⟨_, _, rfl, by assumption⟩
      · cases e) (pe_bm0 PySem.F.plainAttrs_list PySem.F.slot_list_pop PySem.F.type_list_pop mt_pop ho hbase hline)
theorem e_count (hr : Room k X.A) (ho : PE X o (tE X.K fa cf co)) (ha : PA X [a] (tA X.K fa cf cs))
    (hbase : attributeBase o "count" X.env (eval o X.env) = eval o X.env := by rfl)
    (hfew : ((backTo cpos (starEach [a] X.env)).all (fun x => !x.1) && (backToKw cpos (keywordEach [] X.env)).all (fun x => x.1.isSome)
      && decide (([a] : List Expr).length + ([] : List Keyword).length + (if ([] : List Keyword).isEmpty then 0 else 1) < 30)) = true := by rfl)
    (hline : (apos.endLine == cpos.line) = true := by rfl) (hs : starEach [a] X.env = (false, eval a X.env) :: starEach [] X.env := by rfl) :
    PE X (.Call (.Attribute o "count" apos) [a] [] cpos) (tE X.K fa cf (.mth .count co cs)) := mth_to2 mk_count (pe_bm2 PySem.F.slot_list_count PySem.F.slot_tuple_count PySem.F.type_list_count PySem.F.type_tuple_count (mt_countD (by have := hr.un; omega)) (mt_countT (by have := hr.un; omega)) ho ha hbase hfew hline hs)
theorem e_index (hr : Room k X.A) (ho : PE X o (tE X.K fa cf co)) (ha : PA X [a] (tA X.K fa cf cs))
    (hbase : attributeBase o "index" X.env (eval o X.env) = eval o X.env := by rfl)
    (hfew : ((backTo cpos (starEach [a] X.env)).all (fun x => !x.1) && (backToKw cpos (keywordEach [] X.env)).all (fun x => x.1.isSome)
      && decide (([a] : List Expr).length + ([] : List Keyword).length + (if ([] : List Keyword).isEmpty then 0 else 1) < 30)) = true := by rfl)
    (hline : (apos.endLine == cpos.line) = true := by rfl) (hs : starEach [a] X.env = (false, eval a X.env) :: starEach [] X.env := by rfl) :
    PE X (.Call (.Attribute o "index" apos) [a] [] cpos) (tE X.K fa cf (.mth .index co cs)) := mth_to2 mk_index (pe_bm2 PySem.F.slot_list_index PySem.F.slot_tuple_index PySem.F.type_list_index PySem.F.type_tuple_index (mt_indexD (by have := hr.un; omega)) (mt_indexT (by have := hr.un; omega)) ho ha hbase hfew hline hs)
/-- a local name that holds a def -/
theorem e_callv {i j k : Nat} {G : Nat → Option Fn} {x : Str} (hh : Held' X.prog X.w X.K X.mg X.base fa G j k) (hr : Room j X.A) (hN : X.N[i]? = some x) (hv : Vis X.env.scope x) (ha : PA X (e :: es) (tA X.K fa (callF G k) cs)) (hix : fa.xok i = true := by rfl)
    (hdb : (x == ("__debug__" : Str)) = false := by decide) (hcd : (x == ("__classdict__" : Str)) = false := by decide)
    (he : starEach (e :: es) X.env = (false, eval e X.env) :: starEach es X.env := by rfl) (hpl : (backTo pos (starEach es X.env)).any (·.1) = false := by rfl) :
    PE X (.Call (.Name x p) (e :: es) [] pos) (tE X.K fa (callF G k) (.callv i cs)) := ⟨fun pins s sg H Q I ⟨io, sl, h, r, h', rs, rh, e, q⟩ => by
  simp only [evE] at e
  split at e
  · rename_i n hn
    obtain ⟨xs, h1, e1, e⟩ := bind_ok e
    obtain ⟨v, hv1, hv2⟩ := rs.at_ i _ hix hn
    cases hv2 with
    | @fn f n hf =>
    obtain ⟨fd, ps, F, hk, hb⟩ := hh.at_ n f hf
    refine (pe_callL (i := i) (f := f) (dvs := []) (E := fun _ _ _ => False) F hr hN hv hk hb .nil (fun _ _ _ _ _ _ _ z => z.elim) ha hdb hcd he hpl).run pins s sg H Q I ⟨hv1, io, sl, h, xs, h1, rs, rh, e1, fun io1 H1 vs ex1 rh1 rv => ?_⟩
    show spI X.K fa G k n (vs ++ []) H1 Q _
    rw [List.append_nil]
    exact ⟨io1, h1, xs, r, h', rv, rh1, e, fun io' H' v ex2 rh2 rv2 => q io' H' v (ex1.trans ex2) rh2 rv2⟩
  · cases e⟩
end
end PB

set_option Elab.async false
set_option linter.all false
set_option maxRecDepth 100000
set_option maxHeartbeats 2000000
namespace PB
open PySem PySem.Spec L2
section
variable {K : PySem.W.Frag} {fa : FA} {io io1 io2 : List Addr} {H H1 H2 : Hp} {h h1 : PH}
/-! ### what a call leaves -/
mutual
theorem Rl.low : ∀ {v : V} {x : PV}, Rl K fa io H v x → PV.low io.length x = true
  | _, _, .non => by simp [PV.low]
  | _, _, .bl _ => by simp [PV.low]
  | _, _, .int _ => by simp [PV.low]
  | _, _, .str _ => by simp [PV.low]
  | _, _, .tup _ r => by simp only [PV.low]; exact Rls.low r
  | _, _, .wtup _ r => by simp only [PV.low]; exact Rls.low r
  | _, _, .scr _ r => by simp only [PV.low]; exact Rls.low r
  | _, _, .ref e => by simp only [PV.low, decide_eq_true_eq]; exact (List.getElem?_eq_some_iff.mp e).1
  | _, _, .fn _ => by simp [PV.low]
  | _, _, .dct _ => by simp [PV.low]
theorem Rls.low : ∀ {v : List V} {x : List PV}, Rls K fa io H v x → PV.lows io.length x = true
  | _, _, .nil => by simp [PV.lows]
  | _, _, .cons a r => by simp only [PV.lows, Bool.and_eq_true]; exact ⟨Rl.low a, Rls.low r⟩
end
mutual
theorem Rl.trim {t : List Addr} : ∀ {v : V} {x : PV}, Rl K fa (io ++ t) H v x → PV.low io.length x = true → Rl K fa io H v x
  | _, _, .non, _ => .non
  | _, _, .bl b, _ => .bl b
  | _, _, .int i, _ => .int i
  | _, _, .str s, _ => .str s
  | _, _, .tup h r, l => .tup h (Rls.trim r (by simpa only [PV.low] using l))
  | _, _, .wtup h r, l => .wtup h (Rls.trim r (by simpa only [PV.low] using l))
  | _, _, .scr h r, l => .scr h (Rls.trim r (by simpa only [PV.low] using l))
  | _, _, .ref e, l => by
    simp only [PV.low, decide_eq_true_eq] at l
    rw [List.getElem?_append_left l] at e
    exact .ref e
  | _, _, .fn e, _ => .fn e
  | _, _, .dct e, _ => .dct e
theorem Rls.trim {t : List Addr} : ∀ {v : List V} {x : List PV}, Rls K fa (io ++ t) H v x → PV.lows io.length x = true → Rls K fa io H v x
  | _, _, .nil, _ => .nil
  | _, _, .cons a r, l => by
    simp only [PV.lows, Bool.and_eq_true] at l
    exact .cons (Rl.trim a l.1) (Rls.trim r l.2)
end
theorem POs.same_eq : ∀ {a b : PH}, POs.same a b = true → a = b
  | [], [], _ => rfl
  | [], _ :: _, h => by simp [POs.same] at h
  | _ :: _, [], h => by simp [POs.same] at h
  | a :: r, b :: q, h => by
    simp only [POs.same, Bool.and_eq_true] at h
    rw [PO.same_eq h.1, POs.same_eq h.2]
theorem RH.keeps {v : V} {x : PV} (rh : RH K fa io H h) (ex : Ext io H io1 H1) (rh1 : RH K fa io1 H1 h1) (rv : Rl K fa io1 H1 v x) :
    ∃ io2, Ext io H io2 H1 ∧ RH K fa io2 H1 (keepP h h1 x) ∧ Rl K fa io2 H1 v x := by
  unfold keepP
  split
  · rename_i hc
    obtain ⟨hx, hc⟩ := hc
    obtain ⟨t, rfl, _⟩ := ex.more
    have hlen := rh.len
    have hlen1 := rh1.len
    rw [List.length_append] at hlen1
    refine ⟨io, ⟨⟨[], by simp, fun _ z => nomatch z⟩, ex.stay, ex.there⟩, ⟨?_, ?_, ?_, rh1.tab⟩, rv.trim (by rw [hlen]; exact hx)⟩
    · rw [List.length_take]; omega
    · exact rh1.nd.sublist (List.sublist_append_left _ _)
    · intro m xs hm
      have hlt : m < h.length := by
        have := (List.getElem?_eq_some_iff.mp hm).1
        rw [List.length_take] at this; omega
      have hm1 : h1[m]? = some (.lst xs) := by rw [List.getElem?_take_of_lt hlt] at hm; exact hm
      obtain ⟨a, vs, e1, e2, e3⟩ := rh1.cell m xs hm1
      have e1' : io[m]? = some a := by rw [List.getElem?_append_left (by rw [hlen]; exact hlt)] at e1; exact e1
      refine ⟨a, vs, e1', e2, e3.trim ?_⟩
      rcases hc with hc | hc
      · have he := POs.same_eq hc
        rw [he] at hm
        obtain ⟨b, ws, _, _, g3⟩ := rh.cell m xs hm
        exact g3.low
      · have := List.all_eq_true.mp hc _ (List.mem_of_getElem? hm)
        rw [hlen]
        simpa only [PO.low] using this
  · exact ⟨io1, ex, rh1, rv⟩
theorem rs_start {N : List Str} {vs : List V} {args : List PV} (r : Rls K fa io H vs args) (hxa : fa.xa = none) : RS K fa io H (L2.start N vs) (startP N.length args) := by
  have hl := r.length
  refine ⟨by unfold L2.start startP; simp [hl], fun i x _ hx => ?_, fun x h => by rw [hxa] at h; cases h⟩
  unfold startP at hx
  by_cases hi : i < args.length
  · rw [List.getElem?_append_left (by simpa using hi), List.getElem?_map] at hx
    cases ha : args[i]? with
    | none => rw [ha] at hx; cases hx
    | some y =>
      rw [ha] at hx
      cases hx
      obtain ⟨v, hv, rv⟩ := r.get ha
      refine ⟨v, ?_, rv⟩
      unfold L2.start
      rw [List.getElem?_append_left (by simp; omega), List.getElem?_map, hv]
      rfl
  · rw [List.getElem?_append_right (by simpa using hi), List.getElem?_replicate] at hx
    split at hx <;> cases hx
end
section
variable {P : Program} {w : World} {K : PySem.W.Frag} {mg : Str → Option Value} {base : Heap} {fa : FA} {G : Nat → Option Fn} {x : Str} {st : Stmt} {f : Addr} {fd : FuncData} {N ps : List Str} {i k : Nat} {body : CB}
theorem cal_zero {j : Nat} (F : C8.Def K mg x st f fd) (b : Binds K fd ps []) : C8.Cal P w K mg base j x (spI K fa G 0 i) [] :=
  ⟨f, fd, ps, [], ⟨fun vs H Q E z => (by obtain ⟨_, _, _, _, _, _, _, e, _⟩ := z; unfold callF at e; cases e), fun A outer s H args us vs Q E _ _ _ _ z => (by obtain ⟨_, _, _, _, _, _, _, e, _⟩ := z; unfold callF at e; cases e)⟩, F.mgf, F.kp, b, .nil⟩
theorem fn_succ {j : Nat} (hxa : fa.xa = none) (F : C8.Fun K x x st f fd) (S : FnScope N ps (C8.fnScope st)) (hG : G i = some ⟨ps.length, N.length, body⟩)
    (hbody : ∀ (cdv : Value) (A : Around) (outer : List Env) (s : Shared) (H : Hp) (E : XK), Room j (A.deeper (PyProof.Rows.envOfC x (C8.fnScope st) s.heap.objs.size f cdv)) →
      PSs (cxOf CX0 P w K mg base N x (C8.fnScope st) f cdv A outer s H E).nox (C8.fnBody st) (tK K fa (callF G k) body)) : FnOk P w K mg base CX0 (j + 1) f fd ps (spI K fa G (k + 1) i) :=
  C8.fn0 F S (fun vs H Q E ⟨io, h, args, r, h', rv, rh, e, _⟩ => by
      unfold callF at e
      rw [hG] at e
      simp only at e
      split at e
      · rename_i hl; rw [rv.length]; exact hl
      · cases e) fun cdv A outer s H vs Q E hr ⟨io, h, args, r, h', rv, rh, e, q⟩ => by
    refine ⟨_, hbody cdv A outer s H E hr, ?_⟩
    unfold callF at e
    rw [hG] at e
    simp only at e
    split at e
    · rename_i hl
      obtain ⟨fl, h1, e1, e⟩ := bind_ok e
      refine ⟨io, _, h, fl, h1, rs_start rv hxa, rh, e1, fun io1 H1 ex1 rh1 => ?_⟩
      cases fl with
      | nx s' =>
        intro sg' _
        simp only [outF] at e
        cases e
        obtain ⟨io2, ex2, rh2, rv2⟩ := rh.keeps ex1 rh1 .non
        exact q io2 H1 .non ex2 rh2 rv2
      | rt v =>
        intro u ru
        simp only [outF] at e
        cases e
        obtain ⟨io2, ex2, rh2, rv2⟩ := rh.keeps ex1 rh1 ru
        exact q io2 H1 u ex2 rh2 rv2
      | bk s' => simp only [outF] at e; cases e
      | ct s' => simp only [outF] at e; cases e
    · cases e
theorem cal_succ {j : Nat} (hxa : fa.xa = none) (F : C8.Def K mg x st f fd) (b : Binds K fd ps []) (S : FnScope N ps (C8.fnScope st)) (hG : G i = some ⟨ps.length, N.length, body⟩)
    (hbody : ∀ (cdv : Value) (A : Around) (outer : List Env) (s : Shared) (H : Hp) (E : XK), Room j (A.deeper (PyProof.Rows.envOfC x (C8.fnScope st) s.heap.objs.size f cdv)) →
      PSs (cxOf CX0 P w K mg base N x (C8.fnScope st) f cdv A outer s H E).nox (C8.fnBody st) (tK K fa (callF G k) body)) : C8.Cal P w K mg base (j + 1) x (spI K fa G (k + 1) i) [] :=
  ⟨f, fd, ps, [], fn_succ hxa F.fn S hG hbody, F.mgf, F.kp, b, .nil⟩
/-- a def of the module that takes its parameters by place -/
structure Has (K : PySem.W.Frag) (mg : Str → Option Value) (x : Str) (st : Stmt) (ps : List Str) : Prop where
  ex : ∃ f fd, C8.Def K mg x st f fd ∧ ∀ us : List Value, us.length = ps.length → bindArgs fd ⟨us, []⟩ = pure (ps.zip us)
theorem has_mk {h : Heap} {oc : Value} {od an : Option Addr} {osl : Array (Option Value)} {kV doc pm cdv ct : Value} (KX : K.In h) (G : h.Ns mainGlobals mg) (a : PySem.W.nsIn K mainGlobals x = some (some (.ref f)))
    (l : K.lookup f = some ⟨oc, od, .func (PySem.W.fnOf x x (C8.fnArgs st) (C8.fnBody st) (C8.fnScope st) .none kV doc pm an cdv ct), osl⟩) (c : PySem.W.codeIn K cdv x = true) (k : PySem.W.keepIn K (.ref f) = true)
    (b : ∀ (kV doc pm : Value) (an : Option Addr) (cdv ct : Value) (us : List Value), us.length = ps.length → bindArgs (PySem.W.fnOf x x (C8.fnArgs st) (C8.fnBody st) (C8.fnScope st) .none kV doc pm an cdv ct) ⟨us, []⟩ = pure (ps.zip us)) : Has K mg x st ps :=
  ⟨f, _, ⟨⟨oc, od, .none, kV, doc, pm, an, cdv, ct, osl, rfl, l, c⟩, PySem.W.mg_of KX G a, k⟩, b kV doc pm an cdv ct⟩
theorem Has.zero {j : Nat} (h : Has K mg x st ps) : C8.Cal P w K mg base j x (spI K fa G 0 i) [] := by
  obtain ⟨f, fd, F, b⟩ := h.ex
  exact cal_zero F (.all b)
theorem Has.succ {j : Nat} (h : Has K mg x st ps) (hxa : fa.xa = none) (S : FnScope N ps (C8.fnScope st)) (hG : G i = some ⟨ps.length, N.length, body⟩)
    (hbody : ∀ (f : Addr) (cdv : Value) (A : Around) (outer : List Env) (s : Shared) (H : Hp) (E : XK), Room j (A.deeper (PyProof.Rows.envOfC x (C8.fnScope st) s.heap.objs.size f cdv)) →
      PSs (cxOf CX0 P w K mg base N x (C8.fnScope st) f cdv A outer s H E).nox (C8.fnBody st) (tK K fa (callF G k) body)) : C8.Cal P w K mg base (j + 1) x (spI K fa G (k + 1) i) [] := by
  obtain ⟨f, fd, F, b⟩ := h.ex
  exact cal_succ hxa F (.all b) S hG (hbody f)
abbrev FA.of (fn ca : Nat → Option Addr) : FA := ⟨fn, ca, none, []⟩
/-- .. and the tables of code objects that may grow -/
abbrev FA.oft (fn ca : Nat → Option Addr) (tb : List (Addr × Str)) : FA := ⟨fn, ca, none, tb⟩
/-! ### the module's constants -/
def GC (mg : Str → Option Value) (K : PySem.W.Frag) (fa : FA) (x : Str) (c : PV) : Prop := ∃ u v, mg x = some u ∧ RelV v u ∧ Con K fa v c
theorem GC.int {i : Int} {t : Tok} (h : mg x = some (.int i t)) : GC mg K fa x (.int i) := ⟨_, .int i, h, ⟨t, rfl⟩, fun _ _ => .int i⟩
theorem GC.str {y : Str} {t : Tok} (h : mg x = some (.str y t)) : GC mg K fa x (.str y) := ⟨_, .str y, h, ⟨t, rfl⟩, fun _ _ => .str y⟩
/-- a value of the written part -/
def KC (K : PySem.W.Frag) (fa : FA) (u : Value) (c : PV) : Prop := ∃ v, RelV v u ∧ Con K fa v c
inductive KCs (K : PySem.W.Frag) (fa : FA) : List Value → List PV → Prop
  | nil : KCs K fa [] []
  | cons {u us c cs} : KC K fa u c → KCs K fa us cs → KCs K fa (u :: us) (c :: cs)
theorem KC.int {i : Int} {t : Tok} : KC K fa (.int i t) (.int i) := ⟨.int i, ⟨t, rfl⟩, fun _ _ => .int i⟩
theorem KC.str {i : Str} {t : Tok} : KC K fa (.str i t) (.str i) := ⟨.str i, ⟨t, rfl⟩, fun _ _ => .str i⟩
theorem KC.bl {b : Bool} : KC K fa (.bool b) (.bl b) := ⟨.bl b, rfl, fun _ _ => .bl b⟩
theorem KC.non : KC K fa .none .non := ⟨.non, rfl, fun _ _ => .non⟩
theorem KCs.vals : ∀ {us : List Value} {cs : List PV}, KCs K fa us cs → ∃ vs, Vals vs us ∧ ∀ io H, Rls K fa io H vs cs
  | _, _, .nil => ⟨[], .nil, fun _ _ => .nil⟩
  | _, _, .cons ⟨v, r, c⟩ t => by
    obtain ⟨vs, h1, h2⟩ := KCs.vals t
    exact ⟨v :: vs, .cons r h1, fun io H => .cons (c io H) (h2 io H)⟩
theorem KCs.length : ∀ {us : List Value} {cs : List PV}, KCs K fa us cs → us.length = cs.length
  | _, _, .nil => rfl
  | _, _, .cons _ t => by rw [List.length_cons, List.length_cons, KCs.length t]
theorem KC.tup {a : Addr} {us : List Value} {n : Nat} {sl : Array (Option Value)} {cs : List PV} (h : K.lookup a = some ⟨.type "tuple", none, .seq us.toArray n, sl⟩) (hc : KCs K fa us cs) (hz : cs.length ≤ 1000 := by decide) : KC K fa (.ref a) (.tup cs) := by
  obtain ⟨vs, h1, h2⟩ := hc.vals
  refine ⟨.ref a, rfl, fun io H => .tup (.inr ⟨_, us.toArray, n, h, rfl, rfl, rfl, ?_, h1⟩) (h2 io H)⟩
  rw [List.size_toArray, hc.length]
  exact Nat.le_trans hz (by decide)
theorem KC.gc {u : Value} {c : PV} (h : mg x = some u) (k : KC K fa u c) : GC mg K fa x c := by
  obtain ⟨v, r, q⟩ := k
  exact ⟨u, v, h, r, q⟩
theorem KC.fn {f : Addr} {n : Nat} (h : fa.fn n = some f) : KC K fa (.ref f) (.fn n) := ⟨.ref f, rfl, fun _ _ => .fn h⟩
end
section
variable {X : Cx} {fa : FA} {cf : Nat → List PV → PH → Res PV} {x : Str} {pos : Pos} {c : PV}
theorem e_gc (h : GC X.mg X.K fa x c) (hg : Gl X x) (hd : (x == ("__debug__" : Str)) = false := by decide) : PE X (.Name x pos) (tE X.K fa cf (.con c)) := by
  obtain ⟨u, v, hm, r, q⟩ := h
  exact e_con (pe_glob hg hm r hd) q
end
/-! ### defs as values -/
section
variable {K : PySem.W.Frag} {mg : Str → Option Value} {h : Heap} {l : List (Nat × Str)} {n : Nat} {x : Str} {f : Addr}
/-- where the defs that stand as values lie -/
def fvs (K : PySem.W.Frag) (l : List (Nat × Str)) (n : Nat) : Option Addr := match l.lookup n with
  | some x => match PySem.W.nsIn K mainGlobals x with
    | some (some (.ref f)) => some f
    | _ => none
  | none => none
/-- the promise of a def, where defs stand as values -/
abbrev spV (K : PySem.W.Frag) (l : List (Nat × Str)) (G : Nat → Option Fn) (k i : Nat) : Sp := spI K ⟨fvs K l, fun _ => none, none, []⟩ G k i
/-- .. and classes of exceptions, too -/
abbrev spWX (K : PySem.W.Frag) (l l2 : List (Nat × Str)) (G : Nat → Option Fn) (k i : Nat) : Sp := spI K ⟨fvs K l, fvs K l2, none, []⟩ G k i
theorem fvs_of (hl : l.lookup n = some x) (a : PySem.W.nsIn K mainGlobals x = some (some (.ref f))) : fvs K l n = some f := by
  unfold fvs
  rw [hl]
  simp only
  rw [a]
theorem GC.fnv (KX : K.In h) (G : h.Ns mainGlobals mg) (a : PySem.W.nsIn K mainGlobals x = some (some (.ref f))) (hl : l.lookup n = some x) {ca : Nat → Option Addr} {tb : List (Addr × Str)} : GC mg K ⟨fvs K l, ca, none, tb⟩ x (.fn n) :=
  ⟨.ref f, .ref f, PySem.W.mg_of KX G a, rfl, fun _ _ => .fn (fvs_of hl a)⟩
theorem fvs_r (KX : K.In h) (G : h.Ns mainGlobals mg) (n : Nat) (f : Addr) (e : fvs K l n = some f) : ∃ x, l.lookup n = some x ∧ mg x = some (.ref f) := by
  unfold fvs at e
  split at e
  · rename_i x hx
    split at e
    · rename_i g hg
      cases e
      exact ⟨x, hx, PySem.W.mg_of KX G hg⟩
    · cases e
  · cases e
theorem lookup_cons {a : Nat} {y : Str} (e : ((a, y) :: l).lookup n = some x) : (n = a ∧ x = y) ∨ l.lookup n = some x := by
  rw [List.lookup_cons] at e
  split at e
  · rename_i hb
    cases e
    exact .inl ⟨by simpa using hb, rfl⟩
  · exact .inr e
theorem heldOf {P : Program} {w : World} {base : Heap} {k : Nat} {sp : Sp} (c : C8.Cal P w K mg base k x sp []) (hm : mg x = some (.ref f)) :
    ∃ (fd : FuncData) (ps : List Str), FnOk P w K mg base L2.CX0 k f fd ps sp ∧ PySem.W.keepIn K (.ref f) = true ∧ Binds K fd ps [] := by
  obtain ⟨g, fd, ps, ds, F, hg, hk, hb, hv⟩ := c.ex
  rw [hm] at hg
  cases hg
  cases hv
  exact ⟨fd, ps, F, hk, hb⟩
end
/-! ### the law -/
section
variable {K : PySem.W.Frag} {fa : FA} {H : Hp}
theorem rls_ints {io : List Addr} : ∀ ns : List Int, Rls K fa io H (ns.map V.int) (ns.map PV.int)
  | [] => .nil
  | n :: r => .cons (.int n) (rls_ints r)
/-- the promise of the law, from what its code answers -/
theorem law_sp {G : Nat → Option Fn} {k i : Nat} {a : Addr} {ns : List Int} (hO : Only H) (hS : SqL K H a (ns.map V.int)) (h : ∃ h', callF G k i [.scr (ns.map PV.int)] [] = .ok (.bl true) h') (E : XK) (ht : LamX.Tabs fa.tb H := by intro p hp; cases hp) :
    spI K fa G k i [.ref a] H (fun v _ => v = .bl true) E := by
  obtain ⟨h', e⟩ := h
  refine ⟨[], [], [.scr (ns.map PV.int)], .bl true, h', .cons (.scr ?_ (rls_ints ns)) .nil, ⟨rfl, List.nodup_nil, fun n xs hx => by simp at hx, ht⟩, e, fun io' H' v _ _ rv => by cases rv; rfl⟩
  rcases hS with (z | z) | z
  · rcases hO a with q | ⟨o, xs, q⟩
    · rw [q] at z; cases z
    · rw [q] at z; cases z
  · exact .inl z
  · exact .inr z
end
end PB

set_option Elab.async false
set_option linter.all false
set_option maxRecDepth 100000
set_option maxHeartbeats 2000000
namespace PB
open PySem PySem.Spec PyProof.Rows L2 NdefX
/-! ### an own exception whose __init__ is: super().__init__(x); self.x = x -/
/-- what such an __init__ promises -/
def spInit (K : PySem.W.Frag) (C : Addr) (f : Str) : Sp := fun vs H Q _ => ∃ (a : Addr) (y : V), vs = [.ref a, y] ∧ H a = some (exo a C none) ∧
  ∀ dx, H dx = none → dx ≠ a → Q .non (upd (upd H dx (exd dx [(f, y)])) a (exo a C (some dx)))
/-- its text -/
abbrev initBody (f : Str) (p0 p1 p2 p3 p4 p5 p6 p7 p8 p9 : Pos) : List Stmt :=
  [.Expr (.Call (.Attribute (.Call (.Name "super" p0) [] [] p1) "__init__" p2) [.Name f p3] [] p4) p5, .Assign [.Attribute (.Name "self" p6) f p7] (.Name f p8) p9]
section
variable {X : Cx} {pins : List (Addr × Obj)} {σ : L2.St} {H : Hp} {s : Shared} {a u C : Addr} {A : Around} {E : Value → Shared → Prop}
/-- the bound __init__ of ValueError, called -/
theorem mw_call {us : List Value} {Q : Value → Shared → Prop} (T : OexC X.K C) (I : Inv X pins σ H s) (e : H a = some (exo a C none)) (hu : s.heap.get? u = some (PySem.W.kxs_mw "ValueError.__init__" a)) (hl : us.length ≤ sizeLine)
    (h : ∀ s', Inv X pins σ H s' → Q .none s') : wpAny (model X.prog X.w) A (call (.ref u) us) Q E s := by
  obtain ⟨nm, q, N, bs, bm, sn, sub, ab, col, dd, k0, k1, k2, k3, k5, hC, hbm⟩ := T.cls
  obtain ⟨t1, ho⟩ := exo_at I.hok e
  have KX := I.kIn
  have key : ∀ h', (∀ b o, b ≠ a → s.heap.get? b = some o → h'.get? b = some o) → (∃ t2 : Addr, h'.get? a = some ({ cls := .ref C, dict := none, data := .fields #[.ref t2, .none, .none, .none, .bool false, .none] } : Obj)) → Q .none { s with heap := h' } := fun h' k ⟨t2, hx⟩ => by
    have J := I.write (t' := s.toks) (x := a) (e := a) (o := exo a C none) (by rw [e]; exact True.intro) (.inl rfl) k ⟨_, hx⟩ (exo_ok hx)
    have eu : upd H a (exo a C none) = H := funext fun b => by
      by_cases hb : b = a
      · rw [hb, upd_same, e]
      · rw [upd_ne hb]
    rw [eu] at J; exact h _ J
  obtain ⟨hp, g, d, tk, os⟩ := s
  refine wpAny_call (codeAny_of_tree (show wpAny _ A.in1 (callAny (.ref u) ⟨us, []⟩) _ _ _ from ?_))
  simp only [callAny]; refine wpAny_bind (wpAny_load hu ?_)
  simp only [show (Value.type "method-wrapper" == Value.type "method" || (Value.type "method-wrapper" == Value.type "builtin_function_or_method" || Value.type "method-wrapper" == Value.type "method-wrapper")) = true by decide, Bool.or_assoc, if_true]
  refine PySem.W.KFB.if_so (by decide) (wpAny_bind (PySem.W.check_bound_init F.excBase_ValueError.toExcCallFacts (KX _ _ hC) ho rfl ?_))
  refine wpAny_bind (wpAny_pure (wpAny_pure ⟨plainId_quiet F.excBase_ValueError.init.plain _, codeAny_builtin F.excBase_ValueError.initEntry ?_⟩))
  exact PySem.W.exc_init_tree (cls := .ref C) (t0 := t1) (dv := none) (c2 := .none) (c3 := .none) (b4 := .bool false) ho hl fun h' k e' t' => key h' k ⟨_, e'⟩
end
section
variable {P : Program} {w : World} {K : PySem.W.Frag} {mg : Str → Option Value} {base : Heap} {CX : CXT} {C fI cc cda : Addr} {f q : Str} {params : Arguments} {scope : Scope} {dV kV doc pm ct oc ccl cl : Value} {an od cdd cld : Option Addr} {osl ccs csl : Array (Option Value)}
  {vs0 : Array Value} {file : Str} {tf : Tok} {ar : Arg} {cdC : ClassData} {p0 p1 p2 p3 p4 p5 p6 p7 p8 p9 : Pos} {k : Nat}
theorem init_fn (T : OexC K C) (lk : K.lookup fI = some ⟨oc, od, .func (PySem.W.fnX "__init__" q params (initBody f p0 p1 p2 p3 p4 p5 p6 p7 p8 p9) scope [("__class__", cc)] dV kV doc pm an (.ref cda) ct), osl⟩)
    (hcd : PySem.W.codeIn K (.ref cda) q = true) (hcode : K.lookup cda = some ⟨ccl, cdd, .fields vs0, ccs⟩) (hvs : vs0[2]? = some (.str file tf)) (hfile : ((P.main.file : Str) == file) = true) (htop : (P.main.scope.names.lookup ("super" : Str)).isSome = false)
    (hcell : K.lookup cc = some ⟨cl, cld, .cell (some (.ref C)), csl⟩) (hsup : mg "super" = none) (hcl : PySem.W.clsIn K C = some cdC) (hself : PySem.W.mroIn K C (.ref C) = some true) (hop : PySem.W.nsIn K cStatics "thirdparty.any" = some none)
    (hm : PySem.W.ks_superIn K C C "__init__" = some (some (.builtin "ValueError.__init__"))) (hB : PySem.W.subIn K (.ref C) (.type "ValueError") = some true) (hno : PySem.W.findIn K (.ref C) f = some none)
    (S : NScope ["self", f, "__class__"] ["self", f] ["__class__"] scope) (hks : scope.names.lookup ("super" : Str) = some .globalImplicit) (hp : (params.posonlyargs ++ params.args).head? = some ar) (har : ar.arg = "self")
    (he : ∀ env : Env, ∃ pl : Sem Bool, eval (.Call (.Attribute (.Call (.Name "super" p0) [] [] p1) "__init__" p2) [.Name f p3] [] p4) env = (do
      let ov ← attributeBase (.Call (.Name "super" p0) [] [] p1) "__init__" env (eval (.Call (.Name "super" p0) [] [] p1) env)
      standAt p2.atName
      let (g, first) ← holding [ov] (getMethod ov "__init__" pl)
      callWith p4 g first (backTo p4 (starEach [.Name f p3] env)) []))
    (hf1 : (f == ("__debug__" : Str)) = false) (hf2 : (f == ("__classdict__" : Str)) = false) :
    FnOk P w K mg base CX (k + 1) fI (PySem.W.fnX "__init__" q params (initBody f p0 p1 p2 p3 p4 p5 p6 p7 p8 p9) scope [("__class__", cc)] dV kV doc pm an (.ref cda) ct) ["self", f] (spInit K C f) := by
  refine ⟨fun vs H Q E ⟨a, y, e, _⟩ => by rw [e]; rfl, fun A outer s H args us vs Q E hr e0 hb r hsp => ?_⟩
  obtain ⟨a, y, rfl, ea, hq⟩ := hsp
  have kb : ∀ b o, base.get? b = some o → s.heap.get? b = some o := fun b o e => (e0.bs b o e).1
  have KX : K.In s.heap := e0.mod.kin.keeps kb
  cases r with | @cons _ ua _ ur ra rr =>
  cases rr with | @cons _ u _ un ru rn =>
  cases rn
  obtain rfl : ua = Value.ref a := ra
  have hcb := e0.mod.kin _ _ hcell
  have hlocs : ∀ z ∈ ([("self", Value.ref a), (f, u)] : List (Str × Value)), scope.names.lookup z.1 = some .local := fun (z : Str × Value) hz => by
    rcases List.mem_cons.mp hz with rfl | hz
    · exact S.par _ (by simp)
    · rw [List.mem_singleton] at hz; subst hz; exact S.par _ (by simp)
  refine ks_codeAny_call_defAt (fd := PySem.W.fnX "__init__" q params (initBody f p0 p1 p2 p3 p4 p5 p6 p7 p8 p9) scope [("__class__", cc)] dV kV doc pm an (.ref cda) ct) (body := initBody f p0 p1 p2 p3 p4 p5 p6 p7 p8 p9) (binds := [("self", .ref a), (f, u)])
    hr.depth (KX _ _ lk) rfl (e0.mod.nolimit.keeps kb) (PySem.W.codeRec_of KX hcd) rfl hb S.nocell hlocs (fun h₁ hns kp => ?_) S.co S.gen S.kind
  let F : NF := ⟨"__init__", q, params, initBody f p0 p1 p2 p3 p4 p5 p6 p7 p8 p9, scope, [("__class__", cc)], cda⟩
  have hl1 : ∀ {x c : _}, ([("__class__", cc)] : List (Str × Addr)).lookup x = some c → x = "__class__" ∧ c = cc := fun {x c} e => by
    rw [List.lookup_cons] at e
    split at e
    · rename_i hb
      cases e
      exact ⟨by simpa using hb, rfl⟩
    · cases e
  have Ce : CellsAt F.cl ["__class__"] [none] s.heap H := ⟨rfl, fun x c e => by
      obtain ⟨_, rfl⟩ := hl1 e
      exact ⟨(e0.bs _ _ hcb).2, _, _, kb _ _ hcb, rfl⟩, fun x y c e1 e2 => (hl1 e1).1.trans (hl1 e2).1.symm, fun i x e => by
      cases i with
      | zero => simp at e; subst e; exact ⟨cc, rfl, fun v z => by simp at z⟩
      | succ i => simp at e⟩
  have I1 : Inv (ncx CX P w K mg base ["self", f, "__class__"] F fI A outer s H E) [] (startF ["self", f, "__class__"] [V.ref a, y] [none]) H { s with heap := h₁, toks := s.toks + 2 } :=
    inv_startN (F := F) (ps := ["self", f]) (us := [Value.ref a, u]) S hr.hd e0 rfl (.cons rfl (.cons ru .nil)) Ce hns kp
  have kx1 : K.In h₁ := KX.keeps kp
  show _root_.PySem.wpAt (model P w) (A.deeper (envF F fI s.heap.objs.size)) (.func F.body (envF F fI s.heap.objs.size)) (execs F.body (envF F fI s.heap.objs.size)) _ _ _
  have hint : interactive (envF F fI s.heap.objs.size) = false := by
    unfold interactive
    rw [show (envF F fI s.heap.objs.size).scope.kind = .function from S.kind]; rfl
  obtain ⟨pl, hev⟩ := he (envF F fI s.heap.objs.size)
  refine ks_wpAt_execs_cons (ks_wpAt_Expr_any (ks_wpAt_MethodCall (pl := pl) ?_ hev) hint)
  refine ks_wpAt_super_base (env := envF F fI s.heap.objs.size) hks (S.frk _ (by simp)) rfl rfl (kx1 _ _ lk) rfl hp rfl (kx1 _ _ hcode) rfl hvs hfile htop ?_
  obtain ⟨mb, hb1, hb2⟩ := e0.mod.blt
  have kb1 : ∀ b o, base.get? b = some o → h₁.get? b = some o := fun b o e => kp b o (kb b o e)
  refine PySem.W.ks_loadName_global S.kind hks (Calls.loadGlobal_builtin (env := envF F fI s.heap.objs.size) (e0.mod.glob.keeps kb1) hsup (hb1.keeps kb1) ((hb2 _ (by decide)).trans (show bootBuiltins "super" = some (.type "super") by decide +kernel)) ⟨rfl, ?_⟩)
  refine wpAny_loadName_free S.kind (S.frk _ (by simp)) rfl ⟨_, kx1 _ _ hcell, rfl⟩ ?_
  rw [har]
  have hfs : (("self" : Str) == f) = false := by
    have := (List.nodup_cons.mp S.nd).1
    simpa using fun e => this (by rw [e]; simp)
  refine wpAny_loadName_local (v := .ref a) S.kind (S.par _ (by simp)) hns (by simp [List.lookup, hfs]) ?_
  obtain ⟨oC, hC1, hC2⟩ : ∃ oC, h₁.get? C = some oC ∧ oC.data = .cls cdC := by
    unfold PySem.W.clsIn at hcl
    split at hcl <;> cases hcl
    rename_i ho
    exact ⟨_, kx1 _ _ ho, rfl⟩
  obtain ⟨t1, ho⟩ := exo_at I1.hok ea
  have It : PySem.W.InstAt h₁ a { cls := .ref C, dict := none, data := .fields #[.ref t1, .none, .none, .none, .bool false, .none] } C none := ⟨ho, rfl, rfl, trivial⟩
  refine ks_wpAny_isType_cls hC1 hC2 ⟨rfl, ?_⟩
  refine ks_wpAny_call_super hC1 hC2 ho rfl (fun c e => by cases e) (PySem.W.looks_mroIn kx1 hself) (fun h2 hso k2 => ?_)
  have kx2 : K.In h2 := kx1.keeps k2
  have I2 := I1.kept (h' := h2) (t' := s.toks + 2) k2
  have It2 : PySem.W.InstAt h2 a { cls := .ref C, dict := none, data := .fields #[.ref t1, .none, .none, .none, .bool false, .none] } C none := ⟨k2 _ _ ho, rfl, rfl, trivial⟩
  have hal : PySem.W.alongIn K "__init__" ((cdC.mro.dropWhile (· != .ref C)).drop 1) = some (some (.builtin "ValueError.__init__")) := by
    unfold PySem.W.ks_superIn at hm; rw [hcl] at hm; exact hm
  refine PySem.W.kxs_getMethod PySem.W.kxs_ValueError hso (PySem.W.looks_opaque kx2 hop) (l₀ := cdC.mro) (fun A Q E s k q => wpAny_bind ((PySem.W.looks_clsIn kx2 hcl) A _ E s k (wpAny_pure q))) rfl kx2 hal
    (It2.type.andThen (PySem.W.looks_subIn kx2 hB)) (PySem.W.ks_ne kx2 It2 hcl) rfl ?_
  obtain ⟨h3, hh3⟩ : ∃ h3, h3 = h2.push (PySem.W.kxs_mw "ValueError.__init__" a) := ⟨_, rfl⟩
  obtain ⟨mw, hmw⟩ : ∃ mw, mw = h2.objs.size := ⟨_, rfl⟩
  have k3 : ∀ b o, h2.get? b = some o → h3.get? b = some o := fun b o e => by rw [hh3]; exact Heap.get?_push_of_some _ e
  have hm3 : h3.get? mw = some (PySem.W.kxs_mw "ValueError.__init__" a) := by rw [hh3, hmw]; exact Heap.get?_push_at rfl rfl
  rw [← hh3, ← hmw]
  have hmwH : H mw = none := I2.hok.fresh (Nat.le_of_eq hmw.symm)
  have hmwL : mw ≠ s.heap.objs.size := by
    have : s.heap.objs.size < h2.objs.size := I2.lt
    omega
  have I3 := (I2.kept (h' := h3) (t' := s.toks + 2 + 1) k3).pins_of (pins' := [(mw, PySem.W.kxs_mw "ValueError.__init__" a)]) fun p hp => by
    rw [List.mem_singleton] at hp; subst hp
    exact ⟨hm3, hmwH, hmwL, I2.nofs (Nat.le_of_eq hmw.symm), fun v z => by cases z⟩
  have hN1 : (ncx CX P w K mg base ["self", f, "__class__"] F fI A outer s H E).N[1]? = some f := rfl
  have hN0 : (ncx CX P w K mg base ["self", f, "__class__"] F fI A outer s H E).N[0]? = some ("self" : Str) := rfl
  have pv1 : ∀ p, PE (ncx CX P w K mg base ["self", f, "__class__"] F fI A outer s H E) (.Name f p) (tVar 1) := fun p => pe_var hN1 (.inl (S.par _ (by simp))) hf1 hf2
  have pv0 : ∀ p, PE (ncx CX P w K mg base ["self", f, "__class__"] F fI A outer s H E) (.Name "self" p) (tVar 0) := fun p => pe_var hN0 (.inl (S.par _ (by simp)))
  have pa : PA (ncx CX P w K mg base ["self", f, "__class__"] F fI A outer s H E) [.Name f p3] (tCons (tVar 1) tNil) := pa_cons (pv1 p3) pa_nil
  refine PySem.W.kxs_callWith (i := "ValueError.__init__") (x := a) (args := backTo p4 (starEach [.Name f p3] (envF F fI s.heap.objs.size))) (by rfl) (PySem.Calls.evalArgs_plain (thn (pa.run p4 _ _ _ _ (fun vs H' => vs = [y] ∧ H' = H) I3 ⟨y, rfl, rfl, rfl⟩) fun us1 s1 hh => ?_))
  obtain ⟨vs1, H1, J, r1, rfl, rfl⟩ := hh
  have hm1 := (J.pin (mw, PySem.W.kxs_mw "ValueError.__init__" a) (by simp)).1
  refine ⟨hm1, ?_⟩
  have hus : us1.length ≤ sizeLine := by rw [← r1.length, sizeLine_eq]; simp
  refine mw_call (X := ncx CX P w K mg base ["self", f, "__class__"] F fI A outer s H1 E) T J ea hm1 hus fun s2 J2 => ?_
  have I4 : Inv (ncx CX P w K mg base ["self", f, "__class__"] F fI A outer s H1 E) [] _ H1 s2 := ⟨J2.ok, J2.os, J2.bare, J2.base, J2.loc, J2.cell, J2.free, J2.freeC, fun p hp => J2.pin p (List.mem_append_left _ (by rw [List.append_nil] at hp; exact hp)), J2.hok, J2.len⟩
  refine wpAt_of_wpAny ?_
  have st : PSs (ncx CX P w K mg base ["self", f, "__class__"] F fI A outer s H1 E) [.Assign [.Attribute (.Name "self" p6) f p7] (.Name f p8) p9] (tOst K f (tVar 0) (tVar 1)) := pss_one (ps_ost (pv0 p6) (pv1 p8))
  refine wpAny_mono (st.run [] s2 _ H1 { nx := fun _ H' => Q .non H', rt := Q, bk := fun _ _ => False, ct := fun _ _ => False } I4 ⟨y, rfl, .ref a, rfl, a, C, rfl, T, hno, .inl ⟨ea, fun dx n ne => hq dx n ne⟩⟩) (fun fl s' hs => ?_) (fun e s' h => h)
  have fin : ∀ {σ' : L2.St} {H' : Hp} {v : V} {z : Value}, Inv (ncx CX P w K mg base ["self", f, "__class__"] F fI A outer s H1 E) [] σ' H' s' → L2.RelV v z → Q v H' → L2.CE outer P w H1 s Q z s' :=
    fun {σ' H' v z} J rv q => ⟨v, H', J.os, J.bare, J.base, J.hok, rv, q⟩
  cases fl with
  | next => obtain ⟨σ', H', J, q⟩ := hs; exact fin (v := V.non) (z := Value.none) J rfl q
  | ret z => obtain ⟨v, σ', H', J, rv, q⟩ := hs; exact fin J rv q
  | brk => obtain ⟨_, _, _, q⟩ := hs; exact q.elim
  | cont => obtain ⟨_, _, _, q⟩ := hs; exact q.elim
end
end PB

set_option Elab.async false
set_option linter.all false
set_option maxRecDepth 100000
set_option maxHeartbeats 2000000
namespace PB
open PySem PySem.Spec PyProof.Rows L2
section
variable {X : Cx} {C : Addr} {bmB : List Value} {B newId initId : String} {x : Str} {p pos : Pos}
/-- C(), an own class of exceptions -/
theorem pmk_own0 (F : ExcBaseFacts B newId initId bmB) (q : PySem.W.excIn X.K C bmB newId = true) (gC : X.mg x = some (.ref C)) (kC : PySem.W.keepIn X.K (.ref C) = true) (r : Raises X (.ref C)) (hg : Gl X x)
    (hdb : (x == ("__debug__" : Str)) = false := by decide) : PMk X (.Call (.Name x p) [] [] pos) (fun _ H Q => Q (.ref C) none H) := fun pins st sl H Q J hq => by
  refine wpAny_Call_Name_kw (ld_glob J hg gC (PySem.W.callWith_K0 J.kIn kC ?_) hdb)
  obtain ⟨_, _, _, _, _, _, _, _, _, _, _, _, _, _, _, _, _, hC, hN, hni, T⟩ := exc_obj J.kIn q
  exact wpAny_call_exc_subT F T hC hN hni (fun h' e hm => mk_of J hm r hq (J.hok.gone hm.new)) (Nat.zero_le _)
end
/-! ### try: body; except C1 as e: ..; except C2 as e: .. -/
abbrev HdT := Value × Nat × (Addr → Value → Option Addr → TS)
/-- what an except suite comes to: the name goes -/
def endsAs (D : Ends) (i : Nat) : Ends := { nx := fun sl G => D.nx (sl.set i none) G, rt := D.rt, bk := fun sl G => D.bk (sl.set i none) G, ct := fun sl G => D.ct (sl.set i none) G }
def wManyAs (K : PySem.W.Frag) (Wout : WX) (D : Ends) : List HdT → WX
  | [] => Wout
  | (c, i, ts) :: r => fun cls d sl G => ∃ b, PySem.W.exmOne K cls c = some b ∧ (b = true → ∀ e, G e = none → ts e cls d (endsAs D i) (sl.set i (some (.ref e))) G) ∧ (b = false → wManyAs K Wout D r cls d sl G)
inductive HdsAs (X : Cx) : List ExceptHandler → List HdT → Prop
  | nil : HdsAs X [] []
  | cons {x n : Str} {c : Value} {i : Nat} {ts : Addr → Value → Option Addr → TS} {b0 : Stmt} {suite : List Stmt} {np pos' : Pos} {hds : List ExceptHandler} {l : List HdT} (hc : Names X x c) (hi : X.N[i]? = some n) (hln : X.env.kindOf n = some .local)
      (hsu : ∀ (e : Addr) (oe : Obj) (cls : Value) (d : Option Addr) (pn : List (Addr × Obj)), Zc cls d oe → (∃ vs, oe.data = .fields vs) → PSs (X.suite e ((e, oe) :: pn)) (b0 :: suite) (ts e cls d)) (r : HdsAs X hds l) :
      HdsAs X (.ExceptHandler (some (.Name x np)) (some n) (b0 :: suite) pos' :: hds) ((c, i, ts) :: l)
section
variable {X : Cx} {body : List Stmt} {hd0 : ExceptHandler} {hds : List ExceptHandler} {l : List HdT} {pos : Pos} {tb : WX → TS} {Wout : WX}
theorem ps_try_manyAs (hst : X.stack = X.env :: X.outer) (hfr : X.env.frame = some X.env.locals) (hN : X.N.Nodup) (tk : Takes X Wout)
    (hbody : ∀ (W : WX) (pn : List (Addr × Obj)) (xe : Value → Shared → Prop), Takes (X.tr pn xe) W → PassesOwn (model X.prog X.w) X.A X.env xe → PSs (X.tr pn xe) body (tb W))
    (hhs : HdsAs X (hd0 :: hds) l) : PS X (.Try body (hd0 :: hds) [] [] pos) (fun D sl G => tb (wManyAs X.K Wout D l) D sl G) := by
  refine ⟨fun pins st sl G D J hq => ?_⟩
  have ok := J.ok
  have hfs : X.A.frames = some (X.env :: X.outer) := by rw [ok.frames, hst]
  refine wpAny_Try_except ?_
  let xe1 : Value → Shared → Prop := fun e s1 => wpAny (model X.prog X.w) X.A (noteFrame e X.env) (fun _ s2 => wpAny (model X.prog X.w) X.A (setFlight e none) (fun _ s3 => wpAny (model X.prog X.w) X.A (handleBy e X.env (hd0 :: hds)) (SP X pins D) X.xe s3) X.xe s2) X.xe s1
  have caught : Takes (X.tr (X.pn ++ pins) xe1) (wManyAs X.K Wout D l) := fun u z xx => by
    obtain ⟨ex, Bs, zI, pins2, sl2, G2, cls, d, rfl, J2, nb, up, sky, na, os, ag, w⟩ := xx
    have J3 : Inv X pins sl2 G2 zI := J2.ofTry ok
    have sky2 : Sky Bs (X.env :: X.outer) ex (Zc cls d) X.env.locals z.heap := by rw [← hst]; exact sky
    show wpAny _ X.A (noteFrame (.ref ex) X.env) _ _ _
    refine Sky.land Zc.steady hfs hfr sky2 fun q3 fl3 up3 => ?_
    have J4 : Inv X pins sl2 G2 { z with heap := q3 } := J3.landed nb fl3.1 (up.trans up3) os ag
    obtain ⟨o3, v3, he3, hz3, hd3⟩ := fl3.there
    have nfr : ex ∉ frs (X.env :: X.outer) := fun hm => by
      obtain ⟨_, o4, e4, hnf⟩ := fl3.2.2.1.mem hm
      rw [he3] at e4
      cases e4; exact hnf _ hd3
    have nL : ex ≠ X.env.locals := fun z => nfr (List.mem_filterMap.mpr ⟨X.env, List.mem_cons_self, hfr.trans (congrArg some z.symm)⟩)
    have nF : ex ∉ X.fs := fun hm => by
      obtain ⟨e, he, q⟩ := List.mem_filterMap.mp hm
      exact nfr (List.mem_filterMap.mpr ⟨e, .tail _ he, q⟩)
    have S3 := J4.suite he3 hd3 na nL nF
    have LT : PySem.W.Looks (model X.prog X.w) q3 (typeOf (.ref ex)) cls := fun A Q E s k q => wpAny_typeOf_ref (k _ _ he3) (by rw [hz3.1]; exact q)
    have go : ∀ {hs2 : List ExceptHandler} {l2 : List HdT}, HdsAs X hs2 l2 → wManyAs X.K Wout D l2 cls d sl2 G2 → wpAny (model X.prog X.w) X.A (handleBy (.ref ex) X.env hs2) (SP X pins D) X.xe { z with heap := q3 } := by
      intro hs2 l2 hk
      induction hk with
      | nil =>
        refine fun w => wpAny_handleBy_nil ?_
        obtain ⟨_, _, _, oe, vs, Tb, _, _, he, _, hdt, h1, _⟩ := id fl3
        unfold PySem.passOn
        refine wpAny_bind (wpAny_field he hdt h1 ?_)
        rw [if_neg (show ¬ ((Value.ref Tb == Value.none) = true) from by simp)]
        have last : wpAny (model X.prog X.w) X.A (setFlight (.ref ex) X.env.frame) (fun _ s4 => wpAny (model X.prog X.w) X.A (throw (.ref ex) : Sem Flow) (SP X pins D) X.xe s4) X.xe { z with heap := q3 } := by
          rw [hfr]
          exact HandSPX.setFlight_upZ fl3 fun q4 hh4 up4 => wpAny_throw (tk _ _ ⟨ex, Bs, zI, pins, sl2, G2, cls, d, rfl, J3, nb, (up.trans up3).trans up4, .inr (.inr (by rw [hst]; exact hh4)), na, os, ag, w⟩)
        first
          | exact wpAny_bind (wpAny_pure (wpAny_bind last))
          | exact wpAny_bind last
      | @cons x n c i ts b0 suite np pos' hs3 l3 hc hi hln hsu r ih =>
        rintro ⟨b, hb1, hyes, hno⟩
        refine wpAny_handleBy_cons (codeAny_handlers_test ?_) (by intro q; cases q)
        have LM := PySem.W.exm_one (M := model X.prog X.w) J4.kIn LT hb1
        have test : ∀ {Q : Value → Shared → Prop} {E : Value → Shared → Prop}, Q c { z with heap := q3 } → wpAny (model X.prog X.w) (X.A.mark (some (.ref ex))) (eval (.Name x np) X.env) Q E { z with heap := q3 } := fun {Q E} q => by
          obtain ⟨hg, hdbg, hm | ⟨hm, hv, hnn⟩⟩ := hc
          · exact ld_glob (X := X.suite ex ((ex, o3) :: (X.pn ++ pins))) S3 hg hm q hdbg
          · exact ld_blt (X := X.suite ex ((ex, o3) :: (X.pn ++ pins))) S3 hg hm hv q hnn hdbg
        refine test (LM.here ?_)
        cases b with
        | false => exact ih (hno rfl)
        | true =>
          refine codeAny_handlers_suite_as (HandSPX.lands_againZ fl3 fun q4 fl4 up4 => ?_)
          have J5 : Inv X pins sl2 G2 { z with heap := q4 } := J3.landed nb fl4.1 ((up.trans up3).trans up4) os ag
          obtain ⟨o4, v4, he4, hz4, hd4⟩ := fl4.there
          have S4 := J5.suite he4 hd4 na nL nF
          refine store_ok (X := X.suite ex ((ex, o4) :: (X.pn ++ pins))) (v := .ref ex) S4 hN hi (.inl hln) rfl (fun s5 S5 => ?_) (.inr hln)
          refine wpAny_mono ((hsu ex o4 cls d (X.pn ++ pins) hz4 ⟨_, hd4⟩).run [] s5 _ G2 _ S5 (hyes rfl ex na)) (fun f s6 hsp => ?_) (fun _ _ z => z.elim)
          have over : ∀ {sl6 : L2.St} {G6 : Hp} {Q : Shared → Prop}, Inv (X.suite ex ((ex, o4) :: (X.pn ++ pins))) [] sl6 G6 s6 → (∀ s7, Inv X pins (sl6.set i none) G6 s7 → Q s7) →
              wpAny (model X.prog X.w) X.A (do bindName X.env n .none; unbindBehindTheSuite X.env n pos') (fun _ s7 => Q s7) X.xe s6 := fun {sl6 G6 Q} S6 hq => gone_ok (S6.unsuite ok) hN hi hln hq
          cases f with
          | next => obtain ⟨_, _, S6, q6⟩ := hsp; exact over S6 fun s7 J7 => ⟨_, _, J7, q6⟩
          | brk => obtain ⟨_, _, S6, q6⟩ := hsp; exact over S6 fun s7 J7 => ⟨_, _, J7, q6⟩
          | cont => obtain ⟨_, _, S6, q6⟩ := hsp; exact over S6 fun s7 J7 => ⟨_, _, J7, q6⟩
          | ret u => obtain ⟨_, _, _, S6, r6, q6⟩ := hsp; exact over S6 fun s7 J7 => ⟨_, _, _, J7, r6, q6⟩
    exact go hhs w
  refine wpAny_mono ((hbody (wManyAs X.K Wout D l) (X.pn ++ pins) xe1 caught PassesOwn.looking).run [] st sl G D (J.toTry _) hq) (fun f s1 hsp => ?_) (fun e s1 he => he)
  cases f with
  | next => obtain ⟨_, _, J7, q⟩ := hsp; exact wpAny_execs_nil ⟨_, _, J7.ofTry ok, q⟩
  | brk => obtain ⟨_, _, J7, q⟩ := hsp; exact ⟨_, _, J7.ofTry ok, q⟩
  | cont => obtain ⟨_, _, J7, q⟩ := hsp; exact ⟨_, _, J7.ofTry ok, q⟩
  | ret u => obtain ⟨_, _, _, J7, r, q⟩ := hsp; exact ⟨_, _, _, J7.ofTry ok, r, q⟩
end
end PB

set_option Elab.async false
set_option linter.all false
set_option maxRecDepth 100000
set_option maxHeartbeats 2000000
namespace PB
open PySem PySem.Spec L2
/-! ### codes that raise nothing -/
section
variable (C : Nat → Bool)
mutual
def calmE : CE → Bool
  | .var _ => true
  | .con _ => true
  | .bin _ a b => calmE a && calmE b
  | .neg a => calmE a
  | .not a => calmE a
  | .and a b => calmE a && calmE b
  | .or a b => calmE a && calmE b
  | .cmp _ a b => calmE a && calmE b
  | .chn _ _ a b c => calmE a && calmE b && calmE c
  | .ite c a b => calmE c && calmE a && calmE b
  | .tup es => calmA es
  | .lst es => calmA es
  | .idx a b => calmE a && calmE b
  | .slc a lo hi => calmE a && calmO lo && calmO hi
  | .rev a => calmE a
  | .two a k => calmE a && calmO k
  | .call f es => C f && calmA es
  | .callv _ _ => false
  | .blt _ es => calmA es
  | .mth _ o es => calmE o && calmA es
  | .comp e _ tg it c => calmE e && calmT tg && calmI it && calmO c
  | .xfld _ _ => true
  | .xis _ _ => true
  | .lam _ _ => false
def calmA : CA → Bool
  | .nil => true
  | .cons e r => calmE e && calmA r
  | .star e r => calmE e && calmA r
def calmO : CO → Bool
  | .none => true
  | .some e => calmE e
def calmI : CI → Bool
  | .seq e => calmE e
  | .rng1 es => calmA es
  | .rng2 es => calmA es
  | .rng3 es => calmA es
  | .enu es => calmA es
  | .zip es => calmA es
def calmT : CT → Bool
  | .v _ => true
  | .s o i => calmE o && calmE i
  | .nil => true
  | .cons a r => calmT a && calmT r
end
mutual
def calmS : CS → Bool
  | .asg t e => calmT C t && calmE C e
  | .par _ es => calmA C es
  | .aug _ _ e => calmE C e
  | .expr e => calmE C e
  | .ret e => calmE C e
  | .retN => true
  | .ifs c a b => calmE C c && calmB a && calmB b
  | .whl c b => calmE C c && calmB b
  | .for_ t it b => calmT C t && calmI C it && calmB b
  | .brk => true
  | .cnt => true
  | .pass => true
  | .raise _ _ => false
  | .try_ b _ => calmB b
def calmB : CB → Bool
  | .nil => true
  | .cons s r => calmS s && calmB r
end
end
def NX {α : Type} (x : Res α) : Prop := ∀ c v h, x ≠ .exc c v h
theorem nx_ok {α : Type} {a : α} {h : PH} : NX (Res.ok a h) := fun _ _ _ e => by cases e
theorem nx_bad {α : Type} : NX (Res.bad : Res α) := fun _ _ _ e => by cases e
theorem nx_bind {α β : Type} {x : Res α} {f : α → PH → Res β} (hx : NX x) (hf : ∀ a h, NX (f a h)) : NX (x.bind f) := by
  cases x with
  | ok a h => exact hf a h
  | bad => exact nx_bad
  | exc c v h => exact absurd rfl (hx c v h)
theorem nx_if {α : Type} {p : Prop} [Decidable p] {x y : Res α} (hx : NX x) (hy : NX y) : NX (if p then x else y) := by split <;> assumption
theorem bindX_exc {α β : Type} {x : Res α} {f : α → PH → Res β} {c : Nat} {v : PV} {h : PH} (e : x.bind f = .exc c v h) : x = .exc c v h ∨ ∃ a h1, x = .ok a h1 ∧ f a h1 = .exc c v h := by
  cases x with
  | ok a h1 => exact .inr ⟨a, h1, rfl, e⟩
  | exc c v h1 => left; simpa [Res.bind] using e
  | bad => cases e
theorem nx_alloc {xs : List PV} {h : PH} : NX (alloc xs h) := nx_ok
theorem nx_binop {op : BinO} {a b : PV} {h : PH} : NX (binop op a b h) := by
  intro c v h1 e
  unfold binop at e
  split at e <;> (try cases e; done) <;> (try (split at e <;> (try cases e; done)) ) <;> (try (split at e <;> (try cases e; done))) <;> (try (unfold alloc at e; cases e; done))
theorem nx_cmpop {op : CmpO} {a b : PV} {h : PH} : NX (cmpop op a b h) := by
  intro c v h1 e
  unfold cmpop at e
  split at e <;> (try cases e; done) <;> (try (split at e <;> (try cases e; done)) ) <;> (try (split at e <;> (try cases e; done)))
theorem nx_idxop {a b : PV} {h : PH} : NX (idxop a b h) := by
  intro c v h1 e
  unfold idxop at e
  split at e <;> (try cases e; done) <;> (try (split at e <;> (try cases e; done)) )
theorem nx_slcop {a : PV} {lo hi : Option Int} {h : PH} : NX (slcop a lo hi h) := by
  intro c v h1 e
  unfold slcop at e
  split at e <;> (try cases e; done) <;> (try (split at e <;> (try cases e; done)) ) <;> (try (unfold alloc at e; cases e; done))
theorem nx_revop {a : PV} {h : PH} : NX (revop a h) := by
  intro c v h1 e
  unfold revop at e
  split at e <;> (try cases e; done) <;> (try (split at e <;> (try cases e; done)) ) <;> (try (unfold alloc at e; cases e; done))
theorem nx_twoop {a : PV} {k : Option Int} {h : PH} : NX (twoop a k h) := by
  intro c v h1 e
  unfold twoop at e
  split at e <;> (try cases e; done) <;> (try (split at e <;> (try cases e; done)) )
theorem nx_optI {o : Option PV} {h : PH} : NX (optI h o) := by
  intro c v h1 e
  unfold optI at e
  split at e <;> cases e
theorem nx_blt {b : Blt} {xs : List PV} {h : PH} : NX (blt b xs h) := by
  intro c v h1 e
  unfold blt at e
  split at e <;> (try cases e; done) <;> (try (split at e <;> (try cases e; done)) ) <;> (try (split at e <;> (try cases e; done))) <;> (try (unfold alloc at e; cases e; done))
theorem nx_mth {m : Mth} {a : PV} {xs : List PV} {h : PH} : NX (mth m a xs h) := by
  intro c v h1 e
  unfold mth at e
  split at e <;> (try cases e; done) <;> (try (split at e <;> (try cases e; done)) ) <;> (try (split at e <;> (try cases e; done)))
theorem nx_setop {o i v : PV} {h : PH} : NX (setop o i v h) := by
  intro c w h1 e
  unfold setop at e
  split at e <;> (try cases e; done) <;> (try (split at e <;> (try cases e; done)) ) <;> (try (split at e <;> (try cases e; done)))
theorem nx_compL {f : PV → PH → Res (Option PV)} {l : Lean_} (hf : ∀ x h, NX (f x h)) : ∀ xs h, NX (compL f l xs h)
  | [], h => by rw [compL]; exact nx_if nx_ok nx_bad
  | x :: r, h => by rw [compL]; exact nx_if (nx_bind (hf x h) fun y h1 => nx_bind (nx_compL hf r h1) fun _ _ => nx_ok) nx_bad
section
variable {C : Nat → Bool} {cf : Nat → List PV → PH → Res PV}
/-- the defs of C raise nothing -/
def CalmF (C : Nat → Bool) (cf : Nat → List PV → PH → Res PV) : Prop := ∀ i, C i = true → ∀ xs h, NX (cf i xs h)
variable (hC : CalmF C cf)
include hC
mutual
theorem evE_nx : ∀ (e : CE) (s : Sl) (h : PH), calmE C e = true → NX (evE cf e s h)
  | .var i, s, h, _ => by rw [evE]; split <;> first | exact nx_ok | exact nx_bad
  | .con v, s, h, _ => by rw [evE]; exact nx_ok
  | .bin op a b, s, h, p => by
    simp only [calmE, Bool.and_eq_true] at p
    rw [evE]; exact nx_bind (evE_nx a s h p.1) fun x h1 => nx_bind (evE_nx b s h1 p.2) fun y h2 => nx_binop
  | .neg a, s, h, p => by
    simp only [calmE] at p
    rw [evE]; exact nx_bind (evE_nx a s h p) fun x h1 => by split <;> first | exact nx_ok | exact nx_bad
  | .not a, s, h, p => by
    simp only [calmE] at p
    rw [evE]; exact nx_bind (evE_nx a s h p) fun x h1 => by split <;> first | exact nx_ok | exact nx_bad
  | .and a b, s, h, p => by
    simp only [calmE, Bool.and_eq_true] at p
    rw [evE]; exact nx_bind (evE_nx a s h p.1) fun x h1 => by split <;> first | exact evE_nx b s h1 p.2 | exact nx_ok | exact nx_bad
  | .or a b, s, h, p => by
    simp only [calmE, Bool.and_eq_true] at p
    rw [evE]; exact nx_bind (evE_nx a s h p.1) fun x h1 => by split <;> first | exact evE_nx b s h1 p.2 | exact nx_ok | exact nx_bad
  | .cmp op a b, s, h, p => by
    simp only [calmE, Bool.and_eq_true] at p
    rw [evE]; exact nx_bind (evE_nx a s h p.1) fun x h1 => nx_bind (evE_nx b s h1 p.2) fun y h2 => nx_cmpop
  | .chn op op' a b c, s, h, p => by
    simp only [calmE, Bool.and_eq_true] at p
    rw [evE]
    exact nx_bind (evE_nx a s h p.1.1) fun x h1 => nx_bind (evE_nx b s h1 p.1.2) fun y h2 => nx_bind nx_cmpop fun r h3 => by
      split <;> first | exact nx_bind (evE_nx c s h3 p.2) fun _ _ => nx_cmpop | exact nx_ok | exact nx_bad
  | .ite c a b, s, h, p => by
    simp only [calmE, Bool.and_eq_true] at p
    rw [evE]; exact nx_bind (evE_nx c s h p.1.1) fun x h1 => by split <;> first | exact evE_nx a s h1 p.1.2 | exact evE_nx b s h1 p.2 | exact nx_bad
  | .tup es, s, h, p => by
    simp only [calmE] at p
    rw [evE]; exact nx_bind (evA_nx es s h p) fun x h1 => nx_if nx_ok nx_bad
  | .lst es, s, h, p => by
    simp only [calmE] at p
    rw [evE]; exact nx_bind (evA_nx es s h p) fun x h1 => nx_if nx_alloc nx_bad
  | .idx a b, s, h, p => by
    simp only [calmE, Bool.and_eq_true] at p
    rw [evE]; exact nx_bind (evE_nx a s h p.1) fun x h1 => nx_bind (evE_nx b s h1 p.2) fun y h2 => nx_idxop
  | .slc a lo hi, s, h, p => by
    simp only [calmE, Bool.and_eq_true] at p
    rw [evE]
    exact nx_bind (evE_nx a s h p.1.1) fun x h1 => nx_bind (evO_nx lo s h1 p.1.2) fun l h2 => nx_bind (evO_nx hi s h2 p.2) fun u h3 => nx_bind nx_optI fun _ _ => nx_bind nx_optI fun _ _ => nx_slcop
  | .rev a, s, h, p => by
    simp only [calmE] at p
    rw [evE]; exact nx_bind (evE_nx a s h p) fun x h1 => nx_revop
  | .two a k, s, h, p => by
    simp only [calmE, Bool.and_eq_true] at p
    rw [evE]; exact nx_bind (evE_nx a s h p.1) fun x h1 => nx_bind (evO_nx k s h1 p.2) fun l h2 => nx_bind nx_optI fun _ _ => nx_twoop
  | .call f es, s, h, p => by
    simp only [calmE, Bool.and_eq_true] at p
    rw [evE]; exact nx_bind (evA_nx es s h p.2) fun xs h1 => hC f p.1 xs h1
  | .callv i es, s, h, p => by simp [calmE] at p
  | .blt b es, s, h, p => by
    simp only [calmE] at p
    rw [evE]; exact nx_bind (evA_nx es s h p) fun x h1 => nx_blt
  | .mth m o es, s, h, p => by
    simp only [calmE, Bool.and_eq_true] at p
    rw [evE]; exact nx_bind (evE_nx o s h p.1) fun x h1 => nx_bind (evA_nx es s h1 p.2) fun y h2 => nx_mth
  | .comp e own tg it c, s, h, p => by
    simp only [calmE, Bool.and_eq_true] at p
    rw [evE]
    refine nx_bind (evI_nx it s h p.1.2) fun q h1 => nx_if (nx_bind (nx_compL (fun x h2 => ?_) _ _) fun _ _ => nx_alloc) nx_bad
    refine nx_bind (asT_nx tg x _ h2 p.1.1.2) fun s3 h3 => nx_bind (evO_nx c s3 h3 p.2) fun t h4 => ?_
    split
    · exact nx_ok
    · exact nx_bind (evE_nx e s3 h4 p.1.1.1) fun _ _ => nx_ok
    · exact nx_bind (evE_nx e s3 h4 p.1.1.1) fun _ _ => nx_ok
    · exact nx_bad
  | .xfld i f, s, h, _ => by rw [evE]; split <;> first | exact nx_if nx_ok nx_bad | exact nx_bad
  | .xis i cs, s, h, _ => by rw [evE]; split <;> first | exact nx_ok | exact nx_bad
  | .lam _ _, s, h, hc => by cases hc
theorem evA_nx : ∀ (es : CA) (s : Sl) (h : PH), calmA C es = true → NX (evA cf es s h)
  | .nil, s, h, _ => by rw [evA]; exact nx_ok
  | .cons e r, s, h, p => by
    simp only [calmA, Bool.and_eq_true] at p
    rw [evA]; exact nx_bind (evE_nx e s h p.1) fun x h1 => nx_bind (evA_nx r s h1 p.2) fun _ _ => nx_ok
  | .star e r, s, h, p => by
    simp only [calmA, Bool.and_eq_true] at p
    rw [evA]; exact nx_bind (evE_nx e s h p.1) fun x h1 => by
      split
      · exact nx_bind (evA_nx r s h1 p.2) fun _ _ => nx_ok
      · exact nx_bad
theorem evO_nx : ∀ (o : CO) (s : Sl) (h : PH), calmO C o = true → NX (evO cf o s h)
  | .none, s, h, _ => by rw [evO]; exact nx_ok
  | .some e, s, h, p => by
    simp only [calmO] at p
    rw [evO]; exact nx_bind (evE_nx e s h p) fun x h1 => nx_ok
theorem evI_nx : ∀ (o : CI) (s : Sl) (h : PH), calmI C o = true → NX (evI cf o s h)
  | .seq e, s, h, p => by
    simp only [calmI] at p
    rw [evI]; exact nx_bind (evE_nx e s h p) fun x h1 => by split <;> first | exact nx_ok | exact nx_bad
  | .rng1 e, s, h, p => by
    simp only [calmI] at p
    rw [evI]; exact nx_bind (evA_nx e s h p) fun x h1 => by split <;> first | exact nx_if nx_ok nx_bad | exact nx_bad
  | .rng2 e, s, h, p => by
    simp only [calmI] at p
    rw [evI]; exact nx_bind (evA_nx e s h p) fun x h1 => by split <;> first | exact nx_if nx_ok nx_bad | exact nx_bad
  | .rng3 e, s, h, p => by
    simp only [calmI] at p
    rw [evI]; exact nx_bind (evA_nx e s h p) fun x h1 => by split <;> first | exact nx_if nx_ok nx_bad | exact nx_bad
  | .enu e, s, h, p => by
    simp only [calmI] at p
    rw [evI]; exact nx_bind (evA_nx e s h p) fun x h1 => by
      split
      · split <;> first | exact nx_ok | exact nx_bad
      · exact nx_bad
  | .zip e, s, h, p => by
    simp only [calmI] at p
    rw [evI]; exact nx_bind (evA_nx e s h p) fun x h1 => by
      split
      · split <;> first | exact nx_ok | exact nx_bad
      · exact nx_bad
theorem asT_nx : ∀ (t : CT) (x : PV) (s : Sl) (h : PH), calmT C t = true → NX (asT cf t x s h)
  | .v i, x, s, h, _ => by rw [asT]; exact nx_ok
  | .s o i, x, s, h, p => by
    simp only [calmT, Bool.and_eq_true] at p
    rw [asT]; exact nx_bind (evE_nx o s h p.1) fun ov h1 => nx_bind (evE_nx i s h1 p.2) fun iv h2 => nx_bind nx_setop fun _ _ => nx_ok
  | .nil, x, s, h, _ => by unfold asT; split <;> first | exact nx_ok | exact nx_bad
  | .cons a r, x, s, h, p => by
    simp only [calmT, Bool.and_eq_true] at p
    unfold asT
    split
    · exact nx_bind (asT_nx a _ s h p.1) fun s1 h1 => asTs_nx r _ s1 h1 p.2
    · exact nx_bind (asT_nx a _ s h p.1) fun s1 h1 => asTs_nx r _ s1 h1 p.2
    · split
      · exact nx_bind (asT_nx a _ s h p.1) fun s1 h1 => asTs_nx r _ s1 h1 p.2
      · exact nx_bad
    · exact nx_bad
theorem asTs_nx : ∀ (t : CT) (xs : List PV) (s : Sl) (h : PH), calmT C t = true → NX (asTs cf t xs s h)
  | .cons a r, x :: xs, s, h, p => by
    simp only [calmT, Bool.and_eq_true] at p
    rw [asTs]; exact nx_bind (asT_nx a x s h p.1) fun s1 h1 => asTs_nx r xs s1 h1 p.2
  | .nil, [], s, h, _ => by rw [asTs]; exact nx_ok
  | .nil, _ :: _, s, h, _ => by simp only [asTs]; exact nx_bad
  | .cons _ _, [], s, h, _ => by simp only [asTs]; exact nx_bad
  | .v _, _, s, h, _ => by simp only [asTs]; exact nx_bad
  | .s _ _, _, s, h, _ => by simp only [asTs]; exact nx_bad
end
end
theorem whL_nx {c : Sl → PH → Res PV} {b : Sl → PH → Res Fl} (hc : ∀ s h, NX (c s h)) (hb : ∀ s h, NX (b s h)) : ∀ n s h, NX (whL c b n s h)
  | 0, s, h => by rw [whL]; exact nx_bad
  | n + 1, s, h => by
    rw [whL]
    refine nx_bind (hc s h) fun x h1 => ?_
    split
    · exact nx_bind (hb s h1) fun f h2 => by split <;> first | exact whL_nx hc hb n _ _ | exact nx_ok
    · exact nx_ok
    · exact nx_bad
theorem frL_nx {g : PV → Sl → PH → Res Sl} {b : Sl → PH → Res Fl} {l : Lean_} (hg : ∀ x s h, NX (g x s h)) (hb : ∀ s h, NX (b s h)) : ∀ xs s h, NX (frL g b l xs s h)
  | [], s, h => by rw [frL]; exact nx_if nx_ok nx_bad
  | x :: r, s, h => by
    rw [frL]
    exact nx_if (nx_bind (hg x s h) fun s1 h1 => nx_bind (hb s1 h1) fun f h2 => by split <;> first | exact frL_nx hg hb r _ _ | exact nx_ok) nx_bad
section
variable {C : Nat → Bool} {cf : Nat → List PV → PH → Res PV} (hC : CalmF C cf)
include hC
mutual
theorem evS_nx : ∀ (c : CS) (s : Sl) (h : PH), calmS C c = true → NX (evS cf c s h)
  | .asg t e, s, h, p => by
    simp only [calmS, Bool.and_eq_true] at p
    rw [evS]; exact nx_bind (evE_nx hC e s h p.2) fun x h1 => nx_bind (asT_nx hC t x s h1 p.1) fun _ _ => nx_ok
  | .par is es, s, h, p => by
    simp only [calmS] at p
    rw [evS]; exact nx_bind (evA_nx hC es s h p) fun x h1 => by split <;> first | exact nx_ok | exact nx_bad
  | .aug i op e, s, h, p => by
    simp only [calmS] at p
    rw [evS]; split
    · exact nx_bind (evE_nx hC e s h p) fun y h1 => nx_if (nx_bind nx_binop fun _ _ => nx_ok) nx_bad
    · exact nx_bad
  | .expr e, s, h, p => by
    simp only [calmS] at p
    rw [evS]; exact nx_bind (evE_nx hC e s h p) fun _ _ => nx_ok
  | .ret e, s, h, p => by
    simp only [calmS] at p
    rw [evS]; exact nx_bind (evE_nx hC e s h p) fun _ _ => nx_ok
  | .retN, s, h, _ => by rw [evS]; exact nx_ok
  | .ifs c a b, s, h, p => by
    simp only [calmS, Bool.and_eq_true] at p
    rw [evS]; exact nx_bind (evE_nx hC c s h p.1.1) fun x h1 => by split <;> first | exact evB_nx a s h1 p.1.2 | exact evB_nx b s h1 p.2 | exact nx_bad
  | .whl c b, s, h, p => by
    simp only [calmS, Bool.and_eq_true] at p
    rw [evS]; exact whL_nx (fun s h => evE_nx hC c s h p.1) (fun s h => evB_nx b s h p.2) _ _ _
  | .for_ t it b, s, h, p => by
    simp only [calmS, Bool.and_eq_true] at p
    rw [evS]; exact nx_bind (evI_nx hC it s h p.1.2) fun q h1 => frL_nx (fun x s h => asT_nx hC t x s h p.1.1) (fun s h => evB_nx b s h p.2) _ _ _
  | .brk, s, h, _ => by rw [evS]; exact nx_ok
  | .cnt, s, h, _ => by rw [evS]; exact nx_ok
  | .pass, s, h, _ => by rw [evS]; exact nx_ok
  | .raise _ _, s, h, p => by simp [calmS] at p
  | .try_ b hs, s, h, p => by
    simp only [calmS] at p
    have hb := evB_nx b s h p
    rw [evS]
    split
    · rename_i e; exact absurd e (hb _ _ _)
    · exact hb
theorem evB_nx : ∀ (c : CB) (s : Sl) (h : PH), calmB C c = true → NX (evB cf c s h)
  | .nil, s, h, _ => by rw [evB]; exact nx_ok
  | .cons st r, s, h, p => by
    simp only [calmB, Bool.and_eq_true] at p
    rw [evB]; exact nx_bind (evS_nx st s h p.1) fun f h1 => by split <;> first | exact evB_nx r _ h1 p.2 | exact nx_ok
end
end
/-- defs whose bodies raise nothing raise nothing -/
theorem calm_all {C : Nat → Bool} {G : Nat → Option Fn} (hG : ∀ i f, C i = true → G i = some f → calmB C f.body = true) : ∀ k, CalmF C (callF G k)
  | 0, i, _, xs, h => by rw [callF]; exact nx_bad
  | k + 1, i, hi, xs, h => by
    rw [callF]
    split
    · exact nx_bad
    · rename_i f hf
      refine nx_if (nx_bind (evB_nx (calm_all hG k) _ _ _ (hG i f hi hf)) fun fl h1 => ?_) nx_bad
      unfold outF
      split <;> first | exact nx_ok | exact nx_bad
end PB

set_option Elab.async false
set_option linter.all false
set_option maxRecDepth 100000
set_option maxHeartbeats 2000000
namespace PB
open PySem PySem.Spec L2
/-! ### readings of what raises -/
/-- the exception that stands for a pure one -/
def XRel (K : PySem.W.Frag) (fa : FA) (c : Nat) (v : PV) (cls : Value) (d : Option Addr) (H : Hp) : Prop := ∃ A, fa.cl c = some A ∧ cls = .ref A ∧
  ((v = .tup [] ∧ d = none) ∨ ∃ (f : Str) (x : PV) (w : V) (dd : Addr), v = .tup [.str f, x] ∧ d = some dd ∧ H dd = some (.xd [(f, w)]) ∧ Con K fa w x ∧ XfC K A ∧ PySem.W.findIn K (.ref A) f = some none)
section
variable (K : PySem.W.Frag) (fa : FA) (cf : Nat → List PV → PH → Res PV) (W : WX)
def tX (c : CE) : TE := fun sg H _ => ∃ io s h cl v h', RS K fa io H sg s ∧ RH K fa io H h ∧ evE cf c s h = .exc cl v h' ∧ ∀ io' H' cls d, Ext io H io' H' → RH K fa io' H' h' → XRel K fa cl v cls d H' → W cls d sg H'
def tXS (c : CS) : TS := fun _ sg H => ∃ io s h cl v h', RS K fa io H sg s ∧ RH K fa io H h ∧ evS cf c s h = .exc cl v h' ∧ ∀ io' H' cls d, Ext io H io' H' → RH K fa io' H' h' → XRel K fa cl v cls d H' → W cls d sg H'
def tXK (c : CB) : TS := fun _ sg H => ∃ io s h cl v h', RS K fa io H sg s ∧ RH K fa io H h ∧ evB cf c s h = .exc cl v h' ∧ ∀ io' H' cls d, Ext io H io' H' → RH K fa io' H' h' → XRel K fa cl v cls d H' → W cls d sg H'
/-- a def's promise, with what it raises -/
def spX (G : Nat → Option Fn) (k i : Nat) : Sp := fun vs H Q E => ∃ io h args, Rls K fa io H vs args ∧ RH K fa io H h ∧
  ((∃ r h', callF G k i args h = .ok r h' ∧ ∀ io' H' v, Ext io H io' H' → RH K fa io' H' h' → Rl K fa io' H' v r → Q v H') ∨
    ∃ cl v h', callF G k i args h = .exc cl v h' ∧ ∀ io' H' cls d, Ext io H io' H' → RH K fa io' H' h' → XRel K fa cl v cls d H' → E cls d H')
end
/-- what is wished does not hang on the slots -/
def Free (W : WX) : Prop := ∀ cls d sg sg' H, W cls d sg H → W cls d sg' H
abbrev WF (E : XK) : WX := fun cls d _ H => E cls d H
theorem free_wf {E : XK} : Free (WF E) := fun _ _ _ _ _ h => h
structure CalX (P : Program) (w : World) (K : PySem.W.Frag) (mg : Str → Option Value) (base : Heap) (k : Nat) (x : Str) (sp : Sp) : Prop where
  ex : ∃ (f : Addr) (fd : FuncData) (ps : List Str), FnOk P w K mg base (L2.CX P w) k f fd ps sp ∧ mg x = some (.ref f) ∧ PySem.W.keepIn K (.ref f) = true ∧ Binds K fd ps []
section
variable {P : Program} {w : World} {K : PySem.W.Frag} {mg : Str → Option Value} {base : Heap} {fa : FA} {G : Nat → Option Fn} {x : Str} {st : Stmt} {f : Addr} {fd : FuncData} {N ps : List Str} {i k : Nat} {body : CB}
theorem FnOk.calm {j : Nat} (F : FnOk P w K mg base (L2.CX P w) j f fd ps (spX K fa G k i)) : FnOk P w K mg base L2.CX0 j f fd ps (spI K fa G k i) := by
  have imp : ∀ vs H Q E E', spI K fa G k i vs H Q E → spX K fa G k i vs H Q E' := fun vs H Q E E' ⟨io, h, args, r, h', a, b, c, d⟩ => ⟨io, h, args, a, b, .inl ⟨r, h', c, d⟩⟩
  refine ⟨fun vs H Q E z => F.len vs H Q E (imp _ _ _ _ _ z), fun A outer s H args us vs Q E hr e0 hb hv z => codeAny_mono (F.run A outer s H args us vs Q (fun _ _ _ => False) hr e0 hb hv (imp _ _ _ _ _ z)) fun r s' q => ?_⟩
  cases r with
  | ok fl => cases fl <;> exact q
  | error e =>
    obtain ⟨_, _, _, _, _, _, _, _, _, _, _, _, z⟩ := q
    exact z.elim
theorem CalX.cal {j : Nat} (c : CalX P w K mg base j x (spX K fa G k i)) : C8.Cal P w K mg base j x (spI K fa G k i) [] := by
  obtain ⟨f, fd, ps, F, h1, h2, h3⟩ := c.ex
  exact ⟨f, fd, ps, [], FnOk.calm F, h1, h2, h3, .nil⟩
theorem calX_zero {j : Nat} (F : C8.Def K mg x st f fd) (b : Binds K fd ps []) : CalX P w K mg base j x (spX K fa G 0 i) := by
  have no : ∀ vs H Q E, ¬ spX K fa G 0 i vs H Q E := fun vs H Q E ⟨_, _, _, _, _, z⟩ => by
    rcases z with ⟨_, _, e, _⟩ | ⟨_, _, _, e, _⟩ <;> · unfold callF at e; cases e
  exact ⟨f, fd, ps, ⟨fun vs H Q E z => (no _ _ _ _ z).elim, fun A outer s H args us vs Q E _ _ _ _ z => (no _ _ _ _ z).elim⟩, F.mgf, F.kp, b⟩
theorem fnX_succ {j : Nat} (hxa : fa.xa = none) (F : C8.Fun K x x st f fd) (S : FnScope N ps (C8.fnScope st)) (hG : G i = some ⟨ps.length, N.length, body⟩)
    (hbody : ∀ (cdv : Value) (A : Around) (outer : List Env) (s : Shared) (H : Hp) (E : XK), Room j (A.deeper (PyProof.Rows.envOfC x (C8.fnScope st) s.heap.objs.size f cdv)) →
      PSs (cxOf (L2.CX P w) P w K mg base N x (C8.fnScope st) f cdv A outer s H E) (C8.fnBody st) (tK K fa (callF G k) body) ∧
      PSs (cxOf (L2.CX P w) P w K mg base N x (C8.fnScope st) f cdv A outer s H E) (C8.fnBody st) (tXK K fa (callF G k) (WF E) body)) : FnOk P w K mg base (L2.CX P w) (j + 1) f fd ps (spX K fa G (k + 1) i) := by
  obtain ⟨oc, od, dV, kV, doc, pm, an, cdv, ct, osl, rfl, lk, hcd⟩ := F.ex
  have hlen : ∀ vs H Q E, spX K fa G (k + 1) i vs H Q E → vs.length = ps.length := fun vs H Q E ⟨io, h, args, rv, rh, z⟩ => by
    rw [rv.length]
    rcases z with ⟨r, h', e, _⟩ | ⟨cl, v, h', e, _⟩
    · unfold callF at e; rw [hG] at e; simp only at e
      split at e
      · assumption
      · cases e
    · unfold callF at e; rw [hG] at e; simp only at e
      split at e
      · assumption
      · cases e
  refine fn_of lk hcd S hlen fun A outer s H vs Q E hr hsp => ?_
  obtain ⟨io, h, args, rv, rh, z⟩ := hsp
  obtain ⟨b1, b2⟩ := hbody cdv A outer s H E hr
  rcases z with ⟨r, h', e, q⟩ | ⟨cl, v, h', e, q⟩
  · refine ⟨_, b1, ?_⟩
    unfold callF at e; rw [hG] at e; simp only at e
    split at e
    case isFalse => cases e
    obtain ⟨fl, h1, e1, e⟩ := bind_ok e
    refine ⟨io, _, h, fl, h1, rs_start rv hxa, rh, e1, fun io1 H1 ex1 rh1 => ?_⟩
    cases fl with
    | nx s' =>
      intro sg' _
      simp only [outF] at e
      cases e
      obtain ⟨io2, ex2, rh2, rv2⟩ := rh.keeps ex1 rh1 .non
      exact q io2 H1 .non ex2 rh2 rv2
    | rt v =>
      intro u ru
      simp only [outF] at e
      cases e
      obtain ⟨io2, ex2, rh2, rv2⟩ := rh.keeps ex1 rh1 ru
      exact q io2 H1 u ex2 rh2 rv2
    | bk s' => simp only [outF] at e; cases e
    | ct s' => simp only [outF] at e; cases e
  · refine ⟨_, b2, ?_⟩
    unfold callF at e; rw [hG] at e; simp only at e
    split at e
    case isFalse => cases e
    rcases bindX_exc e with e1 | ⟨fl, h1, e1, e2⟩
    · exact ⟨io, _, h, cl, v, h', rs_start rv hxa, rh, e1, q⟩
    · unfold outF at e2; split at e2 <;> cases e2
theorem Has.zeroX {j : Nat} (h : Has K mg x st ps) : CalX P w K mg base j x (spX K fa G 0 i) := by
  obtain ⟨f, fd, F, b⟩ := h.ex
  exact calX_zero F (.all b)
theorem Has.succX {j : Nat} (h : Has K mg x st ps) (hxa : fa.xa = none) (S : FnScope N ps (C8.fnScope st)) (hG : G i = some ⟨ps.length, N.length, body⟩)
    (hbody : ∀ (f : Addr) (cdv : Value) (A : Around) (outer : List Env) (s : Shared) (H : Hp) (E : XK), Room j (A.deeper (PyProof.Rows.envOfC x (C8.fnScope st) s.heap.objs.size f cdv)) →
      PSs (cxOf (L2.CX P w) P w K mg base N x (C8.fnScope st) f cdv A outer s H E) (C8.fnBody st) (tK K fa (callF G k) body) ∧
      PSs (cxOf (L2.CX P w) P w K mg base N x (C8.fnScope st) f cdv A outer s H E) (C8.fnBody st) (tXK K fa (callF G k) (WF E) body)) : CalX P w K mg base (j + 1) x (spX K fa G (k + 1) i) := by
  obtain ⟨f, fd, F, b⟩ := h.ex
  exact ⟨f, fd, ps, fnX_succ hxa F.fn S hG (hbody f), F.mgf, F.kp, .all b⟩
end
section
variable {X : Cx} {fa : FA} {cf : Nat → List PV → PH → Res PV} {W : WX} {e a c tg : Expr} {es : List Expr} {st : Stmt} {sts sts' : List Stmt} {pos : Pos} {ce cc : CE} {cs : CA} {ct : CT} {c1 : CS} {b1 b2 : CB}
theorem ps_or {t u : TS} (h1 : PS X st t) (h2 : PS X st u) : PS X st (fun D sg H => t D sg H ∨ u D sg H) := ⟨fun pins s σ H D I h => h.elim (h1.run pins s σ H D I) (h2.run pins s σ H D I)⟩
theorem pss_or {t u : TS} (h1 : PSs X sts t) (h2 : PSs X sts u) : PSs X sts (fun D sg H => t D sg H ∨ u D sg H) := ⟨fun pins s σ H D I h => h.elim (h1.run pins s σ H D I) (h2.run pins s σ H D I)⟩
/-- a statement, with what it raises -/
structure XS (X : Cx) (fa : FA) (cf : Nat → List PV → PH → Res PV) (W : WX) (st : Stmt) (c : CS) : Prop where
  ok : PS X st (tS X.K fa cf c)
  ex : PS X st (tXS X.K fa cf W c)
structure XB (X : Cx) (fa : FA) (cf : Nat → List PV → PH → Res PV) (W : WX) (sts : List Stmt) (c : CB) : Prop where
  ok : PSs X sts (tK X.K fa cf c)
  ex : PSs X sts (tXK X.K fa cf W c)
/-- a call that may raise -/
structure XC (X : Cx) (fa : FA) (cf : Nat → List PV → PH → Res PV) (W : WX) (e : Expr) (c : CE) : Prop where
  ok : PE X e (tE X.K fa cf c)
  ex : PE X e (tX X.K fa cf W c)
theorem x_call {G : Nat → Option Fn} {j k i : Nat} {x : Str} {p : Pos} {C : Nat → Bool} (hC : CalmF C (callF G k)) (hc : CalX X.prog X.w X.K X.mg X.base j x (spX X.K fa G k i)) (tk : Takes X W) (hr : Room j X.A) (hg : Gl X x) (ha : PA X (e :: es) (tA X.K fa (callF G k) cs))
    (hca : calmA C cs = true := by rfl) (hdb : (x == ("__debug__" : Str)) = false := by decide) (he : starEach (e :: es) X.env = (false, eval e X.env) :: starEach es X.env := by rfl) (hpl : (backTo pos (starEach es X.env)).any (·.1) = false := by rfl) :
    XC X fa (callF G k) W (.Call (.Name x p) (e :: es) [] pos) (.call i cs) := by
  refine ⟨e_call hc.cal hr hg ha hdb he hpl, ?_⟩
  obtain ⟨f, fd, ps, F, hm, kp, b⟩ := hc.ex
  refine wkE (pe_callS F hr hg hm kp b (fun σ => passAt tk σ) ha hdb he hpl) fun sg H Q ⟨io, s, h, cl, v, h', rs, rh, e, q⟩ => ?_
  simp only [evE] at e
  rcases bindX_exc e with e1 | ⟨xs, h1, e1, e2⟩
  · exact absurd e1 (evA_nx hC cs s h hca _ _ _)
  · exact ⟨io, s, h, xs, h1, rs, rh, e1, fun io1 H1 vs ex1 rh1 rvs => ⟨io1, h1, xs, rvs, rh1, .inr ⟨cl, v, h', e2, fun io' H' cls d ex2 rh2 xr => q io' H' cls d (ex1.trans ex2) rh2 xr⟩⟩⟩
theorem xs_expr (he : XC X fa cf W e ce) (hs : swapsWith e none pos.line X.env = pure false := by rfl) : XS X fa cf W (.Expr e pos) (.expr ce) :=
  ⟨s_expr he.ok hs, wkS (ps_expr he.ex hs) fun D sg H ⟨io, s, h, cl, v, h', rs, rh, e, q⟩ => by
    simp only [evS] at e
    rcases bindX_exc e with e1 | ⟨_, _, _, e2⟩
    · exact ⟨io, s, h, cl, v, h', rs, rh, e1, q⟩
    · cases e2⟩
theorem xs_ret (he : XC X fa cf W e ce) : XS X fa cf W (.Return (some e) pos) (.ret ce) :=
  ⟨s_ret he.ok, wkS (ps_ret he.ex) fun D sg H ⟨io, s, h, cl, v, h', rs, rh, e, q⟩ => by
    simp only [evS] at e
    rcases bindX_exc e with e1 | ⟨_, _, _, e2⟩
    · exact ⟨io, s, h, cl, v, h', rs, rh, e1, q⟩
    · cases e2⟩
theorem xs_set {i : Nat} {x : Str} {pos' : Pos} (hN : X.N.Nodup) (hi : X.N[i]? = some x) (hx : Loc X.env.scope x) (he : XC X fa cf W e ce) (hs : swapsWith e (some (.Name x pos')) pos.line X.env = pure false := by rfl)
    (hf : X.fn x = true ∨ X.env.scope.names.lookup x = some .local := by first | exact .inl rfl | exact .inr rfl | assumption) (hi2 : fa.xok i = true := by rfl) :
    XS X fa cf W (.Assign [.Name x pos'] e pos) (.asg (.v i) ce) :=
  ⟨s_set hN hi hx he.ok hs hf hi2, wkS (ps_set hN hi hx he.ex hs hf) fun D sg H ⟨io, s, h, cl, v, h', rs, rh, e, q⟩ => by
    simp only [evS] at e
    rcases bindX_exc e with e1 | ⟨_, _, _, e2⟩
    · exact ⟨io, s, h, cl, v, h', rs, rh, e1, q⟩
    · simp only [asT] at e2; cases e2⟩
theorem xs_calm {C : Nat → Bool} (hC : CalmF C cf) (h : PS X st (tS X.K fa cf c1)) (hn : calmS C c1 = true := by rfl) : XS X fa cf W st c1 :=
  ⟨h, wkS h fun D sg H ⟨io, s, h, cl, v, h', rs, rh, e, q⟩ => absurd e (evS_nx hC c1 s h hn _ _ _)⟩
theorem xk_calm {C : Nat → Bool} (hC : CalmF C cf) (h : PSs X sts (tK X.K fa cf b1)) (hn : calmB C b1 = true := by rfl) : XB X fa cf W sts b1 :=
  ⟨h, wkK h fun D sg H ⟨io, s, h, cl, v, h', rs, rh, e, q⟩ => absurd e (evB_nx hC b1 s h hn _ _ _)⟩
theorem xk_nil : XB X fa cf W [] .nil :=
  ⟨k_nil, wkK (k_nil (fa := fa) (cf := cf)) fun D sg H ⟨io, s, h, cl, v, h', rs, rh, e, q⟩ => by simp only [evB] at e; cases e⟩
theorem xk_cons (fr : Free W) (h1 : XS X fa cf W st c1) (h2 : XB X fa cf W sts b1) : XB X fa cf W (st :: sts) (.cons c1 b1) :=
  ⟨k_cons h1.ok h2.ok, wkK (pss_or (pss_cons h1.ex h2.ex) (pss_cons h1.ok h2.ex)) fun D sg H ⟨io, s, h, cl, v, h', rs, rh, e, q⟩ => by
    simp only [evB] at e
    rcases bindX_exc e with e1 | ⟨f1, h1, e1, e2⟩
    · exact .inl ⟨io, s, h, cl, v, h', rs, rh, e1, q⟩
    · right
      cases f1 with
      | nx s2 =>
        refine ⟨io, s, h, .nx s2, h1, rs, rh, e1, fun io1 H1 ex1 rh1 sg' rs' => ?_⟩
        exact ⟨io1, s2, h1, cl, v, h', rs', rh1, e2, fun io' H' cls d ex2 rh2 xr => fr _ _ _ _ _ (q io' H' cls d (ex1.trans ex2) rh2 xr)⟩
      | rt v => cases e2
      | bk s2 => cases e2
      | ct s2 => cases e2⟩
/-- the first statement alone raises: at the slots of the start -/
theorem xk_first {C : Nat → Bool} (hC : CalmF C cf) (h1 : XS X fa cf W st c1) (h2 : PSs X sts (tK X.K fa cf b1)) (hn : calmB C b1 = true := by rfl) : XB X fa cf W (st :: sts) (.cons c1 b1) :=
  ⟨k_cons h1.ok h2, wkK (pss_cons h1.ex h2) fun D sg H ⟨io, s, h, cl, v, h', rs, rh, e, q⟩ => by
    simp only [evB] at e
    rcases bindX_exc e with e1 | ⟨f1, h1, e1, e2⟩
    · exact ⟨io, s, h, cl, v, h', rs, rh, e1, q⟩
    · cases f1 with
      | nx s2 => exact absurd e2 (evB_nx hC b1 s2 h1 hn _ _ _)
      | rt v => cases e2
      | bk s2 => cases e2
      | ct s2 => cases e2⟩
theorem xs_if {C : Nat → Bool} (hC : CalmF C cf) (hc : PT X c (tT X.K fa cf cc)) (ha : XB X fa cf W sts b1) (hb : XB X fa cf W sts' b2) (hn : calmE C cc = true := by rfl) : XS X fa cf W (.If c sts sts' pos) (.ifs cc b1 b2) :=
  ⟨s_if hc ha.ok hb.ok, wkS (ps_if hc ha.ex hb.ex) fun D sg H ⟨io, s, h, cl, v, h', rs, rh, e, q⟩ => by
    simp only [evS] at e
    rcases bindX_exc e with e1 | ⟨x, h1, e1, e2⟩
    · exact absurd e1 (evE_nx hC cc s h hn _ _ _)
    · cases x <;> try (cases e2; done)
      rename_i bb
      refine ⟨io, s, h, bb, h1, rs, rh, e1, fun io1 H1 ex1 rh1 => ?_⟩
      cases bb with
      | true => exact ⟨io1, s, h1, cl, v, h', rs.mono ex1, rh1, e2, fun io' H' cls d ex2 => q io' H' cls d (ex1.trans ex2)⟩
      | false => exact ⟨io1, s, h1, cl, v, h', rs.mono ex1, rh1, e2, fun io' H' cls d ex2 => q io' H' cls d (ex1.trans ex2)⟩⟩
theorem xs_for {C : Nat → Bool} {ci : CI} (hC : CalmF C cf) (fr : Free W) (hp : PassesOwn (model X.prog X.w) X.A X.env X.xe) (hc : X.calm = true) (hi : PI X tg e (tI X.K fa cf ci)) (hg : PG X tg (tG X.K fa cf ct)) (hb : XB X fa cf W sts b1)
    (hni : calmI C ci = true := by rfl) (hng : calmT C ct = true := by rfl) (hs : ∀ x, foldedSetIterable e X.env x = pure x := by intro _; rfl) : XS X fa cf W (.For tg e sts [] pos) (.for_ ct ci b1) := by
  refine ⟨s_for hp hc hi hg hb.ok hs, wkS (ps_for hp hc hi hg (pss_or hb.ok hb.ex) hs) fun D sg H ⟨io, s, h, cl, v, h', rs, rh, e, q⟩ => ?_⟩
  simp only [evS] at e
  rcases bindX_exc e with e1 | ⟨p, h1, e1, e⟩
  · exact absurd e1 (evI_nx hC ci s h hni _ _ _)
  refine ⟨io, s, h, p, h1, rs, rh, e1, fun io1 H1 ex1 rh1 J gd => ?_⟩
  refine ⟨fun i m sg2 H2 => m = p.1.length - i ∧ i ≤ p.1.length ∧ ∃ io2 s2 h2, Ext io1 H1 io2 H2 ∧ RS X.K fa io2 H2 sg2 s2 ∧ RH X.K fa io2 H2 h2 ∧ frL (asT cf ct) (evB cf b1) p.2 (p.1.drop i) s2 h2 = .exc cl v h',
    ⟨p.1.length, by simp, Nat.zero_le _, io1, s, h1, .refl, rs.mono ex1, rh1, by simpa using e⟩, ?_⟩
  rintro i m sg2 H2 ⟨rfl, hi, io2, s2, h2, ex2, rs2, rh2, e⟩
  cases hd : p.1.drop i with
  | nil =>
    rw [hd] at e
    simp only [frL] at e
    split at e <;> cases e
  | cons x rest =>
    have hx : p.1[i]? = some x := by
      have := congrArg (·[0]?) hd
      simpa using this
    have hrest : p.1.drop (i + 1) = rest := by
      have := congrArg (·.drop 1) hd
      simpa [List.drop_drop, Nat.add_comm] using this
    have hlt : i < p.1.length := (List.getElem?_eq_some_iff.mp hx).1
    rw [hd] at e
    simp only [frL] at e
    by_cases hl : leans p.2 h2 = true
    case neg => rw [if_neg hl] at e; cases e
    rw [if_pos hl] at e
    obtain ⟨hgo, hyl⟩ := (gd io2 H2 h2 ex2 rh2 hl).1 i x hx
    refine .inr ⟨hgo, _, fun sg' H' w => ⟨p.1.length - (i + 1), by omega, w⟩, fun u H3 hy => ?_⟩
    obtain ⟨ex3, rh3, rv3⟩ := hyl u H3 hy
    rcases bindX_exc e with e3 | ⟨s3, h3, e3, e⟩
    · exact absurd e3 (asT_nx hC ct x s2 h2 hng _ _ _)
    refine ⟨io2, s2, h2, x, s3, h3, rs2.mono ex3, rh3, rv3, e3, fun io4 H4 sg4 ex4 rh4 rs4 _ => ?_⟩
    have exT := (ex2.trans ex3).trans ex4
    rcases bindX_exc e with e4 | ⟨f4, h4, e4, e⟩
    · exact .inr ⟨io4, s3, h3, cl, v, h', rs4, rh4, e4, fun io' H' cls d ex5 rh5 xr => fr _ _ _ _ _ (q io' H' cls d ((ex1.trans exT).trans ex5) rh5 xr)⟩
    · refine .inl ⟨io4, s3, h3, f4, h4, rs4, rh4, e4, fun io5 H5 ex5 rh5 => ?_⟩
      cases f4 with
      | nx s5 => exact fun sg' rs' => ⟨rfl, hlt, io5, s5, h4, exT.trans ex5, rs', rh5, by rw [hrest]; exact e⟩
      | ct s5 => exact fun sg' rs' => ⟨rfl, hlt, io5, s5, h4, exT.trans ex5, rs', rh5, by rw [hrest]; exact e⟩
      | bk s5 => cases e
      | rt v => cases e
end
end PB

set_option Elab.async false
set_option linter.all false
set_option maxRecDepth 100000
set_option maxHeartbeats 2000000
namespace PB
open PySem PySem.Spec L2
/-! ### raise -/
/-- an own class without __init__ -/
structure Ex0 (K : PySem.W.Frag) (mg : Str → Option Value) (x : Str) (A : Addr) : Prop where
  mgx : mg x = some (.ref A)
  exc : ∃ bmB B newId initId, ExcBaseFacts B newId initId bmB ∧ PySem.W.excIn K A bmB newId = true
  keep : PySem.W.keepIn K (.ref A) = true
  sub : PySem.W.subIn K (.ref A) (.type "BaseException") = some true
  ty : PySem.W.typeIn K (.ref A) = some (.type "type")
/-- an own class whose __init__ keeps a field f -/
structure Ex1 (P : Program) (K : PySem.W.Frag) (mg : Str → Option Value) (x f : Str) (A : Addr) : Prop where
  mgx : mg x = some (.ref A)
  cls : OexC K A
  xf : XfC K A
  nof : PySem.W.findIn K (.ref A) f = some none
  init : ∃ (fI : Addr) (fd : FuncData), PySem.W.findIn K (.ref A) "__init__" = some (some (.ref fI)) ∧ PySem.W.typeIn K (.ref fI) = some (.type "function") ∧ Binds K fd ["self", f] [] ∧
    ∀ (w : World) (base : Heap) (k : Nat), FnOk P w K mg base (L2.CX P w) (k + 1) fI fd ["self", f] (spInit K A f)
theorem ex1_mk {P : Program} {K : PySem.W.Frag} {mg : Str → Option Value} {h : Heap} {x f q q0 nm : Str} {A fI cc cda N0 : Addr} {bs bm : List Value} {sn : List Str} {sub : List Value} {ab : Bool} {col : Option Bool} {dd : Option Addr} {k0 k1 k2 k3 k5 : Option Value}
    {params : Arguments} {scope : Scope} {dV kV doc pm ct oc ccl cl : Value} {an od cdd cld : Option Addr} {osl ccs csl : Array (Option Value)} {vs0 : Array Value} {file : Str} {tf : Tok} {ar : Arg} {cdC : ClassData} {p0 p1 p2 p3 p4 p5 p6 p7 p8 p9 : Pos}
    (KX : K.In h) (G : h.Ns mainGlobals mg) (ea : PySem.W.nsIn K mainGlobals x = some (some (.ref A))) (el : K.lookup A = some (excClassObj nm q0 A N0 bs bm true sn sub ab col dd k0 k1 k2 k3 k5 "ValueError.__new__")) (er : PySem.HandSPX.refsVE bm = true)
    (es : PySem.W.findIn K (.ref A) "__setattr__" = some (some (.builtin "object.__setattr__"))) (eb : PySem.W.subIn K (.ref A) (.type "BaseException") = some true) (et : PySem.W.typeIn K (.ref A) = some (.type "type")) (ek : PySem.W.keepIn K (.ref A) = true)
    (ef : xfB K A = true) (en : PySem.W.findIn K (.ref A) f = some none) (ei : PySem.W.findIn K (.ref A) "__init__" = some (some (.ref fI))) (ej : PySem.W.typeIn K (.ref fI) = some (.type "function"))
    (ia : K.lookup fI = some ⟨oc, od, .func (PySem.W.fnX "__init__" q params (initBody f p0 p1 p2 p3 p4 p5 p6 p7 p8 p9) scope [("__class__", cc)] dV kV doc pm an (.ref cda) ct), osl⟩)
    (ib : PySem.W.codeIn K (.ref cda) q = true) (ic : K.lookup cda = some ⟨ccl, cdd, .fields vs0, ccs⟩) (id : vs0[2]? = some (.str file tf)) (ie : ((P.main.file : Str) == file) = true) (jf : (P.main.scope.names.lookup ("super" : Str)).isSome = false)
    (ig : K.lookup cc = some ⟨cl, cld, .cell (some (.ref A)), csl⟩) (ms : PySem.W.nsIn K mainGlobals "super" = some none) (ih : PySem.W.clsIn K A = some cdC) (ij : PySem.W.mroIn K A (.ref A) = some true) (ik : PySem.W.nsIn K cStatics "thirdparty.any" = some none)
    (il : PySem.W.ks_superIn K A A "__init__" = some (some (.builtin "ValueError.__init__"))) (im : PySem.W.subIn K (.ref A) (.type "ValueError") = some true)
    (jn : NdefX.nscB ["self", f, "__class__"] ["self", f] ["__class__"] scope = true) (io : scope.names.lookup ("super" : Str) = some .globalImplicit) (ip : (params.posonlyargs ++ params.args).head? = some ar) (iq : ar.arg = "self")
    (iz : ∀ env : Env, ∃ pl : Sem Bool, eval (.Call (.Attribute (.Call (.Name "super" p0) [] [] p1) "__init__" p2) [.Name f p3] [] p4) env = (do
      let ov ← attributeBase (.Call (.Name "super" p0) [] [] p1) "__init__" env (eval (.Call (.Name "super" p0) [] [] p1) env)
      standAt p2.atName
      let (g, first) ← holding [ov] (getMethod ov "__init__" pl)
      callWith p4 g first (backTo p4 (starEach [.Name f p3] env)) []))
    (ib2 : ∀ us : List Value, us.length = 2 → bindArgs (PySem.W.fnX "__init__" q params (initBody f p0 p1 p2 p3 p4 p5 p6 p7 p8 p9) scope [("__class__", cc)] dV kV doc pm an (.ref cda) ct) ⟨us, []⟩ = pure ((["self", f] : List Str).zip us))
    (f1 : (f == ("__debug__" : Str)) = false) (f2 : (f == ("__classdict__" : Str)) = false) : Ex1 P K mg x f A :=
  have T : OexC K A := ⟨⟨_, _, _, _, _, _, _, _, _, _, _, _, _, _, _, el, er⟩, es, eb, et, ek⟩
  ⟨PySem.W.mg_of KX G ea, T, xfB_ok ef, en, fI, _, ei, ej, .all ib2, fun _ _ _ => init_fn T ia ib ic id ie jf ig (PySem.W.mg_none_of KX G ms) ih ij ik il im en (NdefX.nscope_by jn) io ip iq iz f1 f2⟩
theorem pass_no {X : Cx} : Passes (L2.CX X.prog X.w) X (fun _ _ _ => False) := fun _ _ _ _ _ _ _ h => by
  obtain ⟨_, _, _, _, _, _, _, _, _, _, _, _, z⟩ := h
  exact z.elim
section
variable {X : Cx} {fa : FA} {cf : Nat → List PV → PH → Res PV} {W : WX} {e : Expr} {x f : Str} {p pos pos' : Pos} {ce : CE} {c : Nat} {A : Addr}
theorem xs_raise0 (hx : Ex0 X.K X.mg x A) (hA : fa.cl c = some A) (hc : X.calm = true) (tk : Takes X W) (hg : Gl X x) (hdb : (x == ("__debug__" : Str)) = false := by decide) :
    XS X fa cf W (.Raise (some (.Call (.Name x p) [] [] pos)) none pos') (.raise c .nil) := by
  refine ⟨s_raise, ?_⟩
  obtain ⟨bmB, B, newId, initId, F, q⟩ := hx.exc
  refine wkS (ps_raise hc tk (pmk_own0 F q hx.mgx hx.keep (raises_own hx.sub hx.ty) hg hdb)) fun D sg H ⟨io, s, h, cl, v, h', rs, rh, e, q⟩ => ?_
  simp only [evS, evA, Res.bind] at e
  rw [if_pos (by rfl)] at e
  cases e
  exact q io H _ _ .refl rh ⟨A, hA, rfl, .inl ⟨rfl, rfl⟩⟩
theorem con_pay {K : PySem.W.Frag} {io : List Addr} {H : Hp} {v : V} {x : PV} (r : Rl K fa io H v x) (h : payOk x = true) : Con K fa v x := by
  cases r with
  | non => exact fun _ _ => .non
  | int i => exact fun _ _ => .int i
  | str x => exact fun _ _ => .str x
  | _ => cases h
theorem xs_raise1 {C : Nat → Bool} (hC : CalmF C cf) (hx : Ex1 X.prog X.K X.mg x f A) (hA : fa.cl c = some A) (hc : X.calm = true) (tk : Takes X W) {k : Nat} (hr : Room (k + 2) X.A) (hg : Gl X x) (he : PE X e (tE X.K fa cf ce)) (hn : calmE C ce = true := by rfl)
    (hdb : (x == ("__debug__" : Str)) = false := by decide) (hse : starEach [e] X.env = (false, eval e X.env) :: starEach [] X.env := by rfl) :
    XS X fa cf W (.Raise (some (.Call (.Name x p) [e] [] pos)) none pos') (.raise c (.cons (.con (.str f)) (.cons ce .nil))) := by
  refine ⟨s_raise, ?_⟩
  obtain ⟨fI, fd, i1, i2, i3, i4⟩ := hx.init
  refine wkS (ps_raise hc tk (pmk_oex (k := k + 1) (ds := []) (dvs := []) hx.cls i1 i2 (i4 X.w X.base k) hr i3 .nil pass_no hg hx.mgx (a_cons he a_nil hse) hdb hse rfl)) fun D sg H ⟨io, s, h, cl, v, h', rs, rh, e, q⟩ => ?_
  simp only [evS, evA, evE, Res.bind] at e
  cases hv : evE cf ce s h with
  | exc c0 v0 h0 => exact absurd hv (evE_nx hC ce s h hn _ _ _)
  | bad => rw [hv] at e; cases e
  | ok y h1 =>
    rw [hv] at e
    simp only at e
    split at e
    case isFalse => cases e
    rename_i hp
    cases e
    have hpy : payOk y = true := by simpa [List.all_cons, payOk] using hp
    refine ⟨io, s, h, [y], h', rs, rh, by simp only [evA, hv, Res.bind], fun io1 H1 vs ex1 rh1 rvs => ?_⟩
    obtain ⟨w, rfl, rw1⟩ := rvs.one
    refine ⟨by simp, fun a ha => ⟨a, w, rfl, upd_same, fun dx hdx hne => ⟨rfl, dx, [(f, w)], upd_same, by rw [upd_ne hne, upd_same], by rw [upd_ne hne] at hdx; exact hdx, ?_⟩⟩⟩
    have hdx1 : H1 dx = none := by rw [upd_ne hne] at hdx; exact hdx
    have eH : upd (del (upd (upd (upd H1 a (exo a A none)) dx (exd dx [(f, w)])) a (exo a A (some dx))) a) dx (.xd [(f, w)]) = upd H1 dx (.xd [(f, w)]) := funext fun b => by
      by_cases b1 : b = dx
      · rw [b1, upd_same, upd_same]
      · rw [upd_ne b1, upd_ne b1]
        by_cases b2 : b = a
        · rw [b2, del_same, ha]
        · rw [del_ne b2, upd_ne b2, upd_ne b1, upd_ne b2]
    rw [eH]
    exact q io1 _ _ _ (ex1.trans (ext_new hdx1)) (rh1.new hdx1) ⟨A, hA, rfl, .inr ⟨f, y, w, dx, rfl, rfl, upd_same, con_pay rw1 hpy, hx.xf, hx.nof⟩⟩
end
/-! ### try -/
/-- what an except suite knows of the exception in hand -/
structure XSu (K : PySem.W.Frag) (fa : FA) (i : Nat) (a : Addr) (cls : Value) (d : Option Addr) (y : XA) : Prop where
  hi : y.i = i
  ha : y.a = a
  hd : y.d = d
  ex : ∃ (c : Nat) (v : PV) (A : Addr), y.pv = excV c v ∧ fa.cl c = some A ∧ cls = .ref A ∧ (v = .tup [] ∨ ∃ (f : Str) (x : PV) (w : V) (dd : Addr), v = .tup [.str f, x] ∧ d = some dd ∧ y.fs = [(f, w)] ∧ Con K fa w x ∧ XfC K A ∧ PySem.W.findIn K (.ref A) f = some none)
/-- the defs and classes, an exception in hand -/
abbrev FA.in (fa : FA) (y : XA) : FA := ⟨fa.fn, fa.cl, some y, fa.tb⟩
/-- the reading of a suite -/
def tSu (K : PySem.W.Frag) (fa : FA) (cf : Nat → List PV → PH → Res PV) (i : Nat) (b : CB) : Addr → Value → Option Addr → TS := fun a cls d D sg H => ∃ y, XSu K fa i a cls d y ∧ tK K (fa.in y) cf b D sg H
/-- which of the classes the clause takes -/
def Exm (K : PySem.W.Frag) (fa : FA) (c : Value) (cs : List Nat) : Prop := ∀ n A, fa.cl n = some A → PySem.W.exmOne K (.ref A) c = some (cs.contains n)
/-- the clauses, their code -/
inductive HdsX (X : Cx) (fa : FA) (cf : Nat → List PV → PH → Res PV) : List ExceptHandler → CH → List HdT → Prop
  | nil : HdsX X fa cf [] .nil []
  | cons {x n : Str} {c : Value} {cs : List Nat} {i : Nat} {b : CB} {b0 : Stmt} {suite : List Stmt} {np pos' : Pos} {hds : List ExceptHandler} {r : CH} {l : List HdT} (hc : Names X x c) (hm : Exm X.K fa c cs) (hi : X.N[i]? = some n) (hln : X.env.kindOf n = some .local)
      (hsu : ∀ (a : Addr) (oe : Obj) (cls : Value) (d : Option Addr) (pn : List (Addr × Obj)) (y : XA), Zc cls d oe → (∃ vs, oe.data = .fields vs) → XSu X.K fa i a cls d y → PSs (X.suite a ((a, oe) :: pn)) (b0 :: suite) (tK X.K (fa.in y) cf b)) (h : HdsX X fa cf hds r l) :
      HdsX X fa cf (.ExceptHandler (some (.Name x np)) (some n) (b0 :: suite) pos' :: hds) (.cons cs i b r) ((c, i, tSu X.K fa cf i b) :: l)
section
variable {X : Cx} {fa : FA} {cf : Nat → List PV → PH → Res PV} {body : List Stmt} {hd0 : ExceptHandler} {hds : List ExceptHandler} {ch : CH} {l : List HdT} {pos : Pos} {b : CB}
theorem HdsX.as (h : HdsX X fa cf hds ch l) : HdsAs X hds l := by
  induction h with
  | nil => exact .nil
  | cons hc hm hi hln hsu h ih => exact .cons hc hi hln (fun e oe cls d pn z f => ⟨fun pins s σ H D I ⟨y, hy, q⟩ => (hsu e oe cls d pn y z f hy).run pins s σ H D I q⟩) ih
theorem RS.suite {K : PySem.W.Frag} {io : List Addr} {H H' : Hp} {sg : L2.St} {s : Sl} {y : XA} (hxa : fa.xa = none) (rs : RS K fa io H sg s) (hl : y.i < s.length) (hd : ∀ d, y.d = some d → H d = some (.xd y.fs)) :
    RS K (fa.in y) io H (sg.set y.i (some (.ref y.a))) (s.set y.i (some y.pv)) := by
  refine ⟨by rw [List.length_set, List.length_set]; exact rs.len, fun j z hj hz => ?_, fun z hz => ?_⟩
  · have hne : y.i ≠ j := by
      simp only [FA.xok, decide_eq_true_eq] at hj
      exact fun e => hj e.symm
    rw [List.getElem?_set_ne hne] at hz
    obtain ⟨v, h1, h2⟩ := rs.at_ j z (by rw [FA.xok, hxa]) hz
    exact ⟨v, by rw [List.getElem?_set_ne hne]; exact h1, Rl.swap (fa := fa) (fb := fa.in y) rfl h2⟩
  · cases hz
    exact ⟨List.getElem?_set_self (by rw [rs.len]; exact hl), List.getElem?_set_self hl, hd⟩
theorem fin_suite {K : PySem.W.Frag} {io : List Addr} {H : Hp} {D : Ends} {f : Fl} {h' : PH} {y : XA} (q : fin K fa io H D (endX y.i f) h') (hxa : fa.xa = none) : fin K (fa.in y) io H (endsAs D y.i) f h' := fun io' H' ex rh => by
  have z := q io' H' ex (RH.swap (fa := fa.in y) (fb := fa) rfl rh)
  have key : ∀ {sg2 : L2.St} {s2 : Sl}, RS K (fa.in y) io' H' sg2 s2 → RS K fa io' H' (sg2.set y.i none) (s2.set y.i none) := fun {sg2 s2} rs => by
    refine ⟨by rw [List.length_set, List.length_set]; exact rs.len, fun j x _ hx => ?_, fun z hz => by rw [hxa] at hz; cases hz⟩
    have hne : y.i ≠ j := fun e => by
      subst e
      have hlt := (List.getElem?_eq_some_iff.mp hx).1
      rw [List.length_set] at hlt
      rw [List.getElem?_set_self hlt] at hx
      cases hx
    rw [List.getElem?_set_ne hne] at hx
    obtain ⟨v, h1, h2⟩ := rs.at_ j x (by simp only [FA.xok, decide_eq_true_eq]; exact fun e => hne e.symm) hx
    exact ⟨v, by rw [List.getElem?_set_ne hne]; exact h1, Rl.swap (fa := fa.in y) (fb := fa) rfl h2⟩
  cases f with
  | nx s2 => exact fun sg2 rs => z _ (key rs)
  | bk s2 => exact fun sg2 rs => z _ (key rs)
  | ct s2 => exact fun sg2 rs => z _ (key rs)
  | rt v => exact fun u ru => z u (Rl.swap (fa := fa.in y) (fb := fa) rfl ru)
/-- the slots of the names -/
def CH.low (n : Nat) : CH → Bool
  | .nil => true
  | .cons _ i _ r => decide (i < n) && CH.low n r
theorem handled (hxa : fa.xa = none) {D : Ends} {sg : L2.St} {io : List Addr} {H : Hp} {cl : Nat} {v : PV} {h1 h' : PH} {s : Sl} {f : Fl} {Wout : WX} {cls : Value} {d : Option Addr} (rs : RS X.K fa io H sg s) (rh : RH X.K fa io H h1) (xr : XRel X.K fa cl v cls d H)
    (hN : sg.length = X.N.length) (q : fin X.K fa io H D f h') : ∀ {hds : List ExceptHandler} {ch : CH} {l : List HdT}, HdsX X fa cf hds ch l → evH cf ch cl v s h1 = .ok f h' → wManyAs X.K Wout D l cls d sg H := by
  intro hds ch l hk
  induction hk with
  | nil => intro e; simp only [evH] at e; cases e
  | @cons x n c cs i b b0 suite np pos' hds r l hc hm hi hln hsu hk ih =>
    intro e
    obtain ⟨A, hA, rfl, hv⟩ := id xr
    refine ⟨cs.contains cl, hm cl A hA, fun hb a ha => ?_, fun hb => ih ?_⟩
    · simp only [evH] at e
      rw [if_pos hb] at e
      obtain ⟨f0, h2, e1, e⟩ := bind_ok e
      cases e
      have hlt : i < s.length := by
        rw [← rs.len, hN]; exact (List.getElem?_eq_some_iff.mp hi).1
      rcases hv with ⟨rfl, rfl⟩ | ⟨g, z, w, dd, rfl, rfl, hH, hcon, hxf, hno⟩
      · refine ⟨⟨i, a, none, [], excV cl (.tup [])⟩, ⟨rfl, rfl, rfl, cl, _, A, rfl, hA, rfl, .inl rfl⟩, io, _, h1, f0, _, RS.suite (H' := H) (y := ⟨i, a, none, [], excV cl (.tup [])⟩) hxa rs hlt (fun d hd => by cases hd), RH.swap (fa := fa) rfl rh, e1, fin_suite (y := ⟨i, a, none, [], excV cl (.tup [])⟩) q hxa⟩
      · refine ⟨⟨i, a, some dd, [(g, w)], excV cl (.tup [.str g, z])⟩, ⟨rfl, rfl, rfl, cl, _, A, rfl, hA, rfl, .inr ⟨g, z, w, dd, rfl, rfl, rfl, hcon, hxf, hno⟩⟩, io, _, h1, f0, _,
          RS.suite (H' := H) (y := ⟨i, a, some dd, [(g, w)], excV cl (.tup [.str g, z])⟩) hxa rs hlt (fun d hd => by cases hd; exact hH), RH.swap (fa := fa) rfl rh, e1, fin_suite (y := ⟨i, a, some dd, [(g, w)], excV cl (.tup [.str g, z])⟩) q hxa⟩
    · simp only [evH] at e
      rw [if_neg (by rw [hb]; exact Bool.false_ne_true)] at e
      exact e
theorem s_try {C : Nat → Bool} (hst : X.stack = X.env :: X.outer) (hfr : X.env.frame = some X.env.locals) (hN : X.N.Nodup) (hxa : fa.xa = none)
    (hbody : ∀ (W : WX) (pn : List (Addr × Obj)) (xe : Value → Shared → Prop), Takes (X.tr pn xe) W → PassesOwn (model X.prog X.w) X.A X.env xe → XB (X.tr pn xe) fa cf W body b)
    (hhs : HdsX X fa cf (hd0 :: hds) ch l) : PS X (.Try body (hd0 :: hds) [] [] pos) (tS X.K fa cf (.try_ b ch)) := by
  refine ⟨fun pins s0 sg H D I ⟨io, s, h, f, h', rs, rh, e, q⟩ => ?_⟩
  have hlen := I.len
  refine (ps_try_manyAs (Wout := fun _ _ _ _ => False) hst hfr hN takes_none5 (tb := fun W D sg H => tK X.K fa cf b D sg H ∨ tXK X.K fa cf W b D sg H) (fun W pn xe tk po => pss_or (hbody W pn xe tk po).ok (hbody W pn xe tk po).ex) hhs.as).run pins s0 sg H D I ?_
  simp only [evS] at e
  cases hb : evB cf b s h with
  | ok f1 h1 => rw [hb] at e; exact .inl ⟨io, s, h, f, h', rs, rh, hb.trans e, q⟩
  | bad => rw [hb] at e; cases e
  | exc cl v h1 =>
    rw [hb] at e
    exact .inr ⟨io, s, h, cl, v, h1, rs, rh, hb, fun io' H' cls d ex rh' xr => handled hxa (rs.mono ex) rh' xr hlen (q.ext ex) hhs e⟩
end
/-! ### except suites -/
theorem hsu_of {X : Cx} {fa : FA} {cf : Nat → List PV → PH → Res PV} {i : Nat} {b : CB} {suite : List Stmt}
    (h : ∀ (a : Addr) (oe : Obj) (cls : Value) (d : Option Addr) (pn : List (Addr × Obj)) (fs : List (Str × V)) (pv : PV), Zc cls d oe → (∃ vs, oe.data = .fields vs) → XSu X.K fa i a cls d ⟨i, a, d, fs, pv⟩ → PSs (X.suite a ((a, oe) :: pn)) suite (tK X.K (fa.in ⟨i, a, d, fs, pv⟩) cf b)) :
    ∀ (a : Addr) (oe : Obj) (cls : Value) (d : Option Addr) (pn : List (Addr × Obj)) (y : XA), Zc cls d oe → (∃ vs, oe.data = .fields vs) → XSu X.K fa i a cls d y → PSs (X.suite a ((a, oe) :: pn)) suite (tK X.K (fa.in y) cf b) := fun a oe cls d pn y hz hf hy => by
  obtain ⟨yi, ya, yd, fs, pv⟩ := y
  have e1 : yi = i := hy.hi
  have e2 : ya = a := hy.ha
  have e3 : yd = d := hy.hd
  subst e1 e2 e3
  exact h _ _ _ _ _ _ _ hz hf hy
/-- which classes of a table a clause takes -/
def ExmL (K : PySem.W.Frag) (l : List (Nat × Str)) (c : Value) (cs : List Nat) : Prop := ∀ n A, fvs K l n = some A → PySem.W.exmOne K (.ref A) c = some (cs.contains n)
theorem exml_nil {K : PySem.W.Frag} {c : Value} {cs : List Nat} : ExmL K [] c cs := fun n A e => by unfold fvs at e; cases e
theorem exml_cons {K : PySem.W.Frag} {c : Value} {cs : List Nat} {n : Nat} {x : Str} {A C : Addr} {l : List (Nat × Str)} (a : PySem.W.nsIn K mainGlobals x = some (some (.ref A))) (hc : c = .ref C) (h1 : PySem.W.subIn K (.ref C) (.type "BaseException") = some true) (h2 : PySem.W.hasDictIn K C = true)
    (h3 : PySem.W.typeIn K (.ref C) = some (.type "type")) (h4 : PySem.W.subIn K (.ref A) (.ref C) = some (cs.contains n)) (r : ExmL K l c cs) : ExmL K ((n, x) :: l) c cs := fun m B e => by
  unfold fvs at e
  rw [List.lookup_cons] at e
  split at e
  · rename_i y hy
    split at hy
    · rename_i hb
      cases hy
      have hm : m = n := by simpa using hb
      rw [a] at e
      cases e
      rw [hm, hc]
      exact PySem.W.exm_ref h1 h2 h3 h4
    · refine r m B ?_
      unfold fvs
      rw [hy]
      exact e
  · cases e
theorem calm_tab {C : Nat → Bool} {tab : List (Nat × Fn)} (h : tab.all (fun p => !C p.1 || calmB C p.2.body) = true) : ∀ i f, C i = true → tab.lookup i = some f → calmB C f.body = true := fun i f hi hf => by
  induction tab with
  | nil => cases hf
  | cons p r ih =>
    obtain ⟨n, g⟩ := p
    rw [List.all_cons, Bool.and_eq_true] at h
    rw [List.lookup_cons] at hf
    split at hf
    · rename_i hb
      cases hf
      have : i = n := by simpa using hb
      subst this
      have h1 := h.1
      simp only [hi, Bool.not_true, Bool.false_or] at h1
      exact h1
    · exact ih h.2 hf
section
variable {X : Cx} {fa : FA} {cf : Nat → List PV → PH → Res PV} {a : Addr} {oe : Obj} {pn : List (Addr × Obj)} {cls : Value} {d : Option Addr} {y : XA} {i k : Nat}
theorem c_eqS (hr : Room k X.A) : CmpR (X.suite a pn) fa .Eq .eq := ⟨⟨_, op_eqD (X := X.suite a pn) hr.units, ok_eq⟩, cmp_bl _⟩
theorem c_neS (hr : Room k X.A) : CmpR (X.suite a pn) fa .NotEq .ne := ⟨⟨_, op_neD (X := X.suite a pn) hr.units, ok_ne⟩, cmp_bl _⟩
/-- e.f, e the exception in hand -/
theorem x_fld {f x : Str} {p pos : Pos} (hy : XSu X.K fa i a cls d y) (hz : Zc cls d oe) (hf : ∃ vs, oe.data = .fields vs) (hv : PE (X.suite a ((a, oe) :: pn)) (.Name x p) (tVar i)) : PE (X.suite a ((a, oe) :: pn)) (.Attribute (.Name x p) f pos) (tE X.K (fa.in y) cf (.xfld i f)) := by
  obtain ⟨c, v, A, hpv, hA, rfl, hc⟩ := hy.ex
  have no : ∀ {s : Sl} {h : PH} {r : PV} {h' : PH}, s[i]? = some (some y.pv) → evE cf (.xfld i f) s h = .ok r h' → h' = h ∧ ∃ (w : V) (dd : Addr), d = some dd ∧ y.fs = [(f, w)] ∧ Con X.K fa w r ∧ XfC X.K A ∧ PySem.W.findIn X.K (.ref A) f = some none := fun {s h r h'} hs e => by
    simp only [evE, hs, hpv] at e
    rcases hc with rfl | ⟨g, z, w, dd, rfl, hd, hfs, hcon, hxf, hno⟩
    · simp only [excV] at e; cases e
    · simp only [excV] at e
      split at e
      · rename_i hg; subst hg; cases e
        exact ⟨rfl, w, dd, hd, hfs, hcon, hxf, hno⟩
      · cases e
  refine ⟨fun pins s0 sg H Q I ⟨io, s, h, r, h', rs, rh, e, q⟩ => ?_⟩
  obtain ⟨e1, e2, e3⟩ := rs.ex y rfl
  rw [hy.hi] at e1 e2
  rw [hy.ha] at e1
  obtain ⟨rfl, w, dd, hd, hfs, hcon, hxf, hno⟩ := no e2 e
  refine (pe_xf hxf hno hz hf hv).run pins s0 sg H Q I ⟨.ref a, e1, rfl, rfl, dd, y.fs, w, hd, e3 dd (by rw [hy.hd, hd]), by rw [hfs]; simp, q io H w .refl rh ?_⟩
  exact Rl.swap (fa := fa) (fb := fa.in y) rfl (hcon io H)
end
end PB

set_option Elab.async false
set_option linter.all false
set_option maxRecDepth 100000
set_option maxHeartbeats 2000000
namespace PB
open PySem PySem.Spec PyProof.Rows L2
/-! ### the head: the written part of the heap, read by a Hook -/
def stepA (g : Addr → Option Obj) (as : List Addr) : List Addr := as.flatMap fun a => match g a with
  | some o => He.refsD o
  | none => []
def lvA (g : Addr → Option Obj) : Nat → List Addr → List Addr
  | 0, as => as
  | n + 1, as => as ++ lvA g n (stepA g as)
def asP (g : Addr → Option Obj) : List Addr := cStatics :: mainGlobals :: lvA g 3 (stepA g [mainGlobals])
def forceL {α : Type} : List Addr → (List Addr → α) → α
  | [], k => k []
  | a :: r, k => HandSHeadRun.frNat a fun a => forceL r fun r => k (a :: r)
theorem forceL_eq {α : Type} : ∀ (as : List Addr) (k : List Addr → α), forceL as k = k as
  | [], _ => rfl
  | a :: r, k => by
    show HandSHeadRun.frNat a (fun a => forceL r fun r => k (a :: r)) = _
    rw [HandSHeadRun.frNat_eq, forceL_eq r]
def forceK {α : Type} (g : Addr → Option Obj) : List Addr → (PySem.W.Frag → α) → α
  | [], k => k []
  | a :: r, k => match g a with
    | some o => (match He.emptyTab o with
      | true => forceK g r k
      | false => forceK g r fun K => k ((a, o) :: K))
    | none => forceK g r k
theorem forceK_eq {α : Type} {g : Addr → Option Obj} : ∀ (as : List Addr) (k : PySem.W.Frag → α), forceK g as k = k (He.frT g as)
  | [], _ => rfl
  | a :: r, k => by
    have e0 : He.frG g (a :: r) = (match g a with
      | some o => (a, o) :: He.frG g r
      | none => He.frG g r) := by
      unfold He.frG
      rw [List.filterMap_cons]
      cases g a <;> rfl
    unfold forceK
    cases q : g a with
    | none =>
      rw [q] at e0
      show forceK g r k = _
      rw [forceK_eq r k]
      unfold He.frT
      rw [e0]
    | some o =>
      rw [q] at e0
      show (match He.emptyTab o with
        | true => forceK g r k
        | false => forceK g r fun K => k ((a, o) :: K)) = _
      cases hb : He.emptyTab o with
      | true =>
        show forceK g r k = _
        rw [forceK_eq r k]
        unfold He.frT
        rw [e0]
        simp only [List.filter_cons, hb, Bool.not_true, Bool.false_eq_true, if_false]
      | false =>
        show forceK g r (fun K => k ((a, o) :: K)) = _
        rw [forceK_eq r]
        unfold He.frT
        rw [e0]
        simp only [List.filter_cons, hb, Bool.not_false, if_true]
/-! ### facts -/
mutual
/-- the value u stands for a constant -/
def kcB (K : PySem.W.Frag) : PV → Value → Bool
  | .non, .none => true
  | .bl b, .bool c => b == c
  | .int i, .int j _ => decide (j = i)
  | .str x, .str y _ => decide (y = x)
  | .tup xs, .ref a => (match K.lookup a with
    | some ⟨.type c, none, .seq its _, _⟩ => decide (c = "tuple") && (decide (its.size ≤ 1000) && kcBs K xs its.toList)
    | _ => false)
  | _, _ => false
def kcBs (K : PySem.W.Frag) : List PV → List Value → Bool
  | [], [] => true
  | x :: xs, u :: us => kcB K x u && kcBs K xs us
  | _, _ => false
end
mutual
theorem kcB_ok {K : PySem.W.Frag} {fa : FA} : ∀ {x : PV} {u : Value}, kcB K x u = true → KC K fa u x
  | .non, u, h => by
    cases u with
    | none => exact KC.non
    | _ => simp [kcB] at h
  | .bl b, u, h => by
    cases u with
    | bool c => simp [kcB] at h; subst h; exact KC.bl
    | _ => simp [kcB] at h
  | .int i, u, h => by
    cases u with
    | int j t => simp [kcB] at h; subst h; exact KC.int
    | _ => simp [kcB] at h
  | .str i, u, h => by
    cases u with
    | str j t => simp [kcB] at h; subst h; exact KC.str
    | _ => simp [kcB] at h
  | .tup xs, u, h => by
    cases u with
    | ref a =>
      rw [kcB] at h
      cases q : K.lookup a with
      | none => rw [q] at h; cases h
      | some o =>
        obtain ⟨oc, od, dt, osl⟩ := o
        rw [q] at h
        cases oc with
        | type c =>
          cases od with
          | none =>
            cases dt with
            | seq its n =>
              obtain ⟨h1, h2⟩ := Bool.and_eq_true_iff.mp (show (decide (c = "tuple") && (decide (its.size ≤ 1000) && kcBs K xs its.toList)) = true from h)
              obtain ⟨h2, h3⟩ := Bool.and_eq_true_iff.mp h2
              have hc : c = "tuple" := of_decide_eq_true h1
              subst hc
              have hk : KCs K fa its.toList xs := kcBs_ok h3
              refine KC.tup (us := its.toList) (n := n) (sl := osl) (by rw [q]) hk ?_
              rw [← hk.length]
              exact of_decide_eq_true h2
            | _ => cases h
          | some d => cases dt <;> cases h
        | _ => cases od <;> cases dt <;> cases h
    | _ => simp [kcB] at h
  | .wtup _, u, h => by simp [kcB] at h
  | .scr _, u, h => by simp [kcB] at h
  | .ref _, u, h => by simp [kcB] at h
  | .fn _, u, h => by simp [kcB] at h
  | .dct, u, h => by simp [kcB] at h
theorem kcBs_ok {K : PySem.W.Frag} {fa : FA} : ∀ {xs : List PV} {us : List Value}, kcBs K xs us = true → KCs K fa us xs
  | [], us, h => by
    cases us with
    | nil => exact .nil
    | cons _ _ => simp [kcBs] at h
  | x :: xs, us, h => by
    cases us with
    | nil => simp [kcBs] at h
    | cons u us =>
      rw [kcBs] at h
      obtain ⟨h1, h2⟩ := Bool.and_eq_true_iff.mp h
      exact .cons (kcB_ok h1) (kcBs_ok h2)
end
/-- facts of names -/
inductive Fx where
  | free (x : Str)
  | gcd
  | con (x : Str) (c : PV)
  | glo (x : Str)
  | e0 (x : Str)
  | e1 (x f q file : Str)
  | hdl (c : Str)
  | sub (y c : Str) (b : Bool)
  | tab (x : Str)
  | isx (y : Str)
  | kit (y c : Str) (b : Bool)
  | kitV (y : Str)
/-- an own class of exceptions over ValueError -/
def exClsB (K : PySem.W.Frag) (C : Addr) : Bool := match K.lookup C with
  | some ⟨.type "type", _, .cls cd, sl⟩ => (match cd.mro, sl.toList with
    | .ref C' :: bm, [_, _, _, _, some (.builtin n), _] => C' == C && (n == "ValueError.__new__" && (!cd.hasDel && (cd.hasDict && PySem.HandSPX.refsVE bm)))
    | _, _ => false)
  | _ => false
abbrev IniW : Type := Option (Str × Str × Arguments × FuncBody × Scope × Addr × Addr)
def iniA (K : PySem.W.Frag) (x : Str) : Addr := He.ma K (He.ga K x) "__init__"
def iniW (K : PySem.W.Frag) (x : Str) : IniW := match K.lookup (iniA K x) with
  | some ⟨_, _, .func fd, _⟩ => some (fd.name, fd.qualname, fd.params, fd.body, fd.scope, fd.globals, fd.builtins)
  | _ => none
def iniB (K : PySem.W.Frag) (x q file : Str) : Bool := match K.lookup (iniA K x) with
  | some ⟨_, _, .func fd, _⟩ => (match fd.closure, fd.code with
    | [(nm, cc)], .ref cda => (decide (nm = "__class__") && (match fd.defaults with
      | .none => true
      | _ => false)) && (PySem.W.codeIn K (.ref cda) q && ((match K.lookup cda with
      | some ⟨_, _, .fields vs0, _⟩ => (match (vs0[2]? : Option Value) with
        | some (.str fl _) => decide (fl = file)
        | _ => false)
      | _ => false) && (match K.lookup cc with
      | some ⟨_, _, .cell (some (.ref A')), _⟩ => A' == He.ga K x
      | _ => false)))
    | _, _ => false)
  | _ => false
def Fx.ok (K : PySem.W.Frag) : Fx → Bool
  | .free x => He.eqO (PySem.W.nsIn K mainGlobals x) (some none)
  | .gcd => He.eqO (PySem.W.nsIn K mainGlobals "gcd") (some (some (.builtin "math.gcd")))
  | .con x c => (match PySem.W.nsIn K mainGlobals x with
    | some (some u) => kcB K c u
    | _ => false)
  | .glo x => He.eqO (PySem.W.nsIn K mainGlobals x) (some (some (.ref (He.ga K x))))
  | .e0 x => He.eqO (PySem.W.nsIn K mainGlobals x) (some (some (.ref (He.ga K x)))) && (He.Fa.exc x).ok K
  | .e1 x f q file => He.eqO (PySem.W.nsIn K mainGlobals x) (some (some (.ref (He.ga K x)))) && (exClsB K (He.ga K x) && (He.eqO (PySem.W.findIn K (.ref (He.ga K x)) "__setattr__") (some (some (.builtin "object.__setattr__"))) &&
      (decide (PySem.W.subIn K (.ref (He.ga K x)) (.type "BaseException") = some true) && (decide (PySem.W.typeIn K (.ref (He.ga K x)) = some (.type "type")) && (PySem.W.keepIn K (.ref (He.ga K x)) && (xfB K (He.ga K x) &&
      (He.eqO (PySem.W.findIn K (.ref (He.ga K x)) f) (some none) && (He.eqO (PySem.W.findIn K (.ref (He.ga K x)) "__init__") (some (some (.ref (iniA K x)))) && (decide (PySem.W.typeIn K (.ref (iniA K x)) = some (.type "function")) &&
      (iniB K x q file && (He.eqO (PySem.W.nsIn K mainGlobals "super") (some none) && ((PySem.W.clsIn K (He.ga K x)).isSome && (decide (PySem.W.mroIn K (He.ga K x) (.ref (He.ga K x)) = some true) && (He.eqO (PySem.W.nsIn K cStatics "thirdparty.any") (some none) &&
      (He.eqO (PySem.W.ks_superIn K (He.ga K x) (He.ga K x) "__init__") (some (some (.builtin "ValueError.__init__"))) && decide (PySem.W.subIn K (.ref (He.ga K x)) (.type "ValueError") = some true))))))))))))))))
  | .hdl c => He.eqO (PySem.W.nsIn K mainGlobals c) (some (some (.ref (He.ga K c)))) && (decide (PySem.W.subIn K (.ref (He.ga K c)) (.type "BaseException") = some true) && (PySem.W.hasDictIn K (He.ga K c) && decide (PySem.W.typeIn K (.ref (He.ga K c)) = some (.type "type"))))
  | .sub y c b => decide (PySem.W.subIn K (.ref (He.ga K y)) (.ref (He.ga K c)) = some b)
  | .isx y => He.eqO (PySem.W.findIn K (.ref (He.ga K y)) "__getattribute__") (some (some (.builtin "BaseException.__getattribute__"))) && (He.eqO (PySem.W.findIn K (.ref (He.ga K y)) "__getattr__") (some none) && (decide (PySem.W.subIn K (.ref (He.ga K y)) (.type "BaseException") = some true) &&
      (PySem.W.hasDictIn K (He.ga K y) && (He.eqO (PySem.W.findIn K (.ref (He.ga K y)) "__class__") (some (some (.builtin "object.__class__"))) && (He.eqO (PySem.W.specialIn K (.builtin "object.__class__") "__get__") (some (some (.builtin "getset_descriptor.__get__"))) && (decide (PySem.W.takesIn K (.builtin "object.__class__") = some true) &&
      decide (PySem.W.mroIn K (He.ga K y) (.type "object") = some true)))))))
  | .kit y c b => decide (PySem.W.kitOne K (.ref (He.ga K y)) (.ref (He.ga K c)) = some b)
  | .kitV y => decide (PySem.W.kitOne K (.ref (He.ga K y)) (.type "ValueError") = some true)
  | .tab x => PySem.W.codeHdIn K (He.cT K (x, none)).1 (He.cT K (x, none)).2
section
variable {K : PySem.W.Frag} {h : Heap} {mg : Str → Option Value} {fa : FA} {x c y f q file : Str}
theorem exCls_ok {C : Addr} (e : exClsB K C = true) : ∃ nm q N bs bm sn sub ab col dd k0 k1 k2 k3 k5, K.lookup C = some (excClassObj nm q C N bs bm true sn sub ab col dd k0 k1 k2 k3 k5 "ValueError.__new__") ∧ PySem.HandSPX.refsVE bm = true := by
  unfold exClsB at e
  split at e
  · rename_i dd cd sl ho
    split at e
    · rename_i C' bm k0 k1 k2 k3 n k5 hm hs
      simp only [Bool.and_eq_true, beq_iff_eq, Bool.not_eq_true'] at e
      obtain ⟨e1, e2, e3, e4, e5⟩ := e
      obtain ⟨cn, cb, cm, cns, cq, chd, csn, csub, cab, ccol, cdel⟩ := cd
      simp only at hm e3 e4
      subst e1 e2 e3 e4 hm
      obtain ⟨sl⟩ := sl
      simp only at hs
      subst hs
      exact ⟨cn, cq, cns, cb, bm, csn, csub, cab, ccol, dd, k0, k1, k2, k3, k5, ho, e5⟩
    · cases e
  · cases e
theorem fx_free (X : K.In h) (G : h.Ns mainGlobals mg) (e : (Fx.free x).ok K = true) : mg x = none := PySem.W.mg_none_of X G (He.eqO_ok e)
theorem fx_gcd (X : K.In h) (G : h.Ns mainGlobals mg) (e : Fx.gcd.ok K = true) : mg "gcd" = some (.builtin "math.gcd") := PySem.W.mg_of X G (He.eqO_ok e)
theorem fx_con {v : PV} (X : K.In h) (G : h.Ns mainGlobals mg) (e : (Fx.con x v).ok K = true) : GC mg K fa x v := by
  have e2 : (match PySem.W.nsIn K mainGlobals x with
    | some (some u) => kcB K v u
    | _ => false) = true := e
  cases q : PySem.W.nsIn K mainGlobals x with
  | none => rw [q] at e2; cases e2
  | some o =>
    rw [q] at e2
    cases o with
    | none => cases e2
    | some u => exact KC.gc (PySem.W.mg_of X G q) (kcB_ok e2)
theorem fx_fn {n : Nat} {l : List (Nat × Str)} {ca : Nat → Option Addr} {tb : List (Addr × Str)} (X : K.In h) (G : h.Ns mainGlobals mg) (e : (Fx.glo x).ok K = true) (hl : l.lookup n = some x) : GC mg K ⟨fvs K l, ca, none, tb⟩ x (.fn n) := GC.fnv X G (He.eqO_ok e) hl
theorem fx_e0 {i : Nat} {l : List (Nat × Str)} (X : K.In h) (G : h.Ns mainGlobals mg) (e : (Fx.e0 x).ok K = true) (hl : l.lookup i = some x) : ∃ A, fvs K l i = some A ∧ Ex0 K mg x A := by
  obtain ⟨e1, e2⟩ := He.ba e
  obtain ⟨h1, h2, h3, h4⟩ := He.exc_ok e2
  exact ⟨_, fvs_of hl (He.eqO_ok e1), PySem.W.mg_of X G (He.eqO_ok e1), ⟨_, _, _, _, PySem.F.excBase_ValueError, h1⟩, h2, h3, h4⟩
theorem fx_has {n : Nat} {st : Stmt} {ps : List Str} (X : K.In h) (G : h.Ns mainGlobals mg) (e : (Fx.glo x).ok K = true)
    (w : He.fnW K (x, none) = (He.DefD.mk (x, none) x x (C8.fnArgs st) (C8.fnBody st) (C8.fnScope st) [] []).val) (d : (He.DefD.mk (x, none) x x (C8.fnArgs st) (C8.fnBody st) (C8.fnScope st) [] []).ok K = true)
    (b : ∀ (kV doc pm : Value) (an : Option Addr) (cdv ct : Value) (us : List Value), us.length = ps.length → bindArgs (PySem.W.fnOf x x (C8.fnArgs st) (C8.fnBody st) (C8.fnScope st) .none kV doc pm an cdv ct) ⟨us, []⟩ = pure (ps.zip us)) : Has K mg x st ps := by
  obtain ⟨fd, F⟩ := He.DefD.funD w d
  obtain ⟨oc, od, dV, kV, doc, pm, an, cdv, ct, osl, rfl, lk, hc, hd, _⟩ := F.ex
  have hd0 : dV = .none := by
    rcases hd with ⟨_, z⟩ | ⟨z, _⟩
    · exact z
    · exact absurd rfl z
  subst hd0
  exact has_mk X G (He.eqO_ok e) lk hc F.kp b
theorem fx_hdl {l : List (Nat × Str)} {fn : Nat → Option Addr} {cs : List Nat} {tb : List (Addr × Str)} (X : K.In h) (G : h.Ns mainGlobals mg) (e : (Fx.hdl c).ok K = true) (hl : ExmL K l (.ref (He.ga K c)) cs) : ∃ A, mg c = some (.ref A) ∧ Exm K ⟨fn, fvs K l, none, tb⟩ (.ref A) cs :=
  ⟨_, PySem.W.mg_of X G (He.eqO_ok (He.ba e).1), hl⟩
theorem fx_sub {n : Nat} {l : List (Nat × Str)} {cs : List Nat} (e : (Fx.hdl c).ok K = true) (a : (Fx.glo y).ok K = true) (s : (Fx.sub y c (cs.contains n)).ok K = true) (r : ExmL K l (.ref (He.ga K c)) cs) : ExmL K ((n, y) :: l) (.ref (He.ga K c)) cs := by
  obtain ⟨_, e⟩ := He.ba e
  obtain ⟨h1, e⟩ := He.ba e
  obtain ⟨h2, h3⟩ := He.ba e
  exact exml_cons (He.eqO_ok a) rfl (of_decide_eq_true h1) h2 (of_decide_eq_true h3) (of_decide_eq_true s) r
theorem fx_isx (e : (Fx.isx y).ok K = true) : ExcC K (He.ga K y) := by
  obtain ⟨h1, e⟩ := He.ba e
  obtain ⟨h2, e⟩ := He.ba e
  obtain ⟨h3, e⟩ := He.ba e
  obtain ⟨h4, e⟩ := He.ba e
  obtain ⟨h5, e⟩ := He.ba e
  obtain ⟨h6, e⟩ := He.ba e
  obtain ⟨h7, h8⟩ := He.ba e
  exact ⟨He.eqO_ok h1, He.eqO_ok h2, of_decide_eq_true h3, h4, He.eqO_ok h5, He.eqO_ok h6, of_decide_eq_true h7, of_decide_eq_true h8⟩
theorem fx_kit {b : Bool} (e : (Fx.kit y c b).ok K = true) : PySem.W.kitOne K (.ref (He.ga K y)) (.ref (He.ga K c)) = some b := of_decide_eq_true e
theorem fx_kitV (e : (Fx.kitV y).ok K = true) : PySem.W.kitOne K (.ref (He.ga K y)) (.type "ValueError") = some true := of_decide_eq_true e
theorem fx_e1 {P : Program} {i : Nat} {l : List (Nat × Str)} {params : Arguments} {scope : Scope} {p0 p1 p2 p3 p4 p5 p6 p7 p8 p9 : Pos} {ar : Arg} (X : K.In h) (G : h.Ns mainGlobals mg) (e : (Fx.e1 x f q file).ok K = true) (hl : l.lookup i = some x)
    (iv : iniW K x = some (("__init__" : Str), q, params, FuncBody.stmts (initBody f p0 p1 p2 p3 p4 p5 p6 p7 p8 p9), scope, mainGlobals, builtinsNs)) (ie : (P.main.file : Str) = file) (jf : (P.main.scope.names.lookup ("super" : Str)).isSome = false)
    (jn : NdefX.nscB ["self", f, "__class__"] ["self", f] ["__class__"] scope = true) (io : scope.names.lookup ("super" : Str) = some .globalImplicit) (ip : (params.posonlyargs ++ params.args).head? = some ar) (iq : ar.arg = "self")
    (iz : ∀ env : Env, ∃ pl : Sem Bool, eval (.Call (.Attribute (.Call (.Name "super" p0) [] [] p1) "__init__" p2) [.Name f p3] [] p4) env = (do
      let ov ← attributeBase (.Call (.Name "super" p0) [] [] p1) "__init__" env (eval (.Call (.Name "super" p0) [] [] p1) env)
      standAt p2.atName
      let (g, first) ← holding [ov] (getMethod ov "__init__" pl)
      callWith p4 g first (backTo p4 (starEach [.Name f p3] env)) []))
    (ib2 : ∀ (cc cda : Addr) (kV doc pm : Value) (an : Option Addr) (ct : Value) (us : List Value), us.length = 2 → bindArgs (PySem.W.fnX "__init__" q params (initBody f p0 p1 p2 p3 p4 p5 p6 p7 p8 p9) scope [("__class__", cc)] .none kV doc pm an (.ref cda) ct) ⟨us, []⟩ = pure ((["self", f] : List Str).zip us))
    (f1 : (f == ("__debug__" : Str)) = false) (f2 : (f == ("__classdict__" : Str)) = false) : ∃ A, fvs K l i = some A ∧ Ex1 P K mg x f A := by
  obtain ⟨a1, e⟩ := He.ba e
  obtain ⟨a2, e⟩ := He.ba e
  obtain ⟨a3, e⟩ := He.ba e
  obtain ⟨a4, e⟩ := He.ba e
  obtain ⟨a5, e⟩ := He.ba e
  obtain ⟨a6, e⟩ := He.ba e
  obtain ⟨a7, e⟩ := He.ba e
  obtain ⟨a8, e⟩ := He.ba e
  obtain ⟨a9, e⟩ := He.ba e
  obtain ⟨a10, e⟩ := He.ba e
  obtain ⟨a11, e⟩ := He.ba e
  obtain ⟨a12, e⟩ := He.ba e
  obtain ⟨a13, e⟩ := He.ba e
  obtain ⟨a14, e⟩ := He.ba e
  obtain ⟨a15, e⟩ := He.ba e
  obtain ⟨a16, a17⟩ := He.ba e
  refine ⟨_, fvs_of hl (He.eqO_ok a1), ?_⟩
  obtain ⟨nm, q0, N0, bs, bm, sn, sub, ab, col, dd, k0, k1, k2, k3, k5, el, er⟩ := exCls_ok a2
  obtain ⟨cdC, ih⟩ := Option.isSome_iff_exists.mp a13
  unfold iniW at iv
  unfold iniB at a11
  cases lk : K.lookup (iniA K x) with
  | none => rw [lk] at iv; cases iv
  | some o =>
    obtain ⟨oc, od, dt, osl⟩ := o
    rw [lk] at iv a11
    cases dt with
    | func fd =>
      obtain ⟨n1, n2, n3, n4, n5, n6, n7, n8, n9, n10, n11, n12, n13, n14, n15⟩ := fd
      have iv2 : (some (n1, n2, n3, n4, n5, n6, n15) : IniW) = some (("__init__" : Str), q, params, FuncBody.stmts (initBody f p0 p1 p2 p3 p4 p5 p6 p7 p8 p9), scope, mainGlobals, builtinsNs) := iv
      simp only [Option.some.injEq, Prod.mk.injEq] at iv2
      obtain ⟨b1, b2, b3, b4, b5, b6, b7⟩ := iv2
      subst b1 b2 b3 b4 b5 b6 b7
      simp only at a11
      split at a11
      · rename_i _ _ nm2 cc cda
        obtain ⟨c1, a11⟩ := He.ba a11
        obtain ⟨c2, a11⟩ := He.ba a11
        obtain ⟨c3, c4⟩ := He.ba a11
        obtain ⟨c1, c0⟩ := He.ba c1
        have hn : nm2 = "__class__" := of_decide_eq_true c1
        subst hn
        have hd : n8 = .none := by
          split at c0
          · first | rfl | assumption
          · cases c0
        subst hd
        cases kc : K.lookup cda with
        | none => rw [kc] at c3; cases c3
        | some o2 =>
          obtain ⟨oc2, od2, dt2, osl2⟩ := o2
          rw [kc] at c3
          cases dt2 with
          | fields vs0 =>
            simp only at c3
            split at c3
            · rename_i fl tf hv
              have hfl : fl = file := of_decide_eq_true c3
              subst hfl
              cases kd : K.lookup cc with
              | none => rw [kd] at c4; cases c4
              | some o3 =>
                obtain ⟨oc3, od3, dt3, osl3⟩ := o3
                rw [kd] at c4
                cases dt3 with
                | cell v =>
                  cases v with
                  | some v =>
                    cases v with
                    | ref A' =>
                      have hA : A' = He.ga K x := beq_iff_eq.mp c4
                      subst hA
                      exact ex1_mk X G (He.eqO_ok a1) el er (He.eqO_ok a3) (of_decide_eq_true a4) (of_decide_eq_true a5) a6 a7 (He.eqO_ok a8) (He.eqO_ok a9) (of_decide_eq_true a10) lk c2 kc hv (by rw [ie]; exact beq_self_eq_true _) jf kd (He.eqO_ok a12) ih (of_decide_eq_true a14) (He.eqO_ok a15) (He.eqO_ok a16) (of_decide_eq_true a17) jn io ip iq iz (ib2 _ _ _ _ _ _ _) f1 f2
                    | _ => cases c4
                  | none => cases c4
                | _ => cases c4
            · cases c3
          | _ => cases c3
      · cases a11
    | _ => cases iv
end
/-- the first statement of a class -/
def clsInit : Stmt → Stmt
  | .ClassDef _ _ _ (st :: _) _ _ _ _ _ _ _ => st
  | st => st
def iniV (q : Str) (st : Stmt) : IniW := some (("__init__" : Str), q, C8.fnArgs st, FuncBody.stmts (C8.fnBody st), C8.fnScope st, mainGlobals, builtinsNs)
/-! ### the Hook -/
abbrev AlP : Type := Bool × List He.FnW × List IniW
def defOf (x : Str) (st : Stmt) : He.DefD := ⟨(x, none), x, x, C8.fnArgs st, C8.fnBody st, C8.fnScope st, [], []⟩
def obsP (fx : List Fx) (fn : List He.DefD) (ini : List Str) (K : PySem.W.Frag) : AlP := ((fx.all fun f => f.ok K) && fn.all fun d => d.ok K, fn.map fun d => He.fnW K d.at_, ini.map fun x => iniW K x)
def obsPG (fx : List Fx) (fn : List He.DefD) (ini : List Str) (g : Addr → Option Obj) : AlP := forceL (asP g) fun as => forceK g as fun K => obsP fx fn ini K
def valP (fn : List He.DefD) (iv : List IniW) : AlP := (true, fn.map He.DefD.val, iv)
structure SaysP (fx : List Fx) (fn : List He.DefD) (ini : List Str) (iv : List IniW) (K : PySem.W.Frag) : Prop where
  eq : obsP fx fn ini K = valP fn iv
def hookP (fx : List Fx) (fn : List He.DefD) (ini : List Str) (iv : List IniW) : PySem.W.Hook where
  α := AlP
  obs := fun s => obsPG fx fn ini s.heap.get?
  val := fun _ => valP fn iv
  says := fun _ h => ∃ K : PySem.W.Frag, K.In h ∧ SaysP fx fn ini iv K
  of := fun _ s e => ⟨He.frT s.heap.get? (asP s.heap.get?), He.frT_in, ⟨by
    unfold obsPG at e
    rw [forceL_eq, forceK_eq] at e
    exact e⟩⟩
  keeps := fun _ _ _ ⟨K, hK, c⟩ k => ⟨K, PySem.W.Frag.In.keeps hK k, c⟩
theorem obsPG_eq {fx : List Fx} {fn : List He.DefD} {ini : List Str} {iv : List IniW} {g : Addr → Option Obj} {s : Shared} (h : ∀ a, g a = s.heap.get? a) : obsPG fx fn ini g = (hookP fx fn ini iv).obs s := by
  have e : g = s.heap.get? := funext h
  rw [e]
  rfl
section
variable {fx : List Fx} {fn : List He.DefD} {ini : List Str} {iv : List IniW} {K : PySem.W.Frag}
theorem SaysP.fact (c : SaysP fx fn ini iv K) (i : Nat) {f : Fx} (h : fx[i]? = some f) : f.ok K = true := by
  have c1 := (He.ba (show ((fx.all fun f => f.ok K) && fn.all fun d => d.ok K) = true from congrArg (fun z : AlP => z.1) c.eq)).1
  exact List.all_eq_true.mp c1 f (List.mem_of_getElem? h)
theorem SaysP.defB (c : SaysP fx fn ini iv K) (i : Nat) {d : He.DefD} (h : fn[i]? = some d) : He.fnW K d.at_ = d.val ∧ d.ok K = true := by
  have c2 := (He.ba (show ((fx.all fun f => f.ok K) && fn.all fun d => d.ok K) = true from congrArg (fun z : AlP => z.1) c.eq)).2
  have e : fn.map (fun d => He.fnW K d.at_) = fn.map He.DefD.val := congrArg (fun z : AlP => z.2.1) c.eq
  have e2 : (fn.map fun d => He.fnW K d.at_)[i]? = (fn.map He.DefD.val)[i]? := by rw [e]
  rw [List.getElem?_map, List.getElem?_map, h] at e2
  exact ⟨Option.some.inj e2, List.all_eq_true.mp c2 d (List.mem_of_getElem? h)⟩
theorem SaysP.iniAt (c : SaysP fx fn ini iv K) (i : Nat) {x : Str} (h : ini[i]? = some x) : some (iniW K x) = iv[i]? := by
  have e : ini.map (fun x => iniW K x) = iv := congrArg (fun z : AlP => z.2.2) c.eq
  rw [← e, List.getElem?_map, h]
  rfl
end
end PB

set_option Elab.async false
set_option linter.all false
set_option maxRecDepth 100000
set_option maxHeartbeats 2000000
namespace PB
open PySem PySem.Spec PyProof.Rows L2 LamX
/-! ### a lambda, with parameters that stand by default, handed to a def -/
structure LamG (N : List Str) (sc scope : Scope) (ps : List Str) : Prop where
  kind : scope.kind = .function
  co : scope.isCoroutine = false
  gen : scope.isGenerator = false
  own : ∀ y ∈ scope.names, y.2 ≠ .cell ∧ (y.2 = .local → y.1 ∈ ps)
  par : ∀ p ∈ ps, scope.names.lookup p = some .local
  out : ∀ p ∈ ps, p ∉ N
  free : ∀ y ∈ scope.names, y.2 = .free → sc.names.lookup y.1 = some .cell ∨ sc.names.lookup y.1 = some .free
def lamGB (N : List Str) (sc scope : Scope) (ps : List Str) : Bool :=
  decide (scope.kind = .function) && (!scope.isCoroutine && (!scope.isGenerator && ((scope.names.all fun y => !decide (y.2 = .cell) && (!decide (y.2 = .local) || decide (y.1 ∈ ps))) &&
    ((ps.all fun p => decide (scope.names.lookup p = some .local) && !decide (p ∈ N)) && scope.names.all fun y => !decide (y.2 = .free) || (decide (sc.names.lookup y.1 = some .cell) || decide (sc.names.lookup y.1 = some .free))))))
theorem lamG_by {N : List Str} {sc scope : Scope} {ps : List Str} (h : lamGB N sc scope ps = true) : LamG N sc scope ps := by
  unfold lamGB at h
  simp only [Bool.and_eq_true, Bool.or_eq_true, Bool.not_eq_true', decide_eq_true_eq, decide_eq_false_iff_not, List.all_eq_true] at h
  obtain ⟨h1, h2, h3, h4, h5, h6⟩ := h
  refine ⟨h1, h2, h3, fun y hy => ⟨(h4 y hy).1, fun e => (h4 y hy).2.resolve_left fun z => z e⟩, fun p hp => (h5 p hp).1, fun p hp => (h5 p hp).2, fun y hy e => ?_⟩
  exact (h6 y hy).resolve_left fun z => z e
theorem LamG.has {X : Cx} {scope : Scope} {ps : List Str} (L : LamG X.N X.env.scope scope ps) (ok : X.Ok) : ∀ y ∈ scope.names, y.2 = .free → ∃ c, X.env.cells.lookup y.1 = some c := fun y hy e =>
  ok.has _ (L.free y hy e)
/-- the lambda's function object -/
abbrev lamO (X : Cx) (params : Arguments) (body : Expr) (scope : Scope) (dV doc pm : Value) (c' : Addr) (ctv : Value) : Obj :=
  PySem.W.kdv_obj "<lambda>" (X.env.qual ++ "<lambda>") params (.expr body) scope (cloFrom X.env.cells scope.names []) dV doc pm c' ctv
section
variable {X : Cx} {pins : List (Addr × Obj)} {σ : L2.St} {H HZ : Hp} {s s1 : Shared} {params : Arguments} {body : Expr} {scope : Scope} {ps : List Str}
theorem lam_tail {T : List (Addr × Str)} {c P : Addr} {pos : Pos} {dV : Value} {E : Value → Shared → Prop} {Q : Value → Shared → Prop} (I : Inv X pins σ H s) (TB : TabB X.base X.mg c P) (hcode : X.env.code = .ref c)
    (hm : (P, X.env.qual ++ "<lambda>") ∈ T) (hu : ∀ p ∈ T, p.1 = P → p.2 = X.env.qual ++ "<lambda>") (hT : Tabs T H) (L : LamG X.N X.env.scope scope ps)
    (h : ∀ (f c' : Addr) (doc pm ctv : Value) (H1 : Hp) (s' : Shared), Inv X pins σ H1 s' → ExtN H H1 → Tabs T H1 → (∀ b o, H b = none → s.heap.get? b = some o → s'.heap.get? b = some o) → (∀ b, H b = none → b < s.heap.objs.size → H1 b = none) →
      s'.heap.get? f = some (lamO X params body scope dV doc pm c' ctv) → H1 f = none → f ∉ frs X.stack → H1 c' = some (CodeO c' (X.env.qual ++ "<lambda>")) → Q (.ref f) s') :
    wpAny (model X.prog X.w) X.A (makeTail "<lambda>" (X.env.qual ++ "<lambda>") params (.expr body) scope X.env dV .none none pos pos.line) Q E s := by
  obtain ⟨tps, hP, ht, ha⟩ := hT _ hm
  have hfree := L.has I.ok
  have bP := TB.bm.keeps I.bk
  have hP' : s.heap.get? P = some { cls := .none, data := .fields tps } := I.hok P _ hP
  have off : ∀ f, s.heap.objs.size ≤ f → f ∉ frs X.stack := fun f hf z => by
    rcases List.mem_cons.mp (I.stkSub _ z) with e | e
    · exact Nat.lt_irrefl _ (Nat.lt_of_lt_of_le (e ▸ I.lt) hf)
    · exact I.nofs hf e
  have nP : ∀ b, H b = none → b ≠ P := fun b e z => by rw [z, hP] at e; cases e
  cases hc : codeAmong pos tps.toList with
  | none =>
    refine PySem.W.kdv_makeTail (mg := X.mg) (c := c) (P := P) (ps := tps) (closure_ok hfree) I.ok.glob (I.mod.glob.keeps I.bk) hcode (TB.code.keeps I.bk) hP' ht hc TB.gP bP fun c' ctv doc g' tk hx hge hlt hrec htb => ?_
    obtain ⟨c2, oc, vs, t, e2, hoc, hd, hv⟩ := hrec
    cases e2
    have nC : H c' = none := I.hok.fresh hge
    obtain ⟨O, hO⟩ : ∃ O, O = lamO X params body scope dV doc ((X.mg "__name__").getD .none) c' ctv := ⟨_, rfl⟩
    show Q (.ref g'.objs.size) { s with heap := g'.push (lamO X params body scope dV doc ((X.mg "__name__").getD .none) c' ctv), toks := tk }
    rw [← hO]
    have I1 := inv_table (t' := tk) (more := #[rawInt pos.line, rawInt pos.col, .ref c']) (h' := g'.push O) I hP (fun b o hb e => Heap.get?_push_of_some _ (hx b o hb e)) (Heap.get?_push_of_some _ htb) hge ⟨oc, vs, t, Heap.get?_push_of_some _ hoc, hd, hv⟩
    have n1 : g'.objs.size ≠ c' := Nat.ne_of_gt hlt
    have n2 : g'.objs.size ≠ P := Nat.ne_of_gt (Nat.lt_of_lt_of_le (Heap.lt_size hP') (Nat.le_trans hge (Nat.le_of_lt hlt)))
    have hE : ExtN H (upd (upd H P (.tbl (tps ++ #[rawInt pos.line, rawInt pos.col, .ref c']))) c' (CodeO c' (X.env.qual ++ "<lambda>"))) := fun b o e n => by
      rw [upd_ne (ne_of_none e nC), upd_ne (fun z => n tps (Option.some.inj (e.symm.trans (by rw [z]; exact hP))))]
      exact e
    refine h g'.objs.size c' doc ((X.mg "__name__").getD .none) ctv _ _ I1 hE (fun p hp => ?_) (fun b o n e => Heap.get?_push_of_some _ (hx b o (nP b n) e)) (fun b n l => ?_) (by rw [hO]; exact Heap.get?_push_size _ rfl) ?_ (off _ (Nat.le_trans hge (Nat.le_of_lt hlt))) upd_same
    · by_cases hb : p.1 = P
      · rw [hu p hp hb, hb]
        refine ⟨_, by rw [upd_ne (ne_of_none hP nC), upd_same], by simpa using PySem.TriplesOk_snoc _ _ _ _ ht, fun p' cv hcv => ?_⟩
        rcases among_app (pos := pos) (c := .ref c') tps.toList ht (by simpa using hcv) with z | z
        · obtain ⟨c0, e1, e2⟩ := ha p' cv z
          exact ⟨c0, e1, hE _ _ e2 codeO_ne⟩
        · exact ⟨c', z, upd_same⟩
      · obtain ⟨qs, a1, a2, a3⟩ := hT p hp
        refine ⟨qs, by rw [upd_ne (ne_of_none a1 nC), upd_ne hb]; exact a1, a2, fun p' cv hcv => ?_⟩
        obtain ⟨c0, e1, e2⟩ := a3 p' cv hcv
        exact ⟨c0, e1, hE _ _ e2 codeO_ne⟩
    · rw [upd_ne (Nat.ne_of_lt (Nat.lt_of_lt_of_le l hge)), upd_ne (nP b n)]; exact n
    · rw [upd_ne n1, upd_ne n2]
      exact I.hok.fresh (Nat.le_trans hge (Nat.le_of_lt hlt))
  | some cv =>
    obtain ⟨c', e, hco⟩ := ha pos cv hc
    subst e
    refine PySem.W.kdv_makeTailHit (mg := X.mg) (c := c) (P := P) (ps := tps) (closure_ok hfree) I.ok.glob (I.mod.glob.keeps I.bk) hcode (TB.code.keeps I.bk) hP' ht hc bP fun ctv doc g' tk hx hsz => ?_
    obtain ⟨O, hO⟩ : ∃ O, O = lamO X params body scope dV doc ((X.mg "__name__").getD .none) c' ctv := ⟨_, rfl⟩
    show Q (.ref g'.objs.size) { s with heap := g'.push (lamO X params body scope dV doc ((X.mg "__name__").getD .none) c' ctv), toks := tk }
    rw [← hO]
    have I1 : Inv X pins σ H { s with heap := g'.push O, toks := tk } := I.kept fun b o e => Heap.get?_push_of_some _ (hx b o e)
    exact h g'.objs.size c' doc ((X.mg "__name__").getD .none) ctv H _ I1 (ExtN.refl H) hT (fun b o _ e => Heap.get?_push_of_some _ (hx b o e)) (fun b n _ => n) (by rw [hO]; exact Heap.get?_push_size _ rfl) (I.hok.fresh hsz) (off _ hsz) hco
theorem lam_start3 {A : Around} {outer : List Env} {E : XK} {f c' : Addr} {g1 : Heap} {tk : Nat} {binds : List (Str × Value)} (I : Inv X pins σ H s) (L : LamG X.N X.env.scope scope ps) (e0 : Env0 X.prog X.w X.K X.mg X.base A outer s1 HZ) (hd : A.handled = none)
    (un : Un (frs X.stack) [] H HZ s.heap s1.heap) (hns : g1.Ns s1.heap.objs.size fun y => binds.reverse.lookup y) (kp : ∀ b o, s1.heap.get? b = some o → g1.get? b = some o) :
    Inv (lamCx X A outer s1 HZ E scope f c') [] σ HZ { s1 with heap := g1, toks := tk } := by
  have hfree := L.has I.ok
  have cm : ∀ {y c}, (cloFrom X.env.cells scope.names []).lookup y = some c → X.env.cells.lookup y = some c := fun {y c} e => by
    rcases cloFrom_mem (PySem.mem_of_lookup e) with k | ⟨k1, k2⟩
    · cases k
    · obtain ⟨d, hd⟩ := hfree _ k1 rfl
      have hd' : X.env.cells.lookup y = some d := hd
      have : c = d := by rw [k2, hd'] <;> rfl
      rw [this]; exact hd'
  have look : ∀ {y}, scope.names.lookup y = some .free → ∃ c, (cloFrom X.env.cells scope.names []).lookup y = some c := fun {y} hl => mem_lookup (cloFrom_has (cells := X.env.cells) (acc := []) (PySem.mem_of_lookup hl))
  have cellK : ∀ {c : Addr} {v : Option Value}, H c = none → s.heap.IsCell c v → g1.IsCell c v := fun {c v} n ⟨o, ho, hd⟩ => by
    obtain ⟨sl, q⟩ := un.any ho n (by simp)
    exact ⟨_, kp _ _ q, hd⟩
  have noA : ∀ b : Addr, b ∉ (lamCx X A outer s1 HZ E scope f c').ex := fun b z => (nomatch (show b ∈ ([] : List Addr) from z))
  have noC : ∀ {y : Str}, scope.names.lookup y ≠ some .cell := fun {y} z => (L.own _ (PySem.mem_of_lookup z)).1 rfl
  refine ⟨⟨e0.mod, L.kind, rfl, rfl, Nat.le_refl _, fun y z c e1 e2 => I.ok.inj y z c (cm e1) (cm e2), fun y hy => ?_, fun y c z _ => ?_, fun _ => hd, Around.frames_deeper e0.frames, .inr ⟨rfl, rfl⟩, fun b z => absurd z (noA b), e0.bs, e0.bsz, fun b _ _ => noA b,
      fun b z => absurd z (noA b), e0.funs, e0.frf⟩, rfl, e0.bare, Un.kept kp, ⟨_, hns, fun i y v e1 e2 e3 => ?_⟩, fun y c e => ?_, e0.hok.fresh (Nat.le_refl _), fun y c e => ?_, fun q hq => (nomatch (show q ∈ ([] : List (Addr × Obj)) from hq)), e0.hok.kept kp, I.len⟩
  · have hy : scope.names.lookup y = some .cell ∨ scope.names.lookup y = some .free := hy
    rcases hy with hy | hy
    · exact absurd hy noC
    · exact look hy
  · have z : false = true := z
    cases z
  · have e3 : Vis scope y := e3
    rcases e3 with k | k | k
    · exact absurd (List.mem_of_getElem? (show X.N[i]? = some y from e1)) (L.out y ((L.own _ (PySem.mem_of_lookup k)).2 rfl))
    · exact absurd k noC
    · obtain ⟨m, hn, hl⟩ := I.loc
      have hs := L.free _ (PySem.mem_of_lookup k) rfl
      obtain ⟨w', r, q⟩ := hl i y v e1 e2 (hs.elim (fun k => .inr (.inl k)) fun k => .inr (.inr k))
      obtain ⟨c2, h2⟩ := look k
      have c1 := cm h2
      refine ⟨w', r, .inr ⟨.inr k, c2, h2, ?_⟩⟩
      rcases q with ⟨k', _⟩ | ⟨_, c3, e', z⟩
      · have k' : X.env.scope.names.lookup y = some .local := k'
        rcases hs with k2 | k2 <;> · have k2 : X.env.scope.names.lookup y = _ := k2; rw [k'] at k2; cases k2
      · rw [c1] at e'; cases e'
        exact cellK (I.freeC y _ c1) z
  · obtain ⟨w', z⟩ := I.cell y c (cm e)
    exact ⟨w', cellK (I.freeC y c (cm e)) z⟩
  · obtain ⟨v, o, ho, hd⟩ := I.cell y c (cm e)
    exact un.free c o ho (I.freeC y c (cm e)) (by simp)
/-- what a call of the lambda needs to stand in the heap: its object, its defaults -/
structure LamAt (X : Cx) (H : Hp) (s : Shared) (params : Arguments) (body : Expr) (scope : Scope) (ps : List Str) (f c' : Addr) : Prop where
  ex : ∃ (dV doc pm ctv : Value) (us : List Value), s.heap.get? f = some (lamO X params body scope dV doc pm c' ctv) ∧ H f = none ∧ f ∉ frs X.stack ∧
    ∀ s1 : Shared, (∀ b o, H b = none → b ∉ frs X.stack → s.heap.get? b = some o → s1.heap.get? b = some o) →
      BindsTo s1 (PySem.W.kdv_fn "<lambda>" (X.env.qual ++ "<lambda>") params (.expr body) scope (cloFrom X.env.cells scope.names []) dV doc pm (.ref c') ctv) ⟨[], []⟩ (ps.zip us)
/-- x(), in the def that got the lambda: its context Z, entered at s; what is raised comes at the slots of the call -/
theorem pe_act3 {CXg : CXT} {Eg : XK} {Ng : List Str} {qg : Str} {sg : Scope} {g f c' : Addr} {cdg : Value} {k i : Nat} {a : Str} {pn : List (Addr × Obj)} {xe : Value → Shared → Prop} {W : WX} {tb : XK → TE} {p1 p2 : Pos}
    (I : Inv X pins σ H s) (L : LamG X.N X.env.scope scope ps) (F : LamAt X H s params body scope ps f c')
    (tk : Takes ((cxOf CXg X.prog X.w X.K X.mg X.base Ng qg sg g cdg X.A X.stack s H Eg).tr pn xe) W) (hr : Room (k + 1) (X.A.deeper (envOfC qg sg s.heap.objs.size g cdg)))
    (hbody : ∀ (A : Around) (outer : List Env) (s : Shared) (H : Hp) (E : XK), Room k (A.deeper (lamEnv X scope s.heap.objs.size f c')) → PE (lamCx X A outer s H E scope f c') body (tb E))
    (hN : Ng[i]? = some a) (hv : Vis sg a) (hd : (a == ("__debug__" : Str)) = false := by decide) (hcd : (a == ("__classdict__" : Str)) = false := by decide) :
    PE ((cxOf CXg X.prog X.w X.K X.mg X.base Ng qg sg g cdg X.A X.stack s H Eg).tr pn xe) (.Call (.Name a p1) [] [] p2)
      (fun τ HZ Q => τ[i]? = some (some (.ref f)) ∧ HZ c' = some (CodeO c' (X.env.qual ++ "<lambda>")) ∧ tb (fun cls d H' => W cls d τ H') σ HZ Q) := by
  refine ⟨fun pinsZ sZ τ HZ Q IZ ⟨hs, hc, ht⟩ => ?_⟩
  obtain ⟨dV, doc, pm, ctv, us, hf, hfn, hfr, hbind⟩ := F.ex
  refine wpAny_Call_Name_kw (thn ((pe_var (pos := p1) (i := i) hN hv hd hcd).run pinsZ sZ τ HZ (fun v H1 => v = .ref f ∧ H1 = HZ) IZ ⟨.ref f, hs, rfl, rfl⟩) fun u s1 ⟨v, H1, I1, r1, ev, eH⟩ => ?_)
  subst ev
  rw [eH] at I1
  obtain rfl : u = Value.ref f := r1
  have kept : ∀ b o, H b = none → b ∉ frs X.stack → s.heap.get? b = some o → s1.heap.get? b = some o := fun b o n1 n2 e => I1.base.keep b o e n1 n2 (fun z => nomatch (show b ∈ ([] : List Addr) from z))
  have of1 := kept f _ hfn hfr hf
  refine PySem.W.callWith_F0 ⟨_, _, _, _, of1⟩ ?_
  have un : Un (frs X.stack) [] H HZ s.heap s1.heap := I1.base
  obtain ⟨⟨oc, vs, t, hoc, hdc, hvc⟩, _, _⟩ := I1.hok c' _ hc
  have rc : codeAny (model X.prog X.w) (X.A.deeper (envOfC qg sg s.heap.objs.size g cdg)) (.call (.ref f) ⟨[], []⟩) (CR (L2.CX X.prog X.w) (envOfC qg sg s.heap.objs.size g cdg :: X.stack) X.prog X.w HZ s1 Q (fun cls d H' => W cls d τ H')) s1 := by
    refine PySem.W.kla_callFunE hr.depth of1 rfl L.co L.gen rfl ⟨c', oc, vs, t, rfl, hoc, hdc, hvc⟩ (hbind s1 kept _ _ _ _ ?_)
    refine wpAny_newFunctionEnv (fun y hy => (L.own y hy).1) (fun y hy => L.par _ (List.of_mem_zip (show (y.1, y.2) ∈ ps.zip us from hy)).1) (fun g1 hns hsb => ⟨I1.nolimit.fresh _ hsb, ?_⟩) L.kind
    show codeAny _ _ (.expr body (lamEnv X scope s1.heap.objs.size f c')) _ _
    have kp : ∀ b o, s1.heap.get? b = some o → g1.get? b = some o := fun b o e => hsb.extBut b o (Nat.ne_of_lt (Heap.lt_size e)) (Heap.get?_push_of_some _ e)
    have J := lam_start3 (E := fun cls d H' => W cls d τ H') (f := f) (c' := c') (tk := s1.toks + (ps.zip us).length) I L I1.env0 hr.hd un hns kp
    refine PySem.W.kla_codeExpr (wpAny_mono ((hbody _ _ s1 HZ _ (hr.deeper _)).run [] _ _ HZ Q J ht) (fun v s' ⟨w', H', J', rv, q⟩ => ⟨w', H', J'.os, J'.bare, J'.base, J'.hok, rv, q⟩) fun e s' hq => hq)
  have hx := passAt tk τ
  refine wpAny_call (codeAny_mono rc fun r s' hq => ?_)
  cases r with
  | error e => exact hx pinsZ HZ s1 e s' I1 hq
  | ok fl =>
    cases fl with
    | ret u => exact I1.after hq
    | next => exact False.elim hq
    | brk => exact False.elim hq
    | cont => exact False.elim hq
end
/-! ### the lambda is made -/
/-- what its making gives -/
def LamMk (X : Cx) (params : Arguments) (body : Expr) (scope : Scope) (lpos : Pos) (ps : List Str) : Prop :=
  ∀ (pins : List (Addr × Obj)) (σ : L2.St) (H : Hp) (s : Shared) (T : List (Addr × Str)) (c P : Addr) (Q : Value → Shared → Prop), Inv X pins σ H s → TabB X.base X.mg c P → X.env.code = .ref c → (P, X.env.qual ++ "<lambda>") ∈ T → (∀ p ∈ T, p.1 = P → p.2 = X.env.qual ++ "<lambda>") → Tabs T H →
    (∀ (f c' : Addr) (H1 : Hp) (s' : Shared), Inv X pins σ H1 s' → ExtN H H1 → Tabs T H1 → LamAt X H1 s' params body scope ps f c' → H1 c' = some (CodeO c' (X.env.qual ++ "<lambda>")) → Q (.ref f) s') →
    wpAny (model X.prog X.w) X.A (eval (.Lambda params body scope lpos) X.env) Q X.xe s
section
variable {X : Cx} {params : Arguments} {body : Expr} {scope : Scope} {lpos : Pos} {ps : List Str}
theorem mk0 (L : LamG X.N X.env.scope scope []) (hdef : defaultsOf params X.env = ([], []))
    (hbind : ∀ (q : Str) (cl : List (Str × Addr)) (doc pm cv ctv : Value), bindArgs (PySem.W.kdv_fn "<lambda>" q params (.expr body) scope cl .none doc pm cv ctv) ⟨[], []⟩ = pure []) : LamMk X params body scope lpos [] := by
  intro pins σ H s T c P Q I TB hcode hm hu hT h
  refine PySem.W.kla_eval hdef ?_
  rw [makeFunction_eq]
  simp only [List.zip_nil_right, List.filterMap_nil, List.isEmpty_nil, if_true, pure_bind]
  refine lam_tail I TB hcode hm hu hT L fun f c' doc pm ctv H1 s' I1 eN T1 _ _ hf hfn hfr hco => h f c' H1 s' I1 eN T1 ⟨.none, doc, pm, ctv, [], hf, hfn, hfr, fun s1 _ => ?_⟩ hco
  exact .of_eq (hbind _ _ _ _ _ _)
theorem mk1 {z : Int} {j : Nat} {p : Pos} {p0 : Str} (L : LamG X.N X.env.scope scope [p0]) (hd : params.defaults = [.Constant (.int z) j p]) (hk : params.kw_defaults = [])
    (hbind : ∀ (q : Str) (cl : List (Str × Addr)) (T : Addr) (doc pm cv ctv : Value), ∃ k, bindArgs (PySem.W.kdv_fn "<lambda>" q params (.expr body) scope cl (.ref T) doc pm cv ctv) ⟨[], []⟩ = seqItems? (.ref T) >>= k ∧ ∀ u : Value, k (some [u].toArray) = pure [(p0, u)]) : LamMk X params body scope lpos [p0] := by
  intro pins σ H s T c P Q I TB hcode hm hu hT h
  refine PySem.W.kdv_lam (by rw [hd]; rfl) hk ?_
  rw [hd]
  refine PySem.W.kdv_all1 (thn ((pe_int (X := X) (i := z) (j := j) (pos := p)).run pins s σ H (fun v H1 => H1 = H) I rfl) fun u s1 ⟨v, H1, I1, r1, eH⟩ => PySem.W.kdv_all0 ?_)
  subst eH
  rw [makeFunction_eq]
  simp only [List.zip_nil_right, List.filterMap_nil, List.isEmpty_nil, if_true, pure_bind, List.isEmpty_cons, Bool.false_eq_true, if_false]
  refine wpAny_bind (wpAny_newTextTuple ?_)
  have T0 : H1 s1.heap.objs.size = none := I1.hok.fresh (Nat.le_refl _)
  have I2 : Inv X pins σ H1 { s1 with heap := s1.heap.push { cls := .type "tuple", data := .seq [u].toArray } } := I1.kept fun b o e => Heap.get?_push_of_some _ e
  have off : s1.heap.objs.size ∉ frs X.stack := fun z => by
    rcases List.mem_cons.mp (I1.stkSub _ z) with e | e
    · exact Nat.lt_irrefl _ (e ▸ I1.lt)
    · exact I1.nofs (Nat.le_refl _) e
  have hT0 : (s1.heap.push { cls := .type "tuple", data := .seq [u].toArray }).get? s1.heap.objs.size = some { cls := .type "tuple", data := .seq [u].toArray } := Heap.get?_push_size _ rfl
  refine lam_tail I2 TB hcode hm hu hT L fun f c' doc pm ctv H2 s' I3 eN T2 old fr hf hfn hfr hco => h f c' H2 s' I3 eN T2 ⟨.ref s1.heap.objs.size, doc, pm, ctv, [u], hf, hfn, hfr, fun s2 kept => ?_⟩ hco
  obtain ⟨k, e1, e2⟩ := hbind (X.env.qual ++ "<lambda>") (cloFrom X.env.cells scope.names []) s1.heap.objs.size doc pm (.ref c') ctv
  have hg := kept _ _ (fr _ T0 (by show _ < (s1.heap.push _).objs.size; rw [Heap.size_push]; exact Nat.lt_succ_self _)) off (old _ _ T0 hT0)
  exact BindsTo.of_defaults (T := s1.heap.objs.size) rfl hg rfl e1 (e2 u)
end
/-! ### the def that calls it within a try -/
section
variable {X : Cx} {fa : FA} {cf : Nat → List PV → PH → Res PV} {params : Arguments} {body : Expr} {scope : Scope} {ps Ng : List Str} {x a fnd : Str} {st : Stmt} {i j jc : Nat} {b : CE} {ch : CH} {hd0 : ExceptHandler} {hds : List ExceptHandler} {l : List HdT}
  {P c : Addr} {p pos lpos q1 q2 q3 q4 q5 q6 q7 q8 q9 : Pos}
theorem ext_lam {io : List Addr} {H H1 : Hp} (e : ExtN H H1) : Ext io H io H1 := ⟨⟨[], by simp, fun _ h => nomatch h⟩, fun a o h _ k => e a o h k, fun a n => by
  cases q : H a with
  | none => exact .inl q
  | some o =>
    by_cases hk : ∀ ps, o ≠ .tbl ps
    · have := e a o q hk
      exact (n.no this hk).elim
    · obtain ⟨ps, rfl⟩ : ∃ ps, o = .tbl ps := Classical.byContradiction fun z => hk fun ps e => z ⟨ps, e⟩
      exact .inr ⟨ps, q⟩⟩
theorem rh_lam {K : PySem.W.Frag} {io : List Addr} {H H1 : Hp} {h : PH} (r : RH K fa io H h) (e : ExtN H H1) (t : Tabs fa.tb H1) : RH K fa io H1 h := r.stay (ext_lam e) (fun a ha => by
  obtain ⟨vs, z⟩ := r.mem ha
  rw [z, e a _ z (fun _ q => nomatch q)]) t
/-- word(lambda: body) -/
theorem e_lam (hw : Has X.K X.mg x st [a]) (hb : C8.fnBody st = [.Assign [.Name fnd q1] (.Constant (.str "") jc q2) q3, .Try [.Expr (.Call (.Name a q4) [] [] q5) q6] (hd0 :: hds) [] [] q7, .Return (some (.Name fnd q8)) q9])
    (Sg : FnScope Ng [a] (C8.fnScope st)) (h0 : Ng[0]? = some a) (hi : Ng[i]? = some fnd) (hi0 : i ≠ 0) (hloc : (C8.fnScope st).names.lookup fnd = some .local) (hva : Vis (C8.fnScope st) a)
    (hH : ∀ (g : Addr) (cdv : Value) (A : Around) (outer : List Env) (s : Shared) (H : Hp) (E : XK), Room (j + 1) (A.deeper (envOfC x (C8.fnScope st) s.heap.objs.size g cdv)) → HdsX (cxOf CX0 X.prog X.w X.K X.mg X.base Ng x (C8.fnScope st) g cdv A outer s H E).nox fa cf0 (hd0 :: hds) ch l)
    (hg : Gl X x) (TB : TabB X.base X.mg c P) (hcode : X.env.code = .ref c) (htb : fa.tb = [(P, X.env.qual ++ "<lambda>")]) (hxa : fa.xa = none) (hr : Room (j + 2) X.A) (L : LamG X.N X.env.scope scope ps) (mk : LamMk X params body scope lpos ps)
    (hbody : ∀ (A : Around) (outer : List Env) (s : Shared) (H : Hp) (E : XK) (f c' : Addr), Room j (A.deeper (lamEnv X scope s.heap.objs.size f c')) → XC (lamCx X A outer s H E scope f c') fa cf (WF E) body b)
    (hdb : (x == ("__debug__" : Str)) = false := by decide) (hd1 : (a == ("__debug__" : Str)) = false := by decide) (hd2 : (a == ("__classdict__" : Str)) = false := by decide) (hd3 : (fnd == ("__debug__" : Str)) = false := by decide) (hd4 : (fnd == ("__classdict__" : Str)) = false := by decide) :
    PE X (.Call (.Name x p) [.Lambda params body scope lpos] [] pos) (tE X.K fa cf (.lam b (wordF ch Ng.length i))) := by
  refine ⟨fun pins s σ H Q I ⟨io, sl, h, r, h', rs, rh, e, q⟩ => ?_⟩
  obtain ⟨g, fd, F, hbind⟩ := hw.ex
  obtain ⟨oc, od, dV, kV, doc, pm, an, cdv, ct, osl, rfl, lk, hcd⟩ := F.fn.ex
  have hT := rh.tab
  refine wpAny_Call_Name_kw (ld_glob I hg F.mgf (PySem.W.callWith_K (h₀ := X.base) I.ok.mod.kin F.kp ?_ (by rfl) (by rfl)) hdb)
  show wpAny _ _ (spliced ((false, eval (.Lambda params body scope lpos) X.env) :: backTo pos (starEach [] X.env))) _ _ s
  refine Calls.spliced_cons (mk pins σ H s fa.tb c P _ I TB hcode (by rw [htb]; exact List.mem_cons_self) (fun p hp _ => by rw [htb, List.mem_singleton] at hp; rw [hp]) hT fun f c' H1 s' I1 eN T1 FA hco => Calls.spliced_nil ⟨I1.kIn, ?_⟩)
  have ex1 : Ext io H io H1 := ext_lam eN
  have rh1 : RH X.K fa io H1 h := rh_lam rh eN T1
  have rs1 : RS X.K fa io H1 σ sl := rs.mono ex1
  have hl0 : 0 < Ng.length := (List.getElem?_eq_some_iff.mp h0).1
  have hli : i < Ng.length := (List.getElem?_eq_some_iff.mp hi).1
  -- the slots behind the first statement
  obtain ⟨τ, hτ⟩ : ∃ τ, τ = (L2.start Ng [V.ref f]).set i (some (.str "")) := ⟨_, rfl⟩
  obtain ⟨s1, hs1⟩ : ∃ s1 : Sl, s1 = (List.replicate Ng.length none).set i (some (.str "")) := ⟨_, rfl⟩
  have lτ : τ.length = Ng.length := by rw [hτ, List.length_set]; unfold L2.start; simp; omega
  have τ0 : τ[0]? = some (some (.ref f)) := by rw [hτ, List.getElem?_set_ne hi0]; unfold L2.start; simp
  have τi : τ[i]? = some (some (.str "")) := by rw [hτ, List.getElem?_set_self (by unfold L2.start; simp; omega)]
  have rsτ : ∀ io' H', RS X.K fa io' H' τ s1 := fun io' H' => ⟨by rw [lτ, hs1]; simp, fun k y _ hy => by
    rw [hs1] at hy
    by_cases hk : i = k
    · subst hk
      rw [List.getElem?_set_self (by simpa using hli)] at hy
      cases hy
      exact ⟨_, τi, .str _⟩
    · rw [List.getElem?_set_ne hk, List.getElem?_replicate] at hy
      split at hy
      · exact absurd hy (by simp)
      · exact absurd hy (by simp), fun y hy => by
      rw [hxa] at hy
      cases hy⟩
  have rc : codeAny (model X.prog X.w) X.A (.call (.ref g) ⟨[.ref f], []⟩) (CR CX0 X.stack X.prog X.w H1 s' Q (fun _ _ _ => False)) s' := by
    refine run_ofS (N := Ng) (ps := [a]) (us := [.ref f]) (vs := [.ref f]) lk hcd Sg hr I1.env0 (.of_eq (hbind [.ref f] rfl)) (.cons rfl .nil) rfl fun hr' => ?_
    rw [hb]
    refine ⟨_, PSs.nox (pss_cons (ps_set (te := tC (.str "")) Sg.nd hi (.inl hloc) pe_str) (pss_cons (ps_try_manyAs (tb := fun W D υ HZ => υ[0]? = some (some (.ref f)) ∧ HZ c' = some (CodeO c' (X.env.qual ++ "<lambda>")) ∧
        (tE X.K fa cf b σ HZ (fun _ H' => D.nx υ H') ∨ tX X.K fa cf (WF fun cls d H' => W cls d υ H') b σ HZ (fun _ H' => D.nx υ H'))) (Wout := fun _ _ _ _ => False) rfl rfl Sg.nd takes_none5 (fun W pn xe tk po => ?_) (hH g cdv X.A X.stack s' H1 _ hr').as) (pss_one (ps_ret (pe_var hi (.inl hloc) hd3 hd4))))), ?_⟩
    · refine pss_one (ps_expr (pe_act3 (CXg := CX0) (Eg := fun _ _ _ => False) (Ng := Ng) (k := j) (i := 0) (tb := fun E σ H Q => tE X.K fa cf b σ H Q ∨ tX X.K fa cf (WF E) b σ H Q) I1 L FA tk hr' (fun A outer s H E hr2 => ?_) h0 hva hd1 hd2))
      have z := hbody A outer s H E f c' hr2
      exact ⟨fun pins s σ H Q I h => h.elim (z.ok.run pins s σ H Q I) (z.ex.run pins s σ H Q I)⟩
    · have goalR : ∀ (υ : L2.St) (io' : List Addr) (H' : Hp) (s2 : Sl) (y : PV), RS X.K fa io' H' υ s2 → s2[i]? = some (some y) → (∀ v, Rl X.K fa io' H' v y → Q v H') → tVar i υ H' Q := fun υ io' H' s2 y rs2 hy k => by
        obtain ⟨v, e1, e2⟩ := rs2.at_ i y (by rw [FA.xok, hxa]) hy
        exact ⟨v, e1, k v e2⟩
      have hsi : s1[i]? = some (some (.str "")) := by rw [hs1, List.getElem?_set_self (by simpa using hli)]
      simp only [evE, wordF] at e
      rw [← hs1] at e
      show ((L2.start Ng [V.ref f]).set i (some (.str "")))[0]? = some (some (V.ref f)) ∧ _
      rw [← hτ]
      refine ⟨τ0, hco, ?_⟩
      cases hb1 : evE cf b sl h with
      | bad => rw [hb1] at e; cases e
      | ok v h1 =>
        rw [hb1] at e
        cases e
        refine .inl ⟨io, sl, h, v, _, rs1, rh1, hb1, fun io' H' _ ex' rh' _ => goalR τ io' H' s1 _ (rsτ io' H') hsi fun v rv => by
          obtain ⟨io2, x2, r2, v2⟩ := rh.keeps (ex1.trans ex') rh' rv
          exact q io2 H' v x2 r2 v2⟩
      | exc c v h1 =>
        rw [hb1] at e
        simp only at e
        cases hh : evH cf0 ch c v s1 h1 with
        | bad => rw [hh] at e; cases e
        | exc _ _ _ => rw [hh] at e; cases e
        | ok fl h2 =>
          rw [hh] at e
          cases fl with
          | rt _ => cases e
          | bk _ => cases e
          | ct _ => cases e
          | nx s2 =>
            simp only at e
            split at e
            case h_2 => cases e
            rename_i y hy
            cases e
            refine .inr ⟨io, sl, h, c, v, h1, rs1, rh1, hb1, fun io' H' cls d ex' rh' xr => ?_⟩
            refine handled (D := { nx := tRet (tVar i) { nx := fun x H' => Q V.non H', rt := Q }, rt := Q }) (f := .nx s2) (X := (cxOf CX0 X.prog X.w X.K X.mg X.base Ng x (C8.fnScope st) g cdv X.A X.stack s' H1 fun _ _ _ => False).nox) hxa (rsτ io' H') rh' xr lτ
              (fun io2 H2 ex2 rh2 υ rs2 => goalR υ io2 H2 s2 _ rs2 hy fun v rv => by
                obtain ⟨io3, x3, r3, v3⟩ := rh.keeps ((ex1.trans ex').trans ex2) rh2 rv
                exact q io3 H2 v x3 r3 v3) (hH g cdv X.A X.stack s' H1 _ hr') hh
  refine wpAny_call (codeAny_mono rc fun r s2 hq => ?_)
  cases r with
  | error e => exact (show False from hq).elim
  | ok fl =>
    cases fl with
    | ret u => exact I1.after hq
    | next => exact False.elim hq
    | brk => exact False.elim hq
    | cont => exact False.elim hq
end
end PB

set_option Elab.async false
set_option linter.all false
set_option maxRecDepth 100000
set_option maxHeartbeats 4000000
namespace PB
open PySem PySem.Spec PyProof.Rows L2
/-! ### isinstance of the exception in hand -/
section
variable {prog : Program} {w : World} {A : Around} {E : Value → Shared → Prop} {s : Shared} {K : PySem.W.Frag} {x D : Addr} {ox : Obj} {od : Option Obj}
theorem find_desc {C : Addr} {n : Str} {b g : Value} (hc : (PySem.W.clsIn K C).isSome = true) (ha : PySem.W.findIn K (.ref C) n = some (some b)) (hg : PySem.W.specialIn K b "__get__" = some (some g)) (ht : PySem.W.takesIn K b = some true) : PySem.W.findObj K C od n = some (.bind g b) := by
  obtain ⟨cd, e⟩ := Option.isSome_iff_exists.mp hc
  unfold PySem.W.findObj
  simp only [e, Option.bind_some, ha, hg, ht]
theorem exc_class {Q : Option Value → Shared → Prop} (C : ExcC K D) (X : K.In s.heap) (I : PySem.W.InstAt s.heap x ox D od) (h : Q (some (.ref D)) { s with toks := s.toks + 1 }) : wpAny (model prog w) A (getAttr? (.ref x) "__class__") Q E s := by
  have hf : PySem.W.findObj K D od "__class__" = some (.bind (.builtin "getset_descriptor.__get__") (.builtin "object.__class__")) := find_desc (by obtain ⟨cd, e, _⟩ := PySem.W.any_some C.hd; rw [e]; rfl) C.ha C.hn C.ht
  obtain ⟨hp, g, d, t, os⟩ := s
  have T0 := I.type (M := model prog w)
  have T1 := PySem.W.looks_findIn (M := model prog w) X C.hg
  have T2 := PySem.W.looks_findIn (M := model prog w) X C.hk
  have T3 := PySem.W.looks_find (M := model prog w) X I hf
  have su : PySem.W.Looks (model prog w) hp (isInstance (.ref x) (.type "BaseException")) true := T0.andThen (PySem.W.looks_subIn X C.hs)
  have k0 : (false && onTheHeap (Value.builtin "BaseException.__getattribute__")) = false := rfl
  have k2 : (Value.builtin "BaseException.__getattribute__" == Value.builtin "object.__getattribute__") = false := by decide +kernel
  have k1 : (onTheHeap (Value.ref D) && Value.builtin "BaseException.__getattribute__" == Value.builtin "object.__getattribute__") = false := by rw [k2]; rfl
  unfold getAttr? getAttrBy? getAttrBy
  refine wpAny_bind (wpAny_mkText (wpAny_bind (wpAny_attempt (wpAny_holding (wpAny_bind (T0.at (wpAny_bind (T1.at ?_))))))))
  show wpAny _ _ (if (onTheHeap (Value.ref D) && Value.builtin "BaseException.__getattribute__" == Value.builtin "object.__getattribute__") = true then _ else _) _ _ _
  rw [k1, if_neg Bool.false_ne_true]; unfold getAttrByItsOwn hookBefore; refine wpAny_bind ?_
  rw [if_pos (show onTheHeap (Value.ref D) = true from rfl)]; refine T2.at (wpAny_bind (wpAny_attempt (wpAny_holding ?_)))
  unfold callGetattribute; rw [k0, if_neg Bool.false_ne_true]; unfold boundAndCalled
  rw [PySem.F.excAttr_ValueError.ga.bind (.ref x)]; refine wpAny_bind (wpAny_pure ?_)
  show wpAny _ _ (call (.builtin "BaseException.__getattribute__") [.ref x, .str "__class__" t]) _ _ _
  refine wpAny_call (codeAny_call_builtin PySem.F.excAttr_ValueError.ga.plain PySem.F.entry_bexc_ga (@PySem.W.check_slot (model prog w) _ _ ⟨hp, g, d, t + 1, os⟩ "BaseException.__getattribute__" "BaseException" "__getattribute__" (.ref x) [.str "__class__" t] [] _ (by decide +kernel) (by decide +kernel) su (PySem.F.args_bexc_ga (.ref x) (.str "__class__" t)) ?_))
  unfold Builtin.«object.__getattribute__»
  refine wpAny_bind (wpAny_of_eq (a := ((Value.ref x : Value), [Value.str "__class__" t])) (by first | rfl | (simp only [slotArgs]; rfl)) (wpAny_bind (wpAny_pure (wpAny_bind (T0.at (wpAny_bind (T3.at ?_)))))))
  show wpAny _ _ (holding [Value.builtin "object.__class__"] (call (.builtin "getset_descriptor.__get__") [.builtin "object.__class__", .ref x, .ref D]) >>= ret) _ _ _
  refine wpAny_bind (wpAny_holding (wpAny_call (PySem.W.class_get (s := ⟨hp, g, d, t + 1, os⟩) (ox := ox) (od := od) X I C.hm (wpAny_pure ?_))))
  show wpAny _ _ (handedOut (.ref D)) _ _ _
  rw [PySem.W.handedOut_of (v := .ref D) rfl]
  first
    | exact wpAny_pure (wpAny_pure h)
    | exact wpAny_pure h
    | exact wpAny_pure (wpAny_bind (wpAny_pure (wpAny_pure h)))
theorem exc_kit (C : ExcC K D) : PySem.W.KitX K (.ref x) (.ref D) (fun h => PySem.W.InstAt h x ox D od) := by
  have Z := PySem.W.handS_kitx_exc (x := x) (ox := ox) C.hg C.hk C.hs C.hd C.ha C.hn C.ht C.hm
  refine ⟨fun _ _ _ I => I.type, fun M h X _ => ?_, fun h tp dd its n sl X htp => ?_, fun X I k => exc_class C X I k⟩
  · obtain ⟨cd, e, _⟩ := PySem.W.any_some C.hd
    unfold PySem.W.clsIn at e
    split at e
    · rename_i ho
      intro A' Q' E' s' k q
      unfold isType loadHead
      exact wpAny_bind (wpAny_loadPart (k _ _ (X _ _ ho)) (wpAny_pure q))
    · cases e
  · obtain ⟨cd, e, _⟩ := PySem.W.any_some C.hd
    refine Bool.eq_false_iff.mpr fun q => ?_
    have e2 : D = tp := Value.ref.inj (beq_iff_eq.mp q)
    subst e2
    unfold PySem.W.clsIn at e
    split at e
    · rename_i ho
      have z := (X _ _ ho).symm.trans htp
      cases z
    · cases e
end
/-- isinstance(e, c), e the exception that the suite holds, with its dict -/
def rIsD (K : PySem.W.Frag) (D a : Addr) (d : Option Addr) : List V → Hp → VK → Prop := fun xs H Q => ∃ (c : V) (cv : Value) (b : Bool), xs = [.ref a, c] ∧ (∀ u, RelV c u → u = cv) ∧ PySem.W.kitOne K (.ref D) cv = some b ∧ (∀ dd, d = some dd → ∃ fs, H dd = some (.xd fs)) ∧ Q (.bl b) H
theorem call_isD {X : Cx} {a D : Addr} {d : Option Addr} {oe : Obj} {pn : List (Addr × Obj)} (C : ExcC X.K D) (hz : Zc (.ref D) d oe) (hf : ∃ vs, oe.data = .fields vs) : CallR (X.suite a ((a, oe) :: pn)) (.builtin "isinstance") (rIsD X.K D a d) := by
  intro pins s σ H xs us Q I r h
  obtain ⟨c, cv, b, rfl, hcv, e, hd, q⟩ := h
  cases r with
  | cons rx rr =>
    cases rr with
    | cons rt rr =>
      cases rr
      cases rx
      have ec := hcv _ rt
      subst ec
      obtain ⟨hget, _⟩ := I.pin (a, oe) (List.mem_append.mpr (.inl List.mem_cons_self))
      obtain ⟨vs, hv⟩ := hf
      obtain ⟨od, J⟩ : ∃ od, PySem.W.InstAt s.heap a oe D od := by
        obtain ⟨oc, odd, oda, osl⟩ := oe
        obtain ⟨h1, h2⟩ := hz
        dsimp only at h1 h2 hv
        subst h1 h2 hv
        cases odd with
        | none => exact ⟨none, hget, rfl, rfl, trivial⟩
        | some dd =>
          obtain ⟨fs, hx⟩ := hd dd rfl
          obtain ⟨mA, hns, _⟩ : ∃ mA, s.heap.Ns1 dd mA ∧ _ := I.hok dd _ hx
          obtain ⟨o, hdd⟩ : ∃ o, s.heap.get? dd = some o := by
            obtain ⟨o, _, _, hh, _⟩ := hns
            exact ⟨o, hh⟩
          exact ⟨some o, hget, rfl, rfl, hdd⟩
      exact PySem.W.kia_one (exc_kit C) I.kIn J e (fun z => nomatch z) fun tk => ⟨.bl b, H, I.kept (t' := tk) fun _ _ z => z, rfl, q⟩
/-- what isinstance(e, c) asks of the classes that may be caught -/
def IsX (K : PySem.W.Frag) (fa : FA) (cv : Value) (cs : List Nat) : Prop := ∀ n A, fa.cl n = some A → ExcC K A ∧ PySem.W.kitOne K (.ref A) cv = some (cs.contains n)
section
variable {X : Cx} {fa : FA} {cf : Nat → List PV → PH → Res PV} {a : Addr} {oe : Obj} {pn : List (Addr × Obj)} {cls : Value} {d : Option Addr} {y : XA} {i k : Nat}
theorem x_is {x : Str} {ce : Expr} {vc : V} {cv : Value} {cs : List Nat} {p p1 pos : Pos} (hy : XSu X.K fa i a cls d y) (hz : Zc cls d oe) (hf : ∃ vs, oe.data = .fields vs) (hv : PE (X.suite a ((a, oe) :: pn)) (.Name x p) (tVar i)) (hI : IsX X.K fa cv cs)
    (hc : PE (X.suite a ((a, oe) :: pn)) ce (tC vc)) (hvc : ∀ u, RelV vc u → u = cv) (hg : Gl X "isinstance") (hm : X.mg "isinstance" = none)
    (hs1 : starEach [.Name x p, ce] X.env = (false, eval (.Name x p) X.env) :: starEach [ce] X.env := by rfl) (hs2 : starEach [ce] X.env = (false, eval ce X.env) :: starEach [] X.env := by rfl) (hpl : (backTo pos (starEach [ce] X.env)).any (·.1) = false := by rfl) :
    PE (X.suite a ((a, oe) :: pn)) (.Call (.Name "isinstance" p1) [.Name x p, ce] [] pos) (tE X.K (fa.in y) cf (.xis i cs)) := by
  obtain ⟨c, v, A, hpv, hA, rfl, hc2⟩ := hy.ex
  obtain ⟨C, hk⟩ := hI c A hA
  refine wkE (pe_callB (X := X.suite a ((a, oe) :: pn)) (call_isD C hz hf) hg hm PyProof.Rows.boot_isinstance (pa_cons hv (pa_cons hc pa_nil hs2) hs1) (he := hs1) (hpl := hpl)) fun sg H Q ⟨io, s, h, r, h', rs, rh, e, q⟩ => ?_
  obtain ⟨e1, e2, e3⟩ := rs.ex y rfl
  rw [hy.hi] at e1 e2
  rw [hy.ha] at e1
  have hr : r = .bl (cs.contains c) ∧ h' = h := by
    simp only [evE, e2, hpv] at e
    rcases hc2 with rfl | ⟨f, z, w, dd, rfl, _⟩
    · simp only [excV] at e; cases e; exact ⟨by simp, rfl⟩
    · simp only [excV] at e; cases e; exact ⟨by simp, rfl⟩
  obtain ⟨rfl, rfl⟩ := hr
  exact ⟨.ref a, e1, vc, cv, _, rfl, hvc, hk, fun dd hd => ⟨y.fs, e3 dd (by rw [hy.hd, hd])⟩, q io H _ .refl rh (.bl _)⟩
/-- comparisons, methods within a suite -/
theorem c_inS (hr : Room k X.A) : CmpR (X.suite a pn) fa .In .isIn := ⟨⟨_, op_inA (X := X.suite a pn) (by have := hr.un; show X.A.units + 65 < cLine; omega), ok_in⟩, cmp_bl _⟩
theorem c_notInS (hr : Room k X.A) : CmpR (X.suite a pn) fa .NotIn .notIn := ⟨⟨_, op_notInA (X := X.suite a pn) (by have := hr.un; show X.A.units + 65 < cLine; omega), ok_notIn⟩, cmp_bl _⟩
theorem isx_nil {K : PySem.W.Frag} {fn : Nat → Option Addr} {tb : List (Addr × Str)} {cv : Value} {cs : List Nat} : IsX K ⟨fn, fvs K [], none, tb⟩ cv cs := fun n A e => by
  have e' : fvs K [] n = some A := e
  unfold fvs at e'; cases e'
theorem isx_cons {K : PySem.W.Frag} {fn : Nat → Option Addr} {tb : List (Addr × Str)} {cv : Value} {cs : List Nat} {n : Nat} {x : Str} {A : Addr} {l : List (Nat × Str)} (e : PySem.W.nsIn K mainGlobals x = some (some (.ref A))) (C : ExcC K A) (hk : PySem.W.kitOne K (.ref A) cv = some (cs.contains n))
    (r : IsX K ⟨fn, fvs K l, none, tb⟩ cv cs) : IsX K ⟨fn, fvs K ((n, x) :: l), none, tb⟩ cv cs := fun m B eB => by
  have eB : fvs K ((n, x) :: l) m = some B := eB
  unfold fvs at eB
  rw [List.lookup_cons] at eB
  split at eB
  · rename_i z hz
    split at hz
    · rename_i hb
      cases hz
      have hm : m = n := by simpa using hb
      rw [e] at eB
      cases eB
      rw [hm]
      exact ⟨C, hk⟩
    · refine r m B (show fvs K l m = some B from ?_)
      unfold fvs
      rw [hz]
      exact eB
  · cases eB
theorem e_countS {o a1 : Expr} {apos cpos : Pos} {co : CE} {cs : CA} (hr : Room k X.A) (ho : PE (X.suite a pn) o (tE X.K fa cf co)) (ha : PA (X.suite a pn) [a1] (tA X.K fa cf cs)) (hbase : attributeBase o "count" X.env (eval o X.env) = eval o X.env := by rfl)
    (hfew : ((backTo cpos (starEach [a1] X.env)).all (fun x => !x.1) && (backToKw cpos (keywordEach [] X.env)).all (fun x => x.1.isSome) && decide (([a1] : List Expr).length + ([] : List Keyword).length + (if ([] : List Keyword).isEmpty then 0 else 1) < 30)) = true := by rfl)
    (hline : (apos.endLine == cpos.line) = true := by rfl) (hs : starEach [a1] X.env = (false, eval a1 X.env) :: starEach [] X.env := by rfl) : PE (X.suite a pn) (.Call (.Attribute o "count" apos) [a1] [] cpos) (tE X.K fa cf (.mth .count co cs)) :=
  mth_to2 (X := X.suite a pn) mk_count (pe_bm2 (X := X.suite a pn) PySem.F.slot_list_count PySem.F.slot_tuple_count PySem.F.type_list_count PySem.F.type_tuple_count (mt_countD (X := X.suite a pn) (by have := hr.un; show X.A.units + 65 < cLine; omega)) (mt_countT (X := X.suite a pn) (by have := hr.un; show X.A.units + 65 < cLine; omega)) ho ha hbase hfew hline hs)
theorem e_indexS {o a1 : Expr} {apos cpos : Pos} {co : CE} {cs : CA} (hr : Room k X.A) (ho : PE (X.suite a pn) o (tE X.K fa cf co)) (ha : PA (X.suite a pn) [a1] (tA X.K fa cf cs)) (hbase : attributeBase o "index" X.env (eval o X.env) = eval o X.env := by rfl)
    (hfew : ((backTo cpos (starEach [a1] X.env)).all (fun x => !x.1) && (backToKw cpos (keywordEach [] X.env)).all (fun x => x.1.isSome) && decide (([a1] : List Expr).length + ([] : List Keyword).length + (if ([] : List Keyword).isEmpty then 0 else 1) < 30)) = true := by rfl)
    (hline : (apos.endLine == cpos.line) = true := by rfl) (hs : starEach [a1] X.env = (false, eval a1 X.env) :: starEach [] X.env := by rfl) : PE (X.suite a pn) (.Call (.Attribute o "index" apos) [a1] [] cpos) (tE X.K fa cf (.mth .index co cs)) :=
  mth_to2 (X := X.suite a pn) mk_index (pe_bm2 (X := X.suite a pn) PySem.F.slot_list_index PySem.F.slot_tuple_index PySem.F.type_list_index PySem.F.type_tuple_index (mt_indexD (X := X.suite a pn) (by have := hr.un; show X.A.units + 65 < cLine; omega)) (mt_indexT (X := X.suite a pn) (by have := hr.un; show X.A.units + 65 < cLine; omega)) ho ha hbase hfew hline hs)
end
/-! ### a local name that holds a def which may raise -/
structure HeldX (P : Program) (w : World) (K : PySem.W.Frag) (mg : Str → Option Value) (base : Heap) (fa : FA) (G : Nat → Option Fn) (j k : Nat) : Prop where
  at_ : ∀ n f, fa.fn n = some f → ∃ (fd : FuncData) (ps : List Str), FnOk P w K mg base (L2.CX P w) j f fd ps (spX K fa G k n) ∧ PySem.W.keepIn K (.ref f) = true ∧ Binds K fd ps []
theorem heldXOf {P : Program} {w : World} {K : PySem.W.Frag} {mg : Str → Option Value} {base : Heap} {x : Str} {f : Addr} {k : Nat} {sp : Sp} (c : CalX P w K mg base k x sp) (hm : mg x = some (.ref f)) :
    ∃ (fd : FuncData) (ps : List Str), FnOk P w K mg base (L2.CX P w) k f fd ps sp ∧ PySem.W.keepIn K (.ref f) = true ∧ Binds K fd ps [] := by
  obtain ⟨g, fd, ps, F, hg, hk, hb⟩ := c.ex
  rw [hm] at hg
  cases hg
  exact ⟨fd, ps, F, hk, hb⟩
theorem HeldX.held {P : Program} {w : World} {K : PySem.W.Frag} {mg : Str → Option Value} {base : Heap} {fa : FA} {G : Nat → Option Fn} {j k : Nat} (h : HeldX P w K mg base fa G j k) : Held' P w K mg base fa G j k := ⟨fun n f e => by
  obtain ⟨fd, ps, F, a, b⟩ := h.at_ n f e
  exact ⟨fd, ps, FnOk.calm F, a, b⟩⟩
theorem x_callv {X : Cx} {fa : FA} {W : WX} {e : Expr} {es : List Expr} {p pos : Pos} {i j k : Nat} {G : Nat → Option Fn} {cs : CA} {x : Str} {C : Nat → Bool} (hC : CalmF C (callF G k)) (hh : HeldX X.prog X.w X.K X.mg X.base fa G j k) (tk : Takes X W) (hr : Room j X.A) (hN : X.N[i]? = some x) (hv : Vis X.env.scope x)
    (ha : PA X (e :: es) (tA X.K fa (callF G k) cs)) (hca : calmA C cs = true := by rfl) (hix : fa.xok i = true := by rfl) (hdb : (x == ("__debug__" : Str)) = false := by decide) (hcd : (x == ("__classdict__" : Str)) = false := by decide)
    (he : starEach (e :: es) X.env = (false, eval e X.env) :: starEach es X.env := by rfl) (hpl : (backTo pos (starEach es X.env)).any (·.1) = false := by rfl) : XC X fa (callF G k) W (.Call (.Name x p) (e :: es) [] pos) (.callv i cs) := by
  refine ⟨e_callv hh.held hr hN hv ha hix hdb hcd he hpl, ⟨fun pins s sg H Q I ⟨io, sl, h, cl, v, h', rs, rh, e, q⟩ => ?_⟩⟩
  simp only [evE] at e
  split at e
  case h_2 => cases e
  rename_i n hn
  obtain ⟨u, hv1, hv2⟩ := rs.at_ i _ hix hn
  cases hv2 with
  | @fn f n hf =>
  obtain ⟨fd, ps, F, hk, hb⟩ := hh.at_ n f hf
  refine wpAny_Call_Name_kw (thn ((pe_var (pos := p) hN hv hdb hcd).run pins s sg H (fun v H1 => v = .ref f ∧ H1 = H) I ⟨.ref f, hv1, rfl, rfl⟩) fun u s1 ⟨v2, H1, I1, r1, q1, q2⟩ => ?_)
  subst q1 q2
  cases r1
  have hta : tA X.K fa (callF G k) cs sg H1 fun vs H2 => spX X.K fa G k n vs H2 Q (WE W sg) := by
    rcases bindX_exc e with e1 | ⟨xs, h1, e1, e2⟩
    · exact absurd e1 (evA_nx hC cs sl h hca _ _ _)
    · exact ⟨io, sl, h, xs, h1, rs, rh, e1, fun io1 H2 vs ex1 rh1 rvs => ⟨io1, h1, xs, rvs, rh1, .inr ⟨cl, v, h', e2, fun io' H' cls d ex2 rh2 xr => q io' H' cls d (ex1.trans ex2) rh2 xr⟩⟩⟩
  refine PySem.W.callWith_K (h₀ := X.base) I.ok.mod.kin hk (thn (ha.run pos pins s1 sg _ _ I1 hta) fun us s2 ⟨vs, H2, I2, r, q⟩ => ⟨I2.kIn, ?_⟩) he hpl
  exact run_fnS F hr hb (E := fun σ => WE W σ) (passAt tk sg) I2 r q
end PB
namespace PB
open PySem PySem.Spec PyProof.Rows L2
theorem e_dct {X : Cx} {fa : FA} {cf : Nat → List PV → PH → Res PV} {pos : Pos} : PE X (.Dict [] [] pos) (tE X.K fa cf (.con .dct)) := wkE pe_dnewK fun sg H Q ⟨io, s, h, r, h', rs, rh, e, q⟩ p hp => by
  simp only [evE] at e
  cases e
  exact q io _ _ (ext_new hp) (rh.new hp) (.dct upd_same)
/-- the clauses of the second statement -/
def hdsOf : List Stmt → List ExceptHandler
  | _ :: .Try _ hs _ _ _ :: _ => hs
  | _ => []
end PB

set_option Elab.async false
set_option linter.all false
set_option maxRecDepth 100000
set_option maxHeartbeats 2000000
namespace PB
open PySem PySem.Spec PyProof.Rows L2
/-! ### the law of a program whose law makes lambdas -/
section
variable {P : Program} {w : World} {K : PySem.W.Frag} {mg : Str → Option Value} {base : Heap} {fa : FA} {G : Nat → Option Fn} {x : Str} {st : Stmt} {f c0 a : Addr} {fd : FuncData} {N ps : List Str} {i k : Nat} {body : CB} {H : Hp} {s : Shared}
/-- a def whose code object is known -/
theorem fn_succC {j : Nat} (hxa : fa.xa = none) (F : C8.Fun K x x st f fd) (hc : fd.code = .ref c0) (S : FnScope N ps (C8.fnScope st)) (hG : G i = some ⟨ps.length, N.length, body⟩)
    (hbody : ∀ (A : Around) (outer : List Env) (s : Shared) (H : Hp) (E : XK), Room j (A.deeper (PyProof.Rows.envOfC x (C8.fnScope st) s.heap.objs.size f (.ref c0))) →
      PSs (cxOf CX0 P w K mg base N x (C8.fnScope st) f (.ref c0) A outer s H E).nox (C8.fnBody st) (tK K fa (callF G k) body)) : FnOk P w K mg base CX0 (j + 1) f fd ps (spI K fa G (k + 1) i) := by
  obtain ⟨oc, od, dV, kV, doc, pm, an, cdv, ct, osl, rfl, lk, hcd⟩ := F.ex
  obtain rfl : cdv = .ref c0 := hc
  have hlen : ∀ vs H Q E, spI K fa G (k + 1) i vs H Q E → vs.length = ps.length := fun vs H Q E ⟨io, h, args, r, h', rv, rh, e, _⟩ => by
    unfold callF at e; rw [hG] at e; simp only at e
    split at e
    · rename_i hl; rw [rv.length]; exact hl
    · cases e
  refine fn_of lk hcd S hlen fun A outer s H vs Q E hr ⟨io, h, args, r, h', rv, rh, e, q⟩ => ?_
  refine ⟨_, PSs.nox (hbody A outer s H E hr), ?_⟩
  unfold callF at e; rw [hG] at e; simp only at e
  split at e
  case isFalse => cases e
  obtain ⟨fl, h1, e1, e⟩ := bind_ok e
  refine ⟨io, _, h, fl, h1, rs_start rv hxa, rh, e1, fun io1 H1 ex1 rh1 => ?_⟩
  cases fl with
  | nx s' =>
    intro sg' _
    simp only [outF] at e
    cases e
    obtain ⟨io2, ex2, rh2, rv2⟩ := rh.keeps ex1 rh1 .non
    exact q io2 H1 .non ex2 rh2 rv2
  | rt v =>
    intro u ru
    simp only [outF] at e
    cases e
    obtain ⟨io2, ex2, rh2, rv2⟩ := rh.keeps ex1 rh1 ru
    exact q io2 H1 u ex2 rh2 rv2
  | bk s' => simp only [outF] at e; cases e
  | ct s' => simp only [outF] at e; cases e
/-- a list that nobody writes, told as such -/
def frzH (H : Hp) (a : Addr) (o : Obj) (vs : List V) : Hp := upd H a (.frz o (.lst vs))
theorem hok_frz {vs : List V} (hok : HOk P w H s.heap) (e : H a = some (.lst vs)) : ∃ o, HOk P w (frzH H a o vs) s.heap := by
  have z := hok a _ e
  obtain ⟨hl, its, n, r, hg⟩ := id z
  refine ⟨{ cls := .type "list", data := .seq its.toArray n }, fun b u hb => ?_⟩
  unfold frzH at hb
  by_cases hba : b = a
  · subst hba
    rw [upd_same] at hb
    cases hb
    exact ⟨hg, hl, its, n, r, hg⟩
  · rw [upd_ne hba] at hb
    refine (hok b u hb).stay (fun _ _ _ q => q) (fun c q => ?_) fun c xs q => ?_
    · unfold frzH
      rw [upd_ne (fun z => by rw [z, e] at q; cases q)]; exact q
    · unfold frzH
      rw [upd_ne (fun z => by rw [z, e] at q; cases q)]; exact q
/-- the promise, where the list may be written, too -/
def spT (K : PySem.W.Frag) (fa : FA) (G : Nat → Option Fn) (k i : Nat) (sp : Sp) : Sp := fun vs H Q E => sp vs H Q E ∨ ∃ (a : Addr) (us : List V), vs = [.ref a] ∧ H a = some (.lst us) ∧ ∀ o, sp [.ref a] (frzH H a o us) Q E
theorem fnok_frz {j : Nat} {y : Str} {sp : Sp} (F : FnOk P w K mg base CX0 j f fd [y] sp) : FnOk P w K mg base CX0 j f fd [y] (spT K fa G k i sp) := by
  refine ⟨fun vs H Q E h => ?_, fun A outer s H args us vs Q E hr e0 hb hv h => ?_⟩
  · rcases h with h | ⟨a, us, rfl, _, _⟩
    · exact F.len vs H Q E h
    · rfl
  · rcases h with h | ⟨a, ls, rfl, ea, h⟩
    · exact F.run A outer s H args us vs Q E hr e0 hb hv h
    · obtain ⟨o, hok⟩ := hok_frz e0.hok ea
      have ne : ∀ b, H b = none → b ≠ a := fun b n z => by rw [z, ea] at n; cases n
      have at_ : ∀ b, b ≠ a → frzH H a o ls b = H b := fun b n => upd_ne n
      have e1 : Env0 P w K mg base A outer s (frzH H a o ls) := ⟨e0.frames, e0.mod, fun b u q => ⟨(e0.bs b u q).1, by rw [at_ b (ne b (e0.bs b u q).2)]; exact (e0.bs b u q).2⟩, e0.bsz, e0.funs, fun b q => by rw [at_ b (ne b (e0.frf b q))]; exact e0.frf b q, hok, e0.bare⟩
      refine codeAny_mono (F.run A outer s _ args us _ Q E hr e1 hb hv (h o)) fun r s' q => ?_
      cases r with
      | error e => exact (show False from q).elim
      | ok fl =>
        cases fl with
        | next => exact (show False from q).elim
        | brk => exact (show False from q).elim
        | cont => exact (show False from q).elim
        | ret u =>
          obtain ⟨v, H', os, bare, un, hok', rv, qq⟩ := q
          have up : ∀ b z, H b = some z → (∀ xs, z ≠ .lst xs) → frzH H a o ls b = some z := fun b z e k => by
            rw [at_ b (fun y => by rw [y, ea] at e; cases e; exact k _ rfl)]; exact e
          exact ⟨v, H', os, bare, ⟨fun b u g n => un.keep b u g (by rw [at_ b (ne b n)]; exact n), fun b u g n => un.slot b u g (by rw [at_ b (ne b n)]; exact n), fun b u g n => un.free b u g (by rw [at_ b (ne b n)]; exact n), un.there,
            fun b xs e => un.tups b xs (up b _ e (fun _ z => nomatch z)), fun b o u e => un.frzs b o u (up b _ e (fun _ z => nomatch z)), fun b ps e => un.tbls b ps (up b _ e (fun _ z => nomatch z))⟩, hok', rv, qq⟩
/-- the promise of the law, from what its code answers -/
theorem law_spT {G : Nat → Option Fn} {k i : Nat} {ns : List Int} (ht : LamX.Tabs fa.tb H) (hS : SqL K H a (ns.map V.int)) (h : ∃ h', callF G k i [.scr (ns.map PV.int)] [] = .ok (.bl true) h') (E : XK) :
    spT K fa G k i (spI K fa G k i) [.ref a] H (fun v _ => v = .bl true) E := by
  obtain ⟨h', e⟩ := h
  have key : ∀ H, LamX.Tabs fa.tb H → SqF K H a (ns.map V.int) → spI K fa G k i [.ref a] H (fun v _ => v = .bl true) E := fun H ht hF =>
    ⟨[], [], [.scr (ns.map PV.int)], .bl true, h', .cons (.scr hF (rls_ints ns)) .nil, ⟨rfl, List.nodup_nil, fun n xs hx => by simp at hx, ht⟩, e, fun io' H' v _ _ rv => by cases rv; rfl⟩
  rcases hS with (z | z) | z
  · refine .inr ⟨a, _, rfl, z, fun o => key _ ?_ (.inl ⟨o, upd_same⟩)⟩
    exact tabs_of (fun b u hb k => by
      unfold frzH
      rw [upd_ne (fun y => by rw [y, z] at hb; cases hb; exact k _ rfl)]; exact hb) _ ht
  · exact .inl (key H ht (.inl z))
  · exact .inl (key H ht (.inr z))
end
/-! ### the Hook, with tables of code objects -/
abbrev AlPT : Type := AlP × Bool
def obsPT (fx : List Fx) (fn : List He.DefD) (ini : List Str) (tf : List He.Defn) (g : Addr → Option Obj) (K : PySem.W.Frag) : AlPT := (obsP fx fn ini K, He.tabsB g tf K)
def obsPTG (fx : List Fx) (fn : List He.DefD) (ini : List Str) (tf : List He.Defn) (g : Addr → Option Obj) : AlPT := forceL (asP g) fun as => forceK g as fun K => obsPT fx fn ini tf g K
/-- the code objects of these defs, their tables: empty, not in the written part -/
structure TabsP (tf : List He.Defn) (h : Heap) (K : PySem.W.Frag) : Prop where
  hd : ∀ p ∈ tf, PySem.W.codeHdIn K (He.cT K p).1 (He.cT K p).2 = true
  out : ∀ p ∈ tf, K.lookup (He.cT K p).2 = none
  empty : ∀ p ∈ tf, h.get? (He.cT K p).2 = some { cls := .none, data := .fields #[] }
theorem tabsP_of {tf : List He.Defn} {h : Heap} {as : List Addr} (e : He.tabsB h.get? tf (He.frT h.get? as) = true) : TabsP tf h (He.frT h.get? as) := by
  have key : ∀ p ∈ tf, PySem.W.codeHdIn (He.frT h.get? as) (He.cT (He.frT h.get? as) p).1 (He.cT (He.frT h.get? as) p).2 = true ∧ ∃ o, h.get? (He.cT (He.frT h.get? as) p).2 = some o ∧ He.emptyTab o = true := fun p hp => by
    obtain ⟨h3, h4⟩ := He.ba (List.all_eq_true.mp e p hp)
    refine ⟨h3, ?_⟩
    cases q : h.get? (He.cT (He.frT h.get? as) p).2 with
    | none => rw [q] at h4; cases h4
    | some o => rw [q] at h4; exact ⟨o, rfl, h4⟩
  refine ⟨fun p hp => (key p hp).1, fun p hp => ?_, fun p hp => ?_⟩
  · obtain ⟨_, o, q, z⟩ := key p hp
    exact He.frT_none q z
  · obtain ⟨_, o, q, z⟩ := key p hp
    rw [q, He.emptyTab_eq z]
def hookPT (fx : List Fx) (fn : List He.DefD) (ini : List Str) (iv : List IniW) (tf : List He.Defn) : PySem.W.Hook where
  α := AlPT
  obs := fun s => obsPTG fx fn ini tf s.heap.get?
  val := fun _ => (valP fn iv, true)
  says := fun _ h => ∃ K : PySem.W.Frag, K.In h ∧ SaysP fx fn ini iv K ∧ TabsP tf h K
  of := fun _ s e => ⟨He.frT s.heap.get? (asP s.heap.get?), He.frT_in, by
    unfold obsPTG at e
    rw [forceL_eq, forceK_eq] at e
    exact ⟨⟨congrArg (fun z : AlPT => z.1) e⟩, tabsP_of (congrArg (fun z : AlPT => z.2) e)⟩⟩
  keeps := fun _ _ _ ⟨K, hK, c, t⟩ k => ⟨K, PySem.W.Frag.In.keeps hK k, c, t.hd, t.out, fun p hp => k _ _ (t.empty p hp)⟩
theorem obsPTG_eq {fx : List Fx} {fn : List He.DefD} {ini : List Str} {iv : List IniW} {tf : List He.Defn} {g : Addr → Option Obj} {s : Shared} (h : ∀ a, g a = s.heap.get? a) : obsPTG fx fn ini tf g = (hookPT fx fn ini iv tf).obs s := by
  have e : g = s.heap.get? := funext h
  rw [e]
  rfl
/-- the code object of a def -/
theorem code_of {K : PySem.W.Frag} {h : Heap} {mg : Str → Option Value} {x : Str} {st : Stmt} {f : Addr} {fd : FuncData} (X : K.In h) (G : h.Ns mainGlobals mg) (e : (Fx.glo x).ok K = true) (F : C8.Def K mg x st f fd) : fd.code = .ref (He.cT K (x, none)).1 := by
  obtain ⟨oc, od, dV, kV, doc, pm, an, cdv, ct, osl, rfl, lk, hcd⟩ := F.fn.ex
  obtain ⟨c, hc⟩ := He.codeIn_ref hcd
  have hf : He.ga K x = f := by
    have := (PySem.W.mg_of X G (He.eqO_ok e)).symm.trans F.mgf
    cases this; rfl
  have z := He.codeOf_eq (K := K) (p := (x, none)) (by
    show K.lookup (He.ga K x) = _
    rw [hf]; exact lk) hc
  show cdv = .ref (He.codeOf K (x, none))
  rw [z, hc]
end PB

set_option Elab.async false
set_option linter.all false
set_option maxRecDepth 100000
set_option maxHeartbeats 4000000
namespace PB
open PySem PySem.Spec L2
def c_is_int : CB := (.cons (.ret (.and (.blt .isInt (.cons (.var 0) .nil)) (.not (.blt .isBool (.cons (.var 0) .nil))))) .nil)
def f_is_int : Fn := ⟨1, 1, c_is_int⟩
def c_is_from : CB := (.cons (.ret (.and (.call 0 (.cons (.var 0) .nil)) (.chn .le .le (.var 1) (.var 0) (.var 2)))) .nil)
def f_is_from : Fn := ⟨3, 3, c_is_from⟩
def c_is_ratio : CB := (.cons (.ifs (.or (.not (.blt .isTup (.cons (.var 0) .nil))) (.or (.cmp .ne (.blt .len (.cons (.var 0) .nil)) (.con (.int 2))) (.or (.not (.call 0 (.cons (.idx (.var 0) (.con (.int 0))) .nil))) (.not (.call 0 (.cons (.idx (.var 0) (.con (.int 1))) .nil)))))) (.cons (.ret (.con (.bl false))) .nil) .nil) (.cons (.ret (.and (.cmp .gt (.idx (.var 0) (.con (.int 1))) (.con (.int 0))) (.cmp .eq (.blt .gcd (.cons (.idx (.var 0) (.con (.int 0))) (.cons (.idx (.var 0) (.con (.int 1))) .nil))) (.con (.int 1))))) .nil))
def f_is_ratio : Fn := ⟨1, 1, c_is_ratio⟩
def c_need_ratio : CB := (.cons (.ifs (.not (.call 1 (.cons (.var 0) .nil))) (.cons (.raise 1 .nil) .nil) .nil) .nil)
def f_need_ratio : Fn := ⟨1, 1, c_need_ratio⟩
def c_made : CB := (.cons (.asg (.v 2) (.blt .gcd (.cons (.var 0) (.cons (.var 1) .nil)))) (.cons (.ifs (.cmp .lt (.var 1) (.con (.int 0))) (.cons (.asg (.v 2) (.neg (.var 2))) .nil) .nil) (.cons (.ret (.tup (.cons (.bin .fdiv (.var 0) (.var 2)) (.cons (.bin .fdiv (.var 1) (.var 2)) .nil)))) .nil)))
def f_made : Fn := ⟨2, 3, c_made⟩
def c_plus : CB := (.cons (.ret (.call 2 (.cons (.bin .add (.bin .mul (.idx (.var 0) (.con (.int 0))) (.idx (.var 1) (.con (.int 1)))) (.bin .mul (.idx (.var 1) (.con (.int 0))) (.idx (.var 0) (.con (.int 1))))) (.cons (.bin .mul (.idx (.var 0) (.con (.int 1))) (.idx (.var 1) (.con (.int 1)))) .nil)))) .nil)
def f_plus : Fn := ⟨2, 2, c_plus⟩
def c_less : CB := (.cons (.ret (.call 2 (.cons (.bin .sub (.bin .mul (.idx (.var 0) (.con (.int 0))) (.idx (.var 1) (.con (.int 1)))) (.bin .mul (.idx (.var 1) (.con (.int 0))) (.idx (.var 0) (.con (.int 1))))) (.cons (.bin .mul (.idx (.var 0) (.con (.int 1))) (.idx (.var 1) (.con (.int 1)))) .nil)))) .nil)
def f_less : Fn := ⟨2, 2, c_less⟩
def c_times : CB := (.cons (.ret (.call 2 (.cons (.bin .mul (.idx (.var 0) (.con (.int 0))) (.idx (.var 1) (.con (.int 0)))) (.cons (.bin .mul (.idx (.var 0) (.con (.int 1))) (.idx (.var 1) (.con (.int 1)))) .nil)))) .nil)
def f_times : Fn := ⟨2, 2, c_times⟩
def c_over : CB := (.cons (.ret (.call 2 (.cons (.bin .mul (.idx (.var 0) (.con (.int 0))) (.idx (.var 1) (.con (.int 1)))) (.cons (.bin .mul (.idx (.var 0) (.con (.int 1))) (.idx (.var 1) (.con (.int 0)))) .nil)))) .nil)
def f_over : Fn := ⟨2, 2, c_over⟩
def c_negative : CB := (.cons (.ret (.tup (.cons (.neg (.idx (.var 0) (.con (.int 0)))) (.cons (.idx (.var 0) (.con (.int 1))) .nil)))) .nil)
def f_negative : Fn := ⟨1, 1, c_negative⟩
def c_is_below : CB := (.cons (.ret (.cmp .lt (.bin .mul (.idx (.var 0) (.con (.int 0))) (.idx (.var 1) (.con (.int 1)))) (.bin .mul (.idx (.var 1) (.con (.int 0))) (.idx (.var 0) (.con (.int 1)))))) .nil)
def f_is_below : Fn := ⟨2, 2, c_is_below⟩
def c_total : CB := (.cons (.asg (.v 1) (.con (.tup [(.int 0), (.int 1)]))) (.cons (.for_ (.v 2) (.seq (.var 0)) (.cons (.asg (.v 1) (.call 4 (.cons (.var 1) (.cons (.var 2) .nil)))) .nil)) (.cons (.ret (.var 1)) .nil)))
def f_total : Fn := ⟨1, 3, c_total⟩
def c_is_poly : CB := (.cons (.ifs (.or (.not (.blt .isTup (.cons (.var 0) .nil))) (.or (.cmp .gt (.blt .len (.cons (.var 0) .nil)) (.bin .add (.con (.int 12)) (.con (.int 1)))) (.not (.blt .all (.cons (.comp (.call 1 (.cons (.var 1) .nil)) [1] (.v 1) (.seq (.var 0)) .none) .nil))))) (.cons (.ret (.con (.bl false))) .nil) .nil) (.cons (.ret (.or (.cmp .eq (.var 0) (.tup .nil)) (.cmp .ne (.idx (.var 0) (.neg (.con (.int 1)))) (.con (.tup [(.int 0), (.int 1)]))))) .nil))
def f_is_poly : Fn := ⟨1, 2, c_is_poly⟩
def c_need_poly : CB := (.cons (.ifs (.not (.call 3 (.cons (.var 0) .nil))) (.cons (.raise 2 .nil) .nil) .nil) .nil)
def f_need_poly : Fn := ⟨1, 1, c_need_poly⟩
def c_trimmed : CB := (.cons (.asg (.v 1) (.blt .len (.cons (.var 0) .nil))) (.cons (.whl (.and (.cmp .gt (.var 1) (.con (.int 0))) (.cmp .eq (.idx (.var 0) (.bin .sub (.var 1) (.con (.int 1)))) (.con (.tup [(.int 0), (.int 1)])))) (.cons (.aug 1 .sub (.con (.int 1))) .nil)) (.cons (.ret (.blt .tuple (.cons (.slc (.var 0) .none (.some (.var 1))) .nil))) .nil)))
def f_trimmed : Fn := ⟨1, 2, c_trimmed⟩
def c_at : CB := (.cons (.asg (.v 2) (.con (.tup [(.int 0), (.int 1)]))) (.cons (.for_ (.v 3) (.seq (.rev (.var 0))) (.cons (.asg (.v 2) (.call 4 (.cons (.call 5 (.cons (.var 2) (.cons (.var 1) .nil))) (.cons (.var 3) .nil)))) .nil)) (.cons (.ret (.var 2)) .nil)))
def f_at : Fn := ⟨2, 4, c_at⟩
def c_p_plus : CB := (.cons (.asg (.v 2) (.blt .max2 (.cons (.blt .len (.cons (.var 0) .nil)) (.cons (.blt .len (.cons (.var 1) .nil)) .nil)))) (.cons (.asg (.v 3) (.lst (.star (.var 0) (.star (.bin .mul (.lst (.cons (.con (.tup [(.int 0), (.int 1)])) .nil)) (.bin .sub (.var 2) (.blt .len (.cons (.var 0) .nil)))) .nil)))) (.cons (.asg (.v 4) (.lst (.star (.var 1) (.star (.bin .mul (.lst (.cons (.con (.tup [(.int 0), (.int 1)])) .nil)) (.bin .sub (.var 2) (.blt .len (.cons (.var 1) .nil)))) .nil)))) (.cons (.ret (.call 9 (.cons (.comp (.call 4 (.cons (.var 5) (.cons (.var 6) .nil))) [5, 6] (.cons (.v 5) (.cons (.v 6) .nil)) (.zip (.cons (.var 3) (.cons (.var 4) .nil))) .none) .nil))) .nil))))
def f_p_plus : Fn := ⟨2, 7, c_p_plus⟩
def c_p_times : CB := (.cons (.ifs (.or (.cmp .eq (.var 0) (.tup .nil)) (.cmp .eq (.var 1) (.tup .nil))) (.cons (.ret (.tup .nil)) .nil) .nil) (.cons (.asg (.v 2) (.bin .mul (.lst (.cons (.con (.tup [(.int 0), (.int 1)])) .nil)) (.bin .sub (.bin .add (.blt .len (.cons (.var 0) .nil)) (.blt .len (.cons (.var 1) .nil))) (.con (.int 1))))) (.cons (.for_ (.cons (.v 3) (.cons (.v 4) .nil)) (.enu (.cons (.var 0) .nil)) (.cons (.for_ (.cons (.v 5) (.cons (.v 6) .nil)) (.enu (.cons (.var 1) .nil)) (.cons (.asg (.s (.var 2) (.bin .add (.var 3) (.var 5))) (.call 4 (.cons (.idx (.var 2) (.bin .add (.var 3) (.var 5))) (.cons (.call 5 (.cons (.var 4) (.cons (.var 6) .nil))) .nil)))) .nil)) .nil)) (.cons (.ret (.blt .tuple (.cons (.var 2) .nil))) .nil))))
def f_p_times : Fn := ⟨2, 7, c_p_times⟩
def c_p_slope : CB := (.cons (.ret (.blt .tuple (.cons (.slc (.comp (.call 5 (.cons (.var 2) (.cons (.tup (.cons (.var 1) (.cons (.con (.int 1)) .nil))) .nil))) [1, 2] (.cons (.v 1) (.cons (.v 2) .nil)) (.enu (.cons (.var 0) .nil)) .none) (.some (.con (.int 1))) .none) .nil))) .nil)
def f_p_slope : Fn := ⟨1, 3, c_p_slope⟩
def c_choose : CB := (.cons (.asg (.v 2) (.con (.int 1))) (.cons (.for_ (.v 3) (.rng1 (.cons (.var 1) .nil)) (.cons (.asg (.v 2) (.bin .fdiv (.bin .mul (.var 2) (.bin .sub (.var 0) (.var 3))) (.bin .add (.var 3) (.con (.int 1))))) .nil)) (.cons (.ret (.var 2)) .nil)))
def f_choose : Fn := ⟨2, 4, c_choose⟩
def c_symmetric : CB := (.cons (.asg (.v 1) (.lst (.cons (.con (.tup [(.int 1), (.int 1)])) .nil))) (.cons (.for_ (.v 2) (.seq (.var 0)) (.cons (.asg (.v 3) (.lst (.star (.var 1) (.cons (.con (.tup [(.int 0), (.int 1)])) .nil)))) (.cons (.for_ (.v 4) (.rng1 (.cons (.blt .len (.cons (.var 1) .nil)) .nil)) (.cons (.asg (.s (.var 3) (.bin .add (.var 4) (.con (.int 1)))) (.call 4 (.cons (.idx (.var 3) (.bin .add (.var 4) (.con (.int 1)))) (.cons (.call 5 (.cons (.idx (.var 1) (.var 4)) (.cons (.var 2) .nil))) .nil)))) .nil)) (.cons (.asg (.v 1) (.var 3)) .nil)))) (.cons (.ret (.var 1)) .nil)))
def f_symmetric : Fn := ⟨1, 5, c_symmetric⟩
def c_blossom_of : CB := (.cons (.par [2, 3] (.cons (.con (.tup [(.int 0), (.int 1)])) (.cons (.call 77 (.cons (.var 1) .nil)) .nil))) (.cons (.for_ (.cons (.v 4) (.cons (.v 5) .nil)) (.enu (.cons (.var 0) .nil)) (.cons (.asg (.v 2) (.call 4 (.cons (.var 2) (.cons (.call 5 (.cons (.var 5) (.cons (.call 5 (.cons (.idx (.var 3) (.var 4)) (.cons (.call 2 (.cons (.con (.int 1)) (.cons (.call 76 (.cons (.blt .len (.cons (.var 1) .nil)) (.cons (.var 4) .nil))) .nil))) .nil))) .nil))) .nil)))) .nil)) (.cons (.ret (.var 2)) .nil)))
def f_blossom_of : Fn := ⟨2, 6, c_blossom_of⟩
def c_need_low : CB := (.cons (.ifs (.not (.call 75 (.cons (.var 0) (.cons (.var 1) (.cons (.con (.int 4)) .nil))))) (.cons (.raise 7 .nil) .nil) .nil) .nil)
def f_need_low : Fn := ⟨2, 2, c_need_low⟩
def c_faults_of : CB := (.cons (.ifs (.or (.not (.blt .isTup (.cons (.var 1) .nil))) (.not (.chn .le .le (.bin .add (.var 0) (.con (.int 2))) (.blt .len (.cons (.var 1) .nil)) (.con (.int 16))))) (.cons (.ret (.lst (.cons (.con .non) .nil))) .nil) .nil) (.cons (.for_ (.cons (.v 2) (.cons (.v 3) .nil)) (.enu (.cons (.var 1) .nil)) (.cons (.ifs (.or (.not (.call 1 (.cons (.var 3) .nil))) (.and (.cmp .gt (.var 2) (.con (.int 0))) (.call 49 (.cons (.var 3) (.cons (.idx (.var 1) (.bin .sub (.var 2) (.con (.int 1)))) .nil))))) (.cons (.ret (.lst (.cons (.var 2) .nil))) .nil) .nil) (.cons (.ifs (.and (.cmp .gt (.var 2) (.var 0)) (.cmp .eq (.idx (.var 1) (.bin .sub (.bin .sub (.var 2) (.var 0)) (.con (.int 1)))) (.var 3))) (.cons (.ret (.lst (.cons (.var 2) .nil))) .nil) .nil) .nil))) (.cons (.ret (.lst .nil)) .nil)))
def f_faults_of : Fn := ⟨2, 4, c_faults_of⟩
def c_need_knots : CB := (.cons (.asg (.v 2) (.call 145 (.cons (.var 0) (.cons (.var 1) .nil)))) (.cons (.ifs (.cmp .ne (.var 2) (.lst .nil)) (.cons (.raise 12 (.cons (.con (.str "index")) (.cons (.idx (.var 2) (.con (.int 0))) .nil))) .nil) .nil) .nil))
def f_need_knots : Fn := ⟨2, 3, c_need_knots⟩
def c_need_index : CB := (.cons (.ifs (.not (.call 75 (.cons (.var 2) (.cons (.con (.int 0)) (.cons (.bin .sub (.bin .sub (.blt .len (.cons (.var 1) .nil)) (.var 0)) (.con (.int 2))) .nil))))) (.cons (.raise 11 .nil) .nil) .nil) .nil)
def f_need_index : Fn := ⟨3, 3, c_need_index⟩
def c_basis_at : CB := (.cons (.ifs (.cmp .eq (.var 0) (.con (.int 0))) (.cons (.ret (.ite (.and (.not (.call 49 (.cons (.var 3) (.cons (.idx (.var 1) (.var 2)) .nil)))) (.call 49 (.cons (.var 3) (.cons (.idx (.var 1) (.bin .add (.var 2) (.con (.int 1)))) .nil)))) (.con (.tup [(.int 1), (.int 1)])) (.con (.tup [(.int 0), (.int 1)])))) .nil) .nil) (.cons (.asg (.v 4) (.con (.tup [(.int 0), (.int 1)]))) (.cons (.par [5, 6] (.cons (.idx (.var 1) (.var 2)) (.cons (.idx (.var 1) (.bin .add (.var 2) (.var 0))) .nil))) (.cons (.ifs (.cmp .ne (.var 5) (.var 6)) (.cons (.asg (.v 4) (.call 5 (.cons (.call 32 (.cons (.call 31 (.cons (.var 3) (.cons (.var 5) .nil))) (.cons (.call 31 (.cons (.var 6) (.cons (.var 5) .nil))) .nil))) (.cons (.call 146 (.cons (.bin .sub (.var 0) (.con (.int 1))) (.cons (.var 1) (.cons (.var 2) (.cons (.var 3) .nil))))) .nil)))) .nil) .nil) (.cons (.par [5, 6] (.cons (.idx (.var 1) (.bin .add (.var 2) (.con (.int 1)))) (.cons (.idx (.var 1) (.bin .add (.bin .add (.var 2) (.var 0)) (.con (.int 1)))) .nil))) (.cons (.ifs (.cmp .ne (.var 5) (.var 6)) (.cons (.asg (.v 4) (.call 4 (.cons (.var 4) (.cons (.call 5 (.cons (.call 32 (.cons (.call 31 (.cons (.var 6) (.cons (.var 3) .nil))) (.cons (.call 31 (.cons (.var 6) (.cons (.var 5) .nil))) .nil))) (.cons (.call 146 (.cons (.bin .sub (.var 0) (.con (.int 1))) (.cons (.var 1) (.cons (.bin .add (.var 2) (.con (.int 1))) (.cons (.var 3) .nil))))) .nil))) .nil)))) .nil) .nil) (.cons (.ret (.var 4)) .nil)))))))
def f_basis_at : Fn := ⟨4, 7, c_basis_at⟩
def c_basis_poly : CB := (.cons (.ifs (.cmp .eq (.var 0) (.con (.int 0))) (.cons (.ret (.ite (.cmp .eq (.var 2) (.var 3)) (.tup (.cons (.con (.tup [(.int 1), (.int 1)])) .nil)) (.tup .nil))) .nil) .nil) (.cons (.asg (.v 4) (.tup .nil)) (.cons (.par [5, 6] (.cons (.idx (.var 1) (.var 2)) (.cons (.idx (.var 1) (.bin .add (.var 2) (.var 0))) .nil))) (.cons (.ifs (.cmp .ne (.var 5) (.var 6)) (.cons (.asg (.v 7) (.call 32 (.cons (.con (.tup [(.int 1), (.int 1)])) (.cons (.call 31 (.cons (.var 6) (.cons (.var 5) .nil))) .nil)))) (.cons (.asg (.v 4) (.call 13 (.cons (.tup (.cons (.call 5 (.cons (.call 52 (.cons (.var 5) .nil)) (.cons (.var 7) .nil))) (.cons (.var 7) .nil))) (.cons (.call 155 (.cons (.bin .sub (.var 0) (.con (.int 1))) (.cons (.var 1) (.cons (.var 2) (.cons (.var 3) .nil))))) .nil)))) .nil)) .nil) (.cons (.par [5, 6] (.cons (.idx (.var 1) (.bin .add (.var 2) (.con (.int 1)))) (.cons (.idx (.var 1) (.bin .add (.bin .add (.var 2) (.var 0)) (.con (.int 1)))) .nil))) (.cons (.ifs (.cmp .ne (.var 5) (.var 6)) (.cons (.asg (.v 7) (.call 32 (.cons (.con (.tup [(.int 1), (.int 1)])) (.cons (.call 31 (.cons (.var 6) (.cons (.var 5) .nil))) .nil)))) (.cons (.asg (.v 8) (.tup (.cons (.call 5 (.cons (.var 6) (.cons (.var 7) .nil))) (.cons (.call 52 (.cons (.var 7) .nil)) .nil)))) (.cons (.asg (.v 4) (.call 10 (.cons (.var 4) (.cons (.call 13 (.cons (.var 8) (.cons (.call 155 (.cons (.bin .sub (.var 0) (.con (.int 1))) (.cons (.var 1) (.cons (.bin .add (.var 2) (.con (.int 1))) (.cons (.var 3) .nil))))) .nil))) .nil)))) .nil))) .nil) (.cons (.ret (.var 4)) .nil)))))))
def f_basis_poly : Fn := ⟨4, 9, c_basis_poly⟩
def c_basis_value : CB := (.cons (.expr (.call 149 (.cons (.var 0) (.cons (.con (.int 0)) .nil)))) (.cons (.expr (.call 148 (.cons (.var 0) (.cons (.var 1) .nil)))) (.cons (.expr (.call 147 (.cons (.var 0) (.cons (.var 1) (.cons (.var 2) .nil))))) (.cons (.expr (.call 7 (.cons (.var 3) .nil))) (.cons (.ret (.call 146 (.cons (.var 0) (.cons (.var 1) (.cons (.var 2) (.cons (.var 3) .nil)))))) .nil)))))
def f_basis_value : Fn := ⟨4, 4, c_basis_value⟩
def c_basis_pieces : CB := (.cons (.expr (.call 149 (.cons (.var 0) (.cons (.con (.int 0)) .nil)))) (.cons (.expr (.call 148 (.cons (.var 0) (.cons (.var 1) .nil)))) (.cons (.expr (.call 147 (.cons (.var 0) (.cons (.var 1) (.cons (.var 2) .nil))))) (.cons (.asg (.v 3) (.lst .nil)) (.cons (.for_ (.v 4) (.rng2 (.cons (.var 2) (.cons (.bin .add (.bin .add (.var 2) (.var 0)) (.con (.int 1))) .nil))) (.cons (.ifs (.cmp .ne (.idx (.var 1) (.var 4)) (.idx (.var 1) (.bin .add (.var 4) (.con (.int 1))))) (.cons (.expr (.mth .append (.var 3) (.cons (.tup (.cons (.tup (.cons (.idx (.var 1) (.var 4)) (.cons (.idx (.var 1) (.bin .add (.var 4) (.con (.int 1)))) .nil))) (.cons (.call 155 (.cons (.var 0) (.cons (.var 1) (.cons (.var 2) (.cons (.var 4) .nil))))) .nil))) .nil))) .nil) .nil) .nil)) (.cons (.ret (.blt .tuple (.cons (.var 3) .nil))) .nil))))))
def f_basis_pieces : Fn := ⟨3, 5, c_basis_pieces⟩
def c_greville : CB := (.cons (.expr (.call 149 (.cons (.var 0) (.cons (.con (.int 1)) .nil)))) (.cons (.expr (.call 148 (.cons (.var 0) (.cons (.var 1) .nil)))) (.cons (.asg (.v 2) (.bin .sub (.bin .sub (.blt .len (.cons (.var 1) .nil)) (.var 0)) (.con (.int 1)))) (.cons (.ret (.blt .tuple (.cons (.comp (.call 5 (.cons (.call 115 (.cons (.slc (.var 1) (.some (.bin .add (.var 3) (.con (.int 1)))) (.some (.bin .add (.bin .add (.var 3) (.var 0)) (.con (.int 1))))) .nil)) (.cons (.call 2 (.cons (.con (.int 1)) (.cons (.var 0) .nil))) .nil))) [3] (.v 3) (.rng1 (.cons (.var 2) .nil)) .none) .nil))) .nil))))
def f_greville : Fn := ⟨2, 4, c_greville⟩
def c_row_for : CB := (.cons (.ret (.blt .tuple (.cons (.comp (.call 78 (.cons (.var 0) (.cons (.slc (.var 2) (.some (.bin .add (.var 3) (.con (.int 1)))) (.some (.bin .add (.bin .add (.var 3) (.var 1)) (.con (.int 1))))) .nil))) [3] (.v 3) (.rng1 (.cons (.bin .sub (.bin .sub (.blt .len (.cons (.var 2) .nil)) (.var 1)) (.con (.int 1))) .nil)) .none) .nil))) .nil)
def f_row_for : Fn := ⟨3, 4, c_row_for⟩
def c_coefficients : CB := (.cons (.expr (.call 8 (.cons (.var 0) .nil))) (.cons (.expr (.call 149 (.cons (.var 1) (.cons (.con (.int 0)) .nil)))) (.cons (.ifs (.cmp .gt (.blt .len (.cons (.var 0) .nil)) (.bin .add (.var 1) (.con (.int 1)))) (.cons (.raise 7 .nil) .nil) .nil) (.cons (.expr (.call 148 (.cons (.var 1) (.cons (.var 2) .nil)))) (.cons (.ret (.call 159 (.cons (.var 0) (.cons (.var 1) (.cons (.var 2) .nil))))) .nil)))))
def f_coefficients : Fn := ⟨3, 3, c_coefficients⟩
def c_is_interval : CB := (.cons (.ifs (.or (.not (.blt .isTup (.cons (.var 0) .nil))) (.or (.cmp .ne (.blt .len (.cons (.var 0) .nil)) (.con (.int 2))) (.or (.not (.call 1 (.cons (.idx (.var 0) (.con (.int 0))) .nil))) (.not (.call 1 (.cons (.idx (.var 0) (.con (.int 1))) .nil)))))) (.cons (.ret (.con (.bl false))) .nil) .nil) (.cons (.ret (.call 49 (.cons (.idx (.var 0) (.con (.int 0))) (.cons (.idx (.var 0) (.con (.int 1))) .nil)))) .nil))
def f_is_interval : Fn := ⟨1, 1, c_is_interval⟩
def c_poly_over : CB := (.cons (.for_ (.cons (.v 2) (.cons (.v 3) .nil)) (.seq (.rev (.var 0))) (.cons (.ifs (.not (.call 49 (.cons (.var 1) (.cons (.idx (.var 2) (.con (.int 0))) .nil)))) (.cons (.ret (.var 3)) .nil) .nil) .nil)) (.cons (.ret (.idx (.idx (.var 0) (.con (.int 0))) (.con (.int 1)))) .nil))
def f_poly_over : Fn := ⟨2, 4, c_poly_over⟩
def c_row_from : CB := (.cons (.asg (.v 3) (.lst .nil)) (.cons (.for_ (.v 4) (.rng1 (.cons (.bin .sub (.bin .sub (.blt .len (.cons (.var 2) .nil)) (.var 1)) (.con (.int 1))) .nil)) (.cons (.asg (.v 5) (.idx (.comp (.var 6) [6] (.v 6) (.rng2 (.cons (.var 4) (.cons (.bin .add (.bin .add (.var 4) (.var 1)) (.con (.int 1))) .nil))) (.some (.cmp .ne (.idx (.var 2) (.var 6)) (.idx (.var 2) (.bin .add (.var 6) (.con (.int 1))))))) (.con (.int 0)))) (.cons (.expr (.mth .append (.var 3) (.cons (.call 78 (.cons (.call 184 (.cons (.var 0) (.cons (.idx (.var 2) (.var 5)) .nil))) (.cons (.slc (.var 2) (.some (.bin .add (.var 4) (.con (.int 1)))) (.some (.bin .add (.bin .add (.var 4) (.var 1)) (.con (.int 1))))) .nil))) .nil))) .nil))) (.cons (.ret (.blt .tuple (.cons (.var 3) .nil))) .nil)))
def f_row_from : Fn := ⟨3, 7, c_row_from⟩
def c_order_at : CB := (.cons (.for_ (.v 4) (.rng1 (.cons (.bin .add (.var 2) (.con (.int 1))) .nil)) (.cons (.ifs (.cmp .ne (.call 6 (.cons (.var 0) (.cons (.var 3) .nil))) (.call 6 (.cons (.var 1) (.cons (.var 3) .nil)))) (.cons (.ret (.bin .sub (.var 4) (.con (.int 1)))) .nil) .nil) (.cons (.par [0, 1] (.cons (.call 39 (.cons (.var 0) .nil)) (.cons (.call 39 (.cons (.var 1) .nil)) .nil))) .nil))) (.cons (.ret (.var 2)) .nil))
def f_order_at : Fn := ⟨4, 5, c_order_at⟩
def c_small_2 : CB := (.cons (.ifs (.cmp .gt (.blt .len (.cons (.var 0) .nil)) (.con (.int 16))) (.cons (.raise 17 (.cons (.con (.str "most")) (.cons (.con (.int 16)) .nil))) .nil) .nil) (.cons (.ret (.blt .tuple (.cons (.var 0) .nil))) .nil))
def f_small_2 : Fn := ⟨1, 1, c_small_2⟩
def c_with_ends : CB := (.cons (.asg (.v 3) (.bin .mul (.lst (.cons (.idx (.var 1) (.con (.int 0))) .nil)) (.bin .add (.var 0) (.con (.int 1))))) (.cons (.for_ (.cons (.v 4) (.cons (.v 5) .nil)) (.seq (.var 2)) (.cons (.expr (.mth .extend (.var 3) (.cons (.bin .mul (.lst (.cons (.var 4) .nil)) (.var 5)) .nil))) .nil)) (.cons (.ret (.call 191 (.cons (.lst (.star (.var 3) (.star (.bin .mul (.lst (.cons (.idx (.var 1) (.con (.int 1))) .nil)) (.bin .add (.var 0) (.con (.int 1)))) .nil))) .nil))) .nil)))
def f_with_ends : Fn := ⟨3, 6, c_with_ends⟩
def c_is_piece : CB := (.cons (.ifs (.or (.not (.blt .isTup (.cons (.var 0) .nil))) (.or (.cmp .ne (.blt .len (.cons (.var 0) .nil)) (.con (.int 2))) (.not (.call 84 (.cons (.idx (.var 0) (.con (.int 0))) .nil))))) (.cons (.ret (.con (.bl false))) .nil) .nil) (.cons (.ret (.and (.call 3 (.cons (.idx (.var 0) (.con (.int 1))) .nil)) (.cmp .le (.blt .len (.cons (.idx (.var 0) (.con (.int 1))) .nil)) (.bin .add (.var 1) (.con (.int 1)))))) .nil))
def f_is_piece : Fn := ⟨2, 2, c_is_piece⟩
def c_from_pieces : CB := (.cons (.expr (.call 149 (.cons (.var 0) (.cons (.con (.int 0)) .nil)))) (.cons (.ifs (.or (.not (.blt .isTup (.cons (.var 1) .nil))) (.not (.chn .le .le (.con (.int 1)) (.blt .len (.cons (.var 1) .nil)) (.con (.int 8))))) (.cons (.raise 15 (.cons (.con (.str "index")) (.cons (.con .non) .nil))) .nil) .nil) (.cons (.for_ (.cons (.v 4) (.cons (.v 5) .nil)) (.enu (.cons (.var 1) .nil)) (.cons (.ifs (.or (.not (.call 202 (.cons (.var 5) (.cons (.var 0) .nil)))) (.and (.cmp .gt (.var 4) (.con (.int 0))) (.cmp .ne (.idx (.idx (.var 5) (.con (.int 0))) (.con (.int 0))) (.idx (.idx (.idx (.var 1) (.bin .sub (.var 4) (.con (.int 1)))) (.con (.int 0))) (.con (.int 1)))))) (.cons (.raise 15 (.cons (.con (.str "index")) (.cons (.var 4) .nil))) .nil) .nil) .nil)) (.cons (.asg (.v 2) (.lst .nil)) (.cons (.for_ (.cons (.v 6) (.cons (.v 7) .nil)) (.zip (.cons (.var 1) (.cons (.slc (.var 1) (.some (.con (.int 1))) .none) .nil))) (.cons (.asg (.v 8) (.idx (.idx (.var 7) (.con (.int 0))) (.con (.int 0)))) (.cons (.expr (.mth .append (.var 2) (.cons (.tup (.cons (.var 8) (.cons (.bin .sub (.var 0) (.call 185 (.cons (.idx (.var 6) (.con (.int 1))) (.cons (.idx (.var 7) (.con (.int 1))) (.cons (.var 0) (.cons (.var 8) .nil)))))) .nil))) .nil))) .nil))) (.cons (.asg (.v 3) (.call 192 (.cons (.var 0) (.cons (.tup (.cons (.idx (.idx (.idx (.var 1) (.con (.int 0))) (.con (.int 0))) (.con (.int 0))) (.cons (.idx (.idx (.idx (.var 1) (.neg (.con (.int 1)))) (.con (.int 0))) (.con (.int 1))) .nil))) (.cons (.var 2) .nil))))) (.cons (.ret (.tup (.cons (.var 0) (.cons (.var 3) (.cons (.call 187 (.cons (.var 1) (.cons (.var 0) (.cons (.var 3) .nil)))) .nil))))) .nil)))))))
def f_from_pieces : Fn := ⟨2, 9, c_from_pieces⟩
def c_space_size : CB := (.cons (.ifs (.or (.not (.blt .isTup (.cons (.var 0) .nil))) (.not (.chn .le .le (.con (.int 2)) (.blt .len (.cons (.var 0) .nil)) (.con (.int 6))))) (.cons (.raise 5 (.cons (.con (.str "index")) (.cons (.con .non) .nil))) .nil) .nil) (.cons (.for_ (.cons (.v 3) (.cons (.v 4) .nil)) (.enu (.cons (.var 0) .nil)) (.cons (.ifs (.or (.not (.call 1 (.cons (.var 4) .nil))) (.and (.cmp .gt (.var 3) (.con (.int 0))) (.not (.call 49 (.cons (.idx (.var 0) (.bin .sub (.var 3) (.con (.int 1)))) (.cons (.var 4) .nil)))))) (.cons (.raise 5 (.cons (.con (.str "index")) (.cons (.var 3) .nil))) .nil) .nil) .nil)) (.cons (.expr (.call 149 (.cons (.var 1) (.cons (.con (.int 0)) .nil)))) (.cons (.ifs (.not (.call 75 (.cons (.var 2) (.cons (.neg (.con (.int 1))) (.cons (.var 1) .nil))))) (.cons (.raise 11 .nil) .nil) .nil) (.cons (.ret (.bin .sub (.bin .mul (.bin .sub (.blt .len (.cons (.var 0) .nil)) (.con (.int 1))) (.bin .add (.var 1) (.con (.int 1)))) (.bin .mul (.bin .sub (.blt .len (.cons (.var 0) .nil)) (.con (.int 2))) (.bin .add (.var 2) (.con (.int 1)))))) .nil)))))
def f_space_size : Fn := ⟨3, 5, c_space_size⟩
def c__law_taken : CB := (.cons (.ifs (.cmp .gt (.idx (.var 0) (.con (.int 3))) (.con (.int 0))) (.cons (.asg (.v 3) (.bin .mod (.blt .int (.cons (.idx (.var 0) (.con (.int 3))) .nil)) (.var 1))) (.cons (.asg (.s (.var 0) (.con (.int 3))) (.bin .fdiv (.idx (.var 0) (.con (.int 3))) (.var 1))) (.cons (.ret (.var 3)) .nil))) .nil) (.cons (.asg (.s (.var 0) (.con (.int 1))) (.bin .add (.idx (.var 0) (.con (.int 1))) (.con (.int 1)))) (.cons (.ifs (.cmp .gt (.idx (.var 0) (.con (.int 1))) (.blt .len (.cons (.idx (.var 0) (.con (.int 0))) .nil))) (.cons (.asg (.s (.var 0) (.con (.int 2))) (.bin .mod (.blt .int (.cons (.bin .add (.bin .mul (.idx (.var 0) (.con (.int 2))) (.con (.int 48271))) (.con (.int 11))) .nil)) (.con (.int 2147483647)))) (.cons (.ret (.bin .mod (.blt .int (.cons (.bin .fdiv (.idx (.var 0) (.con (.int 2))) (.con (.int 7))) .nil)) (.var 1))) .nil)) .nil) (.cons (.asg (.v 2) (.idx (.idx (.var 0) (.con (.int 0))) (.bin .sub (.idx (.var 0) (.con (.int 1))) (.con (.int 1))))) (.cons (.asg (.s (.var 0) (.con (.int 2))) (.bin .mod (.blt .int (.cons (.bin .add (.bin .add (.bin .mul (.idx (.var 0) (.con (.int 2))) (.con (.int 48271))) (.var 2)) (.con (.int 11))) .nil)) (.con (.int 2147483647)))) (.cons (.ifs (.cmp .ge (.var 2) (.bin .pow (.con (.int 10)) (.con (.int 18)))) (.cons (.asg (.s (.var 0) (.con (.int 3))) (.bin .fdiv (.var 2) (.var 1))) .nil) .nil) (.cons (.ret (.bin .mod (.blt .int (.cons (.var 2) .nil)) (.var 1))) .nil)))))))
def f__law_taken : Fn := ⟨2, 4, c__law_taken⟩
def c__law_pick : CB := (.cons (.ret (.idx (.var 1) (.call 14 (.cons (.var 0) (.cons (.blt .len (.cons (.var 1) .nil)) .nil))))) .nil)
def f__law_pick : Fn := ⟨2, 2, c__law_pick⟩
def w_law_79 : (PH → Res PV) → PH → Res PV := wordF (.cons [0, 1, 2, 5, 7, 11, 12, 15, 17] 2 (.cons (.asg (.v 3) (.lst (.cons (.xis 2 [7]) (.cons (.xis 2 [12]) (.cons (.xis 2 [5]) (.cons (.xis 2 [11]) .nil)))))) (.cons (.asg (.v 3) (.bin .add (.var 3) (.lst (.cons (.xis 2 [15]) (.cons (.xis 2 [2]) (.cons (.xis 2 [1]) .nil)))))) (.cons (.expr (.mth .append (.var 3) (.cons (.xis 2 [17]) .nil))) (.cons (.asg (.v 4) (.lst (.cons (.con (.str "degree")) (.cons (.con (.str "knots")) (.cons (.con (.str "nodes")) (.cons (.con (.str "number")) (.cons (.con (.str "pieces")) (.cons (.con (.str "polynomial")) (.cons (.con (.str "ratio")) (.cons (.con (.str "many")) .nil)))))))))) (.cons (.asg (.v 1) (.ite (.and (.cmp .eq (.mth .count (.var 3) (.cons (.con (.bl true)) .nil)) (.con (.int 1))) (.xis 2 [0, 1, 2, 5, 7, 11, 12, 15, 17])) (.idx (.var 4) (.mth .index (.var 3) (.cons (.con (.bl true)) .nil))) (.con (.str "other")))) (.cons (.ifs (.cmp .isIn (.var 1) (.lst (.cons (.con (.str "knots")) (.cons (.con (.str "nodes")) (.cons (.con (.str "pieces")) .nil))))) (.cons (.asg (.v 1) (.tup (.cons (.var 1) (.cons (.xfld 2 "index") .nil)))) .nil) .nil) (.cons (.ifs (.cmp .eq (.var 1) (.con (.str "many"))) (.cons (.asg (.v 1) (.tup (.cons (.var 1) (.cons (.xfld 2 "most") .nil)))) .nil) .nil) .nil))))))) .nil) 5 1
def c_law_79 : CB := (.cons (.asg (.v 1) (.lst (.cons (.var 0) (.cons (.con (.int 0)) (.cons (.con (.int 4138)) (.cons (.con (.int 0)) .nil)))))) (.cons (.asg (.cons (.v 11) (.cons (.v 12) (.cons (.v 13) .nil))) (.tup (.cons (.tup (.cons (.con (.int 0)) (.cons (.con (.int 1)) .nil))) (.cons (.tup (.cons (.con (.int 1)) (.cons (.con (.int 1)) .nil))) (.cons (.tup (.cons (.con (.int 2)) (.cons (.con (.int 1)) .nil))) .nil))))) (.cons (.asg (.cons (.v 14) (.cons (.v 15) .nil)) (.tup (.cons (.tup (.cons (.var 11) (.cons (.var 11) (.cons (.var 12) (.cons (.var 13) .nil))))) (.cons (.tup (.cons (.var 11) (.cons (.var 12) .nil))) .nil)))) (.cons (.asg (.v 2) (.call 17 (.cons (.var 1) (.cons (.lst (.cons (.con .non) (.cons (.neg (.con (.int 1))) (.cons (.con (.int 5)) (.cons (.con (.bl true)) (.cons (.con (.str "1")) (.cons (.tup (.cons (.con (.int 1)) .nil)) .nil))))))) .nil)))) (.cons (.asg (.v 3) (.lst (.cons (.lam (.call 152 (.cons (.var 2) (.cons (.con .non) (.cons (.con .non) (.cons (.con .non) .nil))))) w_law_79) .nil))) (.cons (.expr (.mth .append (.var 3) (.cons (.lam (.call 156 (.cons (.var 2) (.cons (.con .non) (.cons (.con .non) .nil)))) w_law_79) .nil))) (.cons (.expr (.mth .append (.var 3) (.cons (.lam (.call 161 (.cons (.var 2) (.cons (.con .non) .nil))) w_law_79) .nil))) (.cons (.expr (.mth .append (.var 3) (.cons (.lam (.call 160 (.cons (.var 15) (.cons (.var 2) (.cons (.con .non) .nil)))) w_law_79) .nil))) (.cons (.expr (.mth .append (.var 3) (.cons (.lam (.call 203 (.cons (.var 2) (.cons (.con .non) .nil))) w_law_79) .nil))) (.cons (.expr (.mth .append (.var 3) (.cons (.lam (.call 205 (.cons (.slc (.var 14) (.some (.con (.int 1))) .none) (.cons (.var 2) (.cons (.con .non) .nil)))) w_law_79) .nil))) (.cons (.asg (.v 3) (.bin .add (.var 3) (.lst (.cons (.lam (.call 161 (.cons (.con (.int 0)) (.cons (.con .non) .nil))) w_law_79) (.cons (.lam (.call 160 (.cons (.var 15) (.cons (.con (.int 0)) (.cons (.con .non) .nil)))) w_law_79) .nil))))) (.cons (.ifs (.cmp .ne (.var 3) (.bin .mul (.lst (.cons (.con (.str "degree")) .nil)) (.con (.int 8)))) (.cons (.ret (.con (.bl false))) .nil) .nil) (.cons (.asg (.v 4) (.call 17 (.cons (.var 1) (.cons (.lst (.cons (.con .non) (.cons (.con (.int 1)) (.cons (.tup (.cons (.con (.int 2)) (.cons (.con (.int 4)) .nil))) (.cons (.tup (.cons (.con (.int 1)) (.cons (.con (.int 0)) .nil))) (.cons (.tup (.cons (.con (.bl true)) (.cons (.con (.int 1)) .nil))) (.cons (.lst (.cons (.con (.int 1)) (.cons (.con (.int 2)) .nil))) (.cons (.con (.str "1")) (.cons (.con .dct) .nil))))))))) .nil)))) (.cons (.asg (.v 5) (.lst (.cons (.tup (.cons (.con .non) (.cons (.con .non) .nil))) (.cons (.tup (.cons (.tup .nil) (.cons (.con .non) .nil))) (.cons (.tup (.cons (.blt .list (.cons (.var 14) .nil)) (.cons (.con .non) .nil))) (.cons (.tup (.cons (.tup (.cons (.var 11) (.cons (.var 12) .nil))) (.cons (.con .non) .nil))) (.cons (.tup (.cons (.bin .mul (.tup (.cons (.var 11) .nil)) (.con (.int 17))) (.cons (.con .non) .nil))) .nil))))))) (.cons (.asg (.v 5) (.bin .add (.var 5) (.lst (.cons (.tup (.cons (.tup (.cons (.var 11) (.cons (.var 4) (.cons (.var 12) (.cons (.con .non) .nil))))) (.cons (.con (.int 1)) .nil))) (.cons (.tup (.cons (.tup (.cons (.var 12) (.cons (.var 11) (.cons (.var 13) .nil)))) (.cons (.con (.int 1)) .nil))) (.cons (.tup (.cons (.tup (.cons (.var 11) (.cons (.var 11) (.cons (.var 11) (.cons (.var 12) .nil))))) (.cons (.con (.int 2)) .nil))) .nil)))))) (.cons (.expr (.mth .append (.var 5) (.cons (.tup (.cons (.tup (.cons (.var 11) (.cons (.var 12) (.cons (.var 12) (.cons (.var 12) .nil))))) (.cons (.con (.int 3)) .nil))) .nil))) (.cons (.asg (.cons (.v 16) (.cons (.v 17) .nil)) (.call 17 (.cons (.var 1) (.cons (.var 5) .nil)))) (.cons (.asg (.v 3) (.lst (.cons (.lam (.call 152 (.cons (.con (.int 1)) (.cons (.var 16) (.cons (.con .non) (.cons (.con .non) .nil))))) w_law_79) .nil))) (.cons (.expr (.mth .append (.var 3) (.cons (.lam (.call 156 (.cons (.con (.int 1)) (.cons (.var 16) (.cons (.con .non) .nil)))) w_law_79) .nil))) (.cons (.asg (.v 3) (.bin .add (.var 3) (.lst (.cons (.lam (.call 161 (.cons (.con (.int 1)) (.cons (.var 16) .nil))) w_law_79) (.cons (.lam (.call 160 (.cons (.var 15) (.cons (.con (.int 1)) (.cons (.var 16) .nil)))) w_law_79) .nil))))) (.cons (.ifs (.cmp .ne (.var 3) (.bin .mul (.lst (.cons (.tup (.cons (.con (.str "knots")) (.cons (.var 17) .nil))) .nil)) (.con (.int 4)))) (.cons (.ret (.con (.bl false))) .nil) .nil) (.cons (.asg (.v 6) (.call 17 (.cons (.var 1) (.cons (.lst (.cons (.con .non) (.cons (.neg (.con (.int 1))) (.cons (.con (.int 2)) (.cons (.con (.bl true)) (.cons (.con (.str "0")) (.cons (.tup (.cons (.con (.int 0)) .nil)) .nil))))))) .nil)))) (.cons (.asg (.v 3) (.lst (.cons (.lam (.call 152 (.cons (.con (.int 1)) (.cons (.var 14) (.cons (.var 6) (.cons (.con .non) .nil))))) w_law_79) .nil))) (.cons (.expr (.mth .append (.var 3) (.cons (.lam (.call 156 (.cons (.con (.int 1)) (.cons (.var 14) (.cons (.var 6) .nil)))) w_law_79) .nil))) (.cons (.ifs (.or (.cmp .ne (.var 3) (.bin .mul (.lst (.cons (.con (.str "number")) .nil)) (.con (.int 2)))) (.cmp .ne (.lam (.call 152 (.cons (.con (.int 1)) (.cons (.var 14) (.cons (.con (.int 0)) (.cons (.var 4) .nil))))) w_law_79) (.con (.str "ratio")))) (.cons (.ret (.con (.bl false))) .nil) .nil) (.cons (.asg (.v 7) (.call 17 (.cons (.var 1) (.cons (.lst (.cons (.con .non) (.cons (.tup (.cons (.tup (.cons (.con (.int 0)) (.cons (.con (.int 1)) .nil))) .nil)) (.cons (.lst (.cons (.tup (.cons (.con (.int 1)) (.cons (.con (.int 1)) .nil))) .nil)) (.cons (.tup (.cons (.var 4) .nil)) .nil))))) .nil)))) (.cons (.ifs (.cmp .ne (.lam (.call 160 (.cons (.var 7) (.cons (.con .non) (.cons (.con .non) .nil)))) w_law_79) (.con (.str "polynomial"))) (.cons (.ret (.con (.bl false))) .nil) .nil) (.cons (.asg (.v 8) (.tup (.cons (.tup (.cons (.var 11) (.cons (.var 12) .nil))) (.cons (.var 15) .nil)))) (.cons (.asg (.v 5) (.lst (.cons (.tup (.cons (.con .non) (.cons (.con .non) .nil))) (.cons (.tup (.cons (.tup .nil) (.cons (.con .non) .nil))) (.cons (.tup (.cons (.lst (.cons (.var 8) .nil)) (.cons (.con .non) .nil))) (.cons (.tup (.cons (.bin .mul (.tup (.cons (.var 8) .nil)) (.con (.int 9))) (.cons (.con .non) .nil))) (.cons (.tup (.cons (.tup (.cons (.var 8) (.cons (.con .non) .nil))) (.cons (.con (.int 1)) .nil))) (.cons (.tup (.cons (.tup (.cons (.var 8) (.cons (.var 8) .nil))) (.cons (.con (.int 1)) .nil))) .nil)))))))) (.cons (.asg (.v 5) (.bin .add (.var 5) (.lst (.cons (.tup (.cons (.tup (.cons (.tup (.cons (.tup (.cons (.var 12) (.cons (.var 11) .nil))) (.cons (.var 15) .nil))) .nil)) (.cons (.con (.int 0)) .nil))) (.cons (.tup (.cons (.tup (.cons (.tup (.cons (.tup (.cons (.var 11) (.cons (.var 12) .nil))) (.cons (.tup (.cons (.var 11) (.cons (.var 11) .nil))) .nil))) .nil)) (.cons (.con (.int 0)) .nil))) .nil))))) (.cons (.expr (.mth .append (.var 5) (.cons (.tup (.cons (.tup (.cons (.tup (.cons (.tup (.cons (.var 11) (.cons (.var 12) .nil))) (.cons (.tup (.cons (.var 12) (.cons (.var 12) (.cons (.var 12) .nil)))) .nil))) .nil)) (.cons (.con (.int 0)) .nil))) .nil))) (.cons (.asg (.cons (.v 18) (.cons (.v 17) .nil)) (.call 17 (.cons (.var 1) (.cons (.bin .add (.var 5) (.lst (.cons (.tup (.cons (.tup (.cons (.tup (.cons (.var 11) (.cons (.var 12) (.cons (.var 15) .nil)))) .nil)) (.cons (.con (.int 0)) .nil))) (.cons (.tup (.cons (.tup (.cons (.tup (.cons (.tup (.cons (.var 11) (.cons (.var 4) .nil))) (.cons (.var 15) .nil))) .nil)) (.cons (.con (.int 0)) .nil))) .nil)))) .nil)))) (.cons (.ifs (.cmp .ne (.lam (.call 203 (.cons (.con (.int 1)) (.cons (.var 18) .nil))) w_law_79) (.tup (.cons (.con (.str "pieces")) (.cons (.var 17) .nil)))) (.cons (.ret (.con (.bl false))) .nil) .nil) (.cons (.asg (.v 9) (.blt .tuple (.cons (.comp (.tup (.cons (.tup (.cons (.tup (.cons (.var 20) (.cons (.con (.int 1)) .nil))) (.cons (.tup (.cons (.bin .add (.var 20) (.con (.int 1))) (.cons (.con (.int 1)) .nil))) .nil))) (.cons (.ite (.cmp .eq (.bin .mod (.var 20) (.con (.int 2))) (.con (.int 1))) (.tup (.cons (.tup (.cons (.con (.int 1)) (.cons (.con (.int 1)) .nil))) .nil)) (.tup .nil)) .nil))) [20] (.v 20) (.rng1 (.cons (.con (.int 8)) .nil)) .none) .nil))) (.cons (.ifs (.or (.cmp .ne (.lam (.call 203 (.cons (.con (.int 1)) (.cons (.var 9) .nil))) w_law_79) (.tup (.cons (.con (.str "many")) (.cons (.con (.int 16)) .nil)))) (.cmp .ne (.blt .len (.cons (.idx (.call 203 (.cons (.con (.int 0)) (.cons (.var 9) .nil))) (.con (.int 1))) .nil)) (.con (.int 9)))) (.cons (.ret (.con (.bl false))) .nil) .nil) (.cons (.asg (.v 5) (.lst (.cons (.tup (.cons (.con .non) (.cons (.con .non) .nil))) (.cons (.tup (.cons (.tup (.cons (.var 11) .nil)) (.cons (.con .non) .nil))) (.cons (.tup (.cons (.lst (.cons (.var 11) (.cons (.var 12) .nil))) (.cons (.con .non) .nil))) (.cons (.tup (.cons (.bin .add (.tup (.cons (.var 11) .nil)) (.bin .mul (.slc (.var 14) (.some (.con (.int 2))) .none) (.con (.int 3)))) (.cons (.con .non) .nil))) (.cons (.tup (.cons (.tup (.cons (.var 11) (.cons (.var 4) .nil))) (.cons (.con (.int 1)) .nil))) .nil))))))) (.cons (.expr (.mth .append (.var 5) (.cons (.tup (.cons (.tup (.cons (.var 11) (.cons (.var 11) .nil))) (.cons (.con (.int 1)) .nil))) .nil))) (.cons (.asg (.cons (.v 19) (.cons (.v 17) .nil)) (.call 17 (.cons (.var 1) (.cons (.bin .add (.var 5) (.lst (.cons (.tup (.cons (.tup (.cons (.var 12) (.cons (.var 11) .nil))) (.cons (.con (.int 1)) .nil))) .nil))) .nil)))) (.cons (.ifs (.cmp .ne (.lam (.call 205 (.cons (.var 19) (.cons (.con .non) (.cons (.con .non) .nil)))) w_law_79) (.tup (.cons (.con (.str "nodes")) (.cons (.var 17) .nil)))) (.cons (.ret (.con (.bl false))) .nil) .nil) (.cons (.asg (.v 10) (.call 17 (.cons (.var 1) (.cons (.lst (.cons (.con .non) (.cons (.neg (.con (.int 2))) (.cons (.con (.int 3)) (.cons (.con (.bl true)) (.cons (.con (.str "1")) .nil)))))) .nil)))) (.cons (.ret (.and (.cmp .eq (.lam (.call 205 (.cons (.tup (.cons (.var 11) (.cons (.var 12) .nil))) (.cons (.con (.int 2)) (.cons (.var 10) .nil)))) w_law_79) (.con (.str "number"))) (.cmp .eq (.call 205 (.cons (.tup (.cons (.var 11) (.cons (.var 12) .nil))) (.cons (.con (.int 2)) (.cons (.con (.int 2)) .nil)))) (.con (.int 3))))) .nil)))))))))))))))))))))))))))))))))))))))))
def f_law_79 : Fn := ⟨1, 21, c_law_79⟩
def tab : List (Nat × Fn) := [(0, f_is_int), (1, f_is_ratio), (2, f_made), (3, f_is_poly), (4, f_plus), (5, f_times), (6, f_at), (7, f_need_ratio), (8, f_need_poly), (9, f_trimmed), (10, f_p_plus), (13, f_p_times), (14, f__law_taken), (17, f__law_pick), (31, f_less), (32, f_over), (39, f_p_slope), (49, f_is_below), (52, f_negative), (75, f_is_from), (76, f_choose), (77, f_symmetric), (78, f_blossom_of), (84, f_is_interval), (115, f_total), (145, f_faults_of), (146, f_basis_at), (147, f_need_index), (148, f_need_knots), (149, f_need_low), (152, f_basis_value), (155, f_basis_poly), (156, f_basis_pieces), (159, f_row_for), (160, f_coefficients), (161, f_greville), (184, f_poly_over), (185, f_order_at), (187, f_row_from), (191, f_small_2), (192, f_with_ends), (202, f_is_piece), (203, f_from_pieces), (205, f_space_size), (440, f_law_79)]
def G (n : Nat) : Option Fn := tab.lookup n
theorem G_is_int : G 0 = some f_is_int := rfl
theorem G_is_ratio : G 1 = some f_is_ratio := rfl
theorem G_made : G 2 = some f_made := rfl
theorem G_is_poly : G 3 = some f_is_poly := rfl
theorem G_plus : G 4 = some f_plus := rfl
theorem G_times : G 5 = some f_times := rfl
theorem G_at : G 6 = some f_at := rfl
theorem G_need_ratio : G 7 = some f_need_ratio := rfl
theorem G_need_poly : G 8 = some f_need_poly := rfl
theorem G_trimmed : G 9 = some f_trimmed := rfl
theorem G_p_plus : G 10 = some f_p_plus := rfl
theorem G_p_times : G 13 = some f_p_times := rfl
theorem G__law_taken : G 14 = some f__law_taken := rfl
theorem G__law_pick : G 17 = some f__law_pick := rfl
theorem G_less : G 31 = some f_less := rfl
theorem G_over : G 32 = some f_over := rfl
theorem G_p_slope : G 39 = some f_p_slope := rfl
theorem G_is_below : G 49 = some f_is_below := rfl
theorem G_negative : G 52 = some f_negative := rfl
theorem G_is_from : G 75 = some f_is_from := rfl
theorem G_choose : G 76 = some f_choose := rfl
theorem G_symmetric : G 77 = some f_symmetric := rfl
theorem G_blossom_of : G 78 = some f_blossom_of := rfl
theorem G_is_interval : G 84 = some f_is_interval := rfl
theorem G_total : G 115 = some f_total := rfl
theorem G_faults_of : G 145 = some f_faults_of := rfl
theorem G_basis_at : G 146 = some f_basis_at := rfl
theorem G_need_index : G 147 = some f_need_index := rfl
theorem G_need_knots : G 148 = some f_need_knots := rfl
theorem G_need_low : G 149 = some f_need_low := rfl
theorem G_basis_value : G 152 = some f_basis_value := rfl
theorem G_basis_poly : G 155 = some f_basis_poly := rfl
theorem G_basis_pieces : G 156 = some f_basis_pieces := rfl
theorem G_row_for : G 159 = some f_row_for := rfl
theorem G_coefficients : G 160 = some f_coefficients := rfl
theorem G_greville : G 161 = some f_greville := rfl
theorem G_poly_over : G 184 = some f_poly_over := rfl
theorem G_order_at : G 185 = some f_order_at := rfl
theorem G_row_from : G 187 = some f_row_from := rfl
theorem G_small_2 : G 191 = some f_small_2 := rfl
theorem G_with_ends : G 192 = some f_with_ends := rfl
theorem G_is_piece : G 202 = some f_is_piece := rfl
theorem G_from_pieces : G 203 = some f_from_pieces := rfl
theorem G_space_size : G 205 = some f_space_size := rfl
theorem G_law_79 : G 440 = some f_law_79 := rfl
end PB

set_option Elab.async false
set_option linter.all false
set_option maxRecDepth 100000
set_option maxHeartbeats 4000000
namespace PB
open PySem PySem.Spec L2
def topS (i : Nat) : Stmt := PySem.Challenge.pw_blendcurves_k38_knots_refused.main.body.getD i (.Pass ⟨0, 0, 0, 0⟩)
abbrev t_is_int : Stmt := topS 14
abbrev t_is_from : Stmt := topS 15
abbrev t_is_ratio : Stmt := topS 16
abbrev t_need_ratio : Stmt := topS 17
abbrev t_made : Stmt := topS 18
abbrev t_plus : Stmt := topS 19
abbrev t_less : Stmt := topS 20
abbrev t_times : Stmt := topS 21
abbrev t_over : Stmt := topS 22
abbrev t_negative : Stmt := topS 23
abbrev t_is_below : Stmt := topS 24
abbrev t_total : Stmt := topS 25
abbrev t_is_poly : Stmt := topS 28
abbrev t_need_poly : Stmt := topS 29
abbrev t_trimmed : Stmt := topS 30
abbrev t_at : Stmt := topS 31
abbrev t_p_plus : Stmt := topS 32
abbrev t_p_times : Stmt := topS 33
abbrev t_p_slope : Stmt := topS 34
abbrev t_choose : Stmt := topS 36
abbrev t_symmetric : Stmt := topS 37
abbrev t_blossom_of : Stmt := topS 38
abbrev t_need_low : Stmt := topS 42
abbrev t_faults_of : Stmt := topS 43
abbrev t_need_knots : Stmt := topS 44
abbrev t_need_index : Stmt := topS 45
abbrev t_basis_at : Stmt := topS 46
abbrev t_basis_poly : Stmt := topS 47
abbrev t_basis_value : Stmt := topS 48
abbrev t_basis_pieces : Stmt := topS 49
abbrev t_greville : Stmt := topS 50
abbrev t_row_for : Stmt := topS 51
abbrev t_coefficients : Stmt := topS 52
abbrev t_is_interval : Stmt := topS 54
abbrev t_poly_over : Stmt := topS 56
abbrev t_row_from : Stmt := topS 57
abbrev t_order_at : Stmt := topS 59
abbrev t_small : Stmt := topS 63
abbrev t_with_ends : Stmt := topS 64
abbrev t_is_piece : Stmt := topS 65
abbrev t_from_pieces : Stmt := topS 66
abbrev t_space_size : Stmt := topS 67
abbrev t__law_taken : Stmt := topS 69
abbrev t__law_pick : Stmt := topS 70
abbrev t_law : Stmt := topS 72
abbrev t__law_word : Stmt := topS 71
def hfx0 : List Fx := [.free "ValueError", .free "all", .free "bool", .free "enumerate", .gcd, .free "int", .free "isinstance", .free "len", .free "list", .free "max", .free "range", .free "tuple", .free "zip", .con "MOST_BREAKS" (.int 6), .con "MOST_DEGREE_knots" (.int 4), .con "MOST_DEGREE_polys" (.int 12), .con "MOST_KNOTS" (.int 16), .con "MOST_PIECES" (.int 8), .con "ONE" (.tup [(.int 1), (.int 1)]), .con "ZERO" (.tup [(.int 0), (.int 1)]), .e0 "BadRatio", .e0 "BadPolynomial", .e1 "BadNodes" "index" "BadNodes.__init__" "/claim/cut.py", .e0 "BadDegree", .e0 "BadNumber"]
def hfx1 : List Fx := [.e1 "BadKnots" "index" "BadKnots.__init__" "/claim/cut.py", .e1 "BadPieces" "index" "BadPieces.__init__" "/claim/cut.py", .e1 "TooMany" "most" "TooMany.__init__" "/claim/cut.py", .hdl "BlendError", .glo "TooMany", .sub "TooMany" "BlendError" true, .glo "BadPieces", .sub "BadPieces" "BlendError" true, .glo "BadKnots", .sub "BadKnots" "BlendError" true, .glo "BadNumber", .sub "BadNumber" "BlendError" true, .glo "BadDegree", .sub "BadDegree" "BlendError" true, .glo "BadNodes", .sub "BadNodes" "BlendError" true, .glo "BadPolynomial", .sub "BadPolynomial" "BlendError" true, .glo "BadRatio", .sub "BadRatio" "BlendError" true, .kit "TooMany" "BadDegree" false, .isx "TooMany", .kit "BadPieces" "BadDegree" false, .isx "BadPieces", .kit "BadKnots" "BadDegree" false]
def hfx2 : List Fx := [.isx "BadKnots", .kit "BadNumber" "BadDegree" false, .isx "BadNumber", .kit "BadDegree" "BadDegree" true, .isx "BadDegree", .kit "BadNodes" "BadDegree" false, .isx "BadNodes", .kit "BadPolynomial" "BadDegree" false, .isx "BadPolynomial", .kit "BadRatio" "BadDegree" false, .isx "BadRatio", .kit "TooMany" "BadKnots" false, .kit "BadPieces" "BadKnots" false, .kit "BadKnots" "BadKnots" true, .kit "BadNumber" "BadKnots" false, .kit "BadDegree" "BadKnots" false, .kit "BadNodes" "BadKnots" false, .kit "BadPolynomial" "BadKnots" false, .kit "BadRatio" "BadKnots" false, .kit "TooMany" "BadNodes" false, .kit "BadPieces" "BadNodes" false, .kit "BadKnots" "BadNodes" false, .kit "BadNumber" "BadNodes" false, .kit "BadDegree" "BadNodes" false, .kit "BadNodes" "BadNodes" true]
def hfx3 : List Fx := [.kit "BadPolynomial" "BadNodes" false, .kit "BadRatio" "BadNodes" false, .kit "TooMany" "BadNumber" false, .kit "BadPieces" "BadNumber" false, .kit "BadKnots" "BadNumber" false, .kit "BadNumber" "BadNumber" true, .kit "BadDegree" "BadNumber" false, .kit "BadNodes" "BadNumber" false, .kit "BadPolynomial" "BadNumber" false, .kit "BadRatio" "BadNumber" false, .kit "TooMany" "BadPieces" false, .kit "BadPieces" "BadPieces" true, .kit "BadKnots" "BadPieces" false, .kit "BadNumber" "BadPieces" false, .kit "BadDegree" "BadPieces" false, .kit "BadNodes" "BadPieces" false, .kit "BadPolynomial" "BadPieces" false, .kit "BadRatio" "BadPieces" false, .kit "TooMany" "BadPolynomial" false, .kit "BadPieces" "BadPolynomial" false, .kit "BadKnots" "BadPolynomial" false, .kit "BadNumber" "BadPolynomial" false, .kit "BadDegree" "BadPolynomial" false, .kit "BadNodes" "BadPolynomial" false, .kit "BadPolynomial" "BadPolynomial" true]
def hfx4 : List Fx := [.kit "BadRatio" "BadPolynomial" false, .kit "TooMany" "BadRatio" false, .kit "BadPieces" "BadRatio" false, .kit "BadKnots" "BadRatio" false, .kit "BadNumber" "BadRatio" false, .kit "BadDegree" "BadRatio" false, .kit "BadNodes" "BadRatio" false, .kit "BadPolynomial" "BadRatio" false, .kit "BadRatio" "BadRatio" true, .kit "TooMany" "TooMany" true, .kit "BadPieces" "TooMany" false, .kit "BadKnots" "TooMany" false, .kit "BadNumber" "TooMany" false, .kit "BadDegree" "TooMany" false, .kit "BadNodes" "TooMany" false, .kit "BadPolynomial" "TooMany" false, .kit "BadRatio" "TooMany" false, .kitV "TooMany", .kitV "BadPieces", .kitV "BadKnots", .kitV "BadNumber", .kitV "BadDegree", .kitV "BadNodes", .kitV "BadPolynomial", .kitV "BadRatio"]
def hfx5 : List Fx := [.glo "_law_word", .glo "law", .glo "is_int", .glo "is_from", .glo "is_ratio", .glo "need_ratio", .glo "made", .glo "plus", .glo "less", .glo "times", .glo "over", .glo "negative", .glo "is_below", .glo "total", .glo "is_poly", .glo "need_poly", .glo "trimmed", .glo "at", .glo "p_plus", .glo "p_times", .glo "p_slope", .glo "choose", .glo "symmetric", .glo "blossom_of", .glo "need_low"]
def hfx6 : List Fx := [.glo "faults_of", .glo "need_knots", .glo "need_index", .glo "basis_at", .glo "basis_poly", .glo "basis_value", .glo "basis_pieces", .glo "greville", .glo "row_for", .glo "coefficients", .glo "is_interval", .glo "poly_over", .glo "row_from", .glo "order_at", .glo "small", .glo "with_ends", .glo "is_piece", .glo "from_pieces", .glo "space_size", .glo "_law_taken", .glo "_law_pick"]
def hfx : List Fx := hfx0 ++ hfx1 ++ hfx2 ++ hfx3 ++ hfx4 ++ hfx5 ++ hfx6
def hfn0 : List He.DefD := [defOf "is_int" t_is_int, defOf "is_from" t_is_from, defOf "is_ratio" t_is_ratio, defOf "need_ratio" t_need_ratio, defOf "made" t_made, defOf "plus" t_plus, defOf "less" t_less, defOf "times" t_times, defOf "over" t_over, defOf "negative" t_negative, defOf "is_below" t_is_below, defOf "total" t_total, defOf "is_poly" t_is_poly, defOf "need_poly" t_need_poly, defOf "trimmed" t_trimmed, defOf "at" t_at, defOf "p_plus" t_p_plus, defOf "p_times" t_p_times, defOf "p_slope" t_p_slope, defOf "choose" t_choose, defOf "symmetric" t_symmetric, defOf "blossom_of" t_blossom_of, defOf "need_low" t_need_low, defOf "faults_of" t_faults_of, defOf "need_knots" t_need_knots]
def hfn1 : List He.DefD := [defOf "need_index" t_need_index, defOf "basis_at" t_basis_at, defOf "basis_poly" t_basis_poly, defOf "basis_value" t_basis_value, defOf "basis_pieces" t_basis_pieces, defOf "greville" t_greville, defOf "row_for" t_row_for, defOf "coefficients" t_coefficients, defOf "is_interval" t_is_interval, defOf "poly_over" t_poly_over, defOf "row_from" t_row_from, defOf "order_at" t_order_at, defOf "small" t_small, defOf "with_ends" t_with_ends, defOf "is_piece" t_is_piece, defOf "from_pieces" t_from_pieces, defOf "space_size" t_space_size, defOf "_law_taken" t__law_taken, defOf "_law_pick" t__law_pick, defOf "law" t_law, defOf "_law_word" t__law_word]
def hfn : List He.DefD := hfn0 ++ hfn1
def hini : List Str := ["BadNodes", "BadKnots", "BadPieces", "TooMany"]
def hiv : List IniW := [iniV "BadNodes.__init__" (clsInit (topS 5)), iniV "BadKnots.__init__" (clsInit (topS 8)), iniV "BadPieces.__init__" (clsInit (topS 9)), iniV "TooMany.__init__" (clsInit (topS 10))]
def hnm0 : List Str := ["BlendError", "BadRatio", "BadPolynomial", "BadNodes", "BadDegree", "BadNumber", "BadKnots", "BadPieces", "TooMany", "ZERO", "ONE", "is_int", "is_from", "is_ratio", "need_ratio", "made", "plus", "less", "times", "over", "negative", "is_below", "total", "MOST_DEGREE_polys", "is_poly"]
def hnm1 : List Str := ["need_poly", "trimmed", "at", "p_plus", "p_times", "p_slope", "choose", "symmetric", "blossom_of", "MOST_DEGREE_knots", "MOST_KNOTS", "need_low", "faults_of", "need_knots", "need_index", "basis_at", "basis_poly", "basis_value", "basis_pieces", "greville", "row_for", "coefficients", "is_interval", "poly_over", "row_from"]
def hnm2 : List Str := ["order_at", "MOST_PIECES", "MOST_BREAKS", "small", "with_ends", "is_piece", "from_pieces", "space_size", "_law_taken", "_law_pick", "_law_word"]
def hnm : List Str := hnm0 ++ hnm1 ++ hnm2
abbrev hk : PySem.W.Hook := hookPT hfx hfn hini hiv [("law", none)]
def hob (s : PySem.W.SharedT) : AlPT := obsPTG hfx hfn hini [("law", none)] (HandSHeadRun.getT s)
theorem hob_eq (s : PySem.W.SharedT) : hob s = hk.obs s.abs := obsPTG_eq (iv := hiv) (HandSHeadRun.getT_eq s)
theorem hrun (w : World) : HandSHeadRun.RunEqI (PySem.W.OpenLaw.row PySem.Challenge.rw_blendcurves_k38_knots_refused) (PySem.W.view (PySem.W.OpenLaw.row PySem.Challenge.rw_blendcurves_k38_knots_refused).prog [0,72]) hk hob 20000 hnm w := by
  unfold HandSHeadRun.RunEqI
  kernel_rfl
end PB

set_option Elab.async false
set_option linter.all false
set_option maxRecDepth 100000
set_option maxHeartbeats 2000000
namespace PB
open PySem
/-! what a call finds does not hang on the cells that it cannot name -/
/-- no law whose code makes lambdas -/
def okId (m : Nat) : Bool := !([438, 439, 440, 441, 442, 444, 445, 448, 449, 450].contains m)
mutual
def PV.hi (n : Nat) : PV → Bool
  | .ref k => decide (n ≤ k)
  | .fn m => okId m
  | .tup xs => PV.his n xs
  | .wtup xs => PV.his n xs
  | .scr xs => PV.his n xs
  | _ => true
def PV.his (n : Nat) : List PV → Bool
  | [] => true
  | x :: r => PV.hi n x && PV.his n r
end
theorem his_iff {n : Nat} : ∀ {xs : List PV}, PV.his n xs = true ↔ ∀ x ∈ xs, PV.hi n x = true
  | [] => by simp [PV.his]
  | x :: r => by simp [PV.his, his_iff (xs := r)]
mutual
/-- no cell, no def that is a law with lambdas -/
def PV.cst : PV → Bool
  | .ref _ => false
  | .fn m => okId m
  | .tup xs => PV.csts xs
  | .wtup xs => PV.csts xs
  | .scr xs => PV.csts xs
  | _ => true
def PV.csts : List PV → Bool
  | [] => true
  | x :: r => PV.cst x && PV.csts r
end
mutual
theorem hi_low {n : Nat} : ∀ x : PV, PV.cst x = true → PV.hi n x = true
  | .non, _ => by simp [PV.hi]
  | .bl _, _ => by simp [PV.hi]
  | .int _, _ => by simp [PV.hi]
  | .str _, _ => by simp [PV.hi]
  | .dct, _ => by simp [PV.hi]
  | .fn m, h => by simpa [PV.hi, PV.cst] using h
  | .ref k, h => by simp [PV.cst] at h
  | .tup xs, h => by simp only [PV.hi, PV.cst] at h ⊢; exact his_low xs h
  | .wtup xs, h => by simp only [PV.hi, PV.cst] at h ⊢; exact his_low xs h
  | .scr xs, h => by simp only [PV.hi, PV.cst] at h ⊢; exact his_low xs h
theorem his_low {n : Nat} : ∀ xs : List PV, PV.csts xs = true → PV.his n xs = true
  | [], _ => by simp [PV.his]
  | x :: r, h => by
    simp only [PV.csts, PV.his, Bool.and_eq_true] at h ⊢
    exact ⟨hi_low x h.1, his_low r h.2⟩
end
/-- cells that name none of the hidden ones -/
def HI (n : Nat) (t : PH) : Prop := ∀ (i : Nat) (xs : List PV), t[i]? = some (.lst xs) → PV.his n xs = true
def SI (n : Nat) (s : Sl) : Prop := ∀ x : PV, some x ∈ s → PV.hi n x = true
def LIx (n : Nat) (l : Lean_) : Prop := ∀ e ∈ l, n ≤ e.1
def FI (n : Nat) : Fl → Prop
  | .nx s => SI n s
  | .bk s => SI n s
  | .ct s => SI n s
  | .rt v => PV.hi n v = true
def OI (n : Nat) (o : Option PV) : Prop := ∀ y, o = some y → PV.hi n y = true
def Fo {α : Type} (P : α → Prop) (q p : PH) (x y : Res α) : Prop := match x with
  | .ok r h' => P r ∧ ∃ t, h' = q ++ t ∧ HI q.length t ∧ y = .ok r (p ++ t)
  | .exc c v h' => PV.hi q.length v = true ∧ ∃ t, h' = q ++ t ∧ HI q.length t ∧ y = .exc c v (p ++ t)
  | .bad => True
section
variable {α β : Type} {p q t : PH} {x y : PV} {xs ys : List PV} {n k : Nat}
theorem Fo.ok {P : α → Prop} {r : α} (h : P r) (ht : HI q.length t) : Fo P q p (.ok r (q ++ t)) (.ok r (p ++ t)) := ⟨h, t, rfl, ht, rfl⟩
theorem Fo.bad {P : α → Prop} {y : Res α} : Fo P q p .bad y := True.intro
theorem Fo.bind {P : α → Prop} {Q : β → Prop} {x y : Res α} {f g : α → PH → Res β} (h : Fo P q p x y) (k : ∀ r t, P r → HI q.length t → Fo Q q p (f r (q ++ t)) (g r (p ++ t))) : Fo Q q p (x.bind f) (y.bind g) := by
  cases x with
  | bad => exact True.intro
  | ok r h' =>
    obtain ⟨h1, t, rfl, h2, rfl⟩ := h
    exact k r t h1 h2
  | exc c v h' =>
    obtain ⟨h1, t, rfl, h2, rfl⟩ := h
    exact ⟨h1, t, rfl, h2, rfl⟩
theorem Fo.ite {P : α → Prop} {c : Prop} [Decidable c] {x y : Res α} (h : c → Fo P q p x y) : Fo P q p (if c then x else .bad) (if c then y else .bad) := by
  split
  · exact h (by assumption)
  · exact True.intro
theorem lookr (h : q.length ≤ k) : (q ++ t)[k]? = t[k - q.length]? := List.getElem?_append_right h
theorem HI.get (h : HI n t) {i : Nat} (e : t[i]? = some (.lst xs)) : PV.his n xs = true := h i xs e
theorem HI.add (h : HI n t) (hx : PV.his n xs = true) : HI n (t ++ [.lst xs]) := fun i ys e => by
  by_cases hi : i < t.length
  · rw [List.getElem?_append_left hi] at e; exact h i ys e
  · have := List.mem_of_getElem? e
    rw [List.getElem?_append_right (by omega)] at e
    have := List.mem_of_getElem? e
    rw [List.mem_singleton] at this
    cases this; exact hx
theorem HI.set (h : HI n t) (hx : PV.his n xs = true) (j : Nat) : HI n (t.set j (.lst xs)) := fun i ys e => by
  have hm := List.mem_of_getElem? e
  rcases List.mem_or_eq_of_mem_set hm with z | z
  · obtain ⟨i', hi', z⟩ := List.mem_iff_getElem.mp z
    exact h i' ys (by rw [List.getElem?_eq_getElem hi', z])
  · cases z; exact hx
theorem HI.nil : HI n [] := fun i xs e => by simp at e
theorem SI.set {s : Sl} (h : SI n s) (hx : PV.hi n x = true) (i : Nat) : SI n (s.set i (some x)) := fun z hz => by
  rcases List.mem_or_eq_of_mem_set hz with e | e
  · exact h z e
  · cases e; exact hx
theorem SI.wipe {s : Sl} (h : SI n s) : ∀ is : List Nat, SI n (PB.wipe s is)
  | [] => h
  | i :: r => fun z hz => by
    unfold PB.wipe at hz
    rcases List.mem_or_eq_of_mem_set hz with e | e
    · exact SI.wipe h r z e
    · cases e
theorem SI.get {s : Sl} (h : SI n s) {i : Nat} (e : s[i]? = some (some x)) : PV.hi n x = true := h x (List.mem_of_getElem? e)
theorem SI.start (h : PV.his n xs = true) (m : Nat) : SI n (startP m xs) := fun z hz => by
  unfold startP at hz
  rcases List.mem_append.mp hz with e | e
  · obtain ⟨y, h1, h2⟩ := List.mem_map.mp e
    cases h2; exact his_iff.mp h _ h1
  · have := List.eq_of_mem_replicate e
    cases this
theorem SI.all : ∀ {is : List Nat} {xs : List PV} {s s' : Sl}, SI n s → PV.his n xs = true → setAll is xs s = some s' → SI n s'
  | [], [], s, s', h, _, e => by simp only [setAll] at e; cases e; exact h
  | [], _ :: _, s, s', h, _, e => by simp [setAll] at e
  | _ :: _, [], s, s', h, _, e => by simp [setAll] at e
  | i :: is, x :: xs, s, s', h, hx, e => by
    simp only [PV.his, Bool.and_eq_true] at hx
    simp only [setAll] at e
    exact SI.all (h.set hx.1 i) hx.2 e
theorem his_app (h1 : PV.his n xs = true) (h2 : PV.his n ys = true) : PV.his n (xs ++ ys) = true := by
  rw [his_iff] at *
  intro x hx
  rcases List.mem_append.mp hx with e | e
  · exact h1 x e
  · exact h2 x e
theorem his_sub (h : PV.his n xs = true) (hs : ∀ x ∈ ys, x ∈ xs) : PV.his n ys = true := by
  rw [his_iff] at *
  exact fun x hx => h x (hs x hx)
theorem his_flat (h : PV.his n xs = true) (m : Nat) : PV.his n (List.replicate m xs).flatten = true :=
  his_sub h fun x hx => by
    obtain ⟨l, h1, h2⟩ := List.mem_flatten.mp hx
    have := List.eq_of_mem_replicate h1
    subst this; exact h2
theorem his_cut (h : PV.his n xs = true) (lo hi : Option Int) : PV.his n (cut xs lo hi) = true := his_sub h fun x hx => by
  unfold cut at hx
  exact List.mem_of_mem_drop (List.mem_of_mem_take hx)
theorem his_seconds : ∀ {xs : List PV}, PV.his n xs = true → PV.his n (seconds xs) = true
  | [], _ => by simp [seconds, PV.his]
  | [x], h => by simpa [seconds] using h
  | x :: y :: r, h => by
    simp only [PV.his, Bool.and_eq_true, seconds] at h ⊢
    exact ⟨h.1, his_seconds h.2.2⟩
theorem his_enums : ∀ {xs : List PV} (i : Int), PV.his n xs = true → PV.his n (enums i xs) = true
  | [], _, _ => by simp [enums, PV.his]
  | x :: r, i, h => by
    simp only [PV.his, Bool.and_eq_true, enums, PV.hi] at h ⊢
    simp [h.1, his_enums (i + 1) h.2]
theorem his_zips : ∀ {xs ys : List PV}, PV.his n xs = true → PV.his n ys = true → PV.his n (zips xs ys) = true
  | [], _, _, _ => by simp [zips, PV.his]
  | _ :: _, [], _, _ => by simp [zips, PV.his]
  | x :: r, y :: u, h, g => by
    simp only [PV.his, Bool.and_eq_true, zips, PV.hi] at h g ⊢
    simp [h.1, g.1, his_zips h.2 g.2]
theorem his_pairs : ∀ {xs ys : List PV}, PV.his n xs = true → PV.his n ys = true → PV.his n (pairs xs ys) = true
  | [], _, _, _ => by simp [pairs, PV.his]
  | _ :: _, [], _, _ => by simp [pairs, PV.his]
  | x :: r, y :: u, h, g => by
    simp only [PV.his, Bool.and_eq_true, pairs, PV.hi] at h g ⊢
    simp [h.1, g.1, his_pairs h.2 g.2]
theorem his_range : ∀ (m : Nat) (a c : Int), PV.his n (range a m c) = true
  | 0, _, _ => by simp [range, PV.his]
  | m + 1, a, c => by simp [range, PV.his, PV.hi, his_range m]
variable (hl : q.length = p.length)
include hl
theorem lookp (h : q.length ≤ k) : (p ++ t)[k]? = t[k - q.length]? := by rw [hl]; exact List.getElem?_append_right (hl ▸ h)
theorem toD_hid (ht : HI q.length t) : ∀ (m : Nat) (x : PV), PV.hi q.length x = true → toD (q ++ t) m x = toD (p ++ t) m x
  | 0, x, _ => by cases x <;> simp [toD]
  | m + 1, x, hx => by
    have all : ∀ xs : List PV, PV.his q.length xs = true → toDs (toD (q ++ t) m) xs = toDs (toD (p ++ t) m) xs := fun xs => by
      induction xs with
      | nil => intro _; rfl
      | cons a r ih =>
        intro h
        simp only [PV.his, Bool.and_eq_true] at h
        simp only [toDs, toD_hid ht m a h.1, ih h.2]
    cases x with
    | tup xs => simp only [PV.hi] at hx; simp only [toD, all xs hx]
    | scr xs => simp only [PV.hi] at hx; simp only [toD, all xs hx]
    | ref k =>
      simp only [PV.hi, decide_eq_true_eq] at hx
      simp only [toD]
      rw [lookr hx, lookp hl hx]
      cases e : t[k - q.length]? with
      | none => rfl
      | some c => obtain ⟨ys⟩ := c; simp only; rw [all ys (ht.get e)]
    | _ => simp [toD]
theorem eqD_fr' (ht : HI q.length t) (hx : PV.hi q.length x = true) (hy : PV.hi q.length y = true) : eqD (q ++ t) x y = eqD (p ++ t) x y := by
  unfold PB.eqD
  rw [toD_hid hl ht 12 x hx, toD_hid hl ht 12 y hy]
theorem seqD_hid (ht : HI q.length t) (hx : PV.hi q.length x = true) : seqD (q ++ t) x = seqD (p ++ t) x := by
  unfold seqD
  rw [toD_hid hl ht 12 x hx]
theorem items_hid (ht : HI q.length t) (hx : PV.hi q.length x = true) : items (q ++ t) x = items (p ++ t) x ∧ ∀ xs, items (p ++ t) x = some xs → PV.his q.length xs = true := by
  cases x with
  | tup xs => exact ⟨rfl, fun ys e => by simp only [items] at e; cases e; simpa only [PV.hi] using hx⟩
  | scr xs => exact ⟨rfl, fun ys e => by simp only [items] at e; cases e; simpa only [PV.hi] using hx⟩
  | ref k =>
    simp only [PV.hi, decide_eq_true_eq] at hx
    simp only [items]
    rw [lookr hx, lookp hl hx]
    refine ⟨rfl, fun ys e => ?_⟩
    split at e
    · rename_i zs hz; cases e; exact ht.get hz
    · cases e
  | _ => exact ⟨rfl, fun ys e => by simp [items] at e⟩
theorem kindOf_hid (hx : PV.hi q.length x = true) : kindOf (q ++ t) x = kindOf (p ++ t) x := by
  cases x with
  | ref k =>
    simp only [PV.hi, decide_eq_true_eq] at hx
    simp only [kindOf]
    rw [lookr hx, lookp hl hx]
  | _ => rfl
theorem leanOf_hid (hx : PV.hi q.length x = true) : leanOf (q ++ t) x = leanOf (p ++ t) x ∧ LIx q.length (leanOf (p ++ t) x) := by
  cases x with
  | ref k =>
    simp only [PV.hi, decide_eq_true_eq] at hx
    simp only [leanOf]
    rw [lookr hx, lookp hl hx]
    refine ⟨rfl, fun e he => ?_⟩
    split at he
    · rw [List.mem_singleton] at he; subst he; exact hx
    · simp at he
  | _ => exact ⟨rfl, fun e he => by simp [leanOf] at he⟩
theorem leans_hid : ∀ {l : Lean_}, LIx q.length l → leans l (q ++ t) = leans l (p ++ t)
  | [], _ => rfl
  | e :: r, h => by
    have h1 := h e (by simp)
    have ih := leans_hid (l := r) fun z hz => h z (by simp [hz])
    unfold leans at ih ⊢
    rw [List.all_cons, List.all_cons, ih, lookr h1, lookp hl h1]
theorem fo_alloc (ht : HI q.length t) (hx : PV.his q.length xs = true) : Fo (fun r => PV.hi q.length r = true) q p (alloc xs (q ++ t)) (alloc xs (p ++ t)) :=
  ⟨by simp [PV.hi], t ++ [.lst xs], by simp, ht.add hx, by unfold alloc; simp [hl]⟩
theorem setr {c : PO} (h : q.length ≤ k) : (q ++ t).set k c = q ++ t.set (k - q.length) c := by rw [List.set_append_right _ _ h]
theorem setp {c : PO} (h : q.length ≤ k) : (p ++ t).set k c = p ++ t.set (k - q.length) c := by rw [List.set_append_right _ _ (hl ▸ h), hl]
end
end PB
set_option Elab.async false
set_option linter.all false
set_option maxRecDepth 100000
set_option maxHeartbeats 4000000
namespace PB
open PySem
section
variable {α β : Type} {p q t : PH} {x y : PV} {xs ys : List PV} {n k : Nat} (hl : q.length = p.length)
abbrev Hv (q : PH) : PV → Prop := fun r => PV.hi q.length r = true
include hl
theorem fo_binop (op : BinO) (ht : HI q.length t) (hx : Hv q x) (hy : Hv q y) : Fo (Hv q) q p (binop op x y (q ++ t)) (binop op x y (p ++ t)) := by
  cases op <;> cases x <;> cases y <;> simp only [binop] <;> try exact True.intro
  · exact Fo.ok rfl ht
  · simp only [Hv, PV.hi] at hx hy
    exact Fo.ite fun _ => Fo.ok (by simp only [Hv, PV.hi]; exact his_app hx hy) ht
  · simp only [Hv, PV.hi, decide_eq_true_eq] at hx hy
    rw [lookr hx, lookp hl hx, lookr hy, lookp hl hy]
    split
    · rename_i us ws h1 h2
      exact Fo.ite fun _ => fo_alloc hl ht (his_app (ht.get h1) (ht.get h2))
    · exact True.intro
  · exact Fo.ok rfl ht
  · exact Fo.ite fun _ => Fo.ok rfl ht
  · simp only [Hv, PV.hi] at hx
    exact Fo.ite fun _ => Fo.ok (by simp only [Hv, PV.hi]; exact his_flat hx _) ht
  · simp only [Hv, PV.hi, decide_eq_true_eq] at hx
    rw [lookr hx, lookp hl hx]
    split
    · rename_i us h1
      exact Fo.ite fun _ => fo_alloc hl ht (his_flat (ht.get h1) _)
    · exact True.intro
  · exact Fo.ite fun _ => Fo.ok rfl ht
  · exact Fo.ite fun _ => Fo.ok rfl ht
  · exact Fo.ite fun _ => Fo.ok rfl ht
theorem fo_cmpop (op : CmpO) (ht : HI q.length t) (hx : Hv q x) (hy : Hv q y) : Fo (Hv q) q p (cmpop op x y (q ++ t)) (cmpop op x y (p ++ t)) := by
  have e1 := eqD_fr' hl ht hx hy
  have e2 := toD_hid hl ht 12 x hx
  have e3 := seqD_hid hl ht hy
  have ok : ∀ b : Bool, Fo (Hv q) q p (.ok (.bl b) (q ++ t)) (.ok (.bl b) (p ++ t)) := fun b => Fo.ok rfl ht
  cases op with
  | eq => simp only [cmpop, e1]; split; exact ok _; exact True.intro
  | ne => simp only [cmpop, e1]; split; exact ok _; exact True.intro
  | isIn => simp only [cmpop, e2, e3]; split; exact ok _; exact True.intro
  | notIn => simp only [cmpop, e2, e3]; split; exact ok _; exact True.intro
  | isN => cases y <;> simp only [cmpop] <;> first | exact True.intro | exact ok _ | (cases x <;> first | exact True.intro | exact ok _)
  | notN => cases y <;> simp only [cmpop] <;> first | exact True.intro | exact ok _ | (cases x <;> first | exact True.intro | exact ok _)
  | _ => cases x <;> cases y <;> simp only [cmpop] <;> first | exact True.intro | exact ok _
theorem atI_mem {xs : List PV} {i : Int} {v : PV} (e : L2.atI xs i = some v) : v ∈ xs := by
  unfold L2.atI at e
  obtain ⟨j, _, h⟩ := Option.bind_eq_some_iff.mp e
  exact List.mem_of_getElem? h
theorem fo_idxop (ht : HI q.length t) (hx : Hv q x) : Fo (Hv q) q p (idxop x y (q ++ t)) (idxop x y (p ++ t)) := by
  obtain ⟨e, h⟩ := items_hid hl ht hx
  unfold idxop
  rw [e]
  split
  · rename_i us i h1
    split
    · rename_i v hv
      exact Fo.ok (his_iff.mp (h us h1) v (atI_mem hl hv)) ht
    · exact True.intro
  · exact True.intro
theorem fo_slcop (lo hi : Option Int) (ht : HI q.length t) (hx : Hv q x) : Fo (Hv q) q p (slcop x lo hi (q ++ t)) (slcop x lo hi (p ++ t)) := by
  cases x with
  | tup us => simp only [Hv, PV.hi] at hx; exact Fo.ok (by simp only [Hv, PV.hi]; exact his_cut hx _ _) ht
  | ref m =>
    simp only [Hv, PV.hi, decide_eq_true_eq] at hx
    simp only [slcop]
    rw [lookr hx, lookp hl hx]
    split
    · rename_i us h1
      exact fo_alloc hl ht (his_cut (ht.get h1) _ _)
    · exact True.intro
  | _ => exact True.intro
theorem fo_revop (ht : HI q.length t) (hx : Hv q x) : Fo (Hv q) q p (revop x (q ++ t)) (revop x (p ++ t)) := by
  have rv : ∀ {us : List PV}, PV.his q.length us = true → PV.his q.length us.reverse = true := fun h => his_sub h fun x hx => List.mem_reverse.mp hx
  cases x with
  | tup us => simp only [Hv, PV.hi] at hx; exact Fo.ok (by simp only [Hv, PV.hi]; exact rv hx) ht
  | ref m =>
    simp only [Hv, PV.hi, decide_eq_true_eq] at hx
    simp only [revop]
    rw [lookr hx, lookp hl hx]
    split
    · rename_i us h1
      exact fo_alloc hl ht (rv (ht.get h1))
    · exact True.intro
  | _ => exact True.intro
theorem fo_twoop (k : Option Int) (ht : HI q.length t) (hx : Hv q x) : Fo (Hv q) q p (twoop x k (q ++ t)) (twoop x k (p ++ t)) := by
  cases x with
  | tup us =>
    simp only [Hv, PV.hi] at hx
    simp only [twoop]
    exact Fo.ite fun _ => Fo.ok (by simp only [Hv, PV.hi]; exact his_seconds (his_sub hx fun x hx => List.mem_of_mem_drop hx)) ht
  | _ => exact True.intro
theorem fo_optI {o : Option PV} (ht : HI q.length t) : Fo (fun _ => True) q p (optI (q ++ t) o) (optI (p ++ t) o) := by
  cases o with
  | none => exact Fo.ok True.intro ht
  | some v => cases v <;> first | exact True.intro | exact Fo.ok True.intro ht
theorem fo_setop (ht : HI q.length t) (hx : Hv q x) {v : PV} (hv : Hv q v) : Fo (fun _ => True) q p (setop x y v (q ++ t)) (setop x y v (p ++ t)) := by
  cases x with
  | ref m =>
    cases y with
    | int i =>
      simp only [Hv, PV.hi, decide_eq_true_eq] at hx
      simp only [setop]
      rw [lookr hx, lookp hl hx]
      split
      · rename_i us h1
        split
        · rename_i j hj
          rw [setr hl hx, setp hl hx]
          refine Fo.ok True.intro (ht.set ?_ _)
          have hu := ht.get h1
          rw [his_iff] at *
          intro z hz
          rcases List.mem_or_eq_of_mem_set hz with e | e
          · exact hu z e
          · rw [e]; exact hv
        · exact True.intro
      · exact True.intro
    | _ => exact True.intro
  | _ => cases y <;> exact True.intro
theorem fo_blt (b : Blt) (ht : HI q.length t) (hx : PV.his q.length xs = true) : Fo (Hv q) q p (blt b xs (q ++ t)) (blt b xs (p ++ t)) := by
  match xs, hx with
  | [], _ => cases b <;> exact True.intro
  | [a], hx =>
    simp only [PV.his, Bool.and_eq_true] at hx
    have ha := hx.1
    obtain ⟨e, h⟩ := items_hid hl ht ha
    have ek := kindOf_hid (t := t) hl ha
    have rf : ∀ m : Nat, a = .ref m → (q ++ t)[m]? = (p ++ t)[m]? := fun m z => by
      subst z
      simp only [PV.hi, decide_eq_true_eq] at ha
      rw [lookr ha, lookp hl ha]
    have ok : ∀ b : PV, PV.hi q.length b = true → Fo (Hv q) q p (.ok b (q ++ t)) (.ok b (p ++ t)) := fun b hb => Fo.ok hb ht
    cases b with
    | len => simp only [blt, e]; split; exact ok _ rfl; exact True.intro
    | tuple => simp only [blt, e]; split; exact ok _ (by simp only [PV.hi]; exact h _ (by assumption)); exact True.intro
    | list => simp only [blt, e]; split; exact fo_alloc hl ht (h _ (by assumption)); exact True.intro
    | isInt => simp only [blt, ek]; split; exact ok _ rfl; exact True.intro
    | isBool => simp only [blt, ek]; split; exact ok _ rfl; exact True.intro
    | isTup => simp only [blt, ek]; split; exact ok _ rfl; exact True.intro
    | isStr => simp only [blt, ek]; split; exact ok _ rfl; exact True.intro
    | isList => simp only [blt, ek]; split; exact ok _ rfl; exact True.intro
    | isTL => simp only [blt, ek]; split; exact ok _ rfl; exact True.intro
    | abs => cases a <;> first | exact True.intro | exact ok _ rfl
    | int => cases a <;> first | exact True.intro | exact ok _ rfl
    | min2 => cases a <;> exact True.intro
    | max2 => cases a <;> exact True.intro
    | gcd => cases a <;> exact True.intro
    | lzip => cases a <;> exact True.intro
    | _ =>
      cases a with
      | ref m =>
        simp only [blt]
        rw [rf m rfl]
        split
        · split
          · exact ok _ rfl
          · exact True.intro
        · exact True.intro
      | _ => exact True.intro
  | [a, c], hx =>
    cases b with
    | lzip =>
      cases a with
      | ref n =>
        cases c with
        | ref m =>
          simp only [PV.his, Bool.and_eq_true, PV.hi, decide_eq_true_eq] at hx
          simp only [blt]
          rw [lookr hx.1, lookp hl hx.1, lookr hx.2.1, lookp hl hx.2.1]
          split
          · rename_i us ws h1 h2
            exact fo_alloc hl ht (his_pairs (ht.get h1) (ht.get h2))
          · exact True.intro
        | _ => exact True.intro
      | _ => cases c <;> exact True.intro
    | _ => first | exact True.intro | (cases a <;> cases c <;> first | exact True.intro | exact Fo.ok rfl ht)
  | a :: c :: _ :: _, _ => cases b <;> first | exact True.intro | (cases a <;> first | exact True.intro | (cases c <;> exact True.intro))
theorem fo_mth (m : Mth) (ht : HI q.length t) (hx : Hv q x) (hxs : PV.his q.length xs = true) : Fo (Hv q) q p (mth m x xs (q ++ t)) (mth m x xs (p ++ t)) := by
  have rf : ∀ {a : PV} (m : Nat), Hv q a → a = .ref m → q.length ≤ m := fun m ha z => by
    subst z
    simpa only [Hv, PV.hi, decide_eq_true_eq] using ha
  cases m with
  | append =>
    match xs, hxs with
    | [], _ => cases x <;> exact True.intro
    | _ :: _ :: _, _ => cases x <;> exact True.intro
    | [a], hxs =>
      cases x with
      | ref m =>
        have hm := rf m hx rfl
        simp only [mth]
        rw [lookr hm, lookp hl hm]
        split
        · rename_i us h1
          refine Fo.ite fun _ => ?_
          rw [setr hl hm, setp hl hm]
          exact Fo.ok rfl (ht.set (his_app (ht.get h1) hxs) _)
        · exact True.intro
      | _ => exact True.intro
  | extend =>
    match xs, hxs with
    | [], _ => cases x <;> exact True.intro
    | a :: _ :: _, _ => cases x <;> first | exact True.intro | (cases a <;> exact True.intro)
    | [a], hxs =>
      cases x with
      | ref m =>
        cases a with
        | ref j =>
          have hm := rf m hx rfl
          simp only [PV.his, Bool.and_true] at hxs
          have hj := rf j hxs rfl
          simp only [mth]
          rw [lookr hm, lookp hl hm, lookr hj, lookp hl hj]
          split
          · rename_i us ws h1 h2
            refine Fo.ite fun _ => ?_
            rw [setr hl hm, setp hl hm]
            exact Fo.ok rfl (ht.set (his_app (ht.get h1) (ht.get h2)) _)
          · exact True.intro
        | _ => exact True.intro
      | _ => cases a <;> exact True.intro
  | pop =>
    match xs, hxs with
    | _ :: _, _ => cases x <;> exact True.intro
    | [], _ =>
      cases x with
      | ref m =>
        have hm := rf m hx rfl
        simp only [mth]
        rw [lookr hm, lookp hl hm]
        split
        · rename_i us h1
          split
          · rename_i v hv
            rw [setr hl hm, setp hl hm]
            exact Fo.ok (his_iff.mp (ht.get h1) _ (List.mem_of_getLast? hv)) (ht.set (his_sub (ht.get h1) fun z hz => List.dropLast_subset _ hz) _)
          · exact True.intro
        · exact True.intro
      | _ => exact True.intro
  | pop0 =>
    match xs, hxs with
    | [], _ => cases x <;> exact True.intro
    | a :: _ :: _, _ => cases x <;> first | exact True.intro | (cases a <;> exact True.intro)
    | [a], hxs =>
      cases x with
      | ref m =>
        cases a with
        | int i =>
          have hm := rf m hx rfl
          simp only [mth]
          rw [lookr hm, lookp hl hm]
          split
          · rename_i v us h1
            refine Fo.ite fun _ => ?_
            rw [setr hl hm, setp hl hm]
            have hg := ht.get h1
            simp only [PV.his, Bool.and_eq_true] at hg
            exact Fo.ok hg.1 (ht.set hg.2 _)
          · exact True.intro
        | _ => exact True.intro
      | _ => cases a <;> exact True.intro
  | count =>
    match xs, hxs with
    | [], _ => exact True.intro
    | _ :: _ :: _, _ => exact True.intro
    | [a], hxs =>
      simp only [PV.his, Bool.and_true] at hxs
      simp only [mth]
      rw [seqD_hid hl ht hx, toD_hid hl ht 12 a hxs]
      split
      · exact Fo.ok rfl ht
      · exact True.intro
  | index =>
    match xs, hxs with
    | [], _ => exact True.intro
    | _ :: _ :: _, _ => exact True.intro
    | [a], hxs =>
      simp only [PV.his, Bool.and_true] at hxs
      simp only [mth]
      rw [seqD_hid hl ht hx, toD_hid hl ht 12 a hxs]
      split
      · split
        · exact Fo.ok rfl ht
        · exact True.intro
      · exact True.intro
end
end PB
set_option Elab.async false
set_option linter.all false
set_option maxRecDepth 100000
set_option maxHeartbeats 4000000
namespace PB
open PySem
/-! codes whose constants name no cell -/
mutual
def CE.kk : CE → Bool
  | .var _ => true
  | .con v => PV.cst v
  | .bin _ a b => CE.kk a && CE.kk b
  | .neg a => CE.kk a
  | .not a => CE.kk a
  | .and a b => CE.kk a && CE.kk b
  | .or a b => CE.kk a && CE.kk b
  | .cmp _ a b => CE.kk a && CE.kk b
  | .chn _ _ a b c => CE.kk a && (CE.kk b && CE.kk c)
  | .ite a b c => CE.kk a && (CE.kk b && CE.kk c)
  | .tup es => CA.kk es
  | .lst es => CA.kk es
  | .idx a b => CE.kk a && CE.kk b
  | .slc a lo hi => CE.kk a && (CO.kk lo && CO.kk hi)
  | .rev a => CE.kk a
  | .two a k => CE.kk a && CO.kk k
  | .call f es => okId f && CA.kk es
  | .callv _ es => CA.kk es
  | .blt _ es => CA.kk es
  | .mth _ o es => CE.kk o && CA.kk es
  | .comp e _ tg it c => CE.kk e && (CT.kk tg && (CI.kk it && CO.kk c))
  | .xfld _ _ => true
  | .xis _ _ => true
  | .lam _ _ => false
def CA.kk : CA → Bool
  | .nil => true
  | .cons e r => CE.kk e && CA.kk r
  | .star e r => CE.kk e && CA.kk r
def CO.kk : CO → Bool
  | .none => true
  | .some e => CE.kk e
def CI.kk : CI → Bool
  | .seq e => CE.kk e
  | .rng1 es => CA.kk es
  | .rng2 es => CA.kk es
  | .rng3 es => CA.kk es
  | .enu es => CA.kk es
  | .zip es => CA.kk es
def CT.kk : CT → Bool
  | .v _ => true
  | .s o i => CE.kk o && CE.kk i
  | .nil => true
  | .cons a r => CT.kk a && CT.kk r
end
mutual
def CS.kk : CS → Bool
  | .asg t e => CT.kk t && CE.kk e
  | .par _ es => CA.kk es
  | .aug _ _ e => CE.kk e
  | .expr e => CE.kk e
  | .ret e => CE.kk e
  | .retN => true
  | .ifs c a b => CE.kk c && (CB.kk a && CB.kk b)
  | .whl c b => CE.kk c && CB.kk b
  | .for_ t it b => CT.kk t && (CI.kk it && CB.kk b)
  | .brk => true
  | .cnt => true
  | .pass => true
  | .raise _ es => CA.kk es
  | .try_ b hs => CB.kk b && CH.kk hs
def CH.kk : CH → Bool
  | .nil => true
  | .cons _ _ b r => CB.kk b && CH.kk r
def CB.kk : CB → Bool
  | .nil => true
  | .cons s r => CS.kk s && CB.kk r
end
section
variable {q p : PH} (hl : q.length = p.length) {cf : Nat → List PV → PH → Res PV}
theorem SI.unset {n : Nat} {s : Sl} (h : SI n s) (i : Nat) : SI n (s.set i none) := fun z hz => by
  rcases List.mem_or_eq_of_mem_set hz with e | e
  · exact h z e
  · cases e
abbrev Hvs (q : PH) : List PV → Prop := fun r => PV.his q.length r = true
theorem fo_compL {f g : PV → PH → Res (Option PV)} {l : Lean_} (hL : LIx q.length l) (hl : q.length = p.length) (hf : ∀ x t, Hv q x → HI q.length t → Fo (OI q.length) q p (f x (q ++ t)) (g x (p ++ t))) : ∀ (xs : List PV) (t : PH), Hvs q xs → HI q.length t → Fo (Hvs q) q p (compL f l xs (q ++ t)) (compL g l xs (p ++ t))
  | [], t, _, ht => by
    unfold compL
    rw [leans_hid hl hL]
    exact Fo.ite fun _ => Fo.ok rfl ht
  | x :: r, t, hx, ht => by
    simp only [Hvs, PV.his, Bool.and_eq_true] at hx
    unfold compL
    rw [leans_hid hl hL]
    refine Fo.ite fun _ => Fo.bind (hf x t hx.1 ht) fun y t1 hy ht1 => Fo.bind (fo_compL hL hl hf r t1 hx.2 ht1) fun ys t2 hys ht2 => ?_
    cases y with
    | none => exact Fo.ok hys ht2
    | some y => exact Fo.ok (by simp only [Hvs, PV.his, Bool.and_eq_true]; exact ⟨hy y rfl, hys⟩) ht2
theorem fo_frL {f g : PV → Sl → PH → Res Sl} {b c : Sl → PH → Res Fl} {l : Lean_} (hL : LIx q.length l) (hl : q.length = p.length) (hf : ∀ x s t, Hv q x → SI q.length s → HI q.length t → Fo (SI q.length) q p (f x s (q ++ t)) (g x s (p ++ t)))
    (hb : ∀ s t, SI q.length s → HI q.length t → Fo (FI q.length) q p (b s (q ++ t)) (c s (p ++ t))) : ∀ (xs : List PV) (s : Sl) (t : PH), Hvs q xs → SI q.length s → HI q.length t → Fo (FI q.length) q p (frL f b l xs s (q ++ t)) (frL g c l xs s (p ++ t))
  | [], s, t, _, hs, ht => by
    unfold frL
    rw [leans_hid hl hL]
    exact Fo.ite fun _ => Fo.ok hs ht
  | x :: r, s, t, hx, hs, ht => by
    simp only [Hvs, PV.his, Bool.and_eq_true] at hx
    unfold frL
    rw [leans_hid hl hL]
    refine Fo.ite fun _ => Fo.bind (hf x s t hx.1 hs ht) fun s1 t1 hs1 ht1 => Fo.bind (hb s1 t1 hs1 ht1) fun fl t2 hfl ht2 => ?_
    cases fl with
    | nx s2 => exact fo_frL hL hl hf hb r s2 t2 hx.2 hfl ht2
    | ct s2 => exact fo_frL hL hl hf hb r s2 t2 hx.2 hfl ht2
    | bk s2 => exact Fo.ok hfl ht2
    | rt v => exact Fo.ok hfl ht2
theorem fo_whL {f g : Sl → PH → Res PV} {b c : Sl → PH → Res Fl} (hf : ∀ s t, SI q.length s → HI q.length t → Fo (Hv q) q p (f s (q ++ t)) (g s (p ++ t)))
    (hb : ∀ s t, SI q.length s → HI q.length t → Fo (FI q.length) q p (b s (q ++ t)) (c s (p ++ t))) : ∀ (n : Nat) (s : Sl) (t : PH), SI q.length s → HI q.length t → Fo (FI q.length) q p (whL f b n s (q ++ t)) (whL g c n s (p ++ t))
  | 0, s, t, _, _ => by unfold whL; exact True.intro
  | n + 1, s, t, hs, ht => by
    unfold whL
    refine Fo.bind (hf s t hs ht) fun x t1 hx ht1 => ?_
    cases x with
    | bl z =>
      cases z
      · exact Fo.ok hs ht1
      · refine Fo.bind (hb s t1 hs ht1) fun fl t2 hfl ht2 => ?_
        cases fl with
        | nx s2 => exact fo_whL hf hb n s2 t2 hfl ht2
        | ct s2 => exact fo_whL hf hb n s2 t2 hfl ht2
        | bk s2 => exact Fo.ok hfl ht2
        | rt v => exact Fo.ok hfl ht2
    | _ => exact True.intro
def FoC (q p : PH) (cf : Nat → List PV → PH → Res PV) : Prop := ∀ (i : Nat) (args : List PV) (t : PH), okId i = true → Hvs q args → HI q.length t → Fo (Hv q) q p (cf i args (q ++ t)) (cf i args (p ++ t))
def LP (q : PH) (r : List PV × Lean_) : Prop := Hvs q r.1 ∧ LIx q.length r.2
variable (hc : FoC q p cf)
include hl hc
mutual
theorem foE : ∀ (c : CE) {s : Sl} {t : PH}, CE.kk c = true → SI q.length s → HI q.length t → Fo (Hv q) q p (evE cf c s (q ++ t)) (evE cf c s (p ++ t))
  | .var i, s, t, _, hs, ht => by
    rw [evE_var, evE_var]
    split
    · rename_i v hv; exact Fo.ok (hs.get hv) ht
    · exact True.intro
  | .con v, s, t, h, hs, ht => by
    rw [evE_con, evE_con]
    simp only [CE.kk] at h
    exact Fo.ok (hi_low v h) ht
  | .xfld i f, s, t, h, hs, ht => by
    rw [evE_xfld, evE_xfld]
    split
    · rename_i z g x hv
      have hg := hs.get hv
      simp only [PV.hi, PV.his, Bool.and_eq_true] at hg
      exact Fo.ite fun _ => Fo.ok hg.2.2.1 ht
    · exact True.intro
  | .xis i cs, s, t, h, hs, ht => by
    rw [evE_xis, evE_xis]
    split
    · exact Fo.ok rfl ht
    · exact True.intro
  | .lam _ _, s, t, h, hs, ht => by simp [CE.kk] at h
  | .bin op a b, s, t, h, hs, ht => by
    simp only [CE.kk, Bool.and_eq_true] at h
    rw [evE_bin, evE_bin]
    exact Fo.bind (foE a h.1 hs ht) fun x t1 hx ht1 => Fo.bind (foE b h.2 hs ht1) fun y t2 hy ht2 => fo_binop hl op ht2 hx hy
  | .neg a, s, t, h, hs, ht => by
    simp only [CE.kk] at h
    rw [evE_neg, evE_neg]
    refine Fo.bind (foE a h hs ht) fun x t1 hx ht1 => ?_
    cases x <;> first | exact True.intro | exact Fo.ok rfl ht1
  | .not a, s, t, h, hs, ht => by
    simp only [CE.kk] at h
    rw [evE_not, evE_not]
    refine Fo.bind (foE a h hs ht) fun x t1 hx ht1 => ?_
    cases x <;> first | exact True.intro | exact Fo.ok rfl ht1
  | .and a b, s, t, h, hs, ht => by
    simp only [CE.kk, Bool.and_eq_true] at h
    rw [evE_and, evE_and]
    refine Fo.bind (foE a h.1 hs ht) fun x t1 hx ht1 => ?_
    cases x with
    | bl z => cases z <;> first | exact foE b h.2 hs ht1 | exact Fo.ok rfl ht1
    | _ => exact True.intro
  | .or a b, s, t, h, hs, ht => by
    simp only [CE.kk, Bool.and_eq_true] at h
    rw [evE_or, evE_or]
    refine Fo.bind (foE a h.1 hs ht) fun x t1 hx ht1 => ?_
    cases x with
    | bl z => cases z <;> first | exact foE b h.2 hs ht1 | exact Fo.ok rfl ht1
    | _ => exact True.intro
  | .cmp op a b, s, t, h, hs, ht => by
    simp only [CE.kk, Bool.and_eq_true] at h
    rw [evE_cmp, evE_cmp]
    exact Fo.bind (foE a h.1 hs ht) fun x t1 hx ht1 => Fo.bind (foE b h.2 hs ht1) fun y t2 hy ht2 => fo_cmpop hl op ht2 hx hy
  | .chn op op' a b c, s, t, h, hs, ht => by
    simp only [CE.kk, Bool.and_eq_true] at h
    rw [evE_chn, evE_chn]
    refine Fo.bind (foE a h.1 hs ht) fun x t1 hx ht1 => Fo.bind (foE b h.2.1 hs ht1) fun y t2 hy ht2 => Fo.bind (fo_cmpop hl op ht2 hx hy) fun r t3 hr ht3 => ?_
    cases r with
    | bl z =>
      cases z
      · exact Fo.ok rfl ht3
      · exact Fo.bind (foE c h.2.2 hs ht3) fun z t4 hz ht4 => fo_cmpop hl op' ht4 hy hz
    | _ => exact True.intro
  | .ite c a b, s, t, h, hs, ht => by
    simp only [CE.kk, Bool.and_eq_true] at h
    rw [evE_ite, evE_ite]
    refine Fo.bind (foE c h.1 hs ht) fun x t1 hx ht1 => ?_
    cases x with
    | bl z =>
      cases z
      · exact foE b h.2.2 hs ht1
      · exact foE a h.2.1 hs ht1
    | _ => exact True.intro
  | .tup es, s, t, h, hs, ht => by
    simp only [CE.kk] at h
    rw [evE_tup, evE_tup]
    exact Fo.bind (foA es h hs ht) fun xs t1 hx ht1 => Fo.ite fun _ => Fo.ok (by simpa only [Hv, PV.hi] using hx) ht1
  | .lst es, s, t, h, hs, ht => by
    simp only [CE.kk] at h
    rw [evE_lst, evE_lst]
    exact Fo.bind (foA es h hs ht) fun xs t1 hx ht1 => Fo.ite fun _ => fo_alloc hl ht1 hx
  | .idx a b, s, t, h, hs, ht => by
    simp only [CE.kk, Bool.and_eq_true] at h
    rw [evE_idx, evE_idx]
    exact Fo.bind (foE a h.1 hs ht) fun x t1 hx ht1 => Fo.bind (foE b h.2 hs ht1) fun y t2 hy ht2 => fo_idxop hl ht2 hx
  | .slc a lo hi, s, t, h, hs, ht => by
    simp only [CE.kk, Bool.and_eq_true] at h
    rw [evE_slc, evE_slc]
    exact Fo.bind (foE a h.1 hs ht) fun x t1 hx ht1 => Fo.bind (foO lo h.2.1 hs ht1) fun l t2 _ ht2 => Fo.bind (foO hi h.2.2 hs ht2) fun u t3 _ ht3 =>
      Fo.bind (fo_optI hl ht3) fun l t4 _ ht4 => Fo.bind (fo_optI hl ht4) fun u t5 _ ht5 => fo_slcop hl l u ht5 hx
  | .rev a, s, t, h, hs, ht => by
    simp only [CE.kk] at h
    rw [evE_rev, evE_rev]
    exact Fo.bind (foE a h hs ht) fun x t1 hx ht1 => fo_revop hl ht1 hx
  | .two a k, s, t, h, hs, ht => by
    simp only [CE.kk, Bool.and_eq_true] at h
    rw [evE_two, evE_two]
    exact Fo.bind (foE a h.1 hs ht) fun x t1 hx ht1 => Fo.bind (foO k h.2 hs ht1) fun l t2 _ ht2 => Fo.bind (fo_optI hl ht2) fun l t3 _ ht3 => fo_twoop hl l ht3 hx
  | .call f es, s, t, h, hs, ht => by
    simp only [CE.kk, Bool.and_eq_true, decide_eq_true_eq] at h
    rw [evE_call, evE_call]
    exact Fo.bind (foA es h.2 hs ht) fun xs t1 hx ht1 => hc f xs t1 h.1 hx ht1
  | .callv i es, s, t, h, hs, ht => by
    simp only [CE.kk] at h
    rw [evE_callv, evE_callv]
    split
    · rename_i m hm
      have hf := hs.get hm
      simp only [PV.hi, decide_eq_true_eq] at hf
      exact Fo.bind (foA es h hs ht) fun xs t1 hx ht1 => hc _ xs t1 hf hx ht1
    · exact True.intro
  | .blt b es, s, t, h, hs, ht => by
    simp only [CE.kk] at h
    rw [evE_blt, evE_blt]
    exact Fo.bind (foA es h hs ht) fun xs t1 hx ht1 => fo_blt hl b ht1 hx
  | .mth m o es, s, t, h, hs, ht => by
    simp only [CE.kk, Bool.and_eq_true] at h
    rw [evE_mth, evE_mth]
    exact Fo.bind (foE o h.1 hs ht) fun x t1 hx ht1 => Fo.bind (foA es h.2 hs ht1) fun xs t2 hxs ht2 => fo_mth hl m ht2 hx hxs
  | .comp e own tg it c, s, t, h, hs, ht => by
    simp only [CE.kk, Bool.and_eq_true] at h
    rw [evE_comp, evE_comp]
    refine Fo.bind (foI it h.2.2.1 hs ht) fun r t1 hr ht1 => Fo.ite fun _ => Fo.bind (fo_compL hr.2 hl (fun x t2 hx ht2 => ?_) r.1 t1 hr.1 ht1) fun ys t3 hys ht3 => fo_alloc hl ht3 hys
    unfold compF
    refine Fo.bind (foT tg h.2.1 hx (hs.wipe own) ht2) fun s3 t3 hs3 ht3 => Fo.bind (foO c h.2.2.2 hs3 ht3) fun o t4 ho ht4 => ?_
    have last : Fo (OI q.length) q p ((evE cf e s3 (q ++ t4)).bind fun y h5 => .ok (some y) h5) ((evE cf e s3 (p ++ t4)).bind fun y h5 => .ok (some y) h5) :=
      Fo.bind (foE e h.1 hs3 ht4) fun y t5 hy ht5 => Fo.ok (fun z hz => by cases hz; exact hy) ht5
    cases o with
    | none => exact last
    | some v =>
      cases v with
      | bl z =>
        cases z
        · exact Fo.ok (fun z hz => by cases hz) ht4
        · exact last
      | _ => exact True.intro
theorem foA : ∀ (c : CA) {s : Sl} {t : PH}, CA.kk c = true → SI q.length s → HI q.length t → Fo (Hvs q) q p (evA cf c s (q ++ t)) (evA cf c s (p ++ t))
  | .nil, s, t, _, hs, ht => by
    rw [evA_nil, evA_nil]
    exact Fo.ok rfl ht
  | .cons e r, s, t, h, hs, ht => by
    simp only [CA.kk, Bool.and_eq_true] at h
    rw [evA_cons, evA_cons]
    exact Fo.bind (foE e h.1 hs ht) fun x t1 hx ht1 => Fo.bind (foA r h.2 hs ht1) fun xs t2 hxs ht2 => Fo.ok (by simp only [Hvs, PV.his, Bool.and_eq_true]; exact ⟨hx, hxs⟩) ht2
  | .star e r, s, t, h, hs, ht => by
    simp only [CA.kk, Bool.and_eq_true] at h
    rw [evA_star, evA_star]
    refine Fo.bind (foE e h.1 hs ht) fun x t1 hx ht1 => ?_
    obtain ⟨e1, e2⟩ := items_hid hl ht1 hx
    rw [e1]
    split
    · rename_i ys hy
      exact Fo.bind (foA r h.2 hs ht1) fun xs t2 hxs ht2 => Fo.ok (his_app (e2 ys hy) hxs) ht2
    · exact True.intro
theorem foO : ∀ (c : CO) {s : Sl} {t : PH}, CO.kk c = true → SI q.length s → HI q.length t → Fo (OI q.length) q p (evO cf c s (q ++ t)) (evO cf c s (p ++ t))
  | .none, s, t, _, hs, ht => by
    rw [evO_none, evO_none]
    exact Fo.ok (fun z hz => by cases hz) ht
  | .some e, s, t, h, hs, ht => by
    simp only [CO.kk] at h
    rw [evO_some, evO_some]
    exact Fo.bind (foE e h hs ht) fun x t1 hx ht1 => Fo.ok (fun z hz => by cases hz; exact hx) ht1
theorem foI : ∀ (c : CI) {s : Sl} {t : PH}, CI.kk c = true → SI q.length s → HI q.length t → Fo (LP q) q p (evI cf c s (q ++ t)) (evI cf c s (p ++ t))
  | .seq e, s, t, h, hs, ht => by
    simp only [CI.kk] at h
    rw [evI_seq, evI_seq]
    refine Fo.bind (foE e h hs ht) fun x t1 hx ht1 => ?_
    obtain ⟨e1, e2⟩ := items_hid hl ht1 hx
    obtain ⟨e3, e4⟩ := leanOf_hid (t := t1) hl hx
    rw [e1, e3]
    split
    · rename_i ys hy
      exact Fo.ok ⟨e2 ys hy, e4⟩ ht1
    · exact True.intro
  | .rng1 es, s, t, h, hs, ht => by
    simp only [CI.kk] at h
    rw [evI_rng1, evI_rng1]
    refine Fo.bind (foA es h hs ht) fun xs t1 hx ht1 => ?_
    split
    · exact Fo.ite fun _ => Fo.ok ⟨his_range _ _ _, fun e he => by simp at he⟩ ht1
    · exact True.intro
  | .rng2 es, s, t, h, hs, ht => by
    simp only [CI.kk] at h
    rw [evI_rng2, evI_rng2]
    refine Fo.bind (foA es h hs ht) fun xs t1 hx ht1 => ?_
    split
    · exact Fo.ite fun _ => Fo.ok ⟨his_range _ _ _, fun e he => by simp at he⟩ ht1
    · exact True.intro
  | .rng3 es, s, t, h, hs, ht => by
    simp only [CI.kk] at h
    rw [evI_rng3, evI_rng3]
    refine Fo.bind (foA es h hs ht) fun xs t1 hx ht1 => ?_
    split
    · exact Fo.ite fun _ => Fo.ok ⟨his_range _ _ _, fun e he => by simp at he⟩ ht1
    · exact True.intro
  | .enu es, s, t, h, hs, ht => by
    simp only [CI.kk] at h
    rw [evI_enu, evI_enu]
    refine Fo.bind (foA es h hs ht) fun xs t1 hx ht1 => ?_
    split
    · rename_i x
      simp only [Hvs, PV.his, Bool.and_true] at hx
      obtain ⟨e1, e2⟩ := items_hid hl ht1 hx
      obtain ⟨e3, e4⟩ := leanOf_hid (t := t1) hl hx
      rw [e1, e3]
      split
      · rename_i ys hy
        exact Fo.ok ⟨his_enums _ (e2 ys hy), e4⟩ ht1
      · exact True.intro
    · exact True.intro
  | .zip es, s, t, h, hs, ht => by
    simp only [CI.kk] at h
    rw [evI_zip, evI_zip]
    refine Fo.bind (foA es h hs ht) fun xs t1 hx ht1 => ?_
    split
    · rename_i x y
      simp only [Hvs, PV.his, Bool.and_true, Bool.and_eq_true] at hx
      obtain ⟨e1, e2⟩ := items_hid hl ht1 hx.1
      obtain ⟨e3, e4⟩ := leanOf_hid (t := t1) hl hx.1
      obtain ⟨f1, f2⟩ := items_hid hl ht1 hx.2
      obtain ⟨f3, f4⟩ := leanOf_hid (t := t1) hl hx.2
      rw [e1, e3, f1, f3]
      split
      · rename_i us ws h1 h2
        exact Fo.ok ⟨his_zips (e2 us h1) (f2 ws h2), fun e he => by
          rcases List.mem_append.mp he with z | z
          · exact e4 e z
          · exact f4 e z⟩ ht1
      · exact True.intro
    · exact True.intro
theorem foT : ∀ (c : CT) {x : PV} {s : Sl} {t : PH}, CT.kk c = true → Hv q x → SI q.length s → HI q.length t → Fo (SI q.length) q p (asT cf c x s (q ++ t)) (asT cf c x s (p ++ t))
  | .v i, x, s, t, _, hx, hs, ht => by
    rw [asT_v, asT_v]
    exact Fo.ok (hs.set hx i) ht
  | .s o i, x, s, t, h, hx, hs, ht => by
    simp only [CT.kk, Bool.and_eq_true] at h
    rw [asT_s, asT_s]
    exact Fo.bind (foE o h.1 hs ht) fun ov t1 ho ht1 => Fo.bind (foE i h.2 hs ht1) fun iv t2 hi ht2 => Fo.bind (fo_setop hl ht2 ho hx) fun _ t3 _ ht3 => Fo.ok hs ht3
  | .nil, x, s, t, _, hx, hs, ht => by
    cases x with
    | tup xs =>
      cases xs with
      | nil => rw [asT, asT]; exact Fo.ok hs ht
      | cons a r => rw [asT]; exact True.intro; all_goals (intro z; cases z)
    | _ => rw [asT]; exact True.intro; all_goals (intro z; cases z)
  | .cons a r, x, s, t, h, hx, hs, ht => by
    simp only [CT.kk, Bool.and_eq_true] at h
    cases x with
    | tup xs =>
      cases xs with
      | nil => rw [asT]; exact True.intro; all_goals simp
      | cons y ys =>
        simp only [Hv, PV.hi, PV.his, Bool.and_eq_true] at hx
        rw [asT_cons, asT_cons]
        exact Fo.bind (foT a h.1 hx.1 hs ht) fun s1 t1 hs1 ht1 => foTs r h.2 hx.2 hs1 ht1
    | wtup xs =>
      cases xs with
      | nil => rw [asT]; exact True.intro; all_goals simp
      | cons y ys =>
        simp only [Hv, PV.hi, PV.his, Bool.and_eq_true] at hx
        rw [asT_wcons, asT_wcons]
        exact Fo.bind (foT a h.1 hx.1 hs ht) fun s1 t1 hs1 ht1 => foTs r h.2 hx.2 hs1 ht1
    | ref m =>
      simp only [Hv, PV.hi, decide_eq_true_eq] at hx
      rw [asT, asT, lookr hx, lookp hl hx]
      split
      · rename_i y ys hy
        have hg := ht.get hy
        simp only [PV.his, Bool.and_eq_true] at hg
        exact Fo.bind (foT a h.1 hg.1 hs ht) fun s1 t1 hs1 ht1 => foTs r h.2 hg.2 hs1 ht1
      · exact True.intro
    | _ => rw [asT]; exact True.intro; all_goals simp
theorem foTs : ∀ (c : CT) {xs : List PV} {s : Sl} {t : PH}, CT.kk c = true → Hvs q xs → SI q.length s → HI q.length t → Fo (SI q.length) q p (asTs cf c xs s (q ++ t)) (asTs cf c xs s (p ++ t))
  | .cons a r, [], s, t, _, _, _, _ => by rw [asTs]; exact True.intro; all_goals simp
  | .cons a r, x :: xs, s, t, h, hx, hs, ht => by
    simp only [CT.kk, Bool.and_eq_true] at h
    simp only [Hvs, PV.his, Bool.and_eq_true] at hx
    rw [asTs_cons, asTs_cons]
    exact Fo.bind (foT a h.1 hx.1 hs ht) fun s1 t1 hs1 ht1 => foTs r h.2 hx.2 hs1 ht1
  | .nil, [], s, t, _, _, hs, ht => by
    rw [asTs_nil, asTs_nil]
    exact Fo.ok hs ht
  | .nil, x :: xs, s, t, _, _, _, _ => by rw [asTs]; exact True.intro; all_goals simp
  | .v _, xs, s, t, _, _, _, _ => by rw [asTs]; exact True.intro; all_goals simp
  | .s _ _, xs, s, t, _, _, _, _ => by rw [asTs]; exact True.intro; all_goals simp
end
mutual
theorem foS : ∀ (c : CS) {s : Sl} {t : PH}, CS.kk c = true → SI q.length s → HI q.length t → Fo (FI q.length) q p (evS cf c s (q ++ t)) (evS cf c s (p ++ t))
  | .asg tg e, s, t, h, hs, ht => by
    simp only [CS.kk, Bool.and_eq_true] at h
    rw [evS_asg, evS_asg]
    exact Fo.bind (foE hl hc e h.2 hs ht) fun x t1 hx ht1 => Fo.bind (foT hl hc tg h.1 hx hs ht1) fun s2 t2 hs2 ht2 => Fo.ok hs2 ht2
  | .par is es, s, t, h, hs, ht => by
    simp only [CS.kk] at h
    rw [evS_par, evS_par]
    refine Fo.bind (foA hl hc es h hs ht) fun xs t1 hx ht1 => ?_
    split
    · rename_i s2 h2; exact Fo.ok (SI.all hs hx h2) ht1
    · exact True.intro
  | .aug i op e, s, t, h, hs, ht => by
    simp only [CS.kk] at h
    rw [evS_aug, evS_aug]
    split
    · rename_i x hx
      refine Fo.bind (foE hl hc e h hs ht) fun y t1 hy ht1 => Fo.ite fun _ => Fo.bind (fo_binop hl op ht1 (hs.get hx) hy) fun z t2 hz ht2 => Fo.ok (hs.set hz i) ht2
    · exact True.intro
  | .expr e, s, t, h, hs, ht => by
    simp only [CS.kk] at h
    rw [evS_expr, evS_expr]
    exact Fo.bind (foE hl hc e h hs ht) fun x t1 hx ht1 => Fo.ok hs ht1
  | .ret e, s, t, h, hs, ht => by
    simp only [CS.kk] at h
    rw [evS_ret, evS_ret]
    exact Fo.bind (foE hl hc e h hs ht) fun x t1 hx ht1 => Fo.ok hx ht1
  | .retN, s, t, _, hs, ht => by
    rw [evS_retN, evS_retN]
    exact Fo.ok rfl ht
  | .ifs c a b, s, t, h, hs, ht => by
    simp only [CS.kk, Bool.and_eq_true] at h
    rw [evS_ifs, evS_ifs]
    refine Fo.bind (foE hl hc c h.1 hs ht) fun x t1 hx ht1 => ?_
    cases x with
    | bl z =>
      cases z
      · exact foB b h.2.2 hs ht1
      · exact foB a h.2.1 hs ht1
    | _ => exact True.intro
  | .whl c b, s, t, h, hs, ht => by
    simp only [CS.kk, Bool.and_eq_true] at h
    rw [evS_whl, evS_whl]
    exact fo_whL (fun s t hs ht => foE hl hc c h.1 hs ht) (fun s t hs ht => foB b h.2 hs ht) fuel s t hs ht
  | .for_ tg it b, s, t, h, hs, ht => by
    simp only [CS.kk, Bool.and_eq_true] at h
    rw [evS_for, evS_for]
    exact Fo.bind (foI hl hc it h.2.1 hs ht) fun r t1 hr ht1 => fo_frL hr.2 hl (fun x s t hx hs ht => foT hl hc tg h.1 hx hs ht) (fun s t hs ht => foB b h.2.2 hs ht) r.1 s t1 hr.1 hs ht1
  | .brk, s, t, _, hs, ht => by rw [evS_brk, evS_brk]; exact Fo.ok hs ht
  | .cnt, s, t, _, hs, ht => by rw [evS_cnt, evS_cnt]; exact Fo.ok hs ht
  | .pass, s, t, _, hs, ht => by rw [evS_pass, evS_pass]; exact Fo.ok hs ht
  | .raise c es, s, t, h, hs, ht => by
    simp only [CS.kk] at h
    rw [evS_raise, evS_raise]
    exact Fo.bind (foA hl hc es h hs ht) fun xs t1 hx ht1 => Fo.ite fun _ => ⟨by simpa only [PV.hi] using hx, t1, rfl, ht1, rfl⟩
  | .try_ b r, s, t, h, hs, ht => by
    simp only [CS.kk, Bool.and_eq_true] at h
    rw [evS_try, evS_try]
    have hb := foB b h.1 hs ht
    cases e : evB cf b s (q ++ t) with
    | ok f h1 =>
      rw [e] at hb
      obtain ⟨a1, t1, rfl, a3, a4⟩ := hb
      rw [a4]
      exact Fo.ok a1 a3
    | exc c v h1 =>
      rw [e] at hb
      obtain ⟨a1, t1, rfl, a3, a4⟩ := hb
      rw [a4]
      exact foH r h.2 c a1 hs a3
    | bad => exact True.intro
theorem foH : ∀ (r : CH) {s : Sl} {t : PH}, CH.kk r = true → ∀ (c : Nat) {v : PV}, PV.hi q.length v = true → SI q.length s → HI q.length t → Fo (FI q.length) q p (evH cf r c v s (q ++ t)) (evH cf r c v s (p ++ t))
  | .nil, s, t, _, c, v, hv, hs, ht => by
    rw [evH_nil, evH_nil]
    exact ⟨hv, t, rfl, ht, rfl⟩
  | .cons cs i b r, s, t, h, c, v, hv, hs, ht => by
    simp only [CH.kk, Bool.and_eq_true] at h
    rw [evH_cons, evH_cons]
    have hx : PV.hi q.length (excV c v) = true := by
      cases v with
      | tup xs => simp only [excV, PV.hi, PV.his, Bool.and_eq_true]; exact ⟨trivial, by simpa only [PV.hi] using hv⟩
      | _ => rfl
    by_cases z : cs.contains c = true
    · rw [if_pos z, if_pos z]
      refine Fo.bind (foB b h.1 (hs.set hx i) ht) fun f t1 hf ht1 => ?_
      cases f with
      | nx s2 => exact Fo.ok (SI.unset hf i) ht1
      | bk s2 => exact Fo.ok (SI.unset hf i) ht1
      | ct s2 => exact Fo.ok (SI.unset hf i) ht1
      | rt v => exact Fo.ok hf ht1
    · rw [if_neg z, if_neg z]
      exact foH r h.2 c hv hs ht
theorem foB : ∀ (c : CB) {s : Sl} {t : PH}, CB.kk c = true → SI q.length s → HI q.length t → Fo (FI q.length) q p (evB cf c s (q ++ t)) (evB cf c s (p ++ t))
  | .nil, s, t, _, hs, ht => by
    rw [evB_nil, evB_nil]
    exact Fo.ok hs ht
  | .cons st r, s, t, h, hs, ht => by
    simp only [CB.kk, Bool.and_eq_true] at h
    rw [evB_cons, evB_cons]
    refine Fo.bind (foS st h.1 hs ht) fun fl t1 hfl ht1 => ?_
    cases fl with
    | nx s2 => exact foB r h.2 hfl ht1
    | _ => exact Fo.ok hfl ht1
end
end
end PB
set_option Elab.async false
set_option linter.all false
set_option maxRecDepth 100000
set_option maxHeartbeats 4000000
namespace PB
open PySem
section
variable {q p t t' : PH} (hl : q.length = p.length) {G : Nat → Option Fn}
mutual
theorem low_up {n m : Nat} (h : n ≤ m) : ∀ x : PV, PV.low n x = true → PV.low m x = true
  | .non, _ => by simp [PV.low]
  | .bl _, _ => by simp [PV.low]
  | .int _, _ => by simp [PV.low]
  | .str _, _ => by simp [PV.low]
  | .fn _, _ => by simp [PV.low]
  | .dct, _ => by simp [PV.low]
  | .ref k, e => by simp only [PV.low, decide_eq_true_eq] at e ⊢; omega
  | .tup xs, e => by simp only [PV.low] at e ⊢; exact lows_up h xs e
  | .wtup xs, e => by simp only [PV.low] at e ⊢; exact lows_up h xs e
  | .scr xs, e => by simp only [PV.low] at e ⊢; exact lows_up h xs e
theorem lows_up {n m : Nat} (h : n ≤ m) : ∀ xs : List PV, PV.lows n xs = true → PV.lows m xs = true
  | [], _ => by simp [PV.lows]
  | x :: r, e => by
    simp only [PV.lows, Bool.and_eq_true] at e ⊢
    exact ⟨low_up h x e.1, lows_up h r e.2⟩
end
theorem POs.same_app : ∀ (q a b : PH), POs.same (q ++ a) (q ++ b) = POs.same a b
  | [], _, _ => rfl
  | c :: r, a, b => by
    rw [List.cons_append, List.cons_append, POs.same, PO.same_rfl, Bool.true_and]
    exact POs.same_app r a b
/-- cells that name no later ones -/
def Plw (q : PH) : Prop := q.all (PO.low q.length) = true
theorem Plw.up (h : Plw q) {m : Nat} (hm : q.length ≤ m) : q.all (PO.low m) = true := by
  unfold Plw at h
  rw [List.all_eq_true] at h ⊢
  intro c hc
  have := h c hc
  cases c with
  | lst xs => simp only [PO.low] at this ⊢; exact lows_up hm xs this
theorem keep_hid (hq : Plw q) (v : PV) : ∃ u, keepP (q ++ t) (q ++ t') v = q ++ u ∧ (u = t' ∨ u = t'.take t.length) ∧ ∀ p : PH, q.length = p.length → Plw p → keepP (p ++ t) (p ++ t') v = p ++ u := by
  have tk : ∀ p : PH, (p ++ t').take (p ++ t).length = p ++ t'.take t.length := fun p => by
    rw [List.length_append, List.take_append, List.take_of_length_le (by omega), Nat.add_sub_cancel_left]
  have key : ∀ p : PH, Plw p → (((POs.same ((p ++ t').take (p ++ t).length) (p ++ t) = true) ∨ ((p ++ t').take (p ++ t).length).all (PO.low (p ++ t).length) = true) ↔ (POs.same (t'.take t.length) t = true ∨ (t'.take t.length).all (PO.low (p.length + t.length)) = true)) := fun p hp => by
    rw [tk, POs.same_app, List.all_append, hp.up (by simp), Bool.true_and, List.length_append]
  by_cases c : PV.low (q.length + t.length) v = true ∧ (POs.same (t'.take t.length) t = true ∨ (t'.take t.length).all (PO.low (q.length + t.length)) = true)
  · refine ⟨t'.take t.length, ?_, .inr rfl, fun p hl hp => ?_⟩
    · unfold keepP
      rw [if_pos ⟨by rw [List.length_append]; exact c.1, (key q hq).mpr c.2⟩, tk]
    · unfold keepP
      rw [if_pos ⟨by rw [List.length_append, ← hl]; exact c.1, (key p hp).mpr (by rw [← hl]; exact c.2)⟩, tk]
  · refine ⟨t', ?_, .inl rfl, fun p hl hp => ?_⟩
    · unfold keepP
      rw [if_neg fun z => c ⟨by rw [← List.length_append]; exact z.1, (key q hq).mp z.2⟩]
    · unfold keepP
      rw [if_neg fun z => c ⟨by rw [hl, ← List.length_append]; exact z.1, by rw [hl]; exact (key p hp).mp z.2⟩]
theorem HI.take {n : Nat} (h : HI n t) (m : Nat) : HI n (t.take m) := fun i xs e => by
  have hlt := (List.getElem?_eq_some_iff.mp e).1
  rw [List.length_take] at hlt
  rw [List.getElem?_take_of_lt (by omega)] at e
  exact h i xs e
theorem fo_keep (hl : q.length = p.length) (hq : Plw q) (hp : Plw p) {v : PV} (hv : Hv q v) (ht' : HI q.length t') : Fo (Hv q) q p (.ok v (keepP (q ++ t) (q ++ t') v)) (.ok v (keepP (p ++ t) (p ++ t') v)) := by
  obtain ⟨u, h1, h2, h3⟩ := keep_hid (t := t) (t' := t') hq v
  rw [h1, h3 p hl hp]
  refine Fo.ok hv ?_
  rcases h2 with h2 | h2 <;> rw [h2]
  · exact ht'
  · exact ht'.take _
theorem fo_callF (hl : q.length = p.length) (hG : ∀ i f, okId i = true → G i = some f → CB.kk f.body = true) (hq : Plw q) (hp : Plw p) : ∀ k, FoC q p (callF G k)
  | 0 => fun i args t _ _ _ => by rw [callF]; exact True.intro
  | k + 1 => fun i args t hi ha ht => by
    unfold callF
    split
    · exact True.intro
    · rename_i f hf
      refine Fo.ite fun _ => Fo.bind (foB hl (fo_callF hl hG hq hp k) f.body (hG i f hi hf) (SI.start ha f.ns) ht) fun fl t1 hfl ht1 => ?_
      cases fl with
      | rt v => exact fo_keep hl hq hp hfl ht1
      | nx s => exact fo_keep hl hq hp rfl ht1
      | _ => exact True.intro
/-- a hidden heap -/
def hid (n : Nat) : PH := List.replicate n (.lst [])
theorem pl_hid (n : Nat) : Plw (hid n) := by
  unfold Plw
  rw [List.all_eq_true]
  intro c hc
  rw [List.eq_of_mem_replicate hc]
  simp [PO.low, PV.lows]
/-- a call that finds v and leaves nothing -/
def finds (r : Res PV) (v : PV) (n : Nat) : Bool := match r with
  | .ok w h => PV.same w v && decide (h.length = n)
  | _ => false
theorem finds_at {k i n : Nat} {args : List PV} {v : PV} (hG : ∀ i f, okId i = true → G i = some f → CB.kk f.body = true) (hp : Plw p) (hn : n = p.length) (hi : okId i = true) (ha : PV.csts args = true) (h : finds (callF G k i args (hid n)) v n = true) : callF G k i args p = .ok v p := by
  have hl : (hid n).length = p.length := by rw [hid, List.length_replicate, hn]
  have := fo_callF hl hG (pl_hid n) hp k i args [] hi (his_low args ha) HI.nil
  rw [List.append_nil, List.append_nil] at this
  unfold finds at h
  split at h
  · rename_i w h' e
    rw [e] at this
    obtain ⟨_, t, rfl, _, h3⟩ := this
    simp only [Bool.and_eq_true, decide_eq_true_eq, List.length_append] at h
    have ht : t = [] := by
      have h2 := h.2
      rw [hl, ← hn] at h2
      exact List.eq_nil_of_length_eq_zero (by omega)
    rw [h3, PV.same_eq h.1, ht, List.append_nil]
  · cases h
end
theorem kk_tab {l : List (Nat × Fn)} (h : l.all (fun e => !okId e.1 || CB.kk e.2.body) = true) : ∀ i f, okId i = true → l.lookup i = some f → CB.kk f.body = true := fun i f hi e => by
  induction l with
  | nil => cases e
  | cons a r ih =>
    obtain ⟨j, g⟩ := a
    rw [List.all_cons, Bool.and_eq_true] at h
    rw [List.lookup_cons] at e
    split at e
    · rename_i hb
      cases e
      have : i = j := by simpa using hb
      subst this
      have h1 := h.1
      simp only [hi, decide_true, Bool.not_true, Bool.false_or] at h1
      exact h1
    · exact ih h.2 e
end PB
set_option Elab.async false
set_option linter.all false
set_option maxRecDepth 100000
set_option maxHeartbeats 1000000
namespace PB
open PySem
/-! ### fractions -/
/-- a number of the text -/
def fr (q : Rat) : PV := .tup [.int q.num, .int q.den]
/-- its size -/
def Bd (n : Nat) (q : Rat) : Prop := q.num.natAbs < 2 ^ n ∧ q.den < 2 ^ n
theorem log2_lt {n k : Nat} (h : n < 2 ^ k) (hk : 0 < k) : n.log2 < k := by
  by_cases h0 : n = 0
  · subst h0; simpa using hk
  · exact (Nat.log2_lt h0).mpr h
theorem mulOk_of {a b : Int} {m n : Nat} (ha : a.natAbs < 2 ^ m) (hb : b.natAbs < 2 ^ n) (h : m + n < 900000) : mulOk a b = true := by
  unfold mulOk
  rw [decide_eq_true_eq]
  have h1 := log2_lt (k := m + 1) (Nat.lt_of_lt_of_le ha (Nat.pow_le_pow_right (by decide) (by omega))) (by omega)
  have h2 := log2_lt (k := n + 1) (Nat.lt_of_lt_of_le hb (Nat.pow_le_pow_right (by decide) (by omega))) (by omega)
  omega
theorem pow_pow {m n : Nat} : 2 ^ m * 2 ^ n = 2 ^ (m + n) := (Nat.pow_add 2 m n).symm
theorem lt_mul {a b x y : Nat} (h1 : a < x) (h2 : b < y) : a * b < x * y := Nat.mul_lt_mul'' h1 h2
theorem natAbs_mul_lt {a b : Int} {m n : Nat} (ha : a.natAbs < 2 ^ m) (hb : b.natAbs < 2 ^ n) : (a * b).natAbs < 2 ^ (m + n) := by
  rw [Int.natAbs_mul, ← pow_pow]
  exact lt_mul ha hb
theorem natAbs_add_lt {a b : Int} {n : Nat} (ha : a.natAbs < 2 ^ n) (hb : b.natAbs < 2 ^ n) : (a + b).natAbs < 2 ^ (n + 1) := by
  have : (a + b).natAbs ≤ a.natAbs + b.natAbs := Int.natAbs_add_le a b
  rw [Nat.pow_succ]; omega
theorem den_lt {q : Rat} {n : Nat} (h : Bd n q) : ((q.den : Nat) : Int).natAbs < 2 ^ n := by simpa using h.2
theorem Bd.mono {m n : Nat} {q : Rat} (h : Bd m q) (hk : m ≤ n) : Bd n q :=
  ⟨Nat.lt_of_lt_of_le h.1 (Nat.pow_le_pow_right (by decide) hk), Nat.lt_of_lt_of_le h.2 (Nat.pow_le_pow_right (by decide) hk)⟩
theorem divInt_num_le (a b : Int) : (Rat.divInt a b).num.natAbs ≤ a.natAbs := by
  rw [Rat.num_divInt, Int.natAbs_ediv_of_dvd, Int.natAbs_mul]
  · refine Nat.le_trans (Nat.div_le_self _ _) ?_
    have : b.sign.natAbs ≤ 1 := by rcases Int.lt_trichotomy b 0 with h | h | h <;> simp [Int.sign_eq_neg_one_of_neg, Int.sign_eq_one_of_pos, *]
    calc b.sign.natAbs * a.natAbs ≤ 1 * a.natAbs := Nat.mul_le_mul_right _ this
      _ = a.natAbs := Nat.one_mul _
  · exact Int.dvd_mul_of_dvd_right (Int.gcd_dvd_right b a)
theorem divInt_den_le {a b : Int} (hb : b ≠ 0) : (Rat.divInt a b).den ≤ b.natAbs := by
  rw [Rat.den_divInt, if_neg hb]
  exact Nat.div_le_self _ _
theorem bd_divInt {a b : Int} {n : Nat} (hb : b ≠ 0) (h1 : a.natAbs < 2 ^ n) (h2 : b.natAbs < 2 ^ n) : Bd n (Rat.divInt a b) :=
  ⟨Nat.lt_of_le_of_lt (divInt_num_le a b) h1, Nat.lt_of_le_of_lt (divInt_den_le hb) h2⟩
theorem keepP_self {h : PH} {v : PV} (hv : PV.low h.length v = true) : keepP h h v = h := by
  unfold keepP
  split
  · rw [List.take_length]
  · rfl
theorem POs.same_rfl : ∀ h : PH, POs.same h h = true
  | [] => rfl
  | a :: r => by simp [POs.same, PO.same_rfl, POs.same_rfl r]
theorem keepP_app {h t : PH} {v : PV} (hv : PV.low h.length v = true) : keepP h (h ++ t) v = h := by
  unfold keepP
  rw [List.take_left, if_pos ⟨hv, .inl (POs.same_rfl h)⟩]
@[simp] theorem low_fr {n : Nat} {q : Rat} : PV.low n (fr q) = true := by simp [fr, PV.low, PV.lows]
end PB
set_option Elab.async false
set_option linter.all false
set_option maxRecDepth 100000
set_option maxHeartbeats 1000000
set_option exponentiation.threshold 100000
namespace PB
open PySem
section
variable {k : Nat} {h : PH}
theorem atI_nn {α : Type} {xs : List α} {i : Int} (hi : 0 ≤ i) : L2.atI xs i = xs[i.toNat]? := by
  unfold L2.atI L2.ixN
  rw [if_pos hi]
  by_cases h : i < xs.length
  · rw [if_pos h]; rfl
  · rw [if_neg h, List.getElem?_eq_none (by omega)]; rfl
@[simp] theorem atI_0 {α : Type} (x : α) (r : List α) : L2.atI (x :: r) 0 = some x := by rw [atI_nn (by decide)]; rfl
@[simp] theorem atI_1 {α : Type} (x y : α) (r : List α) : L2.atI (x :: y :: r) 1 = some y := by rw [atI_nn (by decide)]; rfl
@[simp] theorem atI_2 {α : Type} (x y z : α) (r : List α) : L2.atI (x :: y :: z :: r) 2 = some z := by rw [atI_nn (by decide)]; rfl
@[simp] theorem atI_3 {α : Type} (x y z u : α) (r : List α) : L2.atI (x :: y :: z :: u :: r) 3 = some u := by rw [atI_nn (by decide)]; rfl
@[simp] theorem idx_fr0 {q : Rat} : idxop (fr q) (.int 0) h = .ok (.int q.num) h := by simp [idxop, fr, items]
@[simp] theorem idx_fr1 {q : Rat} : idxop (fr q) (.int 1) h = .ok (.int q.den) h := by simp [idxop, fr, items]
@[simp] theorem startP_1 {n : Nat} {a : PV} : startP (n + 1) [a] = some a :: List.replicate n none := by simp [startP]
@[simp] theorem startP_2 {n : Nat} {a b : PV} : startP (n + 2) [a, b] = some a :: some b :: List.replicate n none := by simp [startP]
@[simp] theorem startP_3 {n : Nat} {a b c : PV} : startP (n + 3) [a, b, c] = some a :: some b :: some c :: List.replicate n none := by simp [startP]
@[simp] theorem startP_4 {n : Nat} {a b c d : PV} : startP (n + 4) [a, b, c, d] = some a :: some b :: some c :: some d :: List.replicate n none := by simp [startP]
@[simp] theorem outF_rt {h1 : PH} {v : PV} : outF h (.rt v) h1 = .ok v (keepP h h1 v) := rfl
@[simp] theorem outF_nx {h1 : PH} {s : Sl} : outF h (.nx s) h1 = .ok .non (keepP h h1 .non) := rfl
@[simp] theorem keep_fr {q : Rat} : keepP h h (fr q) = h := keepP_self low_fr
@[simp] theorem keep_int {i : Int} : keepP h h (.int i) = h := keepP_self (by simp [PV.low])
@[simp] theorem keep_bl {b : Bool} : keepP h h (.bl b) = h := keepP_self (by simp [PV.low])
@[simp] theorem keep_non : keepP h h .non = h := keepP_self (by simp [PV.low])
/-- sizes -/
theorem bd_add {m n : Nat} {x y : Rat} (hx : Bd m x) (hy : Bd n y) : Bd (m + n + 1) (x + y) ∧ (x.num * y.den + y.num * x.den).natAbs < 2 ^ (m + n + 1) ∧ ((x.den : Int) * y.den).natAbs < 2 ^ (m + n) := by
  have h1 := natAbs_mul_lt hx.1 (den_lt hy)
  have h2 := natAbs_mul_lt hy.1 (den_lt hx)
  rw [Nat.add_comm n m] at h2
  have h3 := natAbs_add_lt h1 h2
  have h4 := natAbs_mul_lt (den_lt hx) (den_lt hy)
  refine ⟨?_, h3, h4⟩
  have e : x + y = Rat.divInt (x.num * y.den + y.num * x.den) (x.den * y.den) := by
    rw [← Rat.divInt_add_divInt _ _ (by exact_mod_cast x.den_nz) (by exact_mod_cast y.den_nz), Rat.num_divInt_den, Rat.num_divInt_den]
  rw [e]
  refine bd_divInt ?_ h3 (Nat.lt_trans h4 (Nat.pow_lt_pow_right (by decide) (by omega)))
  exact_mod_cast Nat.mul_ne_zero x.den_nz y.den_nz
theorem mul_eq (x y : Rat) : Rat.divInt (x.num * y.num) (x.den * y.den) = x * y := by
  rw [← Rat.divInt_mul_divInt, Rat.num_divInt_den, Rat.num_divInt_den]
theorem den_mul_ne (x y : Rat) : ((x.den : Int) * y.den) ≠ 0 := by exact_mod_cast Nat.mul_ne_zero x.den_nz y.den_nz
theorem bd_mul {m n : Nat} {x y : Rat} (hx : Bd m x) (hy : Bd n y) : Bd (m + n) (x * y) := by
  rw [← mul_eq]
  exact bd_divInt (den_mul_ne x y) (natAbs_mul_lt hx.1 hy.1) (natAbs_mul_lt (den_lt hx) (den_lt hy))
theorem bd_neg {n : Nat} {x : Rat} (hx : Bd n x) : Bd n (-x) := ⟨by simpa using hx.1, by simpa using hx.2⟩
end
end PB
set_option Elab.async false
set_option linter.all false
set_option maxRecDepth 100000
set_option maxHeartbeats 1000000
set_option exponentiation.threshold 100000
namespace PB
open PySem
section
variable {k : Nat} {h : PH}
@[simp] theorem leans_nil : leans [] h = true := rfl
theorem frL_nil {g : PV → Sl → PH → Res Sl} {b : Sl → PH → Res Fl} {l : Lean_} {s : Sl} (hl : leans l h = true) : frL g b l [] s h = .ok (.nx s) h := by rw [frL, if_pos hl]
end
end PB
set_option Elab.async false
set_option linter.all false
set_option maxRecDepth 100000
set_option maxHeartbeats 1000000
set_option exponentiation.threshold 100000
namespace PB
open PySem
section
variable {k : Nat} {h t : PH} {o : PO}
theorem keepP_len {h h1 : PH} {v : PV} (e : h1.length = h.length) : keepP h h1 v = h1 := by
  unfold keepP
  split
  · rw [← e, List.take_length]
  · rfl
/-- the law's row -/
def Row (o : PO) : Prop := ∃ (ns : List Int) (p s b : Int), o = .lst [.scr (ns.map PV.int), .int p, .int s, .int b] ∧ ns.length ≤ 1000 ∧ 0 ≤ p ∧ 0 ≤ s ∧ s < 2147483647
theorem fmod_bd {a m : Int} (hm : 0 < m) : 0 ≤ a.fmod m ∧ a.fmod m < m := ⟨Int.fmod_nonneg_of_pos a hm, Int.fmod_lt_of_pos a hm⟩
theorem taken_ok {m : Int} (hm : 0 < m) (hz : m ≤ 1000000) (hr : Row o) : ∃ r o', 0 ≤ r ∧ r < m ∧ Row o' ∧ callF G (k + 1) 14 [.ref 0, .int m] (o :: t) = .ok (.int r) (o' :: t) := by
  obtain ⟨ns, p, s, b, rfl, hns, hp, hs0, hs1⟩ := hr
  have hm0 : m ≠ 0 := by omega
  have hl : m.natAbs.log2 < 9000 := by
    have : m.natAbs < 2 ^ 20 := by omega
    have := log2_lt this (by decide)
    omega
  have hmul : mulOk s 48271 = true := mulOk_of (m := 31) (n := 16) (by omega) (by decide) (by decide)
  by_cases hb : 0 < b
  · refine ⟨b.fmod m, .lst [.scr (ns.map PV.int), .int p, .int s, .int (b.fdiv m)], (fmod_bd hm).1, (fmod_bd hm).2, ⟨ns, p, s, _, rfl, hns, hp, hs0, hs1⟩, ?_⟩
    rw [callF_eq (f := f__law_taken) rfl rfl]
    simp only [f__law_taken, c__law_taken]
    simp [idxop, items, cmpop, hb, blt, binop, hm0, hl, setop, L2.ixN, keepP_len]
  · by_cases hlen : (ns.length : Int) < p + 1
    · refine ⟨((s * 48271 + 11).fmod 2147483647 |>.fdiv 7).fmod m, .lst [.scr (ns.map PV.int), .int (p + 1), .int ((s * 48271 + 11).fmod 2147483647), .int b], (fmod_bd hm).1, (fmod_bd hm).2, ⟨ns, p + 1, _, b, rfl, hns, by omega, (fmod_bd (by decide)).1, (fmod_bd (by decide)).2⟩, ?_⟩
      rw [callF_eq (f := f__law_taken) rfl rfl]
      have h7 : (7 : Nat).log2 < 9000 := by decide
      simp only [f__law_taken, c__law_taken]
      simp [idxop, items, cmpop, hb, blt, binop, hm0, hl, setop, L2.ixN, keepP_len, hlen, hmul, h7]
    · obtain ⟨c, hc⟩ : ∃ c, ns[p.toNat]? = some c := ⟨ns[p.toNat]'(by omega), List.getElem?_eq_getElem (by omega)⟩
      have hat : L2.atI (ns.map PV.int) p = some (.int c) := by rw [atI_nn hp, List.getElem?_map, hc]; rfl
      have h10 : (0 : Int) ≤ 18 ∧ (18 : Int) ≤ 1000 ∧ (10 : Int).natAbs < 2 ^ 64 := by decide
      refine ⟨c.fmod m, .lst [.scr (ns.map PV.int), .int (p + 1), .int ((s * 48271 + c + 11).fmod 2147483647), .int (if (10 : Int) ^ 18 ≤ c then c.fdiv m else b)], (fmod_bd hm).1, (fmod_bd hm).2, ⟨ns, p + 1, _, _, rfl, hns, by omega, (fmod_bd (by decide)).1, (fmod_bd (by decide)).2⟩, ?_⟩
      rw [callF_eq (f := f__law_taken) rfl rfl]
      simp only [f__law_taken, c__law_taken]
      by_cases hbig : (10 : Int) ^ 18 ≤ c
      · simp [idxop, items, cmpop, hb, blt, binop, hm0, hl, setop, L2.ixN, keepP_len, hlen, hmul, hat]
        simp at hbig
        simp [hbig, idxop, items, hm0, hl, keepP_len]
      · simp [idxop, items, cmpop, hb, blt, binop, hm0, hl, setop, L2.ixN, keepP_len, hlen, hmul, hat]
        simp at hbig
        have : ¬ (1000000000000000000 : Int) ≤ c := by omega
        simp [this, keepP_len]
end
end PB
set_option Elab.async false
set_option linter.all false
set_option maxRecDepth 100000
set_option maxHeartbeats 1000000
set_option exponentiation.threshold 100000
namespace PB
open PySem
section
variable {k : Nat} {h t : PH} {o : PO}
/-! ### comparisons of plain values -/
mutual
/-- None, ints, tuples of such, not deeper than n -/
def plain : Nat → PV → Bool
  | _, .non => true
  | _, .int _ => true
  | n + 1, .tup xs => plains n xs
  | _, _ => false
def plains : Nat → List PV → Bool
  | _, [] => true
  | n, x :: r => plain n x && plains n r
end
instance : DecidableEq PV := fun a b => if h : PV.same a b = true then .isTrue (PV.same_eq h) else .isFalse fun e => h (e ▸ PV.same_rfl a)
@[simp] theorem plain_fr {n : Nat} {q : Rat} : plain (n + 1) (fr q) = true := by simp [fr, plain, plains]
/-- rows of numbers -/
def frs (xs : List Rat) : List PV := xs.map fr
@[simp] theorem map_fr {xs : List Rat} : xs.map fr = frs xs := rfl
@[simp] theorem items_tup {xs : List PV} : items h (.tup xs) = some xs := rfl
@[simp] theorem leanOf_tup {xs : List PV} : leanOf h (.tup xs) = [] := rfl
@[simp] theorem frs_nil : frs [] = [] := rfl
@[simp] theorem frs_cons {a : Rat} {r : List Rat} : frs (a :: r) = fr a :: frs r := rfl
@[simp] theorem frs_len {xs : List Rat} : (frs xs).length = xs.length := List.length_map ..
@[simp] theorem frs_get {xs : List Rat} {i : Nat} : (frs xs)[i]? = xs[i]?.map fr := List.getElem?_map ..
@[simp] theorem frs_app {xs ys : List Rat} : frs xs ++ frs ys = frs (xs ++ ys) := List.map_append.symm
@[simp] theorem frs_rep {i : Nat} {q : Rat} : List.replicate i (fr q) = frs (List.replicate i q) := List.map_replicate.symm
@[simp] theorem frs_rev {xs : List Rat} : (frs xs).reverse = frs xs.reverse := List.map_reverse.symm
@[simp] theorem frs_last {xs : List Rat} : (frs xs).getLast? = xs.getLast?.map fr := List.getLast?_map ..
@[simp] theorem frs_take {xs : List Rat} {i : Nat} : (frs xs).take i = frs (xs.take i) := List.map_take.symm
@[simp] theorem frs_drop {xs : List Rat} {i : Nat} : (frs xs).drop i = frs (xs.drop i) := List.map_drop.symm
@[simp] theorem frs_set {xs : List Rat} {i : Nat} {q : Rat} : (frs xs).set i (fr q) = frs (xs.set i q) := List.map_set.symm
def pol (xs : List Rat) : PV := .tup (frs xs)
@[simp] theorem plains_frs {n : Nat} {xs : List Rat} : plains (n + 1) (frs xs) = true := by
  induction xs with
  | nil => simp [plains]
  | cons a r ih => simp only [frs, List.map_cons, plains, Bool.and_eq_true]; exact ⟨plain_fr, ih⟩
@[simp] theorem plain_pol {n : Nat} {xs : List Rat} : plain (n + 2) (pol xs) = true := by
  unfold pol; simp only [plain]; exact plains_frs
@[simp] theorem lows_frs {n : Nat} {xs : List Rat} : PV.lows n (frs xs) = true := by
  induction xs with
  | nil => simp [PV.lows]
  | cons a r ih => simp only [frs, List.map_cons, PV.lows, Bool.and_eq_true]; exact ⟨low_fr, ih⟩
@[simp] theorem low_pol {n : Nat} {xs : List Rat} : PV.low n (pol xs) = true := by unfold pol; simp only [PV.low]; exact lows_frs
@[simp] theorem keep_pol {xs : List Rat} : keepP h h (pol xs) = h := keepP_self low_pol
@[simp] theorem blt_len {a : PV} : blt .len [a] h = match items h a with | some xs => .ok (.int xs.length) h | none => .bad := rfl
@[simp] theorem blt_abs {i : Int} : blt .abs [.int i] h = .ok (.int i.natAbs) h := rfl
@[simp] theorem blt_min2 {i j : Int} : blt .min2 [.int i, .int j] h = .ok (.int (if j < i then j else i)) h := rfl
@[simp] theorem blt_max2 {i j : Int} : blt .max2 [.int i, .int j] h = .ok (.int (if i < j then j else i)) h := rfl
@[simp] theorem blt_gcd {i j : Int} : blt .gcd [.int i, .int j] h = .ok (.int (Nat.gcd i.natAbs j.natAbs : Nat)) h := rfl
@[simp] theorem blt_tuple {a : PV} : blt .tuple [a] h = match items h a with | some xs => .ok (.tup xs) h | none => .bad := rfl
@[simp] theorem blt_list {a : PV} : blt .list [a] h = match items h a with | some xs => alloc xs h | none => .bad := rfl
@[simp] theorem blt_int {i : Int} : blt .int [.int i] h = .ok (.int i) h := rfl
@[simp] theorem blt_isInt {a : PV} : blt .isInt [a] h = match kindOf h a with | some k => .ok (.bl (k == 2 || k == 1)) h | none => .bad := rfl
@[simp] theorem blt_isBool {a : PV} : blt .isBool [a] h = match kindOf h a with | some k => .ok (.bl (k == 1)) h | none => .bad := rfl
@[simp] theorem blt_isTup {a : PV} : blt .isTup [a] h = match kindOf h a with | some k => .ok (.bl (k == 4)) h | none => .bad := rfl
@[simp] theorem blt_isStr {a : PV} : blt .isStr [a] h = match kindOf h a with | some k => .ok (.bl (k == 3)) h | none => .bad := rfl
@[simp] theorem blt_isList {a : PV} : blt .isList [a] h = match kindOf h a with | some k => .ok (.bl (k == 5)) h | none => .bad := rfl
@[simp] theorem blt_isTL {a : PV} : blt .isTL [a] h = match kindOf h a with | some k => .ok (.bl (k == 4 || k == 5)) h | none => .bad := rfl
@[simp] theorem blt_all {n : Nat} : blt .all [.ref n] h = match h[n]? with
    | some (.lst xs) => match truths (· && ·) true xs with | some b => .ok (.bl b) h | none => .bad
    | none => .bad := rfl
@[simp] theorem blt_any {n : Nat} : blt .any [.ref n] h = match h[n]? with
    | some (.lst xs) => match truths (· || ·) false xs with | some b => .ok (.bl b) h | none => .bad
    | none => .bad := rfl
@[simp] theorem kindOf_non : kindOf h .non = some 0 := rfl
@[simp] theorem kindOf_bl {b : Bool} : kindOf h (.bl b) = some 1 := rfl
@[simp] theorem kindOf_int {b : Int} : kindOf h (.int b) = some 2 := rfl
@[simp] theorem kindOf_str {b : Str} : kindOf h (.str b) = some 3 := rfl
@[simp] theorem kindOf_tup {b : List PV} : kindOf h (.tup b) = some 4 := rfl
@[simp] theorem kindOf_ref {n : Nat} : kindOf h (.ref n) = h[n]?.map fun _ => 5 := by
  unfold kindOf
  simp only
  cases hx : h[n]? with
  | none => rfl
  | some c => cases c; rfl
def PO.xs : PO → List PV
  | .lst xs => xs
@[simp] theorem PO.xs_lst {xs : List PV} : (PO.lst xs).xs = xs := rfl
@[simp] theorem items_ref {n : Nat} : items h (.ref n) = h[n]?.map PO.xs := by
  unfold items
  simp only
  cases hx : h[n]? with
  | none => rfl
  | some c => cases c; rfl
@[simp] theorem leanOf_ref {n : Nat} : leanOf h (.ref n) = match h[n]? with | some c => [(n, c)] | none => [] := rfl
@[simp] theorem items_scr {xs : List PV} : items h (.scr xs) = some xs := rfl
@[simp] theorem leanOf_pol {xs : List Rat} : leanOf h (pol xs) = [] := rfl
@[simp] theorem leanOf_fr {xs : Rat} : leanOf h (fr xs) = [] := rfl
@[simp] theorem items_pol {xs : List Rat} : items h (pol xs) = some (frs xs) := rfl
@[simp] theorem items_fr {q : Rat} : items h (fr q) = some [.int q.num, .int q.den] := rfl
@[simp] theorem kindOf_fr {q : Rat} : kindOf h (fr q) = some 4 := rfl
@[simp] theorem kindOf_pol {q : List Rat} : kindOf h (pol q) = some 4 := rfl
end
end PB
set_option Elab.async false
set_option linter.all false
set_option maxRecDepth 100000
set_option maxHeartbeats 1000000
set_option exponentiation.threshold 100000
namespace PB
open PySem
section
variable {k : Nat} {h t : PH} {o : PO} {m n : Nat} {x y : Rat}
theorem bd_sub (hx : Bd m x) (hy : Bd n y) : Bd (m + n + 1) (x - y) := by
  rw [Rat.sub_eq_add_neg]
  exact (bd_add hx (bd_neg hy)).1
theorem num_ne {y : Rat} (h : y ≠ 0) : y.num ≠ 0 := fun e => h (Rat.num_eq_zero.mp e)
theorem div_eq (x : Rat) {y : Rat} (hy : y ≠ 0) : Rat.divInt (x.num * y.den) (x.den * y.num) = x / y := by
  rw [Rat.div_def, Rat.inv_def, ← Rat.num_divInt_den x]
  conv => rhs; rw [Rat.divInt_mul_divInt]
  rw [Rat.num_divInt_den]
theorem den_num_ne (x : Rat) {y : Rat} (hy : y ≠ 0) : ((x.den : Int) * y.num) ≠ 0 := Int.mul_ne_zero (by exact_mod_cast x.den_nz) (num_ne hy)
theorem bd_div (hx : Bd m x) (hy : Bd n y) (h0 : y ≠ 0) : Bd (m + n) (x / y) := by
  rw [← div_eq x h0]
  exact bd_divInt (den_num_ne x h0) (natAbs_mul_lt hx.1 (den_lt hy)) (natAbs_mul_lt (den_lt hx) hy.1)
theorem pow_le_pow {a b : Nat} (h : a ≤ b) : 2 ^ a ≤ 2 ^ b := Nat.pow_le_pow_right (by decide) h
theorem lt_pow {a m n : Nat} (h : a < 2 ^ m) (hk : m ≤ n) : a < 2 ^ n := Nat.lt_of_lt_of_le h (pow_le_pow hk)
theorem natAbs_sub_lt {a b : Int} {n : Nat} (ha : a.natAbs < 2 ^ n) (hb : b.natAbs < 2 ^ n) : (a - b).natAbs < 2 ^ (n + 1) := by
  rw [Nat.pow_succ]; omega
/-! ### the program's numbers -/
/-! ### the law's numbers -/
/-! ### draws -/
theorem Row.low {n : Nat} (hr : Row o) : PO.low n o = true := by
  obtain ⟨ns, p, s, b, rfl, _⟩ := hr
  have : PV.lows n (ns.map PV.int) = true := by
    induction ns with
    | nil => simp [PV.lows]
    | cons a r ih => simp only [List.map_cons, PV.lows, PV.low, Bool.true_and]; exact ih (by simp_all; omega)
  simp [PO.low, PV.lows, PV.low, this]
theorem pick_lst {xs : List PV} {i : Nat} (h0 : xs ≠ []) (hz : xs.length ≤ 1000000) (hr : Row o) (hi : t[i]? = some (.lst xs)) : ∃ v o', v ∈ xs ∧ Row o' ∧ callF G (k + 2) 17 [.ref 0, .ref (i + 1)] (o :: t) = .ok v (o' :: t) := by
  have hl : 0 < xs.length := List.length_pos_iff.mpr h0
  obtain ⟨r, o', h1, h2, h3, h4⟩ := taken_ok (k := k) (t := t) (m := xs.length) (by omega) (by omega) hr
  have hlt : r.toNat < xs.length := by omega
  refine ⟨xs[r.toNat], o', List.getElem_mem hlt, h3, ?_⟩
  rw [callF_eq (f := f__law_pick) rfl rfl]
  simp only [f__law_pick, c__law_pick]
  have ha : L2.atI xs r = some xs[r.toNat] := by rw [atI_nn h1, List.getElem?_eq_getElem hlt]
  simp [h4, idxop, ha, keepP_len, hi]
end
end PB
set_option Elab.async false
set_option linter.all false
set_option maxRecDepth 100000
set_option maxHeartbeats 1000000
set_option exponentiation.threshold 100000
namespace PB
open PySem
section
variable {k : Nat} {h t : PH} {o : PO} {m n : Nat} {x y : Rat}
@[simp] theorem get_app {α : Type} {h t : List α} {i : Nat} : (h ++ t)[h.length + i]? = t[i]? := by
  rw [List.getElem?_append_right (by omega)]; congr 1; omega
@[simp] theorem get_app0 {α : Type} {h t : List α} : (h ++ t)[h.length]? = t[0]? := by
  rw [List.getElem?_append_right (by omega)]; congr 1; omega
@[simp] theorem set_app {α : Type} {h t : List α} {i : Nat} {a : α} : (h ++ t).set (h.length + i) a = h ++ t.set i a := by
  rw [List.set_append_right _ _ (by omega)]; congr 2; omega
@[simp] theorem set_app0 {α : Type} {h t : List α} {a : α} : (h ++ t).set h.length a = h ++ t.set 0 a := by
  rw [List.set_append_right _ _ (by omega)]; congr 2; omega
@[simp] theorem keep_app {h t : PH} {v : PV} (hv : PV.low h.length v = true) : keepP h (h ++ t) v = h := keepP_app hv
/-! ### comprehensions and loops over a row that stands -/
/-! ### polynomials -/
def AllB (n : Nat) (xs : List Rat) : Prop := ∀ q ∈ xs, Bd n q
theorem AllB.mono {m n : Nat} {xs : List Rat} (h : AllB m xs) (hk : m ≤ n) : AllB n xs := fun q hq => (h q hq).mono hk
theorem bd0 (n : Nat) : Bd (n + 1) 0 := ⟨by simp <;> exact Nat.pow_pos (by decide), by simp <;> exact Nat.one_lt_two_pow (by omega)⟩
theorem bd1 (n : Nat) : Bd (n + 1) 1 := ⟨by simp <;> exact Nat.one_lt_two_pow (by omega), by simp <;> exact Nat.one_lt_two_pow (by omega)⟩
/-- the value -/
def pe : List Rat → Rat → Rat
  | [], _ => 0
  | a :: r, x => a + x * pe r x
end
end PB
set_option Elab.async false
set_option linter.all false
set_option maxRecDepth 100000
set_option maxHeartbeats 1000000
set_option exponentiation.threshold 100000
namespace PB
open PySem
section
variable {k : Nat} {h t : PH} {o : PO} {m n : Nat} {x y : Rat} {xs ys : List Rat}
@[simp] theorem low_bl {n : Nat} {b : Bool} : PV.low n (.bl b) = true := by simp [PV.low]
@[simp] theorem low_int {n : Nat} {b : Int} : PV.low n (.int b) = true := by simp [PV.low]
@[simp] theorem low_non {n : Nat} : PV.low n .non = true := by simp [PV.low]
end
end PB
set_option Elab.async false
set_option linter.all false
set_option maxRecDepth 100000
set_option maxHeartbeats 1000000
set_option exponentiation.threshold 100000
namespace PB
open PySem
section
variable {k : Nat} {h t : PH} {o : PO} {m n : Nat} {x y : Rat} {xs ys : List Rat}
/-! ### products -/
end
end PB
set_option Elab.async false
set_option linter.all false
set_option maxRecDepth 100000
set_option maxHeartbeats 1000000
set_option exponentiation.threshold 100000
namespace PB
open PySem
section
variable {k : Nat} {h t : PH} {o : PO} {m n : Nat} {x y : Rat} {xs ys : List Rat}
@[simp] theorem mul_lst {a : Nat} {xs : List PV} {k : Int} : binop .mul (.ref a) (.int k) h = match h[a]? with
    | some (.lst xs) => if -1000 ≤ k ∧ k ≤ many ∧ xs.length * k.toNat ≤ many then alloc (List.replicate k.toNat xs).flatten h else .bad
    | _ => .bad := rfl
@[simp] theorem add_int {i j : Int} : binop .add (.int i) (.int j) h = .ok (.int (i + j)) h := rfl
@[simp] theorem sub_int {i j : Int} : binop .sub (.int i) (.int j) h = .ok (.int (i - j)) h := rfl
@[simp] theorem mul_int {i j : Int} : binop .mul (.int i) (.int j) h = if mulOk i j = true then .ok (.int (i * j)) h else .bad := rfl
@[simp] theorem fdiv_int {i j : Int} : binop .fdiv (.int i) (.int j) h = if j ≠ 0 ∧ j.natAbs.log2 < 9000 then .ok (.int (i.fdiv j)) h else .bad := rfl
@[simp] theorem mod_int {i j : Int} : binop .mod (.int i) (.int j) h = if j ≠ 0 then .ok (.int (i.fmod j)) h else .bad := rfl
@[simp] theorem mul_tup {xs : List PV} {k : Int} : binop .mul (.tup xs) (.int k) h = if -1000 ≤ k ∧ k ≤ 1000 ∧ xs.length ≤ 1000 then .ok (.tup (List.replicate k.toNat xs).flatten) h else .bad := rfl
@[simp] theorem add_tup {xs ys : List PV} : binop .add (.tup xs) (.tup ys) h = if xs.length + ys.length ≤ many then .ok (.tup (xs ++ ys)) h else .bad := rfl
@[simp] theorem add_lst {a b : Nat} : binop .add (.ref a) (.ref b) h = match h[a]?, h[b]? with
    | some (.lst xs), some (.lst ys) => if xs.length + ys.length ≤ many then alloc (xs ++ ys) h else .bad
    | _, _ => .bad := rfl
@[simp] theorem cmp_eq {a b : PV} : cmpop .eq a b h = match eqD h a b with | some r => .ok (.bl r) h | none => .bad := rfl
@[simp] theorem cmp_ne {a b : PV} : cmpop .ne a b h = match eqD h a b with | some r => .ok (.bl (!r)) h | none => .bad := rfl
@[simp] theorem cmp_lt {i j : Int} : cmpop .lt (.int i) (.int j) h = .ok (.bl (decide (i < j))) h := rfl
@[simp] theorem cmp_le {i j : Int} : cmpop .le (.int i) (.int j) h = .ok (.bl (decide (i ≤ j))) h := rfl
@[simp] theorem cmp_gt {i j : Int} : cmpop .gt (.int i) (.int j) h = .ok (.bl (decide (j < i))) h := rfl
@[simp] theorem cmp_ge {i j : Int} : cmpop .ge (.int i) (.int j) h = .ok (.bl (decide (j ≤ i))) h := rfl
@[simp] theorem cmp_isN {a : PV} : cmpop .isN a .non h = .ok (.bl (match a with | .non => true | _ => false)) h := rfl
@[simp] theorem cmp_notN {a : PV} : cmpop .notN a .non h = .ok (.bl (match a with | .non => false | _ => true)) h := rfl
end
end PB
set_option Elab.async false
set_option linter.all false
set_option maxRecDepth 100000
set_option maxHeartbeats 1000000
set_option exponentiation.threshold 100000
namespace PB
open PySem
section
variable {k : Nat} {h t : PH} {o : PO} {m n : Nat} {x y : Rat} {xs ys : List Rat}
end
end PB
set_option Elab.async false
set_option linter.all false
set_option maxRecDepth 100000
set_option maxHeartbeats 1000000
set_option exponentiation.threshold 100000
namespace PB
open PySem
section
variable {k : Nat} {h t : PH} {o : PO} {m n : Nat} {x y : Rat} {xs ys : List Rat}
end
end PB
set_option Elab.async false
set_option linter.all false
set_option maxRecDepth 100000
set_option maxHeartbeats 1000000
set_option exponentiation.threshold 100000
namespace PB
open PySem
section
variable {k : Nat} {h t : PH} {o : PO} {m n : Nat} {x y : Rat} {xs ys : List Rat}
@[simp] theorem frL_nil' {g : PV → Sl → PH → Res Sl} {b : Sl → PH → Res Fl} {s : Sl} {h : PH} : frL g b [] [] s h = .ok (.nx s) h := frL_nil rfl
/-! ### the law's product -/
end
end PB
set_option Elab.async false
set_option linter.all false
set_option maxRecDepth 100000
set_option maxHeartbeats 1000000
set_option exponentiation.threshold 100000
namespace PB
open PySem
section
variable {k : Nat} {h t : PH} {o : PO} {m n : Nat} {x y : Rat} {xs ys : List Rat}
@[simp] theorem eqD_ii {i j : Int} : eqD h (.int i) (.int j) = some (decide (i = j)) := rfl
@[simp] theorem eqD_nn : eqD h .non .non = some true := rfl
@[simp] theorem eqD_in {i : Int} : eqD h (.int i) .non = some false := rfl
@[simp] theorem eqD_ni {i : Int} : eqD h .non (.int i) = some false := rfl
@[simp] theorem eqD_bb {a b : Bool} : eqD h (.bl a) (.bl b) = some (a == b) := rfl
end
end PB
set_option Elab.async false
set_option linter.all false
set_option maxRecDepth 100000
set_option maxHeartbeats 1000000
set_option exponentiation.threshold 100000
namespace PB
open PySem
section
variable {k : Nat} {h t : PH} {o : PO} {m n : Nat} {x y : Rat} {xs ys : List Rat}
end
end PB
set_option Elab.async false
set_option linter.all false
set_option maxRecDepth 100000
set_option maxHeartbeats 1000000
set_option exponentiation.threshold 100000
namespace PB
open PySem
section
variable {k : Nat} {h t : PH} {o : PO} {m n : Nat} {x y : Rat} {xs ys : List Rat}
/-! ### a polynomial is told by its values -/
/-! ### scaled -/
/-! ### composed -/
end
end PB
set_option Elab.async false
set_option linter.all false
set_option maxRecDepth 100000
set_option maxHeartbeats 1000000
set_option exponentiation.threshold 100000
namespace PB
open PySem
section
variable {k : Nat} {h t : PH} {o : PO} {m n : Nat} {x y : Rat} {xs ys : List Rat}
end
end PB
set_option Elab.async false
set_option linter.all false
set_option maxRecDepth 100000
set_option maxHeartbeats 1000000
set_option exponentiation.threshold 100000
namespace PB
open PySem
section
variable {k : Nat} {h t : PH} {o : PO} {m n : Nat} {x y : Rat} {xs ys : List Rat}
/-! ### derivatives and integrals of rows -/
def itg : Nat → List Rat → List Rat
  | _, [] => []
  | i, a :: r => (a * Rat.divInt 1 ((i : Int) + 1)) :: itg (i + 1) r
def iv (xs : List Rat) (x : Rat) : Rat := x * pe (itg 0 xs) x
/-! ### the program's derivative and integral -/
end
end PB
set_option Elab.async false
set_option linter.all false
set_option maxRecDepth 100000
set_option maxHeartbeats 1000000
set_option exponentiation.threshold 100000
namespace PB
open PySem
section
variable {k : Nat} {h t : PH} {o : PO} {m n : Nat} {x y : Rat} {xs ys : List Rat}
end
end PB
set_option Elab.async false
set_option linter.all false
set_option maxRecDepth 100000
set_option maxHeartbeats 1000000
set_option exponentiation.threshold 100000
namespace PB
open PySem
section
/-! ### loops by invariants -/
end
/-! ### rows with one denominator -/
def CD (a d : Nat) (xs : List Rat) : Prop := ∃ D : Int, D ≠ 0 ∧ D.natAbs < 2 ^ d ∧ ∀ q ∈ xs, ∃ A : Int, q * (D : Rat) = (A : Rat) ∧ A.natAbs < 2 ^ a
section
variable {k : Nat} {h t : PH} {o : PO} {m n a b c d e : Nat} {x y : Rat} {xs ys : List Rat}
theorem CD.mono (h : CD a d xs) (h1 : a ≤ b) (h2 : d ≤ e) : CD b e xs := by
  obtain ⟨D, d0, d1, dx⟩ := h
  exact ⟨D, d0, lt_pow d1 h2, fun q hq => let ⟨A, e1, e2⟩ := dx q hq; ⟨A, e1, lt_pow e2 h1⟩⟩
theorem CD.sub (h : CD a d xs) (hs : ∀ q ∈ ys, q ∈ xs) : CD a d ys := by
  obtain ⟨D, d0, d1, dx⟩ := h
  exact ⟨D, d0, d1, fun q hq => dx q (hs q hq)⟩
theorem ratInt_ne {D : Int} (h : D ≠ 0) : (D : Rat) ≠ 0 := by
  intro z; exact h (by exact_mod_cast z)
theorem bd_of_frac {A D : Int} {q : Rat} (h0 : D ≠ 0) (hq : q * (D : Rat) = (A : Rat)) (h1 : A.natAbs < 2 ^ n) (h2 : D.natAbs < 2 ^ n) : Bd n q := by
  have hD := ratInt_ne h0
  have : q = Rat.divInt A D := by
    rw [Rat.divInt_eq_div, ← hq]; grind
  rw [this]
  exact bd_divInt h0 h1 h2
theorem CD.all (h : CD a d xs) (h1 : a ≤ n) (h2 : d ≤ n) : AllB n xs := by
  obtain ⟨D, d0, d1, dx⟩ := h
  intro q hq
  obtain ⟨A, e1, e2⟩ := dx q hq
  exact bd_of_frac d0 e1 (lt_pow e2 h1) (lt_pow d1 h2)
theorem num_den (q : Rat) : q * ((q.den : Int) : Rat) = (q.num : Rat) := by
  have h := Rat.num_divInt_den q
  have hd : ((q.den : Int) : Rat) ≠ 0 := ratInt_ne (by exact_mod_cast q.den_nz)
  rw [Rat.divInt_eq_div] at h
  generalize hz : ((q.den : Int) : Rat) = z at *
  generalize (q.num : Rat) = w at *
  rw [← h]
  grind
theorem CD.one (h : Bd n x) : CD n n [x] := ⟨x.den, by exact_mod_cast x.den_nz, by simpa using h.2, fun q hq => by
  simp at hq; subst hq
  exact ⟨q.num, num_den q, h.1⟩⟩
theorem CD.nil : CD 0 1 [] := ⟨1, by decide, by decide, fun q hq => by simp at hq⟩
theorem CD.take (h : CD a d xs) (i : Nat) : CD a d (xs.take i) := h.sub fun q hq => List.mem_of_mem_take hq
/-- both on one denominator -/
theorem CD.both (h1 : CD a d xs) (h2 : CD b e ys) : ∃ D : Int, D ≠ 0 ∧ D.natAbs < 2 ^ (d + e) ∧ (∀ q ∈ xs, ∃ A : Int, q * (D : Rat) = (A : Rat) ∧ A.natAbs < 2 ^ (a + e)) ∧ (∀ q ∈ ys, ∃ A : Int, q * (D : Rat) = (A : Rat) ∧ A.natAbs < 2 ^ (b + d)) := by
  obtain ⟨D, d0, d1, dx⟩ := h1
  obtain ⟨E, e0, e1, ey⟩ := h2
  refine ⟨D * E, Int.mul_ne_zero d0 e0, natAbs_mul_lt d1 e1, fun q hq => ?_, fun q hq => ?_⟩
  · obtain ⟨A, q1, q2⟩ := dx q hq
    refine ⟨A * E, ?_, natAbs_mul_lt q2 e1⟩
    rw [Rat.intCast_mul, Rat.intCast_mul, ← q1]; grind
  · obtain ⟨A, q1, q2⟩ := ey q hq
    refine ⟨A * D, ?_, natAbs_mul_lt q2 d1⟩
    rw [Rat.intCast_mul, Rat.intCast_mul, ← q1]; grind
theorem CD.app (h1 : CD a d xs) (h2 : CD b e ys) : CD (max (a + e) (b + d)) (d + e) (xs ++ ys) := by
  obtain ⟨D, d0, d1, dx, dy⟩ := h1.both h2
  refine ⟨D, d0, d1, fun q hq => ?_⟩
  rcases List.mem_append.mp hq with hq | hq
  · obtain ⟨A, q1, q2⟩ := dx q hq; exact ⟨A, q1, lt_pow q2 (by omega)⟩
  · obtain ⟨A, q1, q2⟩ := dy q hq; exact ⟨A, q1, lt_pow q2 (by omega)⟩
end
end PB
set_option Elab.async false
set_option linter.all false
set_option maxRecDepth 100000
set_option maxHeartbeats 1000000
set_option exponentiation.threshold 100000
namespace PB
open PySem
section
variable {k : Nat} {h t : PH} {o : PO} {m n a b c d e : Nat} {x y : Rat} {xs ys us : List Rat}
/-! ### binomial numbers -/
def bin : Nat → Nat → Nat
  | _, 0 => 1
  | 0, _ + 1 => 0
  | n + 1, j + 1 => bin n j + bin n (j + 1)
/-! ### sums of rows -/
/-! ### symmetric sums -/
end
end PB
set_option Elab.async false
set_option linter.all false
set_option maxRecDepth 100000
set_option maxHeartbeats 1000000
set_option exponentiation.threshold 100000
namespace PB
open PySem
section
variable {k : Nat} {h t : PH} {o : PO} {m n a b c d e : Nat} {x y : Rat} {xs ys us : List Rat}
/-! ### blossoms -/
/-! ### what blossoms keep -/
end
end PB
set_option Elab.async false
set_option linter.all false
set_option maxRecDepth 100000
set_option maxHeartbeats 1000000
set_option exponentiation.threshold 100000
namespace PB
open PySem
section
variable {k : Nat} {h t : PH} {o : PO} {m n a b c d e : Nat} {x y : Rat} {xs ys us : List Rat}
def isT : Res PV → Bool
  | .ok (.bl b) _ => b
  | _ => false
@[simp] theorem isT_ok {p : Bool} : isT (.ok (.bl p) h) = p := rfl
end
end PB
set_option Elab.async false
set_option linter.all false
set_option maxRecDepth 100000
set_option maxHeartbeats 1000000
set_option exponentiation.threshold 100000
namespace PB
open PySem
section
variable {k : Nat} {h t : PH} {o : PO} {m n a b c d e : Nat} {x y : Rat} {xs ys us : List Rat}
/-! ### products with one denominator -/
def CN (N : Nat) (D : Int) (xs : List Rat) : Prop := ∀ q ∈ xs, ∃ A : Int, q * (D : Rat) = (A : Rat) ∧ A.natAbs ≤ N
theorem CN.mono {N M : Nat} {D : Int} (h : CN N D xs) (hk : N ≤ M) : CN M D xs := fun q hq => let ⟨A, e1, e2⟩ := h q hq; ⟨A, e1, by omega⟩
end
end PB
set_option Elab.async false
set_option linter.all false
set_option maxRecDepth 100000
set_option maxHeartbeats 1000000
set_option exponentiation.threshold 100000
namespace PB
open PySem
section
variable {k : Nat} {h t : PH} {o : PO} {m n a b c d e : Nat} {x y : Rat} {xs ys us : List Rat}
/-! ### finite sums -/
def sumTo (f : Nat → Rat) : Nat → Rat
  | 0 => 0
  | n + 1 => sumTo f n + f n
/-! ### rows -/
/-! ### the law's polynomial of a row -/
end
end PB
set_option Elab.async false
set_option linter.all false
set_option maxRecDepth 100000
set_option maxHeartbeats 1000000
set_option exponentiation.threshold 100000
namespace PB
open PySem
section
variable {k : Nat} {h t : PH} {o : PO} {m n a b c d e : Nat} {x y : Rat} {xs ys us : List Rat}
/-! ### the ladder of averages -/
/-- rows that stand in the heap, none of them at p -/
def Rws (H : PH) (p : Nat) : List PV → List (List Rat) → Prop
  | [], [] => True
  | v :: vs, R :: Rs => (∃ q, v = .ref q ∧ q ≠ p ∧ H[q]? = some (.lst (frs R))) ∧ Rws H p vs Rs
  | _, _ => False
theorem Rws.mono {H H' : PH} {p : Nat} (hH : ∀ q c, q ≠ p → H[q]? = some c → H'[q]? = some c) : ∀ {rs : List PV} {Rs : List (List Rat)}, Rws H p rs Rs → Rws H' p rs Rs
  | [], [], _ => trivial
  | _ :: _, _ :: _, ⟨⟨q, e1, e2, e3⟩, hr⟩ => ⟨⟨q, e1, e2, hH q _ e2 e3⟩, Rws.mono hH hr⟩
  | [], _ :: _, h => h.elim
  | _ :: _, [], h => h.elim
theorem Rws.len {H : PH} {p : Nat} : ∀ {rs : List PV} {Rs : List (List Rat)}, Rws H p rs Rs → rs.length = Rs.length
  | [], [], _ => rfl
  | _ :: _, _ :: _, ⟨_, hr⟩ => by rw [List.length_cons, List.length_cons, hr.len]
  | [], _ :: _, h => h.elim
  | _ :: _, [], h => h.elim
theorem Rws.get {H : PH} {p : Nat} : ∀ {rs : List PV} {Rs : List (List Rat)} {i : Nat} {R : List Rat}, Rws H p rs Rs → Rs[i]? = some R → ∃ q, rs[i]? = some (.ref q) ∧ q ≠ p ∧ H[q]? = some (.lst (frs R))
  | [], [], i, R, _, h => by simp at h
  | _ :: _, _ :: _, 0, R, ⟨⟨q, e1, e2, e3⟩, _⟩, h => by simp at h; subst h; subst e1; exact ⟨q, rfl, e2, e3⟩
  | _ :: _, _ :: _, i + 1, R, ⟨_, hr⟩, h => by
    obtain ⟨q, e1, e2⟩ := hr.get (i := i) (by simpa using h)
    exact ⟨q, by simpa using e1, e2⟩
  | [], _ :: _, _, _, h, _ => h.elim
  | _ :: _, [], _, _, h, _ => h.elim
end
end PB
set_option Elab.async false
set_option linter.all false
set_option maxRecDepth 100000
set_option maxHeartbeats 1000000
set_option exponentiation.threshold 100000
namespace PB
open PySem
section
variable {k : Nat} {h t : PH} {o : PO} {m n a b c d e : Nat} {x y : Rat} {xs ys us : List Rat}
end
end PB
set_option Elab.async false
set_option linter.all false
set_option maxRecDepth 100000
set_option maxHeartbeats 1000000
set_option exponentiation.threshold 100000
namespace PB
open PySem
section
variable {k : Nat} {h t : PH} {o : PO} {m n a b c d e : Nat} {x y : Rat} {xs ys us : List Rat}
/-- a row built number by number -/
def tbl (f : Nat → Rat) (n : Nat) : List Rat := (List.range' 0 n).map f
/-! ### one degree more -/
/-- number j of the row raised -/
def rse (xs : List Rat) (j : Nat) : Rat := xs[j]?.getD 0 + ((j : Rat) / (xs.length : Rat)) * (xs[j - 1]?.getD 0 - xs[j]?.getD 0)
def raise (xs : List Rat) : List Rat := tbl (fun j => if j = 0 then xs[0]?.getD 0 else if j = xs.length then xs[xs.length - 1]?.getD 0 else rse xs j) (xs.length + 1)
/-! ### one degree less -/
end
end PB
set_option Elab.async false
set_option linter.all false
set_option maxRecDepth 100000
set_option maxHeartbeats 1000000
set_option exponentiation.threshold 100000
namespace PB
open PySem
section
variable {k : Nat} {h t : PH} {o : PO} {m n a b c d e : Nat} {x y : Rat} {xs ys us : List Rat}
/-! ### lowered -/
/-! ### the coefficient of the greatest power -/
/-! ### sizes -/
end
end PB
set_option Elab.async false
set_option linter.all false
set_option maxRecDepth 100000
set_option maxHeartbeats 1000000
set_option exponentiation.threshold 100000
namespace PB
open PySem
section
variable {k : Nat} {h t : PH} {o : PO} {m n a b c d e : Nat} {x y : Rat} {xs ys us : List Rat}
/-! ### slopes -/
/-! ### products -/
theorem rpow_add (x : Rat) (a : Nat) : ∀ b : Nat, x ^ (a + b) = x ^ a * x ^ b
  | 0 => by rw [Nat.add_zero, Rat.pow_zero, Rat.mul_one]
  | b + 1 => by rw [← Nat.add_assoc, Rat.pow_succ, rpow_add x a b, Rat.pow_succ]; grind
/-! ### slopes of polynomials -/
end
end PB
set_option Elab.async false
set_option linter.all false
set_option maxRecDepth 100000
set_option maxHeartbeats 1000000
set_option exponentiation.threshold 100000
namespace PB
open PySem
section
variable {k : Nat} {h t : PH} {o : PO} {m n a b c d e : Nat} {x y : Rat} {xs ys us : List Rat}
end
end PB
set_option Elab.async false
set_option linter.all false
set_option maxRecDepth 100000
set_option maxHeartbeats 1000000
set_option exponentiation.threshold 100000
namespace PB
open PySem
section
variable {k : Nat} {h t : PH} {o : PO} {m n a b c d e : Nat} {x y : Rat} {xs ys us : List Rat}
end
end PB
set_option Elab.async false
set_option linter.all false
set_option maxRecDepth 100000
set_option maxHeartbeats 1000000
set_option exponentiation.threshold 100000
namespace PB
open PySem
section
variable {k : Nat} {h t : PH} {o : PO} {m n a b c d e : Nat} {x y : Rat} {xs ys us P : List Rat}
/-! ### polynomials moved -/
/-! ### control rows -/
end
end PB
set_option Elab.async false
set_option linter.all false
set_option maxRecDepth 100000
set_option maxHeartbeats 1000000
set_option exponentiation.threshold 100000
namespace PB
open PySem
section
variable {k : Nat} {h t : PH} {o : PO} {m n a b c d e : Nat} {x y : Rat} {xs ys us P : List Rat}
/-! ### rows of blossoms -/
/-! ### both parts of a row -/
theorem Rws.app {H : PH} {p : Nat} : ∀ {rs qs : List PV} {Rs Qs : List (List Rat)}, Rws H p rs Rs → Rws H p qs Qs → Rws H p (rs ++ qs) (Rs ++ Qs)
  | [], _, [], _, _, h2 => h2
  | _ :: _, _, _ :: _, _, ⟨h1, hr⟩, h2 => ⟨h1, Rws.app hr h2⟩
  | [], _, _ :: _, _, h, _ => h.elim
  | _ :: _, _, [], _, h, _ => h.elim
theorem Rws.rev {H : PH} {p : Nat} : ∀ {rs : List PV} {Rs : List (List Rat)}, Rws H p rs Rs → Rws H p rs.reverse Rs.reverse
  | [], [], _ => trivial
  | _ :: _, _ :: _, ⟨h1, hr⟩ => by
    rw [List.reverse_cons, List.reverse_cons]
    exact (Rws.rev hr).app ⟨h1, trivial⟩
  | [], _ :: _, h => h.elim
  | _ :: _, [], h => h.elim
end
end PB
set_option Elab.async false
set_option linter.all false
set_option maxRecDepth 100000
set_option maxHeartbeats 1000000
set_option exponentiation.threshold 100000
namespace PB
open PySem
section
variable {k : Nat} {h t : PH} {o : PO} {m n a b c d e : Nat} {x y : Rat} {xs ys us P : List Rat}
/-! ### changes of signs -/
/-! ### variation -/
end
end PB
set_option Elab.async false
set_option linter.all false
set_option maxRecDepth 100000
set_option maxHeartbeats 1000000
set_option exponentiation.threshold 100000
namespace PB
open PySem
section
variable {k : Nat} {h t : PH} {o : PO} {m n a b c d e : Nat} {x y : Rat} {xs ys us P : List Rat}
/-! ### a corner cut -/
end
end PB
set_option Elab.async false
set_option linter.all false
set_option maxRecDepth 100000
set_option maxHeartbeats 1000000
set_option exponentiation.threshold 100000
namespace PB
open PySem
section
variable {k : Nat} {h t : PH} {o : PO} {m n a b c d e : Nat} {x y : Rat} {xs ys us P : List Rat}
/-! ### all choices of places -/
/-! ### one place left out -/
/-! ### the walk -/
end
end PB
set_option Elab.async false
set_option linter.all false
set_option maxRecDepth 100000
set_option maxHeartbeats 1000000
set_option exponentiation.threshold 100000
namespace PB
open PySem
section
variable {k : Nat} {h t : PH} {o : PO} {m n a b c d e u v : Nat} {x y : Rat} {xs ys us P : List Rat}
/-! ### division -/
/-! ### sizes -/
/-! ### the walk -/
end
end PB
set_option Elab.async false
set_option linter.all false
set_option maxRecDepth 100000
set_option maxHeartbeats 1000000
set_option exponentiation.threshold 100000
namespace PB
open PySem
section
variable {k : Nat} {h t : PH} {o : PO} {m n a b c d e u v : Nat} {x y : Rat} {xs ys us P : List Rat}
/-! ### what divides -/
def Dv (g xs : List Rat) : Prop := ∃ q : List Rat, ∀ x, pe xs x = pe q x * pe g x
theorem Dv.nil (g : List Rat) : Dv g [] := ⟨[], fun x => by simp [pe]⟩
end
end PB
set_option Elab.async false
set_option linter.all false
set_option maxRecDepth 100000
set_option maxHeartbeats 1000000
set_option exponentiation.threshold 100000
namespace PB
open PySem
section
variable {k : Nat} {h t : PH} {o : PO} {m n a b c d e u v : Nat} {x y : Rat} {xs ys us P : List Rat}
/-! ### the greatest common divisor -/
end
end PB
set_option Elab.async false
set_option linter.all false
set_option maxRecDepth 100000
set_option maxHeartbeats 1000000
set_option exponentiation.threshold 100000
namespace PB
open PySem
section
variable {k : Nat} {h t : PH} {o : PO} {m n a b c d e u v : Nat} {x y : Rat} {xs ys us P : List Rat}
/-! ### sharper sizes -/
/-! ### one of another, a line -/
/-! ### the program's polynomial of a row -/
end
end PB
set_option Elab.async false
set_option linter.all false
set_option maxRecDepth 100000
set_option maxHeartbeats 1000000
set_option exponentiation.threshold 100000
namespace PB
open PySem
section
variable {k : Nat} {h t : PH} {o : PO} {m n a b c d e u v : Nat} {x y : Rat} {xs ys us P : List Rat}
/-! ### sizes of rows of blossoms -/
/-! ### polynomials of rows on intervals -/
/-! ### the law's intervals -/
end
end PB
set_option Elab.async false
set_option linter.all false
set_option maxRecDepth 100000
set_option maxHeartbeats 1000000
set_option exponentiation.threshold 100000
namespace PB
open PySem
section
variable {k : Nat} {h t : PH} {o : PO} {m n a b c d e : Nat} {x y : Rat} {xs ys us T : List Rat}
/-! ### splines: knots, basis functions -/
/-- knots of a degree: they rise, at most d + 1 of them alike -/
def Kn (d : Nat) (T : List Rat) : Prop := (∀ i, i + 1 < T.length → T.getD i 0 ≤ T.getD (i + 1) 0) ∧ ∀ i, i + d + 1 < T.length → T.getD i 0 < T.getD (i + d + 1) 0
end
end PB
set_option Elab.async false
set_option linter.all false
set_option maxRecDepth 100000
set_option maxHeartbeats 1000000
set_option exponentiation.threshold 100000
namespace PB
open PySem
section
variable {k : Nat} {h t : PH} {o : PO} {m n a b c d e : Nat} {x y : Rat} {xs ys us T : List Rat}
/-! ### basis functions as divided differences -/
/-! ### sizes -/
def PK (j : Nat) (q : Rat) : Prop := ∃ N : Int, q * 2520 = N ∧ N.natAbs ≤ 17640 + 15120 * j
theorem PK.mono {i j : Nat} {q : Rat} (h : PK i q) (hij : i ≤ j) : PK j q := by
  obtain ⟨N, h1, h2⟩ := h
  exact ⟨N, h1, by have := Nat.mul_le_mul_left 15120 hij; omega⟩
theorem PK.of {q : Rat} (h : Bd 3 q) : PK 0 q := by
  obtain ⟨h1, h2⟩ := h
  have h3 := q.den_pos
  obtain ⟨c, hc⟩ : ∃ c : Nat, q.den * c = 2520 := by
    have : q.den = 1 ∨ q.den = 2 ∨ q.den = 3 ∨ q.den = 4 ∨ q.den = 5 ∨ q.den = 6 ∨ q.den = 7 := by omega
    rcases this with e | e | e | e | e | e | e <;> rw [e]
    · exact ⟨2520, rfl⟩
    · exact ⟨1260, rfl⟩
    · exact ⟨840, rfl⟩
    · exact ⟨630, rfl⟩
    · exact ⟨504, rfl⟩
    · exact ⟨420, rfl⟩
    · exact ⟨360, rfl⟩
  refine ⟨q.num * c, ?_, ?_⟩
  · have e : ((2520 : Int) : Rat) = ((q.den : Int) : Rat) * ((c : Int) : Rat) := by rw [← Rat.intCast_mul, ← Int.natCast_mul, hc]; rfl
    have e' : (2520 : Rat) = ((q.den : Int) : Rat) * ((c : Int) : Rat) := e
    rw [e', Rat.intCast_mul, ← num_den q]; grind
  · rw [Int.natAbs_mul]
    have hcle : c ≤ 2520 := by
      rw [← hc]; exact Nat.le_mul_of_pos_left c h3
    have : q.num.natAbs * (c : Int).natAbs ≤ 7 * 2520 := Nat.mul_le_mul (by omega) (by simpa using hcle)
    omega
theorem PK.bd {j : Nat} {q : Rat} (h : PK j q) (hj : j ≤ 5) : Bd 17 q := by
  obtain ⟨N, h1, h2⟩ := h
  have : CD 17 12 [q] := ⟨2520, by decide, by decide, fun z hz => by
    rw [List.mem_singleton] at hz; subst hz
    exact ⟨N, h1, by omega⟩⟩
  exact this.all (n := 17) (by decide) (by decide) q (by simp)
/-! ### the law -/
section
variable {v0 v1 v2 v5 v6 v9 v11 s3 s4 s10 s11 : Option PV} {junk : PH}
end
end
end PB
set_option Elab.async false
set_option linter.all false
set_option maxRecDepth 100000
set_option maxHeartbeats 1000000
set_option exponentiation.threshold 100000
namespace PB
open PySem
section
variable {k : Nat} {h t u : PH} {o : PO} {m n a b c d e p : Nat} {x y q : Rat} {xs ys us T : List Rat}
/-! ### sorting by insertion -/
/-! ### drawn knots -/
def cnt (q : Rat) (F : List Rat) : Nat := (F.filter fun z => decide (z = q)).length
def PQ (m : Nat) (q : Rat) : Prop := ∃ N : Int, q * 420 = N ∧ N.natAbs ≤ m
theorem PQ.mono {m n : Nat} {q : Rat} (h : PQ m q) (hmn : m ≤ n) : PQ n q := by
  obtain ⟨N, h1, h2⟩ := h; exact ⟨N, h1, by omega⟩
theorem PQ.of {q : Rat} (h : Bd 3 q) : PQ 2940 q := by
  obtain ⟨N, h1, h2⟩ := PK.of h
  obtain ⟨g1, g2⟩ := h
  have h3 := q.den_pos
  obtain ⟨c, hc⟩ : ∃ c : Nat, q.den * c = 420 := by
    have : q.den = 1 ∨ q.den = 2 ∨ q.den = 3 ∨ q.den = 4 ∨ q.den = 5 ∨ q.den = 6 ∨ q.den = 7 := by omega
    rcases this with e | e | e | e | e | e | e <;> rw [e]
    · exact ⟨420, rfl⟩
    · exact ⟨210, rfl⟩
    · exact ⟨140, rfl⟩
    · exact ⟨105, rfl⟩
    · exact ⟨84, rfl⟩
    · exact ⟨70, rfl⟩
    · exact ⟨60, rfl⟩
  refine ⟨q.num * c, ?_, ?_⟩
  · have e : ((420 : Int) : Rat) = ((q.den : Int) : Rat) * ((c : Int) : Rat) := by rw [← Rat.intCast_mul, ← Int.natCast_mul, hc]; rfl
    have e' : (420 : Rat) = ((q.den : Int) : Rat) * ((c : Int) : Rat) := e
    rw [e', Rat.intCast_mul, ← num_den q]; grind
  · rw [Int.natAbs_mul]
    have hcle : c ≤ 420 := by
      rw [← hc]; exact Nat.le_mul_of_pos_left c h3
    have : q.num.natAbs * (c : Int).natAbs ≤ 7 * 420 := Nat.mul_le_mul (by omega) (by simpa using hcle)
    omega
theorem PQ.succ {m : Nat} {q : Rat} (h : PQ m q) : PQ (m + 420) (q + 1) := by
  obtain ⟨N, h1, h2⟩ := h
  refine ⟨N + 420, ?_, by omega⟩
  rw [Rat.intCast_add, ← h1]
  have : ((420 : Int) : Rat) = 420 := rfl
  rw [this]; grind
theorem PQ.bd {m : Nat} {q : Rat} (h : PQ m q) (hm : m < 131072) : Bd 17 q := by
  obtain ⟨N, h1, h2⟩ := h
  have : CD 17 9 [q] := ⟨420, by decide, by decide, fun z hz => by
    rw [List.mem_singleton] at hz; subst hz
    exact ⟨N, h1, by omega⟩⟩
  exact this.all (n := 17) (by decide) (by decide) q (by simp)
end
end PB
set_option Elab.async false
set_option linter.all false
set_option maxRecDepth 100000
set_option maxHeartbeats 1000000
set_option exponentiation.threshold 100000
namespace PB
open PySem
section
variable {k : Nat} {h t u : PH} {o : PO} {m n a b c d e p : Nat} {x y q : Rat} {xs ys us T : List Rat}
/-! ### basis functions: their support, their signs, their sum -/
/-! ### sizes of the values -/
end
end PB
set_option Elab.async false
set_option linter.all false
set_option maxRecDepth 100000
set_option maxHeartbeats 1000000
set_option exponentiation.threshold 100000
namespace PB
open PySem
section
variable {k : Nat} {h t u : PH} {o : PO} {m n a b c d e p : Nat} {x y q : Rat} {xs ys us T P R : List Rat}
/-! ### Marsden's identity -/
/-! ### coefficients, means -/
/-- numbers over 3360 -/
def PE (q : Rat) : Prop := ∃ N : Int, q * 3360 = N ∧ N.natAbs ≤ 829920
theorem PQ.pe {q : Rat} (h : PQ 103740 q) : PE q := by
  obtain ⟨N, h1, h2⟩ := h
  refine ⟨N * 8, ?_, by omega⟩
  rw [Rat.intCast_mul, ← h1]
  have : ((8 : Int) : Rat) = 8 := rfl
  rw [this]; grind
end
end PB
set_option Elab.async false
set_option linter.all false
set_option maxRecDepth 100000
set_option maxHeartbeats 1000000
set_option exponentiation.threshold 100000
namespace PB
open PySem
section
variable {k : Nat} {h t u : PH} {o : PO} {m n a b c d e p : Nat} {x y q : Rat} {xs ys us T P R : List Rat}
/-! ### a basis function's polynomial on a span -/
end
end PB
set_option Elab.async false
set_option linter.all false
set_option maxRecDepth 100000
set_option maxHeartbeats 1000000
set_option exponentiation.threshold 100000
namespace PB
open PySem
/-- sizes that are found by themselves -/
class Sz (q : Rat) (n : outParam Nat) : Prop where
  b : Bd n q
theorem Bd.pos {n : Nat} {q : Rat} (h : Bd n q) : 1 ≤ n := by
  rcases Nat.eq_zero_or_pos n with e | e
  · subst e
    have := h.2
    have := q.den_pos
    omega
  · exact e
section
variable {k m n : Nat} {h : PH} {x y z : Rat}
instance sz_add [hx : Sz x m] [hy : Sz y n] : Sz (x + y) (m + n + 1) := ⟨(bd_add hx.b hy.b).1⟩
instance sz_sub [hx : Sz x m] [hy : Sz y n] : Sz (x - y) (m + n + 1) := ⟨bd_sub hx.b hy.b⟩
instance sz_mul [hx : Sz x m] [hy : Sz y n] : Sz (x * y) (m + n) := ⟨bd_mul hx.b hy.b⟩
instance sz_neg [hx : Sz x m] : Sz (-x) m := ⟨bd_neg hx.b⟩
instance sz_div [hx : Sz x m] [hy : Sz y n] : Sz (x / y) (m + n) := ⟨by
  by_cases h0 : y = 0
  · subst h0
    have e : x / 0 = 0 := by rw [Rat.div_def, Rat.inv_zero, Rat.mul_zero]
    rw [e]
    have := hx.b.pos
    exact (bd0 (m + n - 1)).mono (by omega)
  · exact bd_div hx.b hy.b h0⟩
instance sz_0 : Sz 0 1 := ⟨bd0 0⟩
instance sz_1 : Sz 1 1 := ⟨bd1 0⟩
instance sz_2 : Sz 2 2 := ⟨by refine ⟨?_, ?_⟩ <;> decide⟩
instance sz_3 : Sz 3 2 := ⟨by refine ⟨?_, ?_⟩ <;> decide⟩
instance sz_4 : Sz 4 3 := ⟨by refine ⟨?_, ?_⟩ <;> decide⟩
end
@[simp] theorem gt0 {γ : Type} {a0 : γ} {l : List γ} : (a0 :: l)[0]? = some a0 := by first | (rw [List.getElem?_cons_zero]; done) | (simp only [List.getElem?_cons_succ, List.getElem?_cons_zero])
@[simp] theorem gt1 {γ : Type} {a0 a1 : γ} {l : List γ} : (a0 :: a1 :: l)[1]? = some a1 := by first | (rw [List.getElem?_cons_zero]; done) | (simp only [List.getElem?_cons_succ, List.getElem?_cons_zero])
@[simp] theorem gt2 {γ : Type} {a0 a1 a2 : γ} {l : List γ} : (a0 :: a1 :: a2 :: l)[2]? = some a2 := by first | (rw [List.getElem?_cons_zero]; done) | (simp only [List.getElem?_cons_succ, List.getElem?_cons_zero])
@[simp] theorem gt3 {γ : Type} {a0 a1 a2 a3 : γ} {l : List γ} : (a0 :: a1 :: a2 :: a3 :: l)[3]? = some a3 := by first | (rw [List.getElem?_cons_zero]; done) | (simp only [List.getElem?_cons_succ, List.getElem?_cons_zero])
@[simp] theorem gt4 {γ : Type} {a0 a1 a2 a3 a4 : γ} {l : List γ} : (a0 :: a1 :: a2 :: a3 :: a4 :: l)[4]? = some a4 := by first | (rw [List.getElem?_cons_zero]; done) | (simp only [List.getElem?_cons_succ, List.getElem?_cons_zero])
@[simp] theorem gt5 {γ : Type} {a0 a1 a2 a3 a4 a5 : γ} {l : List γ} : (a0 :: a1 :: a2 :: a3 :: a4 :: a5 :: l)[5]? = some a5 := by first | (rw [List.getElem?_cons_zero]; done) | (simp only [List.getElem?_cons_succ, List.getElem?_cons_zero])
@[simp] theorem gt6 {γ : Type} {a0 a1 a2 a3 a4 a5 a6 : γ} {l : List γ} : (a0 :: a1 :: a2 :: a3 :: a4 :: a5 :: a6 :: l)[6]? = some a6 := by first | (rw [List.getElem?_cons_zero]; done) | (simp only [List.getElem?_cons_succ, List.getElem?_cons_zero])
@[simp] theorem gt7 {γ : Type} {a0 a1 a2 a3 a4 a5 a6 a7 : γ} {l : List γ} : (a0 :: a1 :: a2 :: a3 :: a4 :: a5 :: a6 :: a7 :: l)[7]? = some a7 := by first | (rw [List.getElem?_cons_zero]; done) | (simp only [List.getElem?_cons_succ, List.getElem?_cons_zero])
@[simp] theorem gt8 {γ : Type} {a0 a1 a2 a3 a4 a5 a6 a7 a8 : γ} {l : List γ} : (a0 :: a1 :: a2 :: a3 :: a4 :: a5 :: a6 :: a7 :: a8 :: l)[8]? = some a8 := by first | (rw [List.getElem?_cons_zero]; done) | (simp only [List.getElem?_cons_succ, List.getElem?_cons_zero])
@[simp] theorem gt9 {γ : Type} {a0 a1 a2 a3 a4 a5 a6 a7 a8 a9 : γ} {l : List γ} : (a0 :: a1 :: a2 :: a3 :: a4 :: a5 :: a6 :: a7 :: a8 :: a9 :: l)[9]? = some a9 := by first | (rw [List.getElem?_cons_zero]; done) | (simp only [List.getElem?_cons_succ, List.getElem?_cons_zero])
@[simp] theorem gt10 {γ : Type} {a0 a1 a2 a3 a4 a5 a6 a7 a8 a9 a10 : γ} {l : List γ} : (a0 :: a1 :: a2 :: a3 :: a4 :: a5 :: a6 :: a7 :: a8 :: a9 :: a10 :: l)[10]? = some a10 := by first | (rw [List.getElem?_cons_zero]; done) | (simp only [List.getElem?_cons_succ, List.getElem?_cons_zero])
@[simp] theorem gt11 {γ : Type} {a0 a1 a2 a3 a4 a5 a6 a7 a8 a9 a10 a11 : γ} {l : List γ} : (a0 :: a1 :: a2 :: a3 :: a4 :: a5 :: a6 :: a7 :: a8 :: a9 :: a10 :: a11 :: l)[11]? = some a11 := by first | (rw [List.getElem?_cons_zero]; done) | (simp only [List.getElem?_cons_succ, List.getElem?_cons_zero])
@[simp] theorem get_app2 {γ : Type} {h t : List γ} {i j : Nat} : (h ++ t)[h.length + i + j]? = t[i + j]? := by rw [Nat.add_assoc]; exact get_app
@[simp] theorem set_app2 {γ : Type} {h t : List γ} {i j : Nat} {a : γ} : (h ++ t).set (h.length + i + j) a = h ++ t.set (i + j) a := by rw [Nat.add_assoc]; exact set_app
@[simp] theorem it0 {a0 : PV} {l : List PV} {h : PH} : idxop (.tup (a0 :: l)) (.int 0) h = .ok a0 h := by simp [idxop, atI_nn]
@[simp] theorem it1 {a0 a1 : PV} {l : List PV} {h : PH} : idxop (.tup (a0 :: a1 :: l)) (.int 1) h = .ok a1 h := by simp [idxop, atI_nn]
@[simp] theorem it2 {a0 a1 a2 : PV} {l : List PV} {h : PH} : idxop (.tup (a0 :: a1 :: a2 :: l)) (.int 2) h = .ok a2 h := by simp [idxop, atI_nn]
@[simp] theorem it3 {a0 a1 a2 a3 : PV} {l : List PV} {h : PH} : idxop (.tup (a0 :: a1 :: a2 :: a3 :: l)) (.int 3) h = .ok a3 h := by simp [idxop, atI_nn]
@[simp] theorem it4 {a0 a1 a2 a3 a4 : PV} {l : List PV} {h : PH} : idxop (.tup (a0 :: a1 :: a2 :: a3 :: a4 :: l)) (.int 4) h = .ok a4 h := by simp [idxop, atI_nn]
@[simp] theorem it5 {a0 a1 a2 a3 a4 a5 : PV} {l : List PV} {h : PH} : idxop (.tup (a0 :: a1 :: a2 :: a3 :: a4 :: a5 :: l)) (.int 5) h = .ok a5 h := by simp [idxop, atI_nn]
/-! ### what a step comes to -/
@[irreducible] def Res.To {α : Type} (x : Res α) (Q : α → PH → Prop) : Prop := match x with
  | .ok a h => Q a h
  | _ => False
section
variable {α β : Type} {h : PH}
@[simp] theorem to_ok {a : α} {Q : α → PH → Prop} : (Res.ok a h).To Q = Q a h := by simp [Res.To]
@[simp] theorem to_bad {Q : α → PH → Prop} : (Res.bad : Res α).To Q = False := by simp [Res.To]
@[simp] theorem to_exc {c : Nat} {v : PV} {Q : α → PH → Prop} : (Res.exc c v h : Res α).To Q = False := by simp [Res.To]
theorem to_bind' {x : Res α} {f : α → PH → Res β} {Q : β → PH → Prop} : (x.bind f).To Q = x.To fun a h => (f a h).To Q := by cases x <;> simp
/-- what is left to be done: simp does not look into it -/
class Hd (α : Type) where
  q : α → PH → Prop
@[irreducible] def Kp [i : Hd α] : α → PH → Prop := i.q
@[simp ↓] theorem Kp_app {Q : α → PH → Prop} {a : α} : @Kp α ⟨Q⟩ a h = Q a h := by unfold Kp; rfl
@[simp] theorem to_bind {x : Res α} {f : α → PH → Res β} {Q : β → PH → Prop} : (x.bind f).To Q = x.To (@Kp α ⟨fun a h => (f a h).To Q⟩) := by rw [to_bind']; unfold Kp; rfl
@[simp] theorem to_if_bad {p : Prop} [Decidable p] {x : Res α} {Q : α → PH → Prop} : (if p then x else .bad).To Q = (p ∧ x.To Q) := by
  by_cases hp : p <;> simp [hp]
@[simp] theorem to_if_exc {p : Prop} [Decidable p] {x : Res α} {Q : α → PH → Prop} {c : Nat} {v : PV} : (if p then x else .exc c v h).To Q = (p ∧ x.To Q) := by
  by_cases hp : p <;> simp [hp]
@[simp] theorem to_if_exc' {p : Prop} [Decidable p] {x : Res α} {Q : α → PH → Prop} {c : Nat} {v : PV} : (if p then .exc c v h else x).To Q = (¬ p ∧ x.To Q) := by
  by_cases hp : p <;> simp [hp]
theorem to_ex {x : Res α} {Q : α → PH → Prop} (q : x.To Q) : ∃ a h', x = .ok a h' ∧ Q a h' := by
  cases x with
  | ok a b => rw [to_ok] at q; exact ⟨a, b, rfl, q⟩
  | exc c v h => simp at q
  | bad => simp at q
theorem to_eq {x : Res α} {a : α} {h' : PH} {Q : α → PH → Prop} (e : x = .ok a h') (q : Q a h') : x.To Q := by subst e; rw [to_ok]; exact q
/-- a for over a range, as one word -/
@[irreducible] def forR (lo hi : Int) (g : PV → Sl → PH → Res Sl) (b : Sl → PH → Res Fl) (s : Sl) (h : PH) : Res Fl :=
  if -bigR ≤ lo ∧ lo ≤ bigR ∧ -bigR ≤ hi ∧ hi ≤ bigR then frL g b [] (range lo (hi - lo).toNat 1) s h else .bad
@[irreducible] def compR (lo hi : Int) (F : PV → PH → Res (Option PV)) (h : PH) : Res (List PV) :=
  if -bigR ≤ lo ∧ lo ≤ bigR ∧ -bigR ≤ hi ∧ hi ≤ bigR then (if (range lo (hi - lo).toNat 1).length ≤ many then compL F [] (range lo (hi - lo).toNat 1) h else .bad) else .bad
section
variable {cf : Nat → List PV → PH → Res PV} {s : Sl}
@[simp high] theorem evS_for1 {t : CT} {e : CE} {b : CB} : evS cf (.for_ t (.rng1 (.cons e .nil)) b) s h = (evE cf e s h).bind fun x h1 => match x with | .int z => forR 0 z (asT cf t) (evB cf b) s h1 | _ => .bad := by
  rw [evS_for, evI_rng1, evA_cons]
  cases evE cf e s h with
  | ok x h1 =>
    simp only [bind_ok', evA_nil]
    cases x <;> simp only [bind_bad]
    rename_i z
    rw [forR, bind_ite]
    have hb : bigR = 1000000 := rfl
    by_cases hz : -bigR ≤ z ∧ z ≤ bigR
    · rw [if_pos hz, if_pos (by omega), Int.sub_zero]; simp
    · rw [if_neg hz, if_neg (by omega)]; simp
  | exc c v h => simp
  | bad => simp
@[simp high] theorem evS_for2 {t : CT} {e e' : CE} {b : CB} : evS cf (.for_ t (.rng2 (.cons e (.cons e' .nil))) b) s h = (evE cf e s h).bind fun x h1 => (evE cf e' s h1).bind fun y h2 => match x, y with | .int z, .int w => forR z w (asT cf t) (evB cf b) s h2 | _, _ => .bad := by
  rw [evS_for, evI_rng2, evA_cons]
  cases evE cf e s h with
  | ok x h1 =>
    simp only [bind_ok', evA_cons]
    cases evE cf e' s h1 with
    | ok y h2 =>
      simp only [bind_ok', evA_nil]
      cases x <;> cases y <;> simp only [bind_bad]
      rename_i z w
      rw [forR, bind_ite]
      simp
    | exc c v h => simp
    | bad => simp
  | exc c v h => simp
  | bad => simp
@[simp high] theorem evE_comp1 {e c : CE} {own : List Nat} {tg : CT} {co : CO} : evE cf (.comp e own tg (.rng1 (.cons c .nil)) co) s h = (evE cf c s h).bind fun x h1 => match x with | .int z => (compR 0 z (compF cf e own tg co s) h1).bind (fun ys h2 => alloc ys h2) | _ => .bad := by
  rw [evE_comp, evI_rng1, evA_cons]
  cases evE cf c s h with
  | ok x h1 =>
    simp only [bind_ok', evA_nil]
    cases x <;> simp only [bind_bad]
    rename_i z
    rw [compR, bind_ite]
    have hb : bigR = 1000000 := rfl
    by_cases hz : -bigR ≤ z ∧ z ≤ bigR
    · rw [if_pos hz, if_pos (by omega), Int.sub_zero]; simp
    · rw [if_neg hz, if_neg (by omega)]; simp
  | exc c v h => simp
  | bad => simp
@[simp high] theorem evE_comp2 {e c c' : CE} {own : List Nat} {tg : CT} {co : CO} : evE cf (.comp e own tg (.rng2 (.cons c (.cons c' .nil))) co) s h = (evE cf c s h).bind fun x h1 => (evE cf c' s h1).bind fun y h2 => match x, y with | .int z, .int w => (compR z w (compF cf e own tg co s) h2).bind (fun ys h2 => alloc ys h2) | _, _ => .bad := by
  rw [evE_comp, evI_rng2, evA_cons]
  cases evE cf c s h with
  | ok x h1 =>
    simp only [bind_ok', evA_cons]
    cases evE cf c' s h1 with
    | ok y h2 =>
      simp only [bind_ok', evA_nil]
      cases x <;> cases y <;> simp only [bind_bad]
      rename_i z w
      rw [compR, bind_ite]
      simp
    | exc c v h => simp
    | bad => simp
  | exc c v h => simp
  | bad => simp
end
/-- what a loop's turn leaves -/
def Turn (S : Sl → PH → Prop) (Q : Fl → PH → Prop) : Fl → PH → Prop
  | .nx s, h => S s h
  | .ct s, h => S s h
  | .bk s, h => Q (.nx s) h
  | .rt v, h => Q (.rt v) h
section
variable {S : Sl → PH → Prop} {Q : Fl → PH → Prop} {s : Sl} {v : PV}
@[simp] theorem turn_nx : Turn S Q (.nx s) h = S s h := by rw [Turn]
@[simp] theorem turn_ct : Turn S Q (.ct s) h = S s h := by rw [Turn]
@[simp] theorem turn_bk : Turn S Q (.bk s) h = Q (.nx s) h := by rw [Turn]
@[simp] theorem turn_rt : Turn S Q (.rt v) h = Q (.rt v) h := by rw [Turn]
end
end
end PB
set_option Elab.async false
set_option linter.all false
set_option maxRecDepth 100000
set_option maxHeartbeats 4000000
namespace PB
open PySem
theorem kkG : ∀ i f, okId i = true → G i = some f → CB.kk f.body = true := kk_tab (l := tab) (by decide +kernel)
/-- a call of constants, by evaluation, whatever lies in the heap -/
theorem fnd {k i n : Nat} {args : List PV} {v : PV} {p : PH} (hp : Plw p) (hn : n = p.length) (h : (okId i && (PV.csts args && finds (callF G k i args (hid n)) v n)) = true) : callF G k i args p = .ok v p := by
  rw [Bool.and_eq_true, Bool.and_eq_true] at h
  exact finds_at kkG hp hn h.1 h.2.1 h.2.2
theorem fnd_to {k i n : Nat} {args : List PV} {p : PH} {Q : PV → PH → Prop} (v : PV) (hp : Plw p) (hn : n = p.length) (h : (okId i && (PV.csts args && finds (callF G k i args (hid n)) v n)) = true) (hq : Q v p) : (callF G k i args p).To Q :=
  to_eq (fnd hp hn h) hq
end PB
set_option Elab.async false
set_option linter.all false
set_option maxRecDepth 100000
set_option maxHeartbeats 4000000
namespace PB
open PySem
/-! the word of a call within a lambda, by evaluation -/
theorem po_low {n : Nat} {xs : List PV} : PO.low n (.lst xs) = PV.lows n xs := rfl
theorem pos_same : ∀ {a b : PH}, POs.same a b = true → a = b
  | [], [], _ => rfl
  | [], _ :: _, h => by simp [POs.same] at h
  | _ :: _, [], h => by simp [POs.same] at h
  | a :: r, b :: q, h => by
    simp only [POs.same, Bool.and_eq_true] at h
    rw [PO.same_eq h.1, pos_same h.2]
section
variable {q p t : PH}
theorem fo_word (hl : q.length = p.length) (hq : Plw q) (hp : Plw p) {ch : CH} {n i : Nat} (hk : CH.kk ch = true) {g g' : PH → Res PV} (hg : Fo (Hv q) q p (g (q ++ t)) (g' (p ++ t))) : Fo (Hv q) q p (wordF ch n i g (q ++ t)) (wordF ch n i g' (p ++ t)) := by
  have hs : SI q.length ((List.replicate n none).set i (some (PV.str ""))) := fun x hx => by
    rcases List.mem_or_eq_of_mem_set hx with z | z
    · exact absurd (List.eq_of_mem_replicate z) (by simp)
    · cases z; rfl
  unfold wordF
  cases hgq : g (q ++ t) with
  | bad => exact True.intro
  | ok r h' =>
    rw [hgq] at hg
    obtain ⟨_, t1, rfl, ht1, e⟩ := hg
    rw [e]
    exact fo_keep hl hq hp rfl ht1
  | exc c v h' =>
    rw [hgq] at hg
    obtain ⟨hv, t1, rfl, ht1, e⟩ := hg
    rw [e]
    have z := foH hl (cf := cf0) (fun _ _ _ _ _ _ => True.intro) ch (s := (List.replicate n none).set i (some (PV.str ""))) hk c hv hs ht1
    simp only
    cases hh : evH cf0 ch c v ((List.replicate n none).set i (some (PV.str ""))) (q ++ t1) with
    | bad => exact True.intro
    | exc _ _ _ => exact True.intro
    | ok fl h2 =>
      rw [hh] at z
      obtain ⟨hfl, t2, rfl, ht2, e2⟩ := z
      rw [e2]
      cases fl with
      | nx s2 =>
        simp only
        cases hs2 : s2[i]? with
        | none => exact True.intro
        | some o =>
          cases o with
          | none => exact True.intro
          | some r => exact fo_keep hl hq hp (hfl.get hs2) ht2
      | _ => exact True.intro
def hib (m : Nat) (t : PH) : Bool := t.all fun c => match c with
  | .lst xs => PV.his m xs
theorem hib_hi {m : Nat} (h : hib m t = true) : HI m t := fun i xs e => by
  have := List.all_eq_true.mp h _ (List.mem_of_getElem? e)
  exact this
def wfind (r : Res PV) (v : PV) (m : PH) : Bool := match r with
  | .ok w h => PV.same w v && POs.same h m
  | _ => false
/-- the check of a word: a closed evaluation -/
def wck (ch : CH) (n i k f m : Nat) (args : List PV) (t : PH) (v : PV) : Bool := okId f && (CH.kk ch && (PV.his m args && (hib m t && wfind (wordF ch n i (fun h => callF G k f args h) (hid m ++ t)) v (hid m ++ t))))
theorem word_at {ch : CH} {n i k f m : Nat} {args : List PV} {v : PV} (hp : Plw p) (hn : m = p.length) (hc : wck ch n i k f m args t v = true) : wordF ch n i (fun h => callF G k f args h) (p ++ t) = .ok v (p ++ t) := by
  unfold wck at hc
  simp only [Bool.and_eq_true, decide_eq_true_eq] at hc
  obtain ⟨h1, h2, h3, h4, h5⟩ := hc
  have hl : (hid m).length = p.length := by rw [hid, List.length_replicate, hn]
  have hm : (hid m).length = m := by rw [hid, List.length_replicate]
  have z := fo_word (t := t) hl (pl_hid m) hp (n := n) (i := i) h2 (fo_callF hl kkG (pl_hid m) hp k f args t h1 (by rw [Hvs, hm]; exact h3) (by rw [hm]; exact hib_hi h4))
  unfold wfind at h5
  split at h5
  · rename_i w h' e
    rw [e] at z
    obtain ⟨_, t', e2, _, e3⟩ := z
    simp only [Bool.and_eq_true] at h5
    have e4 := pos_same h5.2
    rw [e2] at e4
    rw [e3, PV.same_eq h5.1, List.append_cancel_left e4]
  · cases h5
theorem word_congr {ch : CH} {n i : Nat} {g g' : PH → Res PV} {h : PH} (e : g h = g' h) : wordF ch n i g h = wordF ch n i g' h := by unfold wordF; rw [e]
variable {s : Sl} {es : CA} {wf : (PH → Res PV) → PH → Res PV} {ch : CH} {n i k f m j : Nat} {args : List PV} {Q : PV → PH → Prop}
/-- word(lambda: f(..)) -/
theorem lam_to (v : PV) (hw : wf = wordF ch n i) (ha : evA (callF G k) es s (p ++ t) = .ok args (p ++ t)) (hp : Plw p) (hn : m = p.length) (hc : wck ch n i k f m args t v = true) (hq : Q v (p ++ t)) : (evE (callF G k) (.lam (.call f es) wf) s (p ++ t)).To Q := by
  have e : evE (callF G k) (.lam (.call f es) wf) s (p ++ t) = .ok v (p ++ t) := by
    rw [evE_lam, hw, ← word_at hp hn hc]
    refine word_congr ?_
    rw [evE_call, ha]; rfl
  exact to_eq e hq
/-- .. of constants, whatever lies in the heap -/
theorem lam_fnd (v : PV) (hw : wf = wordF ch n i) (ha : evA (callF G k) es s p = .ok args p) (hp : Plw p) (hn : m = p.length) (hc : wck ch n i k f m args [] v = true) (hq : Q v p) : (evE (callF G k) (.lam (.call f es) wf) s p).To Q := by
  have z := lam_to (Q := Q) (t := []) v hw (by rw [List.append_nil]; exact ha) hp hn hc (by rw [List.append_nil]; exact hq)
  rw [List.append_nil] at z
  exact z
theorem word_at0 {v : PV} (hp : Plw p) (hn : m = p.length) (hc : wck ch n i k f m args [] v = true) : wordF ch n i (fun h => callF G k f args h) p = .ok v p := by
  have z := word_at (t := []) hp hn hc
  rw [List.append_nil] at z
  exact z
theorem lam_eq {H : PH} (v : PV) (hw : wf = wordF ch n i) (ha : evA (callF G k) es s H = .ok args H) (hx : wordF ch n i (fun h => callF G k f args h) H = .ok v H) (hq : Q v H) : (evE (callF G k) (.lam (.call f es) wf) s H).To Q := by
  have e : evE (callF G k) (.lam (.call f es) wf) s H = .ok v H := by
    rw [evE_lam, hw, ← hx]
    refine word_congr ?_
    rw [evE_call, ha]; rfl
  exact to_eq e hq
end
end PB
set_option Elab.async false
set_option linter.all false
set_option maxRecDepth 100000
set_option maxHeartbeats 1000000
set_option exponentiation.threshold 100000
namespace PB
open PySem
/-! ### numbers over a power of 420 -/
def Fq (e n : Nat) (q : Rat) : Prop := ∃ A : Int, q * (420 : Rat) ^ e = (A : Rat) ∧ A.natAbs < 2 ^ n
section
variable {k : Nat} {h t : PH} {o : PO} {e e' n n' m b c : Nat} {x y : Rat}
theorem pow420 (e : Nat) : ((420 : Rat) ^ e) = (((420 ^ e : Nat) : Int) : Rat) := by
  induction e with
  | zero => rfl
  | succ e ih => rw [Rat.pow_succ, ih, Nat.pow_succ]; push_cast; rfl
theorem lt420 (e : Nat) : 420 ^ e ≤ 2 ^ (9 * e) := by
  rw [Nat.pow_mul]; exact Nat.pow_le_pow_left (by decide) e
theorem Fq.bd (h : Fq e n x) (hm : n ≤ m) (h9 : 9 * e + 1 ≤ m) : Bd m x := by
  obtain ⟨A, h1, h2⟩ := h
  rw [pow420] at h1
  refine bd_of_frac (D := ((420 ^ e : Nat) : Int)) ?_ h1 (lt_pow h2 hm) ?_
  · have := Nat.pow_pos (n := e) (show 0 < 420 by decide); omega
  · have := lt420 e
    rw [Int.natAbs_natCast]
    refine Nat.lt_of_le_of_lt this ?_
    exact Nat.lt_of_lt_of_le (Nat.pow_lt_pow_right (by decide) (Nat.lt_succ_self _)) (Nat.pow_le_pow_right (by decide) h9)
theorem Fq.lift (h : Fq e n x) (d : Nat) : Fq (e + d) (n + 9 * d) x := by
  obtain ⟨A, h1, h2⟩ := h
  refine ⟨A * ((420 ^ d : Nat) : Int), ?_, ?_⟩
  · rw [rpow_add, ← Rat.mul_assoc, h1, pow420]; push_cast; rfl
  · rw [Int.natAbs_mul, Int.natAbs_natCast]
    calc A.natAbs * 420 ^ d ≤ A.natAbs * 2 ^ (9 * d) := Nat.mul_le_mul_left _ (lt420 d)
      _ < 2 ^ n * 2 ^ (9 * d) := Nat.mul_lt_mul_of_pos_right h2 (Nat.pow_pos (by decide))
      _ = 2 ^ (n + 9 * d) := pow_pow
theorem Fq.up (h : Fq e n x) (he : e ≤ e') (hn : n + 9 * (e' - e) ≤ n') : Fq e' n' x := by
  obtain ⟨A, h1, h2⟩ := h.lift (e' - e)
  have : e + (e' - e) = e' := by omega
  rw [this] at h1
  exact ⟨A, h1, lt_pow h2 hn⟩
theorem Fq.add (hx : Fq e n x) (hy : Fq e n y) : Fq e (n + 1) (x + y) := by
  obtain ⟨A, a1, a2⟩ := hx; obtain ⟨B, b1, b2⟩ := hy
  refine ⟨A + B, ?_, natAbs_add_lt a2 b2⟩
  rw [Rat.add_mul, a1, b1]; push_cast; rfl
theorem Fq.sub (hx : Fq e n x) (hy : Fq e n y) : Fq e (n + 1) (x - y) := by
  obtain ⟨A, a1, a2⟩ := hx; obtain ⟨B, b1, b2⟩ := hy
  refine ⟨A - B, ?_, natAbs_sub_lt a2 b2⟩
  have : (x - y) * (420 : Rat) ^ e = x * 420 ^ e - y * 420 ^ e := by grind
  rw [this, a1, b1]; push_cast; rfl
theorem Fq.mul (hx : Fq e n x) (hy : Fq e' n' y) : Fq (e + e') (n + n') (x * y) := by
  obtain ⟨A, a1, a2⟩ := hx; obtain ⟨B, b1, b2⟩ := hy
  refine ⟨A * B, ?_, natAbs_mul_lt a2 b2⟩
  have : (x * y) * (420 : Rat) ^ (e + e') = (x * 420 ^ e) * (y * 420 ^ e') := by rw [rpow_add]; grind
  rw [this, a1, b1]; push_cast; rfl
theorem Fq.neg (hx : Fq e n x) : Fq e n (-x) := by
  obtain ⟨A, a1, a2⟩ := hx
  refine ⟨-A, ?_, by simpa using a2⟩
  rw [Rat.neg_mul, a1]; push_cast; rfl
theorem Fq.int (i : Int) (h : i.natAbs < 2 ^ n) : Fq 0 n (i : Rat) := ⟨i, by rw [Rat.pow_zero, Rat.mul_one], h⟩
theorem Fq.zero : Fq 0 1 0 := Fq.int 0 (by decide)
theorem Fq.one : Fq 0 1 1 := Fq.int 1 (by decide)
/-- sizes in statements -/
class Fz (q : Rat) (e n : outParam Nat) : Prop where
  f : Fq e n q
instance (priority := high) sz_fz [hx : Fz x e n] : Sz x (max n (9 * e + 1)) := ⟨hx.f.bd (by omega) (by omega)⟩
instance fz_add [hx : Fz x e n] [hy : Fz y e' n'] : Fz (x + y) (max e e') (max (n + 9 * (max e e' - e)) (n' + 9 * (max e e' - e')) + 1) := ⟨(hx.f.up (by omega) (by omega)).add (hy.f.up (by omega) (by omega))⟩
instance fz_sub [hx : Fz x e n] [hy : Fz y e' n'] : Fz (x - y) (max e e') (max (n + 9 * (max e e' - e)) (n' + 9 * (max e e' - e')) + 1) := ⟨(hx.f.up (by omega) (by omega)).sub (hy.f.up (by omega) (by omega))⟩
instance fz_mul [hx : Fz x e n] [hy : Fz y e' n'] : Fz (x * y) (e + e') (n + n') := ⟨hx.f.mul hy.f⟩
instance fz_neg [hx : Fz x e n] : Fz (-x) e n := ⟨hx.f.neg⟩
instance fz_0 : Fz 0 0 1 := ⟨.zero⟩
instance fz_1 : Fz 1 0 1 := ⟨.one⟩
instance fz_2 : Fz 2 0 2 := ⟨.int 2 (by decide)⟩
instance fz_3 : Fz 3 0 2 := ⟨.int 3 (by decide)⟩
instance fz_4 : Fz 4 0 3 := ⟨.int 4 (by decide)⟩
end
end PB
set_option Elab.async false
set_option linter.all false
set_option maxRecDepth 100000
set_option maxHeartbeats 1000000
set_option exponentiation.threshold 100000
namespace PB
open PySem
section
variable {k : Nat} {h t : PH} {o : PO} {e e' n n' m b c : Nat} {x y : Rat} {xs : List Rat}
/-! ### nets -/
abbrev Net := Nat → Nat → Rat
def rowsN (L : List (List Rat)) : List PV := L.map pol
@[simp] theorem map_pol {L : List (List Rat)} : L.map pol = rowsN L := rfl
@[simp] theorem rowsN_len {L : List (List Rat)} : (rowsN L).length = L.length := List.length_map ..
@[simp] theorem rowsN_get {L : List (List Rat)} {i : Nat} : (rowsN L)[i]? = L[i]?.map pol := List.getElem?_map ..
@[simp] theorem rowsN_app {L M : List (List Rat)} : rowsN L ++ rowsN M = rowsN (L ++ M) := List.map_append.symm
@[simp] theorem rowsN_nil : rowsN [] = [] := rfl
@[simp] theorem rowsN_cons {a : List Rat} {L : List (List Rat)} : rowsN (a :: L) = pol a :: rowsN L := rfl
@[simp] theorem rowsN_snoc {L : List (List Rat)} {a : List Rat} : rowsN L ++ [pol a] = rowsN (L ++ [a]) := by rw [rowsN, rowsN, List.map_append]; rfl
@[simp] theorem frs_snoc {L : List Rat} {a : Rat} : frs L ++ [fr a] = frs (L ++ [a]) := by rw [frs, frs, List.map_append]; rfl
@[simp] theorem lows_rowsN {n : Nat} {L : List (List Rat)} : PV.lows n (rowsN L) = true := by
  induction L with
  | nil => simp [PV.lows]
  | cons a r ih => simp only [rowsN_cons, PV.lows, Bool.and_eq_true]; exact ⟨low_pol, ih⟩
@[simp] theorem plains_rowsN {n : Nat} {L : List (List Rat)} : plains (n + 2) (rowsN L) = true := by
  induction L with
  | nil => simp [plains]
  | cons a r ih => simp only [rowsN_cons, plains, Bool.and_eq_true]; exact ⟨plain_pol, ih⟩
/-- the rows of a net whose lists have n, n - 1, .. numbers behind the first i -/
def netR (f : Net) (n i : Nat) : List (List Rat) := (List.range' 0 i).map fun a => tbl (f a) (n - a)
def netv (n : Nat) (f : Net) : PV := .tup (rowsN (netR f (n + 1) (n + 1)))
@[simp] theorem low_netv {m n : Nat} {f : Net} : PV.low m (netv n f) = true := by simp [netv, PV.low]
@[simp] theorem keep_netv {n : Nat} {f : Net} : keepP h h (netv n f) = h := keepP_self low_netv
@[simp] theorem plain_netv {m n : Nat} {f : Net} : plain (m + 3) (netv n f) = true := by simp [netv, plain]
@[simp] theorem items_netv {n : Nat} {f : Net} : items h (netv n f) = some (rowsN (netR f (n + 1) (n + 1))) := rfl
@[simp] theorem kindOf_netv {n : Nat} {f : Net} : kindOf h (netv n f) = some 4 := rfl
@[simp] theorem leanOf_netv {n : Nat} {f : Net} : leanOf h (netv n f) = [] := rfl
abbrev P3 := Rat × Rat × Rat
def F3 (e n : Nat) (p : P3) : Prop := Fq e n p.1 ∧ Fq e n p.2.1 ∧ Fq e n p.2.2
def av (p : P3) (f : Net) : Net := fun i j => p.1 * f i j + p.2.1 * f (i + 1) j + p.2.2 * f i (j + 1)
def FN (e n : Nat) (f : Net) : Prop := ∀ i j, Fq e n (f i j)
theorem FN.av {f : Net} {p : P3} (hf : FN e n f) (hp : F3 e' n' p) : FN (e' + e) (n' + n + 2) (av p f) := fun i j =>
  ((hp.1.mul (hf i j)).add (hp.2.1.mul (hf (i + 1) j))).add ((hp.2.2.mul (hf i (j + 1))).up (Nat.le_refl _) (by omega))
/-! ### blossoms of nets -/
def opp (ps : List P3) (f : Net) : Net := ps.foldl (fun g p => av p g) f
@[simp] theorem opp_nil (f : Net) : opp [] f = f := rfl
end
end PB
set_option Elab.async false
set_option linter.all false
set_option maxRecDepth 100000
set_option maxHeartbeats 1000000
set_option exponentiation.threshold 100000
namespace PB
open PySem
section
variable {k : Nat} {h t : PH} {o : PO} {e e' n n' m b c : Nat} {x y : Rat} {xs : List Rat}
/-! ### the law's own words about nets -/
def ntm (c : Nat) (f : Net) (p : P3) (i j : Nat) : Rat := f i j * ((p.2.1 ^ i * p.2.2 ^ j * p.1 ^ (c - i - j)) * ((bin c i : Rat) * (bin (c - i) j : Rat)))
def NA (c : Nat) (f : Net) (p : P3) : Rat := sumTo (fun i => sumTo (fun j => ntm c f p i j) (c + 1 - i)) (c + 1)
end
end PB
set_option Elab.async false
set_option linter.all false
set_option maxRecDepth 100000
set_option maxHeartbeats 1000000
set_option exponentiation.threshold 100000
namespace PB
open PySem
section
variable {k : Nat} {h t : PH} {o : PO} {e e' n n' m b c : Nat} {x y : Rat} {xs : List Rat}
/-! ### drawn nets and places -/
/-! ### the algebra of nets -/
/-! ### draws, as they stand in a goal -/
theorem of_law {x : Res PV} (q : x.To fun v _ => v = .bl true) : ∃ h', x = .ok (.bl true) h' := by
  obtain ⟨v, h', e, rfl⟩ := to_ex q
  exact ⟨h', e⟩
theorem F3.up {p : P3} (h : F3 e n p) (he : e ≤ e') (hn : n + 9 * (e' - e) ≤ n') : F3 e' n' p := ⟨h.1.up he hn, h.2.1.up he hn, h.2.2.up he hn⟩
theorem row0 {ns : List Int} (hl : ns.length ≤ 63) {s : Int} (h0 : 0 ≤ s) (h1 : s < 2147483647) : Row (.lst [.scr (ns.map PV.int), .int 0, .int s, .int 0]) := ⟨ns, 0, s, 0, rfl, by omega, by decide, h0, h1⟩
end
end PB
set_option Elab.async false
set_option linter.all false
set_option maxRecDepth 100000
set_option maxHeartbeats 1000000
set_option exponentiation.threshold 100000
namespace PB
open PySem
section
variable {k : Nat} {h t : PH} {o : PO} {m n : Nat}
def Pls (ps : List P3) : Prop := ∀ p ∈ ps, F3 1 14 p ∧ p.1 + p.2.1 + p.2.2 = 1
theorem Pls.nil : Pls [] := fun _ h => by simp at h
end
end PB
set_option Elab.async false
set_option linter.all false
set_option maxRecDepth 100000
set_option maxHeartbeats 1000000
set_option exponentiation.threshold 100000
namespace PB
open PySem
section
variable {k : Nat} {h t : PH} {o : PO} {e e' n n' m b c : Nat} {x y : Rat} {xs : List Rat}
/-- the net of a derivative -/
def slN (c : Nat) (s : P3) (f : Net) : Net := if c = 0 then fun _ _ => 0 else fun i j => av s f i j * (c : Rat)
end
end PB
set_option Elab.async false
set_option linter.all false
set_option maxRecDepth 100000
set_option maxHeartbeats 2000000
set_option exponentiation.threshold 100000
namespace PB
open PySem
section
variable {k : Nat} {h t : PH} {o : PO} {e e' n n' m b c : Nat}
end
end PB
set_option Elab.async false
set_option linter.all false
set_option maxRecDepth 100000
set_option maxHeartbeats 2000000
set_option exponentiation.threshold 100000
namespace PB
open PySem
section
variable {k : Nat} {h t : PH} {o : PO} {e e' n n' m b c : Nat}
end
end PB
set_option Elab.async false
set_option linter.all false
set_option maxRecDepth 100000
set_option maxHeartbeats 4000000
set_option exponentiation.threshold 100000
namespace PB
open PySem
section
variable {k : Nat} {h t : PH} {o : PO} {e e' n n' m b c : Nat}
/-- the slopes' nets -/
def Sk (c : Nat) (s : P3) (f : Net) : Nat → Net
  | 0 => f
  | i + 1 => slN (c - i) s (Sk c s f i)
end
end PB
set_option Elab.async false
set_option linter.all false
set_option maxRecDepth 100000
set_option maxHeartbeats 4000000
set_option exponentiation.threshold 100000
namespace PB
open PySem
section
variable {k : Nat} {h t : PH} {o : PO} {e e' n n' m b c : Nat}
def dd : P3 := (1, -1, 0)
def hkp (c k : Nat) : P3 := (0, (k : Rat) / ((c + 1 : Nat) : Rat), ((c + 1 - k : Nat) : Rat) / ((c + 1 : Nat) : Rat))
end
end PB
set_option Elab.async false
set_option linter.all false
set_option maxRecDepth 100000
set_option maxHeartbeats 4000000
set_option exponentiation.threshold 100000
namespace PB
open PySem
section
variable {k : Nat} {h t : PH} {o : PO} {e e' n n' m b c : Nat}
def rowEq (c : Nat) (T g : Net) (r : Nat) : Prop := ∀ i, i ≤ c - r → T i (c - r - i) = g i (c - r - i)
instance (c : Nat) (T g : Net) : DecidablePred (rowEq c T g) := fun r => decidable_of_iff (∀ i, i < c - r + 1 → T i (c - r - i) = g i (c - r - i)) ⟨fun h i hi => h i (by omega), fun h i hi => h i (by omega)⟩
def valEq (c : Nat) (a : P3) (f g : Net) (r : Nat) : Prop := ∀ k, k ≤ c → NA (c - r) (Sk c a f r) (hkp c k) = NA (c - r) (Sk c dd g r) (hkp c k)
instance (c : Nat) (a : P3) (f g : Net) : DecidablePred (valEq c a f g) := fun r => decidable_of_iff (∀ k, k < c + 1 → NA (c - r) (Sk c a f r) (hkp c k) = NA (c - r) (Sk c dd g r) (hkp c k)) ⟨fun h i hi => h i (by omega), fun h i hi => h i (by omega)⟩
/-! ### the program's steps -/
end
end PB
set_option Elab.async false
set_option linter.all false
set_option maxRecDepth 100000
set_option maxHeartbeats 1000000
set_option exponentiation.threshold 100000
namespace PB
open PySem
/-! ### steps as they stand in a goal: what comes later stays hidden -/
/-- a branch not yet decided -/
class Hb where
  a : Prop
@[irreducible] def Br (p : Bool) [i : Hb] [j : Hb] : Prop := if p = true then i.a else j.a
section
variable {α β : Type} {cf : Nat → List PV → PH → Res PV} {s : Sl} {h : PH}
theorem bnd {γ : Type} {x : Res α} {f : α → PH → Res β} {g : β → PH → Res γ} : (x.bind f).bind g = x.bind fun a h => (f a h).bind g := by cases x <;> simp
theorem Kp_eq {Q : α → PH → Prop} : @Kp α ⟨Q⟩ = Q := by unfold Kp; rfl
@[simp ↓] theorem br_true {x y : Prop} : @Br true ⟨x⟩ ⟨y⟩ = x := by unfold Br; simp
@[simp ↓] theorem br_false {x y : Prop} : @Br false ⟨x⟩ ⟨y⟩ = y := by unfold Br; simp
@[simp ↓] theorem to_ifB {p : Bool} {a b : Res α} {Q : α → PH → Prop} : ((PV.bl p).ifB a b).To Q = @Br p ⟨a.To Q⟩ ⟨b.To Q⟩ := by
  cases p <;> simp
variable {Q : PV → PH → Prop} {QA : List PV → PH → Prop} {QF : Fl → PH → Prop} {QS : Sl → PH → Prop} {QO : Option PV → PH → Prop} {QI : List PV × Lean_ → PH → Prop}
@[simp] theorem many_eq : many = 1000000 := by unfold many; rfl
@[simp] theorem setAll_n : setAll [] [] s = some s := by rw [setAll]
@[simp] theorem setAll_c {i : Nat} {is : List Nat} {x : PV} {xs : List PV} : setAll (i :: is) (x :: xs) s = setAll is xs (s.set i (some x)) := by rw [setAll]
@[simp] theorem optI_none : optI h none = .ok none h := by rw [optI]
@[simp] theorem optI_int {i : Int} : optI h (some (.int i)) = .ok (some i) h := by rw [optI]
@[simp ↓] theorem tB_nil : (evB cf .nil s h).To QF = QF (.nx s) h := by rw [evB_nil, to_ok]
@[simp ↓] theorem tB_cons {st : CS} {r : CB} : (evB cf (.cons st r) s h).To QF = (evS cf st s h).To (@Kp Fl ⟨fun f h1 => (match f with
    | .nx s2 => evB cf r s2 h1
    | f => .ok f h1).To QF⟩) := by rw [evB_cons, to_bind', Kp_eq]; try rfl
@[simp ↓] theorem tS_asg {t : CT} {e : CE} : (evS cf (.asg t e) s h).To QF = (evE cf e s h).To (@Kp PV ⟨fun x h1 => (asT cf t x s h1).To (@Kp Sl ⟨fun s2 h2 => QF (.nx s2) h2⟩)⟩) := by
  simp only [evS_asg, to_bind', Kp_eq, to_ok]
@[simp ↓] theorem tS_par {is : List Nat} {es : CA} : (evS cf (.par is es) s h).To QF = (evA cf es s h).To (@Kp (List PV) ⟨fun xs h1 => (match setAll is xs s with | some s2 => Res.ok (Fl.nx s2) h1 | none => .bad).To QF⟩) := by
  simp only [evS_par, to_bind', Kp_eq]; try rfl
@[simp ↓] theorem tS_expr {e : CE} : (evS cf (.expr e) s h).To QF = (evE cf e s h).To (@Kp PV ⟨fun _ h1 => QF (.nx s) h1⟩) := by
  simp only [evS_expr, to_bind', Kp_eq, to_ok]
@[simp ↓] theorem tS_ret {e : CE} : (evS cf (.ret e) s h).To QF = (evE cf e s h).To (@Kp PV ⟨fun x h1 => QF (.rt x) h1⟩) := by
  simp only [evS_ret, to_bind', Kp_eq, to_ok]
@[simp ↓] theorem tS_retN : (evS cf .retN s h).To QF = QF (.rt .non) h := by rw [evS_retN, to_ok]
@[simp ↓] theorem tS_pass : (evS cf .pass s h).To QF = QF (.nx s) h := by rw [evS_pass, to_ok]
@[simp ↓] theorem tS_brk : (evS cf .brk s h).To QF = QF (.bk s) h := by rw [evS_brk, to_ok]
@[simp ↓] theorem tS_cnt : (evS cf .cnt s h).To QF = QF (.ct s) h := by rw [evS_cnt, to_ok]
@[simp ↓] theorem tS_ifs {c : CE} {a b : CB} : (evS cf (.ifs c a b) s h).To QF = (evE cf c s h).To (@Kp PV ⟨fun x h1 => (x.ifB (evB cf a s h1) (evB cf b s h1)).To QF⟩) := by
  simp only [evS_ifs, to_bind', Kp_eq]
@[simp ↓] theorem tS_for1 {t : CT} {e : CE} {b : CB} : (evS cf (.for_ t (.rng1 (.cons e .nil)) b) s h).To QF = (evE cf e s h).To (@Kp PV ⟨fun x h1 => (match x with | .int z => forR 0 z (asT cf t) (evB cf b) s h1 | _ => .bad).To QF⟩) := by
  rw [evS_for1, to_bind', Kp_eq]; try rfl
@[simp ↓] theorem tS_for2 {t : CT} {e e' : CE} {b : CB} : (evS cf (.for_ t (.rng2 (.cons e (.cons e' .nil))) b) s h).To QF = (evE cf e s h).To (@Kp PV ⟨fun x h1 => (evE cf e' s h1).To (@Kp PV ⟨fun y h2 => (match x, y with | .int z, .int w => forR z w (asT cf t) (evB cf b) s h2 | _, _ => .bad).To QF⟩)⟩) := by
  rw [evS_for2, to_bind', Kp_eq]; congr 1; funext x h1; rw [to_bind', Kp_eq]; try rfl
@[simp ↓] theorem tS_forS {t : CT} {e : CE} {b : CB} : (evS cf (.for_ t (.seq e) b) s h).To QF = (evE cf e s h).To (@Kp PV ⟨fun x h1 => (match items h1 x with | some xs => frL (asT cf t) (evB cf b) (leanOf h1 x) xs s h1 | none => .bad).To QF⟩) := by
  rw [evS_for, evI_seq, bnd, to_bind', Kp_eq]
  congr 1; funext x h1
  cases items h1 x <;> simp
@[simp ↓] theorem tS_forE {t : CT} {e : CE} {b : CB} : (evS cf (.for_ t (.enu (.cons e .nil)) b) s h).To QF = (evE cf e s h).To (@Kp PV ⟨fun x h1 => (match items h1 x with | some xs => frL (asT cf t) (evB cf b) (leanOf h1 x) (enums 0 xs) s h1 | none => .bad).To QF⟩) := by
  rw [evS_for, evI_enu, evA_cons, bnd, bnd, to_bind', Kp_eq]
  congr 1; funext x h1
  simp only [evA_nil, bind_ok']
  cases items h1 x <;> simp
@[simp ↓] theorem tE_bin {op : BinO} {a b : CE} : (evE cf (.bin op a b) s h).To Q = (evE cf a s h).To (@Kp PV ⟨fun x h1 => (evE cf b s h1).To (@Kp PV ⟨fun y h2 => (binop op x y h2).To Q⟩)⟩) := by
  simp only [evE_bin, to_bind', Kp_eq]
@[simp ↓] theorem tE_neg {a : CE} : (evE cf (.neg a) s h).To Q = (evE cf a s h).To (@Kp PV ⟨fun x h1 => (match x with | .int i => Res.ok (PV.int (-i)) h1 | _ => .bad).To Q⟩) := by
  rw [evE_neg, to_bind', Kp_eq]; try rfl
@[simp ↓] theorem tE_not {a : CE} : (evE cf (.not a) s h).To Q = (evE cf a s h).To (@Kp PV ⟨fun x h1 => (match x with | .bl b => Res.ok (PV.bl (!b)) h1 | _ => .bad).To Q⟩) := by
  rw [evE_not, to_bind', Kp_eq]; try rfl
@[simp ↓] theorem tE_and {a b : CE} : (evE cf (.and a b) s h).To Q = (evE cf a s h).To (@Kp PV ⟨fun x h1 => (x.ifB (evE cf b s h1) (.ok (.bl false) h1)).To Q⟩) := by
  rw [evE_and, to_bind', Kp_eq]
@[simp ↓] theorem tE_or {a b : CE} : (evE cf (.or a b) s h).To Q = (evE cf a s h).To (@Kp PV ⟨fun x h1 => (x.ifB (.ok (.bl true) h1) (evE cf b s h1)).To Q⟩) := by
  rw [evE_or, to_bind', Kp_eq]
@[simp ↓] theorem tE_cmp {op : CmpO} {a b : CE} : (evE cf (.cmp op a b) s h).To Q = (evE cf a s h).To (@Kp PV ⟨fun x h1 => (evE cf b s h1).To (@Kp PV ⟨fun y h2 => (cmpop op x y h2).To Q⟩)⟩) := by
  simp only [evE_cmp, to_bind', Kp_eq]
@[simp ↓] theorem tE_chn {op op' : CmpO} {a b c : CE} : (evE cf (.chn op op' a b c) s h).To Q = (evE cf a s h).To (@Kp PV ⟨fun x h1 => (evE cf b s h1).To (@Kp PV ⟨fun y h2 => (cmpop op x y h2).To (@Kp PV ⟨fun r h3 => (r.ifB ((evE cf c s h3).bind fun z h4 => cmpop op' y z h4) (.ok (.bl false) h3)).To Q⟩)⟩)⟩) := by
  rw [evE_chn, to_bind', Kp_eq]; congr 1; funext x h1; rw [to_bind', Kp_eq]; congr 1; funext y h2; rw [to_bind', Kp_eq]
@[simp ↓] theorem tE_ite {c a b : CE} : (evE cf (.ite c a b) s h).To Q = (evE cf c s h).To (@Kp PV ⟨fun x h1 => (x.ifB (evE cf a s h1) (evE cf b s h1)).To Q⟩) := by
  rw [evE_ite, to_bind', Kp_eq]
@[simp ↓] theorem tE_tup {es : CA} : (evE cf (.tup es) s h).To Q = (evA cf es s h).To (@Kp (List PV) ⟨fun xs h1 => xs.length ≤ many ∧ Q (.tup xs) h1⟩) := by
  rw [evE_tup, to_bind', Kp_eq]; congr 1; funext x h1; simp
@[simp ↓] theorem tE_lst {es : CA} : (evE cf (.lst es) s h).To Q = (evA cf es s h).To (@Kp (List PV) ⟨fun xs h1 => xs.length ≤ many ∧ Q (.ref h1.length) (h1 ++ [PO.lst xs])⟩) := by
  rw [evE_lst, to_bind', Kp_eq]; congr 1; funext x h1; simp [alloc]
@[simp ↓] theorem tE_idx {a b : CE} : (evE cf (.idx a b) s h).To Q = (evE cf a s h).To (@Kp PV ⟨fun x h1 => (evE cf b s h1).To (@Kp PV ⟨fun y h2 => (idxop x y h2).To Q⟩)⟩) := by
  simp only [evE_idx, to_bind', Kp_eq]
@[simp ↓] theorem tE_two {a : CE} {k : CO} : (evE cf (.two a k) s h).To Q = (evE cf a s h).To (@Kp PV ⟨fun x h1 => (evO cf k s h1).To (@Kp (Option PV) ⟨fun l h2 => (optI h2 l).To (@Kp (Option Int) ⟨fun l h3 => (twoop x l h3).To Q⟩)⟩)⟩) := by
  simp only [evE_two, to_bind', Kp_eq]
@[simp ↓] theorem tE_slc {a : CE} {lo hi : CO} : (evE cf (.slc a lo hi) s h).To Q = (evE cf a s h).To (@Kp PV ⟨fun x h1 => (evO cf lo s h1).To (@Kp (Option PV) ⟨fun l h2 => (evO cf hi s h2).To (@Kp (Option PV) ⟨fun u h3 => (optI h3 l).To (@Kp (Option Int) ⟨fun l h3 => (optI h3 u).To (@Kp (Option Int) ⟨fun u h3 => (slcop x l u h3).To Q⟩)⟩)⟩)⟩)⟩) := by
  simp only [evE_slc, to_bind', Kp_eq]
@[simp ↓] theorem tE_rev {a : CE} : (evE cf (.rev a) s h).To Q = (evE cf a s h).To (@Kp PV ⟨fun x h1 => (revop x h1).To Q⟩) := by
  simp only [evE_rev, to_bind', Kp_eq]
@[simp ↓] theorem tE_call {f : Nat} {es : CA} : (evE cf (.call f es) s h).To Q = (evA cf es s h).To (@Kp (List PV) ⟨fun xs h1 => (cf f xs h1).To Q⟩) := by
  simp only [evE_call, to_bind', Kp_eq]
@[simp ↓] theorem tE_blt {b : Blt} {es : CA} : (evE cf (.blt b es) s h).To Q = (evA cf es s h).To (@Kp (List PV) ⟨fun xs h1 => (blt b xs h1).To Q⟩) := by
  simp only [evE_blt, to_bind', Kp_eq]
@[simp ↓] theorem tE_mth {m : Mth} {o : CE} {es : CA} : (evE cf (.mth m o es) s h).To Q = (evE cf o s h).To (@Kp PV ⟨fun x h1 => (evA cf es s h1).To (@Kp (List PV) ⟨fun xs h2 => (mth m x xs h2).To Q⟩)⟩) := by
  simp only [evE_mth, to_bind', Kp_eq]
@[simp ↓] theorem tE_comp1 {e c : CE} {own : List Nat} {tg : CT} {co : CO} : (evE cf (.comp e own tg (.rng1 (.cons c .nil)) co) s h).To Q = (evE cf c s h).To (@Kp PV ⟨fun x h1 => (match x with | .int z => compR 0 z (compF cf e own tg co s) h1 | _ => .bad).To (@Kp (List PV) ⟨fun ys h2 => Q (.ref h2.length) (h2 ++ [PO.lst ys])⟩)⟩) := by
  rw [evE_comp1, to_bind', Kp_eq]; congr 1; funext x h1
  cases x <;> simp [alloc, to_bind', Kp_eq]
@[simp ↓] theorem tE_compS {e c : CE} {own : List Nat} {tg : CT} {co : CO} : (evE cf (.comp e own tg (.seq c) co) s h).To Q = (evE cf c s h).To (@Kp PV ⟨fun x h1 => (match items h1 x with | some xs => if xs.length ≤ many then compL (compF cf e own tg co s) (leanOf h1 x) xs h1 else .bad | none => .bad).To (@Kp (List PV) ⟨fun ys h2 => Q (.ref h2.length) (h2 ++ [PO.lst ys])⟩)⟩) := by
  rw [evE_comp, evI_seq, bnd, to_bind', Kp_eq]; congr 1; funext x h1
  cases items h1 x with
  | none => simp
  | some xs => by_cases hl : xs.length ≤ many <;> simp [hl, alloc, to_bind', Kp_eq]
@[simp ↓] theorem tA_nil : (evA cf .nil s h).To QA = QA [] h := by rw [evA_nil, to_ok]
@[simp ↓] theorem tA_cons {e : CE} {r : CA} : (evA cf (.cons e r) s h).To QA = (evE cf e s h).To (@Kp PV ⟨fun x h1 => (evA cf r s h1).To (@Kp (List PV) ⟨fun xs h2 => QA (x :: xs) h2⟩)⟩) := by
  simp only [evA_cons, to_bind', Kp_eq, to_ok]
@[simp ↓] theorem tO_some {e : CE} : (evO cf (.some e) s h).To QO = (evE cf e s h).To (@Kp PV ⟨fun x h1 => QO (some x) h1⟩) := by
  simp only [evO_some, to_bind', Kp_eq, to_ok]
@[simp ↓] theorem tT_cons {a r : CT} {x : PV} {xs : List PV} : (asT cf (.cons a r) (.tup (x :: xs)) s h).To QS = (asT cf a x s h).To (@Kp Sl ⟨fun s1 h1 => (asTs cf r xs s1 h1).To QS⟩) := by
  simp only [asT_cons, to_bind', Kp_eq]
@[simp ↓] theorem tT_rcons {a r : CT} {n : Nat} {x : PV} {xs : List PV} (hx : h[n]? = some (.lst (x :: xs))) : (asT cf (.cons a r) (.ref n) s h).To QS = (asT cf a x s h).To (@Kp Sl ⟨fun s1 h1 => (asTs cf r xs s1 h1).To QS⟩) := by
  rw [asT_rcons hx, to_bind', Kp_eq]
@[simp ↓] theorem tT_wcons {a r : CT} {x : PV} {xs : List PV} : (asT cf (.cons a r) (.wtup (x :: xs)) s h).To QS = (asT cf a x s h).To (@Kp Sl ⟨fun s1 h1 => (asTs cf r xs s1 h1).To QS⟩) := by
  simp only [asT_wcons, to_bind', Kp_eq]
@[simp ↓] theorem tTs_cons {a r : CT} {x : PV} {xs : List PV} : (asTs cf (.cons a r) (x :: xs) s h).To QS = (asT cf a x s h).To (@Kp Sl ⟨fun s1 h1 => (asTs cf r xs s1 h1).To QS⟩) := by
  simp only [asTs_cons, to_bind', Kp_eq]
@[simp ↓] theorem tT_s {o i : CE} {x : PV} : (asT cf (.s o i) x s h).To QS = (evE cf o s h).To (@Kp PV ⟨fun ov h1 => (evE cf i s h1).To (@Kp PV ⟨fun iv h2 => (setop ov iv x h2).To (@Kp Unit ⟨fun _ h3 => QS s h3⟩)⟩)⟩) := by
  simp only [asT_s, to_bind', Kp_eq, to_ok]
@[simp ↓] theorem t_compF {e : CE} {own : List Nat} {tg : CT} {c : CO} {x : PV} : (compF cf e own tg c s x h).To QO = (asT cf tg x (wipe s own) h).To (@Kp Sl ⟨fun s3 h3 => (evO cf c s3 h3).To (@Kp (Option PV) ⟨fun t h4 => (match t with
        | some (.bl false) => Res.ok none h4
        | some (.bl true) => (evE cf e s3 h4).bind fun y h5 => .ok (some y) h5
        | none => (evE cf e s3 h4).bind fun y h5 => .ok (some y) h5
        | _ => .bad).To QO⟩)⟩) := by
  rw [compF, to_bind', Kp_eq]; congr 1; funext s3 h3; rw [to_bind', Kp_eq]; try rfl
@[simp ↓] theorem to_bindP {x : Res α} {f : α → PH → Res β} {Q : β → PH → Prop} : (x.bind f).To Q = x.To (@Kp α ⟨fun a h => (f a h).To Q⟩) := to_bind
end
end PB
set_option Elab.async false
set_option linter.all false
set_option maxRecDepth 100000
set_option maxHeartbeats 4000000
set_option exponentiation.threshold 100000
namespace PB
open PySem
section
variable {k : Nat} {h t : PH} {o : PO} {e e' n n' m b c d : Nat} {x y : Rat} {T R : List Rat}
/-! ### drawn splines -/
theorem getD_app_left {xs ys : List Rat} {i : Nat} (h : i < xs.length) : (xs ++ ys).getD i 0 = xs.getD i 0 := by
  simp only [List.getD_eq_getElem?_getD]; rw [List.getElem?_append_left h]
theorem getD_app_rep {xs : List Rat} {q : Rat} {m i : Nat} (h1 : xs.length ≤ i) (h2 : i < xs.length + m) : (xs ++ List.replicate m q).getD i 0 = q := by
  simp only [List.getD_eq_getElem?_getD]
  rw [List.getElem?_append_right h1, List.getElem?_replicate, if_pos (by omega)]; rfl
theorem Kn.mono (hk : Kn d T) : ∀ {j i : Nat}, i ≤ j → j < T.length → T.getD i 0 ≤ T.getD j 0
  | 0, i, h, _ => by have : i = 0 := by omega
                     subst this; exact Rat.le_refl
  | j + 1, i, h, hj => by
    by_cases he : i = j + 1
    · subst he; exact Rat.le_refl
    · exact Rat.le_trans (Kn.mono hk (j := j) (by omega) (by omega)) (hk.1 j hj)
theorem Kn.rep (d : Nat) (q : Rat) {m : Nat} (hm : m ≤ d + 1) : Kn d (List.replicate m q) := ⟨fun i hi => by
  simp at hi
  have e1 := getD_app_rep (xs := []) (q := q) (m := m) (i := i) (by simp) (by simp; omega)
  have e2 := getD_app_rep (xs := []) (q := q) (m := m) (i := i + 1) (by simp) (by simp; omega)
  simp only [List.nil_append] at e1 e2
  rw [e1, e2]; exact Rat.le_refl, fun i hi => by simp at hi; omega⟩
/-- a greater knot behind -/
theorem Kn.app (hk : Kn d T) (h0 : 0 < T.length) {q : Rat} (hq : T.getD (T.length - 1) 0 < q) {m : Nat} (hm : m ≤ d + 1) : Kn d (T ++ List.replicate m q) := by
  refine ⟨fun i hi => ?_, fun i hi => ?_⟩
  · simp only [List.length_append, List.length_replicate] at hi
    by_cases h1 : i + 1 < T.length
    · rw [getD_app_left (by omega), getD_app_left h1]; exact hk.1 i h1
    · rw [getD_app_rep (i := i + 1) (by omega) hi]
      by_cases h2 : i < T.length
      · rw [getD_app_left h2]
        have := hk.mono (i := i) (j := T.length - 1) (by omega) (by omega)
        grind
      · rw [getD_app_rep (by omega) (by omega)]; exact Rat.le_refl
  · simp only [List.length_append, List.length_replicate] at hi
    by_cases h1 : i + d + 1 < T.length
    · rw [getD_app_left (by omega), getD_app_left h1]; exact hk.2 i h1
    · rw [getD_app_rep (i := i + d + 1) (by omega) hi, getD_app_left (by omega)]
      have := hk.mono (i := i) (j := T.length - 1) (by omega) (by omega)
      grind
theorem getD_take {xs : List Rat} {i j : Nat} (h : i < j) : (xs.take j).getD i 0 = xs.getD i 0 := by
  simp only [List.getD_eq_getElem?_getD]; rw [List.getElem?_take_of_lt h]
theorem Kn.take (hk : Kn d T) (j : Nat) : Kn d (T.take j) := ⟨fun i hi => by
  simp at hi
  rw [getD_take (by omega), getD_take (by omega)]; exact hk.1 i (by omega), fun i hi => by
  simp at hi
  rw [getD_take (by omega), getD_take (by omega)]; exact hk.2 i (by omega)⟩
structure Spl (d : Nat) (T R : List Rat) : Prop where
  dl : d ≤ 4
  kn : Kn d T
  lo : 2 * d + 2 ≤ T.length
  hi : T.length ≤ 16
  fst : T.getD 0 0 = T.getD d 0
  lst : T.getD (T.length - 1) 0 = T.getD (T.length - d - 1) 0
  rl : R.length + d + 1 = T.length
  tb : ∀ q ∈ T, Fq 1 18 q
  rb : ∀ q ∈ R, Fq 1 14 q
/-- knots of a spline, before they are cut -/
structure Kts (d : Nat) (K : List Rat) (now : Rat) (j : Nat) : Prop where
  kn : Kn d K
  len : d + 1 ≤ K.length
  le : K.length ≤ (j + 1) * (d + 1)
  fst : K.getD 0 0 = K.getD d 0
  last : K.getD (K.length - 1) 0 = now
  tb : ∀ q ∈ K, Fq 1 (12 + j) q
theorem Kts.tn {K : List Rat} {now : Rat} {j : Nat} (h : Kts d K now j) : Fq 1 (12 + j) now := by
  have hl := h.len
  rw [← h.last, List.getD_eq_getElem?_getD, List.getElem?_eq_getElem (by omega)]
  exact h.tb _ (List.getElem_mem _)
theorem Kts.start (low : Rat) (hl : Fq 1 12 low) : Kts d (List.replicate (d + 1) low) low 0 := by
  have e : ∀ i, i < d + 1 → (List.replicate (d + 1) low).getD i 0 = low := fun i hi => by
    have := getD_app_rep (xs := []) (q := low) (m := d + 1) (i := i) (by simp) (by simp; omega)
    simpa using this
  refine ⟨Kn.rep d low (Nat.le_refl _), by simp, by simp, ?_, ?_, fun q hq => by rw [List.eq_of_mem_replicate hq]; exact hl⟩
  · rw [e 0 (by omega), e d (by omega)]
  · rw [List.length_replicate, e _ (by omega)]
theorem Kts.done {K : List Rat} {now a : Rat} {j : Nat} (h : Kts d K now j) (hj : j ≤ 3) (hd : d ≤ 4) (ha : 0 < a) (hf : Fq 1 12 a) (T : List Rat)
    (hT : T = if (K ++ List.replicate (d + 1) (now + a)).length > 16 then (K ++ List.replicate (d + 1) (now + a)).take (15 - d) ++ (K ++ List.replicate (d + 1) (now + a)).drop ((K ++ List.replicate (d + 1) (now + a)).length - (d + 1)) else K ++ List.replicate (d + 1) (now + a)) (R : List Rat) (hR : R.length + d + 1 = T.length) (hRb : ∀ q ∈ R, Fq 1 12 q) : Spl d T R := by
  have hl := h.len
  obtain ⟨K', hK', e, hlen⟩ : ∃ K', (∃ p, K' = K.take p ∧ d + 1 ≤ p) ∧ T = K' ++ List.replicate (d + 1) (now + a) ∧ K'.length ≤ 15 - d := by
    simp only [List.length_append, List.length_replicate] at hT
    split at hT
    · rename_i hgt
      refine ⟨K.take (15 - d), ⟨15 - d, rfl, by omega⟩, ?_, by simp; omega⟩
      rw [hT, List.take_append_of_le_length (by omega), show K.length + (d + 1) - (d + 1) = K.length by omega, List.drop_left]
    · exact ⟨K, ⟨K.length, by simp, hl⟩, hT, by omega⟩
  obtain ⟨p, rfl, hp⟩ := hK'
  have hkl : (K.take p).length = min p K.length := List.length_take
  have h0 : 0 < (K.take p).length := by omega
  have hlast : (K.take p).getD ((K.take p).length - 1) 0 < now + a := by
    rw [getD_take (by omega)]
    have := h.kn.mono (i := (K.take p).length - 1) (j := K.length - 1) (by omega) (by omega)
    rw [h.last] at this
    grind
  have hTl : T.length = (K.take p).length + (d + 1) := by rw [e]; simp
  refine ⟨hd, ?_, by omega, by omega, ?_, ?_, hR, fun q hq => ?_, fun q hq => (hRb q hq).up (by omega) (by omega)⟩
  · rw [e]; exact (h.kn.take p).app h0 hlast (Nat.le_refl _)
  · rw [e, getD_app_left (by omega), getD_app_left (by omega), getD_take (by omega), getD_take (by omega)]; exact h.fst
  · rw [hTl, e, getD_app_rep (by omega) (by omega), getD_app_rep (by omega) (by omega)]
  · rw [e] at hq
    rcases List.mem_append.mp hq with hq | hq
    · exact (h.tb q (List.mem_of_mem_take hq)).up (Nat.le_refl _) (by omega)
    · rw [List.eq_of_mem_replicate hq]
      exact ((Kts.tn h).add (hf.up (Nat.le_refl _) (by omega))).up (Nat.le_refl _) (by omega)
end
end PB
set_option Elab.async false
set_option linter.all false
set_option maxRecDepth 100000
set_option maxHeartbeats 4000000
set_option exponentiation.threshold 100000
namespace PB
open PySem
section
variable {k : Nat} {h t : PH} {o : PO} {e e' n n' m b c d p : Nat} {x y : Rat} {T R : List Rat}
theorem Spl.up (h : Spl d T R) {i j : Nat} (hij : i ≤ j) (hj : j < T.length) : T.getD i 0 ≤ T.getD j 0 := h.kn.mono hij hj
/-! ### C. de Boor's averages -/
end
end PB
set_option Elab.async false
set_option linter.all false
set_option maxRecDepth 100000
set_option maxHeartbeats 4000000
set_option exponentiation.threshold 100000
namespace PB
open PySem
section
variable {o : PO} {t : PH}
theorem pickl_to {i : Nat} {xs : List PV} {Q : PV → PH → Prop} (h0 : xs ≠ []) (hz : xs.length ≤ 1000000) (hr : Row o) (hi : t[i]? = some (.lst xs)) (q : ∀ v o', v ∈ xs → Row o' → Q v (o' :: t)) : (callF G 39 17 [.ref 0, .ref (i + 1)] (o :: t)).To Q := by
  obtain ⟨v, o', h1, h2, e⟩ := pick_lst (k := 37) h0 hz hr hi
  exact to_eq e (q v o' h1 h2)
theorem math38 (ns : List Int) (hl : ns.length ≤ 63) : ∃ h', callF G 40 440 [.scr (ns.map PV.int)] [] = .ok (.bl true) h' := by
  apply of_law
  rw [callF_eq (f := f_law_79) rfl rfl, to_bind]
  simp only [f_law_79, c_law_79]
  simp [alloc, List.replicate]
  have r0 : Row (.lst [.scr (ns.map PV.int), .int 0, .int 4138, .int 0]) := row0 hl (by decide) (by decide)
  refine pickl_to (i := 0) (xs := [PV.non, PV.int (-1), PV.int 5, PV.bl true, PV.str (Str.ofString "1"), PV.tup [PV.int 1]]) (by simp) (by simp) r0 rfl fun v1 o1 hv1 r1 => ?_
  have hp1 : Plw [o1] := by simp [Plw, r1.low]
  have lv1 : ∀ n, 0 ≤ n → PV.low n v1 = true := by
    intro n hn
    simp at hv1
    rcases hv1 with rfl | rfl | rfl | rfl | rfl | rfl <;> simp [PV.low, PV.lows] <;> omega
  simp [alloc, mth, many, blt, items]
  refine lam_fnd (m := 2) (.str "degree") rfl (by simp; rfl) (by simp [Plw, po_low, PV.lows, PV.low, r1.low, lv1]) rfl (by clear lv1; revert v1; decide +kernel) ?_
  simp [alloc, mth, many, blt, items]
  refine lam_fnd (m := 3) (.str "degree") rfl (by simp; rfl) (by simp [Plw, po_low, PV.lows, PV.low, r1.low, lv1]) rfl (by clear lv1; revert v1; decide +kernel) ?_
  simp [alloc, mth, many, blt, items]
  refine lam_fnd (m := 3) (.str "degree") rfl (by simp; rfl) (by simp [Plw, po_low, PV.lows, PV.low, r1.low, lv1]) rfl (by clear lv1; revert v1; decide +kernel) ?_
  simp [alloc, mth, many, blt, items]
  refine lam_fnd (m := 3) (.str "degree") rfl (by simp; rfl) (by simp [Plw, po_low, PV.lows, PV.low, r1.low, lv1]) rfl (by clear lv1; revert v1; decide +kernel) ?_
  simp [alloc, mth, many, blt, items]
  refine lam_fnd (m := 3) (.str "degree") rfl (by simp; rfl) (by simp [Plw, po_low, PV.lows, PV.low, r1.low, lv1]) rfl (by clear lv1; revert v1; decide +kernel) ?_
  simp [alloc, mth, many, blt, items]
  refine lam_fnd (m := 3) (.str "degree") rfl (by simp; rfl) (by simp [Plw, po_low, PV.lows, PV.low, r1.low, lv1]) rfl (by clear lv1; revert v1; decide +kernel) ?_
  simp [alloc, mth, many, blt, items]
  refine lam_fnd (m := 3) (.str "degree") rfl (by simp; rfl) (by simp [Plw, po_low, PV.lows, PV.low, r1.low, lv1]) rfl (by clear lv1 hv1; decide +kernel) ?_
  simp [alloc, mth, many, blt, items]
  refine lam_fnd (m := 3) (.str "degree") rfl (by simp; rfl) (by simp [Plw, po_low, PV.lows, PV.low, r1.low, lv1]) rfl (by clear lv1 hv1; decide +kernel) ?_
  simp [alloc, mth, many, blt, items]
  rw [show eqD _ (PV.ref 4) (PV.ref 6) = some true from by kernel_rfl]
  simp [alloc, mth, many, blt, items]
  refine pickl_to (i := 7) (xs := [PV.non, PV.int 1, PV.tup [PV.int 2, PV.int 4], PV.tup [PV.int 1, PV.int 0], PV.tup [PV.bl true, PV.int 1], PV.ref 7, PV.str (Str.ofString "1"), PV.dct]) (by simp) (by simp) r1 rfl fun v2 o2 hv2 r2 => ?_
  have hp2 : Plw [o2] := by simp [Plw, r2.low]
  have lv2 : ∀ n, 8 ≤ n → PV.low n v2 = true := by
    intro n hn
    simp at hv2
    rcases hv2 with rfl | rfl | rfl | rfl | rfl | rfl | rfl | rfl <;> simp [PV.low, PV.lows] <;> omega
  have sv2 : v2 = PV.ref 7 ∨ v2 ∈ ([PV.non, PV.int 1, PV.tup [PV.int 2, PV.int 4], PV.tup [PV.int 1, PV.int 0], PV.tup [PV.bl true, PV.int 1], PV.str (Str.ofString "1"), PV.dct] : List PV) := by
    simp at hv2 ⊢
    rcases hv2 with rfl | rfl | rfl | rfl | rfl | rfl | rfl | rfl <;> simp
  simp [alloc, mth, many, blt, items]
  refine pickl_to (i := 11) (xs := ([(PV.non, PV.non), (PV.tup [], PV.non), (PV.ref 9, PV.non), (PV.tup [PV.tup [PV.int 0, PV.int 1], PV.tup [PV.int 1, PV.int 1]], PV.non), (PV.tup [PV.tup [PV.int 0, PV.int 1], PV.tup [PV.int 0, PV.int 1], PV.tup [PV.int 0, PV.int 1], PV.tup [PV.int 0, PV.int 1], PV.tup [PV.int 0, PV.int 1], PV.tup [PV.int 0, PV.int 1], PV.tup [PV.int 0, PV.int 1], PV.tup [PV.int 0, PV.int 1], PV.tup [PV.int 0, PV.int 1], PV.tup [PV.int 0, PV.int 1], PV.tup [PV.int 0, PV.int 1], PV.tup [PV.int 0, PV.int 1], PV.tup [PV.int 0, PV.int 1], PV.tup [PV.int 0, PV.int 1], PV.tup [PV.int 0, PV.int 1], PV.tup [PV.int 0, PV.int 1], PV.tup [PV.int 0, PV.int 1]], PV.non), (PV.tup [PV.tup [PV.int 0, PV.int 1], v2, PV.tup [PV.int 1, PV.int 1], PV.non], PV.int 1), (PV.tup [PV.tup [PV.int 1, PV.int 1], PV.tup [PV.int 0, PV.int 1], PV.tup [PV.int 2, PV.int 1]], PV.int 1), (PV.tup [PV.tup [PV.int 0, PV.int 1], PV.tup [PV.int 0, PV.int 1], PV.tup [PV.int 0, PV.int 1], PV.tup [PV.int 1, PV.int 1]], PV.int 2), (PV.tup [PV.tup [PV.int 0, PV.int 1], PV.tup [PV.int 1, PV.int 1], PV.tup [PV.int 1, PV.int 1], PV.tup [PV.int 1, PV.int 1]], PV.int 3)] : List (PV × PV)).map fun p => .tup [p.1, p.2]) (by simp) (by simp) r2 rfl fun z3 o3 hz3 r3 => ?_
  obtain ⟨v3, hv3, rfl⟩ := List.mem_map.mp hz3
  clear hz3
  have kv3 : v3.2 = PV.non ∨ v3.2 = PV.int 1 ∨ v3.2 = PV.int 2 ∨ v3.2 = PV.int 3 := by
    simp at hv3
    rcases hv3 with rfl | rfl | rfl | rfl | rfl | rfl | rfl | rfl | rfl <;> simp
  have hp3 : Plw [o3] := by simp [Plw, r3.low]
  have lv3 : ∀ n, 10 ≤ n → PV.low n v3.1 = true ∧ PV.low n v3.2 = true := by
    intro n hn
    simp at hv3
    rcases hv3 with rfl | rfl | rfl | rfl | rfl | rfl | rfl | rfl | rfl <;> simp [PV.low, PV.lows, lv2 n (by omega)] <;> omega
  simp [alloc, mth, many, blt, items]
  refine lam_to (p := [o3, PO.lst [PV.non, PV.int (-1), PV.int 5, PV.bl true, PV.str (Str.ofString "1"), PV.tup [PV.int 1]], PO.lst [PV.str (Str.ofString "degree"), PV.str (Str.ofString "degree"), PV.str (Str.ofString "degree"), PV.str (Str.ofString "degree"), PV.str (Str.ofString "degree"), PV.str (Str.ofString "degree")], PO.lst [PV.str (Str.ofString "degree"), PV.str (Str.ofString "degree")], PO.lst [PV.str (Str.ofString "degree"), PV.str (Str.ofString "degree"), PV.str (Str.ofString "degree"), PV.str (Str.ofString "degree"), PV.str (Str.ofString "degree"), PV.str (Str.ofString "degree"), PV.str (Str.ofString "degree"), PV.str (Str.ofString "degree")], PO.lst [PV.str (Str.ofString "degree")], PO.lst [PV.str (Str.ofString "degree"), PV.str (Str.ofString "degree"), PV.str (Str.ofString "degree"), PV.str (Str.ofString "degree"), PV.str (Str.ofString "degree"), PV.str (Str.ofString "degree"), PV.str (Str.ofString "degree"), PV.str (Str.ofString "degree")]]) (m := 7) (.tup [.str "knots", v3.2]) rfl (by simp; rfl) (by simp [Plw, po_low, PV.lows, PV.low, r3.low, lv1, lv2, lv3]) rfl (by clear lv3 kv3 sv2 lv2 lv1 hv1; revert v3; revert v2; decide +kernel) ?_
  simp [alloc, mth, many, blt, items]
  refine lam_to (p := [o3, PO.lst [PV.non, PV.int (-1), PV.int 5, PV.bl true, PV.str (Str.ofString "1"), PV.tup [PV.int 1]], PO.lst [PV.str (Str.ofString "degree"), PV.str (Str.ofString "degree"), PV.str (Str.ofString "degree"), PV.str (Str.ofString "degree"), PV.str (Str.ofString "degree"), PV.str (Str.ofString "degree")], PO.lst [PV.str (Str.ofString "degree"), PV.str (Str.ofString "degree")], PO.lst [PV.str (Str.ofString "degree"), PV.str (Str.ofString "degree"), PV.str (Str.ofString "degree"), PV.str (Str.ofString "degree"), PV.str (Str.ofString "degree"), PV.str (Str.ofString "degree"), PV.str (Str.ofString "degree"), PV.str (Str.ofString "degree")], PO.lst [PV.str (Str.ofString "degree")], PO.lst [PV.str (Str.ofString "degree"), PV.str (Str.ofString "degree"), PV.str (Str.ofString "degree"), PV.str (Str.ofString "degree"), PV.str (Str.ofString "degree"), PV.str (Str.ofString "degree"), PV.str (Str.ofString "degree"), PV.str (Str.ofString "degree")]]) (m := 7) (.tup [.str "knots", v3.2]) rfl (by simp; rfl) (by simp [Plw, po_low, PV.lows, PV.low, r3.low, lv1, lv2, lv3]) rfl (by clear lv3 kv3 sv2 lv2 lv1 hv1; revert v3; revert v2; decide +kernel) ?_
  simp [alloc, mth, many, blt, items]
  refine lam_to (p := [o3, PO.lst [PV.non, PV.int (-1), PV.int 5, PV.bl true, PV.str (Str.ofString "1"), PV.tup [PV.int 1]], PO.lst [PV.str (Str.ofString "degree"), PV.str (Str.ofString "degree"), PV.str (Str.ofString "degree"), PV.str (Str.ofString "degree"), PV.str (Str.ofString "degree"), PV.str (Str.ofString "degree")], PO.lst [PV.str (Str.ofString "degree"), PV.str (Str.ofString "degree")], PO.lst [PV.str (Str.ofString "degree"), PV.str (Str.ofString "degree"), PV.str (Str.ofString "degree"), PV.str (Str.ofString "degree"), PV.str (Str.ofString "degree"), PV.str (Str.ofString "degree"), PV.str (Str.ofString "degree"), PV.str (Str.ofString "degree")], PO.lst [PV.str (Str.ofString "degree")], PO.lst [PV.str (Str.ofString "degree"), PV.str (Str.ofString "degree"), PV.str (Str.ofString "degree"), PV.str (Str.ofString "degree"), PV.str (Str.ofString "degree"), PV.str (Str.ofString "degree"), PV.str (Str.ofString "degree"), PV.str (Str.ofString "degree")]]) (m := 7) (.tup [.str "knots", v3.2]) rfl (by simp; rfl) (by simp [Plw, po_low, PV.lows, PV.low, r3.low, lv1, lv2, lv3]) rfl (by clear lv3 kv3 sv2 lv2 lv1 hv1; revert v3; revert v2; decide +kernel) ?_
  simp [alloc, mth, many, blt, items]
  refine lam_to (p := [o3, PO.lst [PV.non, PV.int (-1), PV.int 5, PV.bl true, PV.str (Str.ofString "1"), PV.tup [PV.int 1]], PO.lst [PV.str (Str.ofString "degree"), PV.str (Str.ofString "degree"), PV.str (Str.ofString "degree"), PV.str (Str.ofString "degree"), PV.str (Str.ofString "degree"), PV.str (Str.ofString "degree")], PO.lst [PV.str (Str.ofString "degree"), PV.str (Str.ofString "degree")], PO.lst [PV.str (Str.ofString "degree"), PV.str (Str.ofString "degree"), PV.str (Str.ofString "degree"), PV.str (Str.ofString "degree"), PV.str (Str.ofString "degree"), PV.str (Str.ofString "degree"), PV.str (Str.ofString "degree"), PV.str (Str.ofString "degree")], PO.lst [PV.str (Str.ofString "degree")], PO.lst [PV.str (Str.ofString "degree"), PV.str (Str.ofString "degree"), PV.str (Str.ofString "degree"), PV.str (Str.ofString "degree"), PV.str (Str.ofString "degree"), PV.str (Str.ofString "degree"), PV.str (Str.ofString "degree"), PV.str (Str.ofString "degree")]]) (m := 7) (.tup [.str "knots", v3.2]) rfl (by simp; rfl) (by simp [Plw, po_low, PV.lows, PV.low, r3.low, lv1, lv2, lv3]) rfl (by clear lv3 kv3 sv2 lv2 lv1 hv1; revert v3; revert v2; decide +kernel) ?_
  simp [alloc, mth, many, blt, items]
  rw [show eqD _ (PV.ref 15) (PV.ref 17) = some true from by rcases kv3 with e | e | e | e <;> rw [e] <;> kernel_rfl]
  simp [alloc, mth, many, blt, items]
  refine pickl_to (i := 17) (xs := [PV.non, PV.int (-1), PV.int 2, PV.bl true, PV.str (Str.ofString "0"), PV.tup [PV.int 0]]) (by simp) (by simp) r3 rfl fun v4 o4 hv4 r4 => ?_
  have hp4 : Plw [o4] := by simp [Plw, r4.low]
  have lv4 : ∀ n, 0 ≤ n → PV.low n v4 = true := by
    intro n hn
    simp at hv4
    rcases hv4 with rfl | rfl | rfl | rfl | rfl | rfl <;> simp [PV.low, PV.lows] <;> omega
  simp [alloc, mth, many, blt, items]
  refine lam_fnd (m := 19) (.str "number") rfl (by simp; rfl) (by simp [Plw, po_low, PV.lows, PV.low, r4.low, lv1, lv2, lv3, lv4]) rfl (by clear lv4 lv3 kv3 sv2 lv2 lv1 hv3 hv2 hv1; revert v4; decide +kernel) ?_
  simp [alloc, mth, many, blt, items]
  refine lam_fnd (m := 20) (.str "number") rfl (by simp; rfl) (by simp [Plw, po_low, PV.lows, PV.low, r4.low, lv1, lv2, lv3, lv4]) rfl (by clear lv4 lv3 kv3 sv2 lv2 lv1 hv3 hv2 hv1; revert v4; decide +kernel) ?_
  simp [alloc, mth, many, blt, items]
  rw [show eqD _ (PV.ref 19) (PV.ref 21) = some true from by kernel_rfl]
  simp [alloc, mth, many, blt, items]
  refine lam_eq (.str "ratio") rfl (by simp; rfl) ?_ ?_
  · rcases sv2 with e | gv2
    · subst e
      exact word_at (p := [o4]) (m := 1) hp4 rfl (by clear lv4 hv4 lv3 kv3 lv1 hv1; revert v3; decide +kernel)
    · exact word_at0 (m := 22) (by simp [Plw, po_low, PV.lows, PV.low, r4.low, lv1, lv2, lv3, lv4]) rfl (by clear lv4 hv4 lv3 kv3 hv3 lv2 hv2 lv1 hv1; revert v2; decide +kernel)
  simp [alloc, mth, many, blt, items]
  rw [show eqD _ (PV.str (Str.ofString "ratio")) (PV.str (Str.ofString "ratio")) = some true from by kernel_rfl]
  simp [alloc, mth, many, blt, items]
  refine pickl_to (i := 22) (xs := [PV.non, PV.tup [PV.tup [PV.int 0, PV.int 1]], PV.ref 22, PV.tup [v2]]) (by simp) (by simp) r4 rfl fun v5 o5 hv5 r5 => ?_
  have hp5 : Plw [o5] := by simp [Plw, r5.low]
  have lv5 : ∀ n, 23 ≤ n → PV.low n v5 = true := by
    intro n hn
    simp at hv5
    rcases hv5 with rfl | rfl | rfl | rfl <;> simp [PV.low, PV.lows, lv2 n (by omega)] <;> omega
  have sv5 : v5 = PV.ref 22 ∨ v5 ∈ ([PV.non, PV.tup [PV.tup [PV.int 0, PV.int 1]], PV.tup [v2]] : List PV) := by
    simp at hv5 ⊢
    rcases hv5 with rfl | rfl | rfl | rfl <;> simp
  simp [alloc, mth, many, blt, items]
  refine lam_eq (.str "polynomial") rfl (by simp; rfl) ?_ ?_
  · rcases sv2 with e | gv2
    · subst e
      exact word_at (p := [o5]) (m := 1) hp5 rfl (by clear sv5 lv5 lv4 hv4 lv3 kv3 lv1 hv1; revert v5; revert v3; decide +kernel)
    · exact word_at (p := [o5, PO.lst [PV.non, PV.int (-1), PV.int 5, PV.bl true, PV.str (Str.ofString "1"), PV.tup [PV.int 1]], PO.lst [PV.str (Str.ofString "degree"), PV.str (Str.ofString "degree"), PV.str (Str.ofString "degree"), PV.str (Str.ofString "degree"), PV.str (Str.ofString "degree"), PV.str (Str.ofString "degree")], PO.lst [PV.str (Str.ofString "degree"), PV.str (Str.ofString "degree")], PO.lst [PV.str (Str.ofString "degree"), PV.str (Str.ofString "degree"), PV.str (Str.ofString "degree"), PV.str (Str.ofString "degree"), PV.str (Str.ofString "degree"), PV.str (Str.ofString "degree"), PV.str (Str.ofString "degree"), PV.str (Str.ofString "degree")], PO.lst [PV.str (Str.ofString "degree")], PO.lst [PV.str (Str.ofString "degree"), PV.str (Str.ofString "degree"), PV.str (Str.ofString "degree"), PV.str (Str.ofString "degree"), PV.str (Str.ofString "degree"), PV.str (Str.ofString "degree"), PV.str (Str.ofString "degree"), PV.str (Str.ofString "degree")], PO.lst [PV.int 1, PV.int 2], PO.lst [PV.non, PV.int 1, PV.tup [PV.int 2, PV.int 4], PV.tup [PV.int 1, PV.int 0], PV.tup [PV.bl true, PV.int 1], PV.ref 7, PV.str (Str.ofString "1"), PV.dct], PO.lst [PV.tup [PV.int 0, PV.int 1], PV.tup [PV.int 0, PV.int 1], PV.tup [PV.int 1, PV.int 1], PV.tup [PV.int 2, PV.int 1]], PO.lst [PV.tup [PV.non, PV.non], PV.tup [PV.tup [], PV.non], PV.tup [PV.ref 9, PV.non], PV.tup [PV.tup [PV.tup [PV.int 0, PV.int 1], PV.tup [PV.int 1, PV.int 1]], PV.non], PV.tup [PV.tup [PV.tup [PV.int 0, PV.int 1], PV.tup [PV.int 0, PV.int 1], PV.tup [PV.int 0, PV.int 1], PV.tup [PV.int 0, PV.int 1], PV.tup [PV.int 0, PV.int 1], PV.tup [PV.int 0, PV.int 1], PV.tup [PV.int 0, PV.int 1], PV.tup [PV.int 0, PV.int 1], PV.tup [PV.int 0, PV.int 1], PV.tup [PV.int 0, PV.int 1], PV.tup [PV.int 0, PV.int 1], PV.tup [PV.int 0, PV.int 1], PV.tup [PV.int 0, PV.int 1], PV.tup [PV.int 0, PV.int 1], PV.tup [PV.int 0, PV.int 1], PV.tup [PV.int 0, PV.int 1], PV.tup [PV.int 0, PV.int 1]], PV.non]], PO.lst [PV.tup [PV.tup [PV.tup [PV.int 0, PV.int 1], v2, PV.tup [PV.int 1, PV.int 1], PV.non], PV.int 1], PV.tup [PV.tup [PV.tup [PV.int 1, PV.int 1], PV.tup [PV.int 0, PV.int 1], PV.tup [PV.int 2, PV.int 1]], PV.int 1], PV.tup [PV.tup [PV.tup [PV.int 0, PV.int 1], PV.tup [PV.int 0, PV.int 1], PV.tup [PV.int 0, PV.int 1], PV.tup [PV.int 1, PV.int 1]], PV.int 2]], PO.lst [PV.tup [PV.non, PV.non], PV.tup [PV.tup [], PV.non], PV.tup [PV.ref 9, PV.non], PV.tup [PV.tup [PV.tup [PV.int 0, PV.int 1], PV.tup [PV.int 1, PV.int 1]], PV.non], PV.tup [PV.tup [PV.tup [PV.int 0, PV.int 1], PV.tup [PV.int 0, PV.int 1], PV.tup [PV.int 0, PV.int 1], PV.tup [PV.int 0, PV.int 1], PV.tup [PV.int 0, PV.int 1], PV.tup [PV.int 0, PV.int 1], PV.tup [PV.int 0, PV.int 1], PV.tup [PV.int 0, PV.int 1], PV.tup [PV.int 0, PV.int 1], PV.tup [PV.int 0, PV.int 1], PV.tup [PV.int 0, PV.int 1], PV.tup [PV.int 0, PV.int 1], PV.tup [PV.int 0, PV.int 1], PV.tup [PV.int 0, PV.int 1], PV.tup [PV.int 0, PV.int 1], PV.tup [PV.int 0, PV.int 1], PV.tup [PV.int 0, PV.int 1]], PV.non], PV.tup [PV.tup [PV.tup [PV.int 0, PV.int 1], v2, PV.tup [PV.int 1, PV.int 1], PV.non], PV.int 1], PV.tup [PV.tup [PV.tup [PV.int 1, PV.int 1], PV.tup [PV.int 0, PV.int 1], PV.tup [PV.int 2, PV.int 1]], PV.int 1], PV.tup [PV.tup [PV.tup [PV.int 0, PV.int 1], PV.tup [PV.int 0, PV.int 1], PV.tup [PV.int 0, PV.int 1], PV.tup [PV.int 1, PV.int 1]], PV.int 2], PV.tup [PV.tup [PV.tup [PV.int 0, PV.int 1], PV.tup [PV.int 1, PV.int 1], PV.tup [PV.int 1, PV.int 1], PV.tup [PV.int 1, PV.int 1]], PV.int 3]], PO.lst [PV.tup [PV.str (Str.ofString "knots"), v3.snd], PV.tup [PV.str (Str.ofString "knots"), v3.snd]], PO.lst [PV.tup [PV.str (Str.ofString "knots"), v3.snd], PV.tup [PV.str (Str.ofString "knots"), v3.snd]], PO.lst [PV.tup [PV.str (Str.ofString "knots"), v3.snd], PV.tup [PV.str (Str.ofString "knots"), v3.snd], PV.tup [PV.str (Str.ofString "knots"), v3.snd], PV.tup [PV.str (Str.ofString "knots"), v3.snd]], PO.lst [PV.tup [PV.str (Str.ofString "knots"), v3.snd]], PO.lst [PV.tup [PV.str (Str.ofString "knots"), v3.snd], PV.tup [PV.str (Str.ofString "knots"), v3.snd], PV.tup [PV.str (Str.ofString "knots"), v3.snd], PV.tup [PV.str (Str.ofString "knots"), v3.snd]], PO.lst [PV.non, PV.int (-1), PV.int 2, PV.bl true, PV.str (Str.ofString "0"), PV.tup [PV.int 0]], PO.lst [PV.str (Str.ofString "number"), PV.str (Str.ofString "number")], PO.lst [PV.str (Str.ofString "number")], PO.lst [PV.str (Str.ofString "number"), PV.str (Str.ofString "number")]]) (m := 22) (by simp [Plw, po_low, PV.lows, PV.low, r5.low, lv1, lv2, lv3, lv4, lv5]) rfl (by clear sv5 lv5 lv4 hv4 lv3 kv3 hv3 lv2 hv2 lv1 hv1; revert v5; revert v2; decide +kernel)
  simp [alloc, mth, many, blt, items]
  rw [show eqD _ (PV.str (Str.ofString "polynomial")) (PV.str (Str.ofString "polynomial")) = some true from by kernel_rfl]
  simp [alloc, mth, many, blt, items]
  refine pickl_to (i := 28) (xs := ([(PV.non, PV.non), (PV.tup [], PV.non), (PV.ref 24, PV.non), (PV.tup [PV.tup [PV.tup [PV.tup [PV.int 0, PV.int 1], PV.tup [PV.int 1, PV.int 1]], PV.tup [PV.tup [PV.int 0, PV.int 1], PV.tup [PV.int 1, PV.int 1]]], PV.tup [PV.tup [PV.tup [PV.int 0, PV.int 1], PV.tup [PV.int 1, PV.int 1]], PV.tup [PV.tup [PV.int 0, PV.int 1], PV.tup [PV.int 1, PV.int 1]]], PV.tup [PV.tup [PV.tup [PV.int 0, PV.int 1], PV.tup [PV.int 1, PV.int 1]], PV.tup [PV.tup [PV.int 0, PV.int 1], PV.tup [PV.int 1, PV.int 1]]], PV.tup [PV.tup [PV.tup [PV.int 0, PV.int 1], PV.tup [PV.int 1, PV.int 1]], PV.tup [PV.tup [PV.int 0, PV.int 1], PV.tup [PV.int 1, PV.int 1]]], PV.tup [PV.tup [PV.tup [PV.int 0, PV.int 1], PV.tup [PV.int 1, PV.int 1]], PV.tup [PV.tup [PV.int 0, PV.int 1], PV.tup [PV.int 1, PV.int 1]]], PV.tup [PV.tup [PV.tup [PV.int 0, PV.int 1], PV.tup [PV.int 1, PV.int 1]], PV.tup [PV.tup [PV.int 0, PV.int 1], PV.tup [PV.int 1, PV.int 1]]], PV.tup [PV.tup [PV.tup [PV.int 0, PV.int 1], PV.tup [PV.int 1, PV.int 1]], PV.tup [PV.tup [PV.int 0, PV.int 1], PV.tup [PV.int 1, PV.int 1]]], PV.tup [PV.tup [PV.tup [PV.int 0, PV.int 1], PV.tup [PV.int 1, PV.int 1]], PV.tup [PV.tup [PV.int 0, PV.int 1], PV.tup [PV.int 1, PV.int 1]]], PV.tup [PV.tup [PV.tup [PV.int 0, PV.int 1], PV.tup [PV.int 1, PV.int 1]], PV.tup [PV.tup [PV.int 0, PV.int 1], PV.tup [PV.int 1, PV.int 1]]]], PV.non), (PV.tup [PV.tup [PV.tup [PV.tup [PV.int 0, PV.int 1], PV.tup [PV.int 1, PV.int 1]], PV.tup [PV.tup [PV.int 0, PV.int 1], PV.tup [PV.int 1, PV.int 1]]], PV.non], PV.int 1), (PV.tup [PV.tup [PV.tup [PV.tup [PV.int 0, PV.int 1], PV.tup [PV.int 1, PV.int 1]], PV.tup [PV.tup [PV.int 0, PV.int 1], PV.tup [PV.int 1, PV.int 1]]], PV.tup [PV.tup [PV.tup [PV.int 0, PV.int 1], PV.tup [PV.int 1, PV.int 1]], PV.tup [PV.tup [PV.int 0, PV.int 1], PV.tup [PV.int 1, PV.int 1]]]], PV.int 1), (PV.tup [PV.tup [PV.tup [PV.tup [PV.int 1, PV.int 1], PV.tup [PV.int 0, PV.int 1]], PV.tup [PV.tup [PV.int 0, PV.int 1], PV.tup [PV.int 1, PV.int 1]]]], PV.int 0), (PV.tup [PV.tup [PV.tup [PV.tup [PV.int 0, PV.int 1], PV.tup [PV.int 1, PV.int 1]], PV.tup [PV.tup [PV.int 0, PV.int 1], PV.tup [PV.int 0, PV.int 1]]]], PV.int 0), (PV.tup [PV.tup [PV.tup [PV.tup [PV.int 0, PV.int 1], PV.tup [PV.int 1, PV.int 1]], PV.tup [PV.tup [PV.int 1, PV.int 1], PV.tup [PV.int 1, PV.int 1], PV.tup [PV.int 1, PV.int 1]]]], PV.int 0), (PV.tup [PV.tup [PV.tup [PV.int 0, PV.int 1], PV.tup [PV.int 1, PV.int 1], PV.tup [PV.tup [PV.int 0, PV.int 1], PV.tup [PV.int 1, PV.int 1]]]], PV.int 0), (PV.tup [PV.tup [PV.tup [PV.tup [PV.int 0, PV.int 1], v2], PV.tup [PV.tup [PV.int 0, PV.int 1], PV.tup [PV.int 1, PV.int 1]]]], PV.int 0)] : List (PV × PV)).map fun p => .tup [p.1, p.2]) (by simp) (by simp) r5 rfl fun z6 o6 hz6 r6 => ?_
  obtain ⟨v6, hv6, rfl⟩ := List.mem_map.mp hz6
  clear hz6
  have kv6 : v6.2 = PV.non ∨ v6.2 = PV.int 1 ∨ v6.2 = PV.int 0 := by
    simp at hv6
    rcases hv6 with rfl | rfl | rfl | rfl | rfl | rfl | rfl | rfl | rfl | rfl | rfl <;> simp
  have hp6 : Plw [o6] := by simp [Plw, r6.low]
  have lv6 : ∀ n, 25 ≤ n → PV.low n v6.1 = true ∧ PV.low n v6.2 = true := by
    intro n hn
    simp at hv6
    rcases hv6 with rfl | rfl | rfl | rfl | rfl | rfl | rfl | rfl | rfl | rfl | rfl <;> simp [PV.low, PV.lows, lv2 n (by omega)] <;> omega
  simp [alloc, mth, many, blt, items]
  refine lam_eq (.tup [.str "pieces", v6.2]) rfl (by simp; rfl) ?_ ?_
  · rcases sv2 with e | gv2
    · subst e
      exact word_at (p := [o6]) (m := 1) hp6 rfl (by clear lv6 kv6 sv5 lv5 hv5 lv4 hv4 lv3 kv3 lv1 hv1; revert v6; revert v3; decide +kernel)
    · exact word_at (p := [o6, PO.lst [PV.non, PV.int (-1), PV.int 5, PV.bl true, PV.str (Str.ofString "1"), PV.tup [PV.int 1]], PO.lst [PV.str (Str.ofString "degree"), PV.str (Str.ofString "degree"), PV.str (Str.ofString "degree"), PV.str (Str.ofString "degree"), PV.str (Str.ofString "degree"), PV.str (Str.ofString "degree")], PO.lst [PV.str (Str.ofString "degree"), PV.str (Str.ofString "degree")], PO.lst [PV.str (Str.ofString "degree"), PV.str (Str.ofString "degree"), PV.str (Str.ofString "degree"), PV.str (Str.ofString "degree"), PV.str (Str.ofString "degree"), PV.str (Str.ofString "degree"), PV.str (Str.ofString "degree"), PV.str (Str.ofString "degree")], PO.lst [PV.str (Str.ofString "degree")], PO.lst [PV.str (Str.ofString "degree"), PV.str (Str.ofString "degree"), PV.str (Str.ofString "degree"), PV.str (Str.ofString "degree"), PV.str (Str.ofString "degree"), PV.str (Str.ofString "degree"), PV.str (Str.ofString "degree"), PV.str (Str.ofString "degree")], PO.lst [PV.int 1, PV.int 2], PO.lst [PV.non, PV.int 1, PV.tup [PV.int 2, PV.int 4], PV.tup [PV.int 1, PV.int 0], PV.tup [PV.bl true, PV.int 1], PV.ref 7, PV.str (Str.ofString "1"), PV.dct], PO.lst [PV.tup [PV.int 0, PV.int 1], PV.tup [PV.int 0, PV.int 1], PV.tup [PV.int 1, PV.int 1], PV.tup [PV.int 2, PV.int 1]], PO.lst [PV.tup [PV.non, PV.non], PV.tup [PV.tup [], PV.non], PV.tup [PV.ref 9, PV.non], PV.tup [PV.tup [PV.tup [PV.int 0, PV.int 1], PV.tup [PV.int 1, PV.int 1]], PV.non], PV.tup [PV.tup [PV.tup [PV.int 0, PV.int 1], PV.tup [PV.int 0, PV.int 1], PV.tup [PV.int 0, PV.int 1], PV.tup [PV.int 0, PV.int 1], PV.tup [PV.int 0, PV.int 1], PV.tup [PV.int 0, PV.int 1], PV.tup [PV.int 0, PV.int 1], PV.tup [PV.int 0, PV.int 1], PV.tup [PV.int 0, PV.int 1], PV.tup [PV.int 0, PV.int 1], PV.tup [PV.int 0, PV.int 1], PV.tup [PV.int 0, PV.int 1], PV.tup [PV.int 0, PV.int 1], PV.tup [PV.int 0, PV.int 1], PV.tup [PV.int 0, PV.int 1], PV.tup [PV.int 0, PV.int 1], PV.tup [PV.int 0, PV.int 1]], PV.non]], PO.lst [PV.tup [PV.tup [PV.tup [PV.int 0, PV.int 1], v2, PV.tup [PV.int 1, PV.int 1], PV.non], PV.int 1], PV.tup [PV.tup [PV.tup [PV.int 1, PV.int 1], PV.tup [PV.int 0, PV.int 1], PV.tup [PV.int 2, PV.int 1]], PV.int 1], PV.tup [PV.tup [PV.tup [PV.int 0, PV.int 1], PV.tup [PV.int 0, PV.int 1], PV.tup [PV.int 0, PV.int 1], PV.tup [PV.int 1, PV.int 1]], PV.int 2]], PO.lst [PV.tup [PV.non, PV.non], PV.tup [PV.tup [], PV.non], PV.tup [PV.ref 9, PV.non], PV.tup [PV.tup [PV.tup [PV.int 0, PV.int 1], PV.tup [PV.int 1, PV.int 1]], PV.non], PV.tup [PV.tup [PV.tup [PV.int 0, PV.int 1], PV.tup [PV.int 0, PV.int 1], PV.tup [PV.int 0, PV.int 1], PV.tup [PV.int 0, PV.int 1], PV.tup [PV.int 0, PV.int 1], PV.tup [PV.int 0, PV.int 1], PV.tup [PV.int 0, PV.int 1], PV.tup [PV.int 0, PV.int 1], PV.tup [PV.int 0, PV.int 1], PV.tup [PV.int 0, PV.int 1], PV.tup [PV.int 0, PV.int 1], PV.tup [PV.int 0, PV.int 1], PV.tup [PV.int 0, PV.int 1], PV.tup [PV.int 0, PV.int 1], PV.tup [PV.int 0, PV.int 1], PV.tup [PV.int 0, PV.int 1], PV.tup [PV.int 0, PV.int 1]], PV.non], PV.tup [PV.tup [PV.tup [PV.int 0, PV.int 1], v2, PV.tup [PV.int 1, PV.int 1], PV.non], PV.int 1], PV.tup [PV.tup [PV.tup [PV.int 1, PV.int 1], PV.tup [PV.int 0, PV.int 1], PV.tup [PV.int 2, PV.int 1]], PV.int 1], PV.tup [PV.tup [PV.tup [PV.int 0, PV.int 1], PV.tup [PV.int 0, PV.int 1], PV.tup [PV.int 0, PV.int 1], PV.tup [PV.int 1, PV.int 1]], PV.int 2], PV.tup [PV.tup [PV.tup [PV.int 0, PV.int 1], PV.tup [PV.int 1, PV.int 1], PV.tup [PV.int 1, PV.int 1], PV.tup [PV.int 1, PV.int 1]], PV.int 3]], PO.lst [PV.tup [PV.str (Str.ofString "knots"), v3.snd], PV.tup [PV.str (Str.ofString "knots"), v3.snd]], PO.lst [PV.tup [PV.str (Str.ofString "knots"), v3.snd], PV.tup [PV.str (Str.ofString "knots"), v3.snd]], PO.lst [PV.tup [PV.str (Str.ofString "knots"), v3.snd], PV.tup [PV.str (Str.ofString "knots"), v3.snd], PV.tup [PV.str (Str.ofString "knots"), v3.snd], PV.tup [PV.str (Str.ofString "knots"), v3.snd]], PO.lst [PV.tup [PV.str (Str.ofString "knots"), v3.snd]], PO.lst [PV.tup [PV.str (Str.ofString "knots"), v3.snd], PV.tup [PV.str (Str.ofString "knots"), v3.snd], PV.tup [PV.str (Str.ofString "knots"), v3.snd], PV.tup [PV.str (Str.ofString "knots"), v3.snd]], PO.lst [PV.non, PV.int (-1), PV.int 2, PV.bl true, PV.str (Str.ofString "0"), PV.tup [PV.int 0]], PO.lst [PV.str (Str.ofString "number"), PV.str (Str.ofString "number")], PO.lst [PV.str (Str.ofString "number")], PO.lst [PV.str (Str.ofString "number"), PV.str (Str.ofString "number")], PO.lst [PV.tup [PV.int 1, PV.int 1]], PO.lst [PV.non, PV.tup [PV.tup [PV.int 0, PV.int 1]], PV.ref 22, PV.tup [v2]]]) (m := 24) (by simp [Plw, po_low, PV.lows, PV.low, r6.low, lv1, lv2, lv3, lv4, lv5, lv6]) rfl (by clear lv6 kv6 sv5 lv5 hv5 lv4 hv4 lv3 kv3 hv3 lv2 hv2 lv1 hv1; revert v6; revert v2; decide +kernel)
  simp [alloc, mth, many, blt, items]
  rw [show eqD _ (PV.tup [PV.str (Str.ofString "pieces"), v6.snd]) (PV.tup [PV.str (Str.ofString "pieces"), v6.snd]) = some true from by rcases kv6 with e | e | e <;> rw [e] <;> kernel_rfl]
  simp [alloc, mth, many, blt, items]
  refine to_eq (a := [PV.tup [PV.tup [PV.tup [PV.int 0, PV.int 1], PV.tup [PV.int 1, PV.int 1]], PV.tup []], PV.tup [PV.tup [PV.tup [PV.int 1, PV.int 1], PV.tup [PV.int 2, PV.int 1]], PV.tup [PV.tup [PV.int 1, PV.int 1]]], PV.tup [PV.tup [PV.tup [PV.int 2, PV.int 1], PV.tup [PV.int 3, PV.int 1]], PV.tup []], PV.tup [PV.tup [PV.tup [PV.int 3, PV.int 1], PV.tup [PV.int 4, PV.int 1]], PV.tup [PV.tup [PV.int 1, PV.int 1]]], PV.tup [PV.tup [PV.tup [PV.int 4, PV.int 1], PV.tup [PV.int 5, PV.int 1]], PV.tup []], PV.tup [PV.tup [PV.tup [PV.int 5, PV.int 1], PV.tup [PV.int 6, PV.int 1]], PV.tup [PV.tup [PV.int 1, PV.int 1]]], PV.tup [PV.tup [PV.tup [PV.int 6, PV.int 1], PV.tup [PV.int 7, PV.int 1]], PV.tup []], PV.tup [PV.tup [PV.tup [PV.int 7, PV.int 1], PV.tup [PV.int 8, PV.int 1]], PV.tup [PV.tup [PV.int 1, PV.int 1]]]]) (h' := [o6, PO.lst [PV.non, PV.int (-1), PV.int 5, PV.bl true, PV.str (Str.ofString "1"), PV.tup [PV.int 1]], PO.lst [PV.str (Str.ofString "degree"), PV.str (Str.ofString "degree"), PV.str (Str.ofString "degree"), PV.str (Str.ofString "degree"), PV.str (Str.ofString "degree"), PV.str (Str.ofString "degree")], PO.lst [PV.str (Str.ofString "degree"), PV.str (Str.ofString "degree")], PO.lst [PV.str (Str.ofString "degree"), PV.str (Str.ofString "degree"), PV.str (Str.ofString "degree"), PV.str (Str.ofString "degree"), PV.str (Str.ofString "degree"), PV.str (Str.ofString "degree"), PV.str (Str.ofString "degree"), PV.str (Str.ofString "degree")], PO.lst [PV.str (Str.ofString "degree")], PO.lst [PV.str (Str.ofString "degree"), PV.str (Str.ofString "degree"), PV.str (Str.ofString "degree"), PV.str (Str.ofString "degree"), PV.str (Str.ofString "degree"), PV.str (Str.ofString "degree"), PV.str (Str.ofString "degree"), PV.str (Str.ofString "degree")], PO.lst [PV.int 1, PV.int 2], PO.lst [PV.non, PV.int 1, PV.tup [PV.int 2, PV.int 4], PV.tup [PV.int 1, PV.int 0], PV.tup [PV.bl true, PV.int 1], PV.ref 7, PV.str (Str.ofString "1"), PV.dct], PO.lst [PV.tup [PV.int 0, PV.int 1], PV.tup [PV.int 0, PV.int 1], PV.tup [PV.int 1, PV.int 1], PV.tup [PV.int 2, PV.int 1]], PO.lst [PV.tup [PV.non, PV.non], PV.tup [PV.tup [], PV.non], PV.tup [PV.ref 9, PV.non], PV.tup [PV.tup [PV.tup [PV.int 0, PV.int 1], PV.tup [PV.int 1, PV.int 1]], PV.non], PV.tup [PV.tup [PV.tup [PV.int 0, PV.int 1], PV.tup [PV.int 0, PV.int 1], PV.tup [PV.int 0, PV.int 1], PV.tup [PV.int 0, PV.int 1], PV.tup [PV.int 0, PV.int 1], PV.tup [PV.int 0, PV.int 1], PV.tup [PV.int 0, PV.int 1], PV.tup [PV.int 0, PV.int 1], PV.tup [PV.int 0, PV.int 1], PV.tup [PV.int 0, PV.int 1], PV.tup [PV.int 0, PV.int 1], PV.tup [PV.int 0, PV.int 1], PV.tup [PV.int 0, PV.int 1], PV.tup [PV.int 0, PV.int 1], PV.tup [PV.int 0, PV.int 1], PV.tup [PV.int 0, PV.int 1], PV.tup [PV.int 0, PV.int 1]], PV.non]], PO.lst [PV.tup [PV.tup [PV.tup [PV.int 0, PV.int 1], v2, PV.tup [PV.int 1, PV.int 1], PV.non], PV.int 1], PV.tup [PV.tup [PV.tup [PV.int 1, PV.int 1], PV.tup [PV.int 0, PV.int 1], PV.tup [PV.int 2, PV.int 1]], PV.int 1], PV.tup [PV.tup [PV.tup [PV.int 0, PV.int 1], PV.tup [PV.int 0, PV.int 1], PV.tup [PV.int 0, PV.int 1], PV.tup [PV.int 1, PV.int 1]], PV.int 2]], PO.lst [PV.tup [PV.non, PV.non], PV.tup [PV.tup [], PV.non], PV.tup [PV.ref 9, PV.non], PV.tup [PV.tup [PV.tup [PV.int 0, PV.int 1], PV.tup [PV.int 1, PV.int 1]], PV.non], PV.tup [PV.tup [PV.tup [PV.int 0, PV.int 1], PV.tup [PV.int 0, PV.int 1], PV.tup [PV.int 0, PV.int 1], PV.tup [PV.int 0, PV.int 1], PV.tup [PV.int 0, PV.int 1], PV.tup [PV.int 0, PV.int 1], PV.tup [PV.int 0, PV.int 1], PV.tup [PV.int 0, PV.int 1], PV.tup [PV.int 0, PV.int 1], PV.tup [PV.int 0, PV.int 1], PV.tup [PV.int 0, PV.int 1], PV.tup [PV.int 0, PV.int 1], PV.tup [PV.int 0, PV.int 1], PV.tup [PV.int 0, PV.int 1], PV.tup [PV.int 0, PV.int 1], PV.tup [PV.int 0, PV.int 1], PV.tup [PV.int 0, PV.int 1]], PV.non], PV.tup [PV.tup [PV.tup [PV.int 0, PV.int 1], v2, PV.tup [PV.int 1, PV.int 1], PV.non], PV.int 1], PV.tup [PV.tup [PV.tup [PV.int 1, PV.int 1], PV.tup [PV.int 0, PV.int 1], PV.tup [PV.int 2, PV.int 1]], PV.int 1], PV.tup [PV.tup [PV.tup [PV.int 0, PV.int 1], PV.tup [PV.int 0, PV.int 1], PV.tup [PV.int 0, PV.int 1], PV.tup [PV.int 1, PV.int 1]], PV.int 2], PV.tup [PV.tup [PV.tup [PV.int 0, PV.int 1], PV.tup [PV.int 1, PV.int 1], PV.tup [PV.int 1, PV.int 1], PV.tup [PV.int 1, PV.int 1]], PV.int 3]], PO.lst [PV.tup [PV.str (Str.ofString "knots"), v3.snd], PV.tup [PV.str (Str.ofString "knots"), v3.snd]], PO.lst [PV.tup [PV.str (Str.ofString "knots"), v3.snd], PV.tup [PV.str (Str.ofString "knots"), v3.snd]], PO.lst [PV.tup [PV.str (Str.ofString "knots"), v3.snd], PV.tup [PV.str (Str.ofString "knots"), v3.snd], PV.tup [PV.str (Str.ofString "knots"), v3.snd], PV.tup [PV.str (Str.ofString "knots"), v3.snd]], PO.lst [PV.tup [PV.str (Str.ofString "knots"), v3.snd]], PO.lst [PV.tup [PV.str (Str.ofString "knots"), v3.snd], PV.tup [PV.str (Str.ofString "knots"), v3.snd], PV.tup [PV.str (Str.ofString "knots"), v3.snd], PV.tup [PV.str (Str.ofString "knots"), v3.snd]], PO.lst [PV.non, PV.int (-1), PV.int 2, PV.bl true, PV.str (Str.ofString "0"), PV.tup [PV.int 0]], PO.lst [PV.str (Str.ofString "number"), PV.str (Str.ofString "number")], PO.lst [PV.str (Str.ofString "number")], PO.lst [PV.str (Str.ofString "number"), PV.str (Str.ofString "number")], PO.lst [PV.tup [PV.int 1, PV.int 1]], PO.lst [PV.non, PV.tup [PV.tup [PV.int 0, PV.int 1]], PV.ref 22, PV.tup [v2]], PO.lst [PV.tup [PV.tup [PV.tup [PV.int 0, PV.int 1], PV.tup [PV.int 1, PV.int 1]], PV.tup [PV.tup [PV.int 0, PV.int 1], PV.tup [PV.int 1, PV.int 1]]]], PO.lst [PV.tup [PV.non, PV.non], PV.tup [PV.tup [], PV.non], PV.tup [PV.ref 24, PV.non], PV.tup [PV.tup [PV.tup [PV.tup [PV.tup [PV.int 0, PV.int 1], PV.tup [PV.int 1, PV.int 1]], PV.tup [PV.tup [PV.int 0, PV.int 1], PV.tup [PV.int 1, PV.int 1]]], PV.tup [PV.tup [PV.tup [PV.int 0, PV.int 1], PV.tup [PV.int 1, PV.int 1]], PV.tup [PV.tup [PV.int 0, PV.int 1], PV.tup [PV.int 1, PV.int 1]]], PV.tup [PV.tup [PV.tup [PV.int 0, PV.int 1], PV.tup [PV.int 1, PV.int 1]], PV.tup [PV.tup [PV.int 0, PV.int 1], PV.tup [PV.int 1, PV.int 1]]], PV.tup [PV.tup [PV.tup [PV.int 0, PV.int 1], PV.tup [PV.int 1, PV.int 1]], PV.tup [PV.tup [PV.int 0, PV.int 1], PV.tup [PV.int 1, PV.int 1]]], PV.tup [PV.tup [PV.tup [PV.int 0, PV.int 1], PV.tup [PV.int 1, PV.int 1]], PV.tup [PV.tup [PV.int 0, PV.int 1], PV.tup [PV.int 1, PV.int 1]]], PV.tup [PV.tup [PV.tup [PV.int 0, PV.int 1], PV.tup [PV.int 1, PV.int 1]], PV.tup [PV.tup [PV.int 0, PV.int 1], PV.tup [PV.int 1, PV.int 1]]], PV.tup [PV.tup [PV.tup [PV.int 0, PV.int 1], PV.tup [PV.int 1, PV.int 1]], PV.tup [PV.tup [PV.int 0, PV.int 1], PV.tup [PV.int 1, PV.int 1]]], PV.tup [PV.tup [PV.tup [PV.int 0, PV.int 1], PV.tup [PV.int 1, PV.int 1]], PV.tup [PV.tup [PV.int 0, PV.int 1], PV.tup [PV.int 1, PV.int 1]]], PV.tup [PV.tup [PV.tup [PV.int 0, PV.int 1], PV.tup [PV.int 1, PV.int 1]], PV.tup [PV.tup [PV.int 0, PV.int 1], PV.tup [PV.int 1, PV.int 1]]]], PV.non], PV.tup [PV.tup [PV.tup [PV.tup [PV.tup [PV.int 0, PV.int 1], PV.tup [PV.int 1, PV.int 1]], PV.tup [PV.tup [PV.int 0, PV.int 1], PV.tup [PV.int 1, PV.int 1]]], PV.non], PV.int 1], PV.tup [PV.tup [PV.tup [PV.tup [PV.tup [PV.int 0, PV.int 1], PV.tup [PV.int 1, PV.int 1]], PV.tup [PV.tup [PV.int 0, PV.int 1], PV.tup [PV.int 1, PV.int 1]]], PV.tup [PV.tup [PV.tup [PV.int 0, PV.int 1], PV.tup [PV.int 1, PV.int 1]], PV.tup [PV.tup [PV.int 0, PV.int 1], PV.tup [PV.int 1, PV.int 1]]]], PV.int 1]], PO.lst [PV.tup [PV.tup [PV.tup [PV.tup [PV.tup [PV.int 1, PV.int 1], PV.tup [PV.int 0, PV.int 1]], PV.tup [PV.tup [PV.int 0, PV.int 1], PV.tup [PV.int 1, PV.int 1]]]], PV.int 0], PV.tup [PV.tup [PV.tup [PV.tup [PV.tup [PV.int 0, PV.int 1], PV.tup [PV.int 1, PV.int 1]], PV.tup [PV.tup [PV.int 0, PV.int 1], PV.tup [PV.int 0, PV.int 1]]]], PV.int 0]], PO.lst [PV.tup [PV.non, PV.non], PV.tup [PV.tup [], PV.non], PV.tup [PV.ref 24, PV.non], PV.tup [PV.tup [PV.tup [PV.tup [PV.tup [PV.int 0, PV.int 1], PV.tup [PV.int 1, PV.int 1]], PV.tup [PV.tup [PV.int 0, PV.int 1], PV.tup [PV.int 1, PV.int 1]]], PV.tup [PV.tup [PV.tup [PV.int 0, PV.int 1], PV.tup [PV.int 1, PV.int 1]], PV.tup [PV.tup [PV.int 0, PV.int 1], PV.tup [PV.int 1, PV.int 1]]], PV.tup [PV.tup [PV.tup [PV.int 0, PV.int 1], PV.tup [PV.int 1, PV.int 1]], PV.tup [PV.tup [PV.int 0, PV.int 1], PV.tup [PV.int 1, PV.int 1]]], PV.tup [PV.tup [PV.tup [PV.int 0, PV.int 1], PV.tup [PV.int 1, PV.int 1]], PV.tup [PV.tup [PV.int 0, PV.int 1], PV.tup [PV.int 1, PV.int 1]]], PV.tup [PV.tup [PV.tup [PV.int 0, PV.int 1], PV.tup [PV.int 1, PV.int 1]], PV.tup [PV.tup [PV.int 0, PV.int 1], PV.tup [PV.int 1, PV.int 1]]], PV.tup [PV.tup [PV.tup [PV.int 0, PV.int 1], PV.tup [PV.int 1, PV.int 1]], PV.tup [PV.tup [PV.int 0, PV.int 1], PV.tup [PV.int 1, PV.int 1]]], PV.tup [PV.tup [PV.tup [PV.int 0, PV.int 1], PV.tup [PV.int 1, PV.int 1]], PV.tup [PV.tup [PV.int 0, PV.int 1], PV.tup [PV.int 1, PV.int 1]]], PV.tup [PV.tup [PV.tup [PV.int 0, PV.int 1], PV.tup [PV.int 1, PV.int 1]], PV.tup [PV.tup [PV.int 0, PV.int 1], PV.tup [PV.int 1, PV.int 1]]], PV.tup [PV.tup [PV.tup [PV.int 0, PV.int 1], PV.tup [PV.int 1, PV.int 1]], PV.tup [PV.tup [PV.int 0, PV.int 1], PV.tup [PV.int 1, PV.int 1]]]], PV.non], PV.tup [PV.tup [PV.tup [PV.tup [PV.tup [PV.int 0, PV.int 1], PV.tup [PV.int 1, PV.int 1]], PV.tup [PV.tup [PV.int 0, PV.int 1], PV.tup [PV.int 1, PV.int 1]]], PV.non], PV.int 1], PV.tup [PV.tup [PV.tup [PV.tup [PV.tup [PV.int 0, PV.int 1], PV.tup [PV.int 1, PV.int 1]], PV.tup [PV.tup [PV.int 0, PV.int 1], PV.tup [PV.int 1, PV.int 1]]], PV.tup [PV.tup [PV.tup [PV.int 0, PV.int 1], PV.tup [PV.int 1, PV.int 1]], PV.tup [PV.tup [PV.int 0, PV.int 1], PV.tup [PV.int 1, PV.int 1]]]], PV.int 1], PV.tup [PV.tup [PV.tup [PV.tup [PV.tup [PV.int 1, PV.int 1], PV.tup [PV.int 0, PV.int 1]], PV.tup [PV.tup [PV.int 0, PV.int 1], PV.tup [PV.int 1, PV.int 1]]]], PV.int 0], PV.tup [PV.tup [PV.tup [PV.tup [PV.tup [PV.int 0, PV.int 1], PV.tup [PV.int 1, PV.int 1]], PV.tup [PV.tup [PV.int 0, PV.int 1], PV.tup [PV.int 0, PV.int 1]]]], PV.int 0], PV.tup [PV.tup [PV.tup [PV.tup [PV.tup [PV.int 0, PV.int 1], PV.tup [PV.int 1, PV.int 1]], PV.tup [PV.tup [PV.int 1, PV.int 1], PV.tup [PV.int 1, PV.int 1], PV.tup [PV.int 1, PV.int 1]]]], PV.int 0]], PO.lst [PV.tup [PV.tup [PV.tup [PV.tup [PV.int 0, PV.int 1], PV.tup [PV.int 1, PV.int 1], PV.tup [PV.tup [PV.int 0, PV.int 1], PV.tup [PV.int 1, PV.int 1]]]], PV.int 0], PV.tup [PV.tup [PV.tup [PV.tup [PV.tup [PV.int 0, PV.int 1], v2], PV.tup [PV.tup [PV.int 0, PV.int 1], PV.tup [PV.int 1, PV.int 1]]]], PV.int 0]], PO.lst [PV.tup [PV.non, PV.non], PV.tup [PV.tup [], PV.non], PV.tup [PV.ref 24, PV.non], PV.tup [PV.tup [PV.tup [PV.tup [PV.tup [PV.int 0, PV.int 1], PV.tup [PV.int 1, PV.int 1]], PV.tup [PV.tup [PV.int 0, PV.int 1], PV.tup [PV.int 1, PV.int 1]]], PV.tup [PV.tup [PV.tup [PV.int 0, PV.int 1], PV.tup [PV.int 1, PV.int 1]], PV.tup [PV.tup [PV.int 0, PV.int 1], PV.tup [PV.int 1, PV.int 1]]], PV.tup [PV.tup [PV.tup [PV.int 0, PV.int 1], PV.tup [PV.int 1, PV.int 1]], PV.tup [PV.tup [PV.int 0, PV.int 1], PV.tup [PV.int 1, PV.int 1]]], PV.tup [PV.tup [PV.tup [PV.int 0, PV.int 1], PV.tup [PV.int 1, PV.int 1]], PV.tup [PV.tup [PV.int 0, PV.int 1], PV.tup [PV.int 1, PV.int 1]]], PV.tup [PV.tup [PV.tup [PV.int 0, PV.int 1], PV.tup [PV.int 1, PV.int 1]], PV.tup [PV.tup [PV.int 0, PV.int 1], PV.tup [PV.int 1, PV.int 1]]], PV.tup [PV.tup [PV.tup [PV.int 0, PV.int 1], PV.tup [PV.int 1, PV.int 1]], PV.tup [PV.tup [PV.int 0, PV.int 1], PV.tup [PV.int 1, PV.int 1]]], PV.tup [PV.tup [PV.tup [PV.int 0, PV.int 1], PV.tup [PV.int 1, PV.int 1]], PV.tup [PV.tup [PV.int 0, PV.int 1], PV.tup [PV.int 1, PV.int 1]]], PV.tup [PV.tup [PV.tup [PV.int 0, PV.int 1], PV.tup [PV.int 1, PV.int 1]], PV.tup [PV.tup [PV.int 0, PV.int 1], PV.tup [PV.int 1, PV.int 1]]], PV.tup [PV.tup [PV.tup [PV.int 0, PV.int 1], PV.tup [PV.int 1, PV.int 1]], PV.tup [PV.tup [PV.int 0, PV.int 1], PV.tup [PV.int 1, PV.int 1]]]], PV.non], PV.tup [PV.tup [PV.tup [PV.tup [PV.tup [PV.int 0, PV.int 1], PV.tup [PV.int 1, PV.int 1]], PV.tup [PV.tup [PV.int 0, PV.int 1], PV.tup [PV.int 1, PV.int 1]]], PV.non], PV.int 1], PV.tup [PV.tup [PV.tup [PV.tup [PV.tup [PV.int 0, PV.int 1], PV.tup [PV.int 1, PV.int 1]], PV.tup [PV.tup [PV.int 0, PV.int 1], PV.tup [PV.int 1, PV.int 1]]], PV.tup [PV.tup [PV.tup [PV.int 0, PV.int 1], PV.tup [PV.int 1, PV.int 1]], PV.tup [PV.tup [PV.int 0, PV.int 1], PV.tup [PV.int 1, PV.int 1]]]], PV.int 1], PV.tup [PV.tup [PV.tup [PV.tup [PV.tup [PV.int 1, PV.int 1], PV.tup [PV.int 0, PV.int 1]], PV.tup [PV.tup [PV.int 0, PV.int 1], PV.tup [PV.int 1, PV.int 1]]]], PV.int 0], PV.tup [PV.tup [PV.tup [PV.tup [PV.tup [PV.int 0, PV.int 1], PV.tup [PV.int 1, PV.int 1]], PV.tup [PV.tup [PV.int 0, PV.int 1], PV.tup [PV.int 0, PV.int 1]]]], PV.int 0], PV.tup [PV.tup [PV.tup [PV.tup [PV.tup [PV.int 0, PV.int 1], PV.tup [PV.int 1, PV.int 1]], PV.tup [PV.tup [PV.int 1, PV.int 1], PV.tup [PV.int 1, PV.int 1], PV.tup [PV.int 1, PV.int 1]]]], PV.int 0], PV.tup [PV.tup [PV.tup [PV.tup [PV.int 0, PV.int 1], PV.tup [PV.int 1, PV.int 1], PV.tup [PV.tup [PV.int 0, PV.int 1], PV.tup [PV.int 1, PV.int 1]]]], PV.int 0], PV.tup [PV.tup [PV.tup [PV.tup [PV.tup [PV.int 0, PV.int 1], v2], PV.tup [PV.tup [PV.int 0, PV.int 1], PV.tup [PV.int 1, PV.int 1]]]], PV.int 0]]]) (by kernel_rfl) ?_
  simp [alloc, mth, many, blt, items]
  refine lam_fnd (m := 31) (.tup [.str "many", .int 16]) rfl (by simp; rfl) (by simp [Plw, po_low, PV.lows, PV.low, r6.low, lv1, lv2, lv3, lv4, lv5, lv6]) rfl (by clear lv6 kv6 sv5 lv5 lv4 lv3 kv3 sv2 lv2 lv1 hv6 hv5 hv4 hv3 hv2 hv1; decide +kernel) ?_
  simp [alloc, mth, many, blt, items]
  rw [show eqD _ (PV.tup [PV.str (Str.ofString "many"), PV.int 16]) (PV.tup [PV.str (Str.ofString "many"), PV.int 16]) = some true from by kernel_rfl]
  simp [alloc, mth, many, blt, items]
  refine fnd_to (n := 31) (.tup [(.int 0), (.tup [(.tup [(.int 0), (.int 1)]), (.tup [(.int 1), (.int 1)]), (.tup [(.int 2), (.int 1)]), (.tup [(.int 3), (.int 1)]), (.tup [(.int 4), (.int 1)]), (.tup [(.int 5), (.int 1)]), (.tup [(.int 6), (.int 1)]), (.tup [(.int 7), (.int 1)]), (.tup [(.int 8), (.int 1)])]), (.tup [(.tup [(.int 0), (.int 1)]), (.tup [(.int 1), (.int 1)]), (.tup [(.int 0), (.int 1)]), (.tup [(.int 1), (.int 1)]), (.tup [(.int 0), (.int 1)]), (.tup [(.int 1), (.int 1)]), (.tup [(.int 0), (.int 1)]), (.tup [(.int 1), (.int 1)])])]) (by simp [Plw, po_low, PV.lows, PV.low, r6.low, lv1, lv2, lv3, lv4, lv5, lv6]) rfl (by clear lv6 kv6 sv5 lv5 lv4 lv3 kv3 sv2 lv2 lv1 hv6 hv5 hv4 hv3 hv2 hv1; decide +kernel) ?_
  simp [alloc, mth, many, blt, items]
  refine to_eq ((fun H => by kernel_rfl : ∀ H, slcop (PV.tup [PV.tup [PV.int 0, PV.int 1], PV.tup [PV.int 0, PV.int 1], PV.tup [PV.int 1, PV.int 1], PV.tup [PV.int 2, PV.int 1]]) (some 2) none H = .ok (PV.tup [PV.tup [PV.int 1, PV.int 1], PV.tup [PV.int 2, PV.int 1]]) H) _) ?_
  simp [alloc, mth, many, blt, items]
  refine pickl_to (i := 33) (xs := ([(PV.non, PV.non), (PV.tup [PV.tup [PV.int 0, PV.int 1]], PV.non), (PV.ref 31, PV.non), (PV.tup [PV.tup [PV.int 0, PV.int 1], PV.tup [PV.int 1, PV.int 1], PV.tup [PV.int 2, PV.int 1], PV.tup [PV.int 1, PV.int 1], PV.tup [PV.int 2, PV.int 1], PV.tup [PV.int 1, PV.int 1], PV.tup [PV.int 2, PV.int 1]], PV.non), (PV.tup [PV.tup [PV.int 0, PV.int 1], v2], PV.int 1), (PV.tup [PV.tup [PV.int 0, PV.int 1], PV.tup [PV.int 0, PV.int 1]], PV.int 1), (PV.tup [PV.tup [PV.int 1, PV.int 1], PV.tup [PV.int 0, PV.int 1]], PV.int 1)] : List (PV × PV)).map fun p => .tup [p.1, p.2]) (by simp) (by simp) r6 rfl fun z7 o7 hz7 r7 => ?_
  obtain ⟨v7, hv7, rfl⟩ := List.mem_map.mp hz7
  clear hz7
  have kv7 : v7.2 = PV.non ∨ v7.2 = PV.int 1 := by
    simp at hv7
    rcases hv7 with rfl | rfl | rfl | rfl | rfl | rfl | rfl <;> simp
  have hp7 : Plw [o7] := by simp [Plw, r7.low]
  have lv7 : ∀ n, 32 ≤ n → PV.low n v7.1 = true ∧ PV.low n v7.2 = true := by
    intro n hn
    simp at hv7
    rcases hv7 with rfl | rfl | rfl | rfl | rfl | rfl | rfl <;> simp [PV.low, PV.lows, lv2 n (by omega)] <;> omega
  simp [alloc, mth, many, blt, items]
  refine lam_eq (.tup [.str "nodes", v7.2]) rfl (by simp; rfl) ?_ ?_
  · rcases sv2 with e | gv2
    · subst e
      exact word_at (p := [o7]) (m := 1) hp7 rfl (by clear lv7 kv7 lv6 kv6 hv6 sv5 lv5 hv5 lv4 hv4 lv3 kv3 lv1 hv1; revert v7; revert v3; decide +kernel)
    · exact word_at (p := [o7, PO.lst [PV.non, PV.int (-1), PV.int 5, PV.bl true, PV.str (Str.ofString "1"), PV.tup [PV.int 1]], PO.lst [PV.str (Str.ofString "degree"), PV.str (Str.ofString "degree"), PV.str (Str.ofString "degree"), PV.str (Str.ofString "degree"), PV.str (Str.ofString "degree"), PV.str (Str.ofString "degree")], PO.lst [PV.str (Str.ofString "degree"), PV.str (Str.ofString "degree")], PO.lst [PV.str (Str.ofString "degree"), PV.str (Str.ofString "degree"), PV.str (Str.ofString "degree"), PV.str (Str.ofString "degree"), PV.str (Str.ofString "degree"), PV.str (Str.ofString "degree"), PV.str (Str.ofString "degree"), PV.str (Str.ofString "degree")], PO.lst [PV.str (Str.ofString "degree")], PO.lst [PV.str (Str.ofString "degree"), PV.str (Str.ofString "degree"), PV.str (Str.ofString "degree"), PV.str (Str.ofString "degree"), PV.str (Str.ofString "degree"), PV.str (Str.ofString "degree"), PV.str (Str.ofString "degree"), PV.str (Str.ofString "degree")], PO.lst [PV.int 1, PV.int 2], PO.lst [PV.non, PV.int 1, PV.tup [PV.int 2, PV.int 4], PV.tup [PV.int 1, PV.int 0], PV.tup [PV.bl true, PV.int 1], PV.ref 7, PV.str (Str.ofString "1"), PV.dct], PO.lst [PV.tup [PV.int 0, PV.int 1], PV.tup [PV.int 0, PV.int 1], PV.tup [PV.int 1, PV.int 1], PV.tup [PV.int 2, PV.int 1]], PO.lst [PV.tup [PV.non, PV.non], PV.tup [PV.tup [], PV.non], PV.tup [PV.ref 9, PV.non], PV.tup [PV.tup [PV.tup [PV.int 0, PV.int 1], PV.tup [PV.int 1, PV.int 1]], PV.non], PV.tup [PV.tup [PV.tup [PV.int 0, PV.int 1], PV.tup [PV.int 0, PV.int 1], PV.tup [PV.int 0, PV.int 1], PV.tup [PV.int 0, PV.int 1], PV.tup [PV.int 0, PV.int 1], PV.tup [PV.int 0, PV.int 1], PV.tup [PV.int 0, PV.int 1], PV.tup [PV.int 0, PV.int 1], PV.tup [PV.int 0, PV.int 1], PV.tup [PV.int 0, PV.int 1], PV.tup [PV.int 0, PV.int 1], PV.tup [PV.int 0, PV.int 1], PV.tup [PV.int 0, PV.int 1], PV.tup [PV.int 0, PV.int 1], PV.tup [PV.int 0, PV.int 1], PV.tup [PV.int 0, PV.int 1], PV.tup [PV.int 0, PV.int 1]], PV.non]], PO.lst [PV.tup [PV.tup [PV.tup [PV.int 0, PV.int 1], v2, PV.tup [PV.int 1, PV.int 1], PV.non], PV.int 1], PV.tup [PV.tup [PV.tup [PV.int 1, PV.int 1], PV.tup [PV.int 0, PV.int 1], PV.tup [PV.int 2, PV.int 1]], PV.int 1], PV.tup [PV.tup [PV.tup [PV.int 0, PV.int 1], PV.tup [PV.int 0, PV.int 1], PV.tup [PV.int 0, PV.int 1], PV.tup [PV.int 1, PV.int 1]], PV.int 2]], PO.lst [PV.tup [PV.non, PV.non], PV.tup [PV.tup [], PV.non], PV.tup [PV.ref 9, PV.non], PV.tup [PV.tup [PV.tup [PV.int 0, PV.int 1], PV.tup [PV.int 1, PV.int 1]], PV.non], PV.tup [PV.tup [PV.tup [PV.int 0, PV.int 1], PV.tup [PV.int 0, PV.int 1], PV.tup [PV.int 0, PV.int 1], PV.tup [PV.int 0, PV.int 1], PV.tup [PV.int 0, PV.int 1], PV.tup [PV.int 0, PV.int 1], PV.tup [PV.int 0, PV.int 1], PV.tup [PV.int 0, PV.int 1], PV.tup [PV.int 0, PV.int 1], PV.tup [PV.int 0, PV.int 1], PV.tup [PV.int 0, PV.int 1], PV.tup [PV.int 0, PV.int 1], PV.tup [PV.int 0, PV.int 1], PV.tup [PV.int 0, PV.int 1], PV.tup [PV.int 0, PV.int 1], PV.tup [PV.int 0, PV.int 1], PV.tup [PV.int 0, PV.int 1]], PV.non], PV.tup [PV.tup [PV.tup [PV.int 0, PV.int 1], v2, PV.tup [PV.int 1, PV.int 1], PV.non], PV.int 1], PV.tup [PV.tup [PV.tup [PV.int 1, PV.int 1], PV.tup [PV.int 0, PV.int 1], PV.tup [PV.int 2, PV.int 1]], PV.int 1], PV.tup [PV.tup [PV.tup [PV.int 0, PV.int 1], PV.tup [PV.int 0, PV.int 1], PV.tup [PV.int 0, PV.int 1], PV.tup [PV.int 1, PV.int 1]], PV.int 2], PV.tup [PV.tup [PV.tup [PV.int 0, PV.int 1], PV.tup [PV.int 1, PV.int 1], PV.tup [PV.int 1, PV.int 1], PV.tup [PV.int 1, PV.int 1]], PV.int 3]], PO.lst [PV.tup [PV.str (Str.ofString "knots"), v3.snd], PV.tup [PV.str (Str.ofString "knots"), v3.snd]], PO.lst [PV.tup [PV.str (Str.ofString "knots"), v3.snd], PV.tup [PV.str (Str.ofString "knots"), v3.snd]], PO.lst [PV.tup [PV.str (Str.ofString "knots"), v3.snd], PV.tup [PV.str (Str.ofString "knots"), v3.snd], PV.tup [PV.str (Str.ofString "knots"), v3.snd], PV.tup [PV.str (Str.ofString "knots"), v3.snd]], PO.lst [PV.tup [PV.str (Str.ofString "knots"), v3.snd]], PO.lst [PV.tup [PV.str (Str.ofString "knots"), v3.snd], PV.tup [PV.str (Str.ofString "knots"), v3.snd], PV.tup [PV.str (Str.ofString "knots"), v3.snd], PV.tup [PV.str (Str.ofString "knots"), v3.snd]], PO.lst [PV.non, PV.int (-1), PV.int 2, PV.bl true, PV.str (Str.ofString "0"), PV.tup [PV.int 0]], PO.lst [PV.str (Str.ofString "number"), PV.str (Str.ofString "number")], PO.lst [PV.str (Str.ofString "number")], PO.lst [PV.str (Str.ofString "number"), PV.str (Str.ofString "number")], PO.lst [PV.tup [PV.int 1, PV.int 1]], PO.lst [PV.non, PV.tup [PV.tup [PV.int 0, PV.int 1]], PV.ref 22, PV.tup [v2]], PO.lst [PV.tup [PV.tup [PV.tup [PV.int 0, PV.int 1], PV.tup [PV.int 1, PV.int 1]], PV.tup [PV.tup [PV.int 0, PV.int 1], PV.tup [PV.int 1, PV.int 1]]]], PO.lst [PV.tup [PV.non, PV.non], PV.tup [PV.tup [], PV.non], PV.tup [PV.ref 24, PV.non], PV.tup [PV.tup [PV.tup [PV.tup [PV.tup [PV.int 0, PV.int 1], PV.tup [PV.int 1, PV.int 1]], PV.tup [PV.tup [PV.int 0, PV.int 1], PV.tup [PV.int 1, PV.int 1]]], PV.tup [PV.tup [PV.tup [PV.int 0, PV.int 1], PV.tup [PV.int 1, PV.int 1]], PV.tup [PV.tup [PV.int 0, PV.int 1], PV.tup [PV.int 1, PV.int 1]]], PV.tup [PV.tup [PV.tup [PV.int 0, PV.int 1], PV.tup [PV.int 1, PV.int 1]], PV.tup [PV.tup [PV.int 0, PV.int 1], PV.tup [PV.int 1, PV.int 1]]], PV.tup [PV.tup [PV.tup [PV.int 0, PV.int 1], PV.tup [PV.int 1, PV.int 1]], PV.tup [PV.tup [PV.int 0, PV.int 1], PV.tup [PV.int 1, PV.int 1]]], PV.tup [PV.tup [PV.tup [PV.int 0, PV.int 1], PV.tup [PV.int 1, PV.int 1]], PV.tup [PV.tup [PV.int 0, PV.int 1], PV.tup [PV.int 1, PV.int 1]]], PV.tup [PV.tup [PV.tup [PV.int 0, PV.int 1], PV.tup [PV.int 1, PV.int 1]], PV.tup [PV.tup [PV.int 0, PV.int 1], PV.tup [PV.int 1, PV.int 1]]], PV.tup [PV.tup [PV.tup [PV.int 0, PV.int 1], PV.tup [PV.int 1, PV.int 1]], PV.tup [PV.tup [PV.int 0, PV.int 1], PV.tup [PV.int 1, PV.int 1]]], PV.tup [PV.tup [PV.tup [PV.int 0, PV.int 1], PV.tup [PV.int 1, PV.int 1]], PV.tup [PV.tup [PV.int 0, PV.int 1], PV.tup [PV.int 1, PV.int 1]]], PV.tup [PV.tup [PV.tup [PV.int 0, PV.int 1], PV.tup [PV.int 1, PV.int 1]], PV.tup [PV.tup [PV.int 0, PV.int 1], PV.tup [PV.int 1, PV.int 1]]]], PV.non], PV.tup [PV.tup [PV.tup [PV.tup [PV.tup [PV.int 0, PV.int 1], PV.tup [PV.int 1, PV.int 1]], PV.tup [PV.tup [PV.int 0, PV.int 1], PV.tup [PV.int 1, PV.int 1]]], PV.non], PV.int 1], PV.tup [PV.tup [PV.tup [PV.tup [PV.tup [PV.int 0, PV.int 1], PV.tup [PV.int 1, PV.int 1]], PV.tup [PV.tup [PV.int 0, PV.int 1], PV.tup [PV.int 1, PV.int 1]]], PV.tup [PV.tup [PV.tup [PV.int 0, PV.int 1], PV.tup [PV.int 1, PV.int 1]], PV.tup [PV.tup [PV.int 0, PV.int 1], PV.tup [PV.int 1, PV.int 1]]]], PV.int 1]], PO.lst [PV.tup [PV.tup [PV.tup [PV.tup [PV.tup [PV.int 1, PV.int 1], PV.tup [PV.int 0, PV.int 1]], PV.tup [PV.tup [PV.int 0, PV.int 1], PV.tup [PV.int 1, PV.int 1]]]], PV.int 0], PV.tup [PV.tup [PV.tup [PV.tup [PV.tup [PV.int 0, PV.int 1], PV.tup [PV.int 1, PV.int 1]], PV.tup [PV.tup [PV.int 0, PV.int 1], PV.tup [PV.int 0, PV.int 1]]]], PV.int 0]], PO.lst [PV.tup [PV.non, PV.non], PV.tup [PV.tup [], PV.non], PV.tup [PV.ref 24, PV.non], PV.tup [PV.tup [PV.tup [PV.tup [PV.tup [PV.int 0, PV.int 1], PV.tup [PV.int 1, PV.int 1]], PV.tup [PV.tup [PV.int 0, PV.int 1], PV.tup [PV.int 1, PV.int 1]]], PV.tup [PV.tup [PV.tup [PV.int 0, PV.int 1], PV.tup [PV.int 1, PV.int 1]], PV.tup [PV.tup [PV.int 0, PV.int 1], PV.tup [PV.int 1, PV.int 1]]], PV.tup [PV.tup [PV.tup [PV.int 0, PV.int 1], PV.tup [PV.int 1, PV.int 1]], PV.tup [PV.tup [PV.int 0, PV.int 1], PV.tup [PV.int 1, PV.int 1]]], PV.tup [PV.tup [PV.tup [PV.int 0, PV.int 1], PV.tup [PV.int 1, PV.int 1]], PV.tup [PV.tup [PV.int 0, PV.int 1], PV.tup [PV.int 1, PV.int 1]]], PV.tup [PV.tup [PV.tup [PV.int 0, PV.int 1], PV.tup [PV.int 1, PV.int 1]], PV.tup [PV.tup [PV.int 0, PV.int 1], PV.tup [PV.int 1, PV.int 1]]], PV.tup [PV.tup [PV.tup [PV.int 0, PV.int 1], PV.tup [PV.int 1, PV.int 1]], PV.tup [PV.tup [PV.int 0, PV.int 1], PV.tup [PV.int 1, PV.int 1]]], PV.tup [PV.tup [PV.tup [PV.int 0, PV.int 1], PV.tup [PV.int 1, PV.int 1]], PV.tup [PV.tup [PV.int 0, PV.int 1], PV.tup [PV.int 1, PV.int 1]]], PV.tup [PV.tup [PV.tup [PV.int 0, PV.int 1], PV.tup [PV.int 1, PV.int 1]], PV.tup [PV.tup [PV.int 0, PV.int 1], PV.tup [PV.int 1, PV.int 1]]], PV.tup [PV.tup [PV.tup [PV.int 0, PV.int 1], PV.tup [PV.int 1, PV.int 1]], PV.tup [PV.tup [PV.int 0, PV.int 1], PV.tup [PV.int 1, PV.int 1]]]], PV.non], PV.tup [PV.tup [PV.tup [PV.tup [PV.tup [PV.int 0, PV.int 1], PV.tup [PV.int 1, PV.int 1]], PV.tup [PV.tup [PV.int 0, PV.int 1], PV.tup [PV.int 1, PV.int 1]]], PV.non], PV.int 1], PV.tup [PV.tup [PV.tup [PV.tup [PV.tup [PV.int 0, PV.int 1], PV.tup [PV.int 1, PV.int 1]], PV.tup [PV.tup [PV.int 0, PV.int 1], PV.tup [PV.int 1, PV.int 1]]], PV.tup [PV.tup [PV.tup [PV.int 0, PV.int 1], PV.tup [PV.int 1, PV.int 1]], PV.tup [PV.tup [PV.int 0, PV.int 1], PV.tup [PV.int 1, PV.int 1]]]], PV.int 1], PV.tup [PV.tup [PV.tup [PV.tup [PV.tup [PV.int 1, PV.int 1], PV.tup [PV.int 0, PV.int 1]], PV.tup [PV.tup [PV.int 0, PV.int 1], PV.tup [PV.int 1, PV.int 1]]]], PV.int 0], PV.tup [PV.tup [PV.tup [PV.tup [PV.tup [PV.int 0, PV.int 1], PV.tup [PV.int 1, PV.int 1]], PV.tup [PV.tup [PV.int 0, PV.int 1], PV.tup [PV.int 0, PV.int 1]]]], PV.int 0], PV.tup [PV.tup [PV.tup [PV.tup [PV.tup [PV.int 0, PV.int 1], PV.tup [PV.int 1, PV.int 1]], PV.tup [PV.tup [PV.int 1, PV.int 1], PV.tup [PV.int 1, PV.int 1], PV.tup [PV.int 1, PV.int 1]]]], PV.int 0]], PO.lst [PV.tup [PV.tup [PV.tup [PV.tup [PV.int 0, PV.int 1], PV.tup [PV.int 1, PV.int 1], PV.tup [PV.tup [PV.int 0, PV.int 1], PV.tup [PV.int 1, PV.int 1]]]], PV.int 0], PV.tup [PV.tup [PV.tup [PV.tup [PV.tup [PV.int 0, PV.int 1], v2], PV.tup [PV.tup [PV.int 0, PV.int 1], PV.tup [PV.int 1, PV.int 1]]]], PV.int 0]], PO.lst [PV.tup [PV.non, PV.non], PV.tup [PV.tup [], PV.non], PV.tup [PV.ref 24, PV.non], PV.tup [PV.tup [PV.tup [PV.tup [PV.tup [PV.int 0, PV.int 1], PV.tup [PV.int 1, PV.int 1]], PV.tup [PV.tup [PV.int 0, PV.int 1], PV.tup [PV.int 1, PV.int 1]]], PV.tup [PV.tup [PV.tup [PV.int 0, PV.int 1], PV.tup [PV.int 1, PV.int 1]], PV.tup [PV.tup [PV.int 0, PV.int 1], PV.tup [PV.int 1, PV.int 1]]], PV.tup [PV.tup [PV.tup [PV.int 0, PV.int 1], PV.tup [PV.int 1, PV.int 1]], PV.tup [PV.tup [PV.int 0, PV.int 1], PV.tup [PV.int 1, PV.int 1]]], PV.tup [PV.tup [PV.tup [PV.int 0, PV.int 1], PV.tup [PV.int 1, PV.int 1]], PV.tup [PV.tup [PV.int 0, PV.int 1], PV.tup [PV.int 1, PV.int 1]]], PV.tup [PV.tup [PV.tup [PV.int 0, PV.int 1], PV.tup [PV.int 1, PV.int 1]], PV.tup [PV.tup [PV.int 0, PV.int 1], PV.tup [PV.int 1, PV.int 1]]], PV.tup [PV.tup [PV.tup [PV.int 0, PV.int 1], PV.tup [PV.int 1, PV.int 1]], PV.tup [PV.tup [PV.int 0, PV.int 1], PV.tup [PV.int 1, PV.int 1]]], PV.tup [PV.tup [PV.tup [PV.int 0, PV.int 1], PV.tup [PV.int 1, PV.int 1]], PV.tup [PV.tup [PV.int 0, PV.int 1], PV.tup [PV.int 1, PV.int 1]]], PV.tup [PV.tup [PV.tup [PV.int 0, PV.int 1], PV.tup [PV.int 1, PV.int 1]], PV.tup [PV.tup [PV.int 0, PV.int 1], PV.tup [PV.int 1, PV.int 1]]], PV.tup [PV.tup [PV.tup [PV.int 0, PV.int 1], PV.tup [PV.int 1, PV.int 1]], PV.tup [PV.tup [PV.int 0, PV.int 1], PV.tup [PV.int 1, PV.int 1]]]], PV.non], PV.tup [PV.tup [PV.tup [PV.tup [PV.tup [PV.int 0, PV.int 1], PV.tup [PV.int 1, PV.int 1]], PV.tup [PV.tup [PV.int 0, PV.int 1], PV.tup [PV.int 1, PV.int 1]]], PV.non], PV.int 1], PV.tup [PV.tup [PV.tup [PV.tup [PV.tup [PV.int 0, PV.int 1], PV.tup [PV.int 1, PV.int 1]], PV.tup [PV.tup [PV.int 0, PV.int 1], PV.tup [PV.int 1, PV.int 1]]], PV.tup [PV.tup [PV.tup [PV.int 0, PV.int 1], PV.tup [PV.int 1, PV.int 1]], PV.tup [PV.tup [PV.int 0, PV.int 1], PV.tup [PV.int 1, PV.int 1]]]], PV.int 1], PV.tup [PV.tup [PV.tup [PV.tup [PV.tup [PV.int 1, PV.int 1], PV.tup [PV.int 0, PV.int 1]], PV.tup [PV.tup [PV.int 0, PV.int 1], PV.tup [PV.int 1, PV.int 1]]]], PV.int 0], PV.tup [PV.tup [PV.tup [PV.tup [PV.tup [PV.int 0, PV.int 1], PV.tup [PV.int 1, PV.int 1]], PV.tup [PV.tup [PV.int 0, PV.int 1], PV.tup [PV.int 0, PV.int 1]]]], PV.int 0], PV.tup [PV.tup [PV.tup [PV.tup [PV.tup [PV.int 0, PV.int 1], PV.tup [PV.int 1, PV.int 1]], PV.tup [PV.tup [PV.int 1, PV.int 1], PV.tup [PV.int 1, PV.int 1], PV.tup [PV.int 1, PV.int 1]]]], PV.int 0], PV.tup [PV.tup [PV.tup [PV.tup [PV.int 0, PV.int 1], PV.tup [PV.int 1, PV.int 1], PV.tup [PV.tup [PV.int 0, PV.int 1], PV.tup [PV.int 1, PV.int 1]]]], PV.int 0], PV.tup [PV.tup [PV.tup [PV.tup [PV.tup [PV.int 0, PV.int 1], v2], PV.tup [PV.tup [PV.int 0, PV.int 1], PV.tup [PV.int 1, PV.int 1]]]], PV.int 0]], PO.lst [PV.tup [PV.tup [PV.tup [PV.int 0, PV.int 1], PV.tup [PV.int 1, PV.int 1]], PV.tup []], PV.tup [PV.tup [PV.tup [PV.int 1, PV.int 1], PV.tup [PV.int 2, PV.int 1]], PV.tup [PV.tup [PV.int 1, PV.int 1]]], PV.tup [PV.tup [PV.tup [PV.int 2, PV.int 1], PV.tup [PV.int 3, PV.int 1]], PV.tup []], PV.tup [PV.tup [PV.tup [PV.int 3, PV.int 1], PV.tup [PV.int 4, PV.int 1]], PV.tup [PV.tup [PV.int 1, PV.int 1]]], PV.tup [PV.tup [PV.tup [PV.int 4, PV.int 1], PV.tup [PV.int 5, PV.int 1]], PV.tup []], PV.tup [PV.tup [PV.tup [PV.int 5, PV.int 1], PV.tup [PV.int 6, PV.int 1]], PV.tup [PV.tup [PV.int 1, PV.int 1]]], PV.tup [PV.tup [PV.tup [PV.int 6, PV.int 1], PV.tup [PV.int 7, PV.int 1]], PV.tup []], PV.tup [PV.tup [PV.tup [PV.int 7, PV.int 1], PV.tup [PV.int 8, PV.int 1]], PV.tup [PV.tup [PV.int 1, PV.int 1]]]]]) (m := 31) (by simp [Plw, po_low, PV.lows, PV.low, r7.low, lv1, lv2, lv3, lv4, lv5, lv6, lv7]) rfl (by clear lv7 kv7 lv6 kv6 hv6 sv5 lv5 hv5 lv4 hv4 lv3 kv3 hv3 lv2 hv2 lv1 hv1; revert v7; revert v2; decide +kernel)
  simp [alloc, mth, many, blt, items]
  rw [show eqD _ (PV.tup [PV.str (Str.ofString "nodes"), v7.snd]) (PV.tup [PV.str (Str.ofString "nodes"), v7.snd]) = some true from by rcases kv7 with e | e <;> rw [e] <;> kernel_rfl]
  simp [alloc, mth, many, blt, items]
  refine pickl_to (i := 34) (xs := [PV.non, PV.int (-2), PV.int 3, PV.bl true, PV.str (Str.ofString "1")]) (by simp) (by simp) r7 rfl fun v8 o8 hv8 r8 => ?_
  have hp8 : Plw [o8] := by simp [Plw, r8.low]
  have lv8 : ∀ n, 0 ≤ n → PV.low n v8 = true := by
    intro n hn
    simp at hv8
    rcases hv8 with rfl | rfl | rfl | rfl | rfl <;> simp [PV.low, PV.lows] <;> omega
  simp [alloc, mth, many, blt, items]
  refine lam_fnd (m := 36) (.str "number") rfl (by simp; rfl) (by simp [Plw, po_low, PV.lows, PV.low, r8.low, lv1, lv2, lv3, lv4, lv5, lv6, lv7, lv8]) rfl (by clear lv8 lv7 kv7 lv6 kv6 sv5 lv5 lv4 lv3 kv3 sv2 lv2 lv1 hv7 hv6 hv5 hv4 hv3 hv2 hv1; revert v8; decide +kernel) ?_
  simp [alloc, mth, many, blt, items]
  rw [show eqD _ (PV.str (Str.ofString "number")) (PV.str (Str.ofString "number")) = some true from by kernel_rfl]
  simp [alloc, mth, many, blt, items]
  refine fnd_to (n := 36) (.int 3) (by simp [Plw, po_low, PV.lows, PV.low, r8.low, lv1, lv2, lv3, lv4, lv5, lv6, lv7, lv8]) rfl (by clear lv8 lv7 kv7 lv6 kv6 sv5 lv5 lv4 lv3 kv3 sv2 lv2 lv1 hv8 hv7 hv6 hv5 hv4 hv3 hv2 hv1; decide +kernel) ?_
  simp [alloc, mth, many, blt, items]
end
end PB
set_option Elab.async false
set_option linter.all false
set_option maxRecDepth 100000
set_option maxHeartbeats 4000000
namespace PB
open PySem PySem.Spec L2
abbrev N_is_int : List Str := ["value"]
abbrev P_is_int : List Str := ["value"]
theorem sc_is_int : FnScope N_is_int P_is_int (C8.fnScope t_is_int) := C8.fnScope_by (by decide +kernel)
abbrev N_is_from : List Str := ["value", "least", "most"]
abbrev P_is_from : List Str := ["value", "least", "most"]
theorem sc_is_from : FnScope N_is_from P_is_from (C8.fnScope t_is_from) := C8.fnScope_by (by decide +kernel)
abbrev N_is_ratio : List Str := ["value"]
abbrev P_is_ratio : List Str := ["value"]
theorem sc_is_ratio : FnScope N_is_ratio P_is_ratio (C8.fnScope t_is_ratio) := C8.fnScope_by (by decide +kernel)
abbrev N_need_ratio : List Str := ["value"]
abbrev P_need_ratio : List Str := ["value"]
theorem sc_need_ratio : FnScope N_need_ratio P_need_ratio (C8.fnScope t_need_ratio) := C8.fnScope_by (by decide +kernel)
abbrev N_made : List Str := ["top", "low", "part"]
abbrev P_made : List Str := ["top", "low"]
theorem sc_made : FnScope N_made P_made (C8.fnScope t_made) := C8.fnScope_by (by decide +kernel)
abbrev N_plus : List Str := ["one", "other"]
abbrev P_plus : List Str := ["one", "other"]
theorem sc_plus : FnScope N_plus P_plus (C8.fnScope t_plus) := C8.fnScope_by (by decide +kernel)
abbrev N_less : List Str := ["one", "other"]
abbrev P_less : List Str := ["one", "other"]
theorem sc_less : FnScope N_less P_less (C8.fnScope t_less) := C8.fnScope_by (by decide +kernel)
abbrev N_times : List Str := ["one", "other"]
abbrev P_times : List Str := ["one", "other"]
theorem sc_times : FnScope N_times P_times (C8.fnScope t_times) := C8.fnScope_by (by decide +kernel)
abbrev N_over : List Str := ["one", "other"]
abbrev P_over : List Str := ["one", "other"]
theorem sc_over : FnScope N_over P_over (C8.fnScope t_over) := C8.fnScope_by (by decide +kernel)
abbrev N_negative : List Str := ["one"]
abbrev P_negative : List Str := ["one"]
theorem sc_negative : FnScope N_negative P_negative (C8.fnScope t_negative) := C8.fnScope_by (by decide +kernel)
abbrev N_is_below : List Str := ["one", "other"]
abbrev P_is_below : List Str := ["one", "other"]
theorem sc_is_below : FnScope N_is_below P_is_below (C8.fnScope t_is_below) := C8.fnScope_by (by decide +kernel)
abbrev N_total : List Str := ["some", "found", "one"]
abbrev P_total : List Str := ["some"]
theorem sc_total : FnScope N_total P_total (C8.fnScope t_total) := C8.fnScope_by (by decide +kernel)
abbrev N_is_poly : List Str := ["value", "one"]
abbrev P_is_poly : List Str := ["value"]
theorem sc_is_poly : FnScope N_is_poly P_is_poly (C8.fnScope t_is_poly) := C8.fnScope_by (by decide +kernel)
abbrev N_need_poly : List Str := ["value"]
abbrev P_need_poly : List Str := ["value"]
theorem sc_need_poly : FnScope N_need_poly P_need_poly (C8.fnScope t_need_poly) := C8.fnScope_by (by decide +kernel)
abbrev N_trimmed : List Str := ["row", "many"]
abbrev P_trimmed : List Str := ["row"]
theorem sc_trimmed : FnScope N_trimmed P_trimmed (C8.fnScope t_trimmed) := C8.fnScope_by (by decide +kernel)
abbrev N_at : List Str := ["poly", "x", "found", "one"]
abbrev P_at : List Str := ["poly", "x"]
theorem sc_at : FnScope N_at P_at (C8.fnScope t_at) := C8.fnScope_by (by decide +kernel)
abbrev N_p_plus : List Str := ["one", "other", "size", "first", "second", "x", "y"]
abbrev P_p_plus : List Str := ["one", "other"]
theorem sc_p_plus : FnScope N_p_plus P_p_plus (C8.fnScope t_p_plus) := C8.fnScope_by (by decide +kernel)
abbrev N_p_times : List Str := ["one", "other", "found", "place", "x", "more", "y"]
abbrev P_p_times : List Str := ["one", "other"]
theorem sc_p_times : FnScope N_p_times P_p_times (C8.fnScope t_p_times) := C8.fnScope_by (by decide +kernel)
abbrev N_p_slope : List Str := ["poly", "power", "one"]
abbrev P_p_slope : List Str := ["poly"]
theorem sc_p_slope : FnScope N_p_slope P_p_slope (C8.fnScope t_p_slope) := C8.fnScope_by (by decide +kernel)
abbrev N_choose : List Str := ["many", "few", "found", "turn"]
abbrev P_choose : List Str := ["many", "few"]
theorem sc_choose : FnScope N_choose P_choose (C8.fnScope t_choose) := C8.fnScope_by (by decide +kernel)
abbrev N_symmetric : List Str := ["places", "found", "place", "longer", "at"]
abbrev P_symmetric : List Str := ["places"]
theorem sc_symmetric : FnScope N_symmetric P_symmetric (C8.fnScope t_symmetric) := C8.fnScope_by (by decide +kernel)
abbrev N_blossom_of : List Str := ["poly", "places", "found", "told", "power", "number"]
abbrev P_blossom_of : List Str := ["poly", "places"]
theorem sc_blossom_of : FnScope N_blossom_of P_blossom_of (C8.fnScope t_blossom_of) := C8.fnScope_by (by decide +kernel)
abbrev N_need_low : List Str := ["value", "least"]
abbrev P_need_low : List Str := ["value", "least"]
theorem sc_need_low : FnScope N_need_low P_need_low (C8.fnScope t_need_low) := C8.fnScope_by (by decide +kernel)
abbrev N_faults_of : List Str := ["degree", "value", "index", "one"]
abbrev P_faults_of : List Str := ["degree", "value"]
theorem sc_faults_of : FnScope N_faults_of P_faults_of (C8.fnScope t_faults_of) := C8.fnScope_by (by decide +kernel)
abbrev N_need_knots : List Str := ["degree", "value", "faults"]
abbrev P_need_knots : List Str := ["degree", "value"]
theorem sc_need_knots : FnScope N_need_knots P_need_knots (C8.fnScope t_need_knots) := C8.fnScope_by (by decide +kernel)
abbrev N_need_index : List Str := ["degree", "knots", "value"]
abbrev P_need_index : List Str := ["degree", "knots", "value"]
theorem sc_need_index : FnScope N_need_index P_need_index (C8.fnScope t_need_index) := C8.fnScope_by (by decide +kernel)
abbrev N_basis_at : List Str := ["degree", "knots", "index", "x", "found", "low", "high"]
abbrev P_basis_at : List Str := ["degree", "knots", "index", "x"]
theorem sc_basis_at : FnScope N_basis_at P_basis_at (C8.fnScope t_basis_at) := C8.fnScope_by (by decide +kernel)
abbrev N_basis_poly : List Str := ["degree", "knots", "index", "place", "found", "low", "high", "part", "line"]
abbrev P_basis_poly : List Str := ["degree", "knots", "index", "place"]
theorem sc_basis_poly : FnScope N_basis_poly P_basis_poly (C8.fnScope t_basis_poly) := C8.fnScope_by (by decide +kernel)
abbrev N_basis_value : List Str := ["degree", "knots", "index", "x"]
abbrev P_basis_value : List Str := ["degree", "knots", "index", "x"]
theorem sc_basis_value : FnScope N_basis_value P_basis_value (C8.fnScope t_basis_value) := C8.fnScope_by (by decide +kernel)
abbrev N_basis_pieces : List Str := ["degree", "knots", "index", "found", "place"]
abbrev P_basis_pieces : List Str := ["degree", "knots", "index"]
theorem sc_basis_pieces : FnScope N_basis_pieces P_basis_pieces (C8.fnScope t_basis_pieces) := C8.fnScope_by (by decide +kernel)
abbrev N_greville : List Str := ["degree", "knots", "many", "at"]
abbrev P_greville : List Str := ["degree", "knots"]
theorem sc_greville : FnScope N_greville P_greville (C8.fnScope t_greville) := C8.fnScope_by (by decide +kernel)
abbrev N_row_for : List Str := ["poly", "degree", "knots", "at"]
abbrev P_row_for : List Str := ["poly", "degree", "knots"]
theorem sc_row_for : FnScope N_row_for P_row_for (C8.fnScope t_row_for) := C8.fnScope_by (by decide +kernel)
abbrev N_coefficients : List Str := ["poly", "degree", "knots"]
abbrev P_coefficients : List Str := ["poly", "degree", "knots"]
theorem sc_coefficients : FnScope N_coefficients P_coefficients (C8.fnScope t_coefficients) := C8.fnScope_by (by decide +kernel)
abbrev N_is_interval : List Str := ["value"]
abbrev P_is_interval : List Str := ["value"]
theorem sc_is_interval : FnScope N_is_interval P_is_interval (C8.fnScope t_is_interval) := C8.fnScope_by (by decide +kernel)
abbrev N_poly_over : List Str := ["pieces", "low", "interval", "poly"]
abbrev P_poly_over : List Str := ["pieces", "low"]
theorem sc_poly_over : FnScope N_poly_over P_poly_over (C8.fnScope t_poly_over) := C8.fnScope_by (by decide +kernel)
abbrev N_row_from : List Str := ["pieces", "degree", "knots", "found", "index", "place", "at"]
abbrev P_row_from : List Str := ["pieces", "degree", "knots"]
theorem sc_row_from : FnScope N_row_from P_row_from (C8.fnScope t_row_from) := C8.fnScope_by (by decide +kernel)
abbrev N_order_at : List Str := ["one", "other", "degree", "x", "order"]
abbrev P_order_at : List Str := ["one", "other", "degree", "x"]
theorem sc_order_at : FnScope N_order_at P_order_at (C8.fnScope t_order_at) := C8.fnScope_by (by decide +kernel)
abbrev N_small : List Str := ["knots"]
abbrev P_small : List Str := ["knots"]
theorem sc_small : FnScope N_small P_small (C8.fnScope t_small) := C8.fnScope_by (by decide +kernel)
abbrev N_with_ends : List Str := ["degree", "ends", "told", "found", "x", "many"]
abbrev P_with_ends : List Str := ["degree", "ends", "told"]
theorem sc_with_ends : FnScope N_with_ends P_with_ends (C8.fnScope t_with_ends) := C8.fnScope_by (by decide +kernel)
abbrev N_is_piece : List Str := ["value", "degree"]
abbrev P_is_piece : List Str := ["value", "degree"]
theorem sc_is_piece : FnScope N_is_piece P_is_piece (C8.fnScope t_is_piece) := C8.fnScope_by (by decide +kernel)
abbrev N_from_pieces : List Str := ["degree", "pieces", "told", "knots", "index", "piece", "one", "other", "x"]
abbrev P_from_pieces : List Str := ["degree", "pieces"]
theorem sc_from_pieces : FnScope N_from_pieces P_from_pieces (C8.fnScope t_from_pieces) := C8.fnScope_by (by decide +kernel)
abbrev N_space_size : List Str := ["breaks", "degree", "order", "index", "one"]
abbrev P_space_size : List Str := ["breaks", "degree", "order"]
theorem sc_space_size : FnScope N_space_size P_space_size (C8.fnScope t_space_size) := C8.fnScope_by (by decide +kernel)
abbrev N__law_taken : List Str := ["_law_row", "_law_many", "_law_cell", "_law_found"]
abbrev P__law_taken : List Str := ["_law_row", "_law_many"]
theorem sc__law_taken : FnScope N__law_taken P__law_taken (C8.fnScope t__law_taken) := C8.fnScope_by (by decide +kernel)
abbrev N__law_pick : List Str := ["_law_row", "_law_things"]
abbrev P__law_pick : List Str := ["_law_row", "_law_things"]
theorem sc__law_pick : FnScope N__law_pick P__law_pick (C8.fnScope t__law_pick) := C8.fnScope_by (by decide +kernel)
abbrev N_law : List Str := ["_law_script", "_law_row", "_law_degree", "_law_words", "_law_bad", "_law_some", "_law_number", "_law_poly", "_law_first", "_law_many", "_law_order", "_law_zero", "_law_one", "_law_two", "_law_good", "_law_line", "_law_knots", "_law_index", "_law_pieces", "_law_breaks", "_law_at"]
abbrev P_law : List Str := ["_law_script"]
theorem sc_law : FnScope N_law P_law (C8.fnScope t_law) := C8.fnScope_by (by decide +kernel)
abbrev N__law_word : List Str := ["_law_work", "_law_found", "e", "_law_known", "_law_words"]
abbrev P__law_word : List Str := ["_law_work"]
theorem sc__law_word : FnScope N__law_word P__law_word (C8.fnScope t__law_word) := C8.fnScope_by (by decide +kernel)
def CLL : List (Nat × Str) := [(1, "BadRatio"), (2, "BadPolynomial"), (5, "BadNodes"), (7, "BadDegree"), (11, "BadNumber"), (12, "BadKnots"), (15, "BadPieces"), (17, "TooMany")]
def calmL : List Nat := [0, 75, 1, 2, 4, 31, 5, 32, 52, 49, 115, 3, 9, 6, 10, 13, 39, 76, 77, 78, 145, 146, 155, 159, 84, 184, 187, 185, 202, 14, 17]
def calmC (n : Nat) : Bool := calmL.contains n
theorem calm_k (k : Nat) : CalmF calmC (callF G k) := calm_all (calm_tab (tab := tab) (by decide +kernel)) k
structure Wld (P : Program) (mg : Str → Option Value) (K : PySem.W.Frag) (fn ca : Nat → Option Addr) (tb : List (Addr × Str)) : Prop where
  m_ValueError : mg "ValueError" = none
  m_all : mg "all" = none
  m_bool : mg "bool" = none
  m_enumerate : mg "enumerate" = none
  m_gcd : mg "gcd" = some (.builtin "math.gcd")
  m_int : mg "int" = none
  m_isinstance : mg "isinstance" = none
  m_len : mg "len" = none
  m_list : mg "list" = none
  m_max : mg "max" = none
  m_range : mg "range" = none
  m_tuple : mg "tuple" = none
  m_zip : mg "zip" = none
  z_MOST_BREAKS : GC mg K (FA.oft fn ca tb) "MOST_BREAKS" (.int 6)
  z_MOST_DEGREE_knots : GC mg K (FA.oft fn ca tb) "MOST_DEGREE_knots" (.int 4)
  z_MOST_DEGREE_polys : GC mg K (FA.oft fn ca tb) "MOST_DEGREE_polys" (.int 12)
  z_MOST_KNOTS : GC mg K (FA.oft fn ca tb) "MOST_KNOTS" (.int 16)
  z_MOST_PIECES : GC mg K (FA.oft fn ca tb) "MOST_PIECES" (.int 8)
  z_ONE : GC mg K (FA.oft fn ca tb) "ONE" (.tup [(.int 1), (.int 1)])
  z_ZERO : GC mg K (FA.oft fn ca tb) "ZERO" (.tup [(.int 0), (.int 1)])
  r_BadRatio : ∃ A, ca 1 = some A ∧ Ex0 K mg "BadRatio" A
  r_BadPolynomial : ∃ A, ca 2 = some A ∧ Ex0 K mg "BadPolynomial" A
  r_BadNodes : ∃ A, ca 5 = some A ∧ Ex1 P K mg "BadNodes" "index" A
  r_BadDegree : ∃ A, ca 7 = some A ∧ Ex0 K mg "BadDegree" A
  r_BadNumber : ∃ A, ca 11 = some A ∧ Ex0 K mg "BadNumber" A
  r_BadKnots : ∃ A, ca 12 = some A ∧ Ex1 P K mg "BadKnots" "index" A
  r_BadPieces : ∃ A, ca 15 = some A ∧ Ex1 P K mg "BadPieces" "index" A
  r_TooMany : ∃ A, ca 17 = some A ∧ Ex1 P K mg "TooMany" "most" A
  h_BlendError : ∃ A, mg "BlendError" = some (.ref A) ∧ Exm K (FA.oft fn ca tb) (.ref A) [0, 1, 2, 5, 7, 11, 12, 15, 17]
  i_BadDegree : ∃ A, mg "BadDegree" = some (.ref A) ∧ IsX K (FA.oft fn ca tb) (.ref A) [7]
  i_BadKnots : ∃ A, mg "BadKnots" = some (.ref A) ∧ IsX K (FA.oft fn ca tb) (.ref A) [12]
  i_BadNodes : ∃ A, mg "BadNodes" = some (.ref A) ∧ IsX K (FA.oft fn ca tb) (.ref A) [5]
  i_BadNumber : ∃ A, mg "BadNumber" = some (.ref A) ∧ IsX K (FA.oft fn ca tb) (.ref A) [11]
  i_BadPieces : ∃ A, mg "BadPieces" = some (.ref A) ∧ IsX K (FA.oft fn ca tb) (.ref A) [15]
  i_BadPolynomial : ∃ A, mg "BadPolynomial" = some (.ref A) ∧ IsX K (FA.oft fn ca tb) (.ref A) [2]
  i_BadRatio : ∃ A, mg "BadRatio" = some (.ref A) ∧ IsX K (FA.oft fn ca tb) (.ref A) [1]
  i_TooMany : ∃ A, mg "TooMany" = some (.ref A) ∧ IsX K (FA.oft fn ca tb) (.ref A) [17]
  iV : IsX K (FA.oft fn ca tb) (.type "ValueError") [0, 1, 2, 5, 7, 11, 12, 15, 17]
  w_word : Has K mg "_law_word" t__law_word P__law_word
structure Cals (P : Program) (w : World) (K : PySem.W.Frag) (mg : Str → Option Value) (base : Heap) (fn ca : Nat → Option Addr) (tb : List (Addr × Str)) (k : Nat) : Prop where
  c_is_int : C8.Cal P w K mg base (k + 2) "is_int" (spI K (FA.oft fn ca tb) G k 0) []
  c_is_from : C8.Cal P w K mg base (k + 2) "is_from" (spI K (FA.oft fn ca tb) G k 75) []
  c_is_ratio : C8.Cal P w K mg base (k + 2) "is_ratio" (spI K (FA.oft fn ca tb) G k 1) []
  c_need_ratio : C8.Cal P w K mg base (k + 2) "need_ratio" (spI K (FA.oft fn ca tb) G k 7) []
  c_made : C8.Cal P w K mg base (k + 2) "made" (spI K (FA.oft fn ca tb) G k 2) []
  c_plus : C8.Cal P w K mg base (k + 2) "plus" (spI K (FA.oft fn ca tb) G k 4) []
  c_less : C8.Cal P w K mg base (k + 2) "less" (spI K (FA.oft fn ca tb) G k 31) []
  c_times : C8.Cal P w K mg base (k + 2) "times" (spI K (FA.oft fn ca tb) G k 5) []
  c_over : C8.Cal P w K mg base (k + 2) "over" (spI K (FA.oft fn ca tb) G k 32) []
  c_negative : C8.Cal P w K mg base (k + 2) "negative" (spI K (FA.oft fn ca tb) G k 52) []
  c_is_below : C8.Cal P w K mg base (k + 2) "is_below" (spI K (FA.oft fn ca tb) G k 49) []
  c_total : C8.Cal P w K mg base (k + 2) "total" (spI K (FA.oft fn ca tb) G k 115) []
  c_is_poly : C8.Cal P w K mg base (k + 2) "is_poly" (spI K (FA.oft fn ca tb) G k 3) []
  c_need_poly : C8.Cal P w K mg base (k + 2) "need_poly" (spI K (FA.oft fn ca tb) G k 8) []
  c_trimmed : C8.Cal P w K mg base (k + 2) "trimmed" (spI K (FA.oft fn ca tb) G k 9) []
  c_at : C8.Cal P w K mg base (k + 2) "at" (spI K (FA.oft fn ca tb) G k 6) []
  c_p_plus : C8.Cal P w K mg base (k + 2) "p_plus" (spI K (FA.oft fn ca tb) G k 10) []
  c_p_times : C8.Cal P w K mg base (k + 2) "p_times" (spI K (FA.oft fn ca tb) G k 13) []
  c_p_slope : C8.Cal P w K mg base (k + 2) "p_slope" (spI K (FA.oft fn ca tb) G k 39) []
  c_choose : C8.Cal P w K mg base (k + 2) "choose" (spI K (FA.oft fn ca tb) G k 76) []
  c_symmetric : C8.Cal P w K mg base (k + 2) "symmetric" (spI K (FA.oft fn ca tb) G k 77) []
  c_blossom_of : C8.Cal P w K mg base (k + 2) "blossom_of" (spI K (FA.oft fn ca tb) G k 78) []
  c_need_low : C8.Cal P w K mg base (k + 2) "need_low" (spI K (FA.oft fn ca tb) G k 149) []
  c_faults_of : C8.Cal P w K mg base (k + 2) "faults_of" (spI K (FA.oft fn ca tb) G k 145) []
  c_need_knots : C8.Cal P w K mg base (k + 2) "need_knots" (spI K (FA.oft fn ca tb) G k 148) []
  c_need_index : C8.Cal P w K mg base (k + 2) "need_index" (spI K (FA.oft fn ca tb) G k 147) []
  c_basis_at : C8.Cal P w K mg base (k + 2) "basis_at" (spI K (FA.oft fn ca tb) G k 146) []
  c_basis_poly : C8.Cal P w K mg base (k + 2) "basis_poly" (spI K (FA.oft fn ca tb) G k 155) []
  c_basis_value : C8.Cal P w K mg base (k + 2) "basis_value" (spI K (FA.oft fn ca tb) G k 152) []
  c_basis_pieces : C8.Cal P w K mg base (k + 2) "basis_pieces" (spI K (FA.oft fn ca tb) G k 156) []
  c_greville : C8.Cal P w K mg base (k + 2) "greville" (spI K (FA.oft fn ca tb) G k 161) []
  c_row_for : C8.Cal P w K mg base (k + 2) "row_for" (spI K (FA.oft fn ca tb) G k 159) []
  c_coefficients : C8.Cal P w K mg base (k + 2) "coefficients" (spI K (FA.oft fn ca tb) G k 160) []
  c_is_interval : C8.Cal P w K mg base (k + 2) "is_interval" (spI K (FA.oft fn ca tb) G k 84) []
  c_poly_over : C8.Cal P w K mg base (k + 2) "poly_over" (spI K (FA.oft fn ca tb) G k 184) []
  c_row_from : C8.Cal P w K mg base (k + 2) "row_from" (spI K (FA.oft fn ca tb) G k 187) []
  c_order_at : C8.Cal P w K mg base (k + 2) "order_at" (spI K (FA.oft fn ca tb) G k 185) []
  c_small : C8.Cal P w K mg base (k + 2) "small" (spI K (FA.oft fn ca tb) G k 191) []
  c_with_ends : C8.Cal P w K mg base (k + 2) "with_ends" (spI K (FA.oft fn ca tb) G k 192) []
  c_is_piece : C8.Cal P w K mg base (k + 2) "is_piece" (spI K (FA.oft fn ca tb) G k 202) []
  c_from_pieces : C8.Cal P w K mg base (k + 2) "from_pieces" (spI K (FA.oft fn ca tb) G k 203) []
  c_space_size : C8.Cal P w K mg base (k + 2) "space_size" (spI K (FA.oft fn ca tb) G k 205) []
  c__law_taken : C8.Cal P w K mg base (k + 2) "_law_taken" (spI K (FA.oft fn ca tb) G k 14) []
  c__law_pick : C8.Cal P w K mg base (k + 2) "_law_pick" (spI K (FA.oft fn ca tb) G k 17) []
  x_need_ratio : CalX P w K mg base (k + 2) "need_ratio" (spX K (FA.oft fn ca tb) G k 7)
  x_need_poly : CalX P w K mg base (k + 2) "need_poly" (spX K (FA.oft fn ca tb) G k 8)
  x_need_low : CalX P w K mg base (k + 2) "need_low" (spX K (FA.oft fn ca tb) G k 149)
  x_need_knots : CalX P w K mg base (k + 2) "need_knots" (spX K (FA.oft fn ca tb) G k 148)
  x_need_index : CalX P w K mg base (k + 2) "need_index" (spX K (FA.oft fn ca tb) G k 147)
  x_basis_value : CalX P w K mg base (k + 2) "basis_value" (spX K (FA.oft fn ca tb) G k 152)
  x_basis_pieces : CalX P w K mg base (k + 2) "basis_pieces" (spX K (FA.oft fn ca tb) G k 156)
  x_greville : CalX P w K mg base (k + 2) "greville" (spX K (FA.oft fn ca tb) G k 161)
  x_coefficients : CalX P w K mg base (k + 2) "coefficients" (spX K (FA.oft fn ca tb) G k 160)
  x_small : CalX P w K mg base (k + 2) "small" (spX K (FA.oft fn ca tb) G k 191)
  x_with_ends : CalX P w K mg base (k + 2) "with_ends" (spX K (FA.oft fn ca tb) G k 192)
  x_from_pieces : CalX P w K mg base (k + 2) "from_pieces" (spX K (FA.oft fn ca tb) G k 203)
  x_space_size : CalX P w K mg base (k + 2) "space_size" (spX K (FA.oft fn ca tb) G k 205)
section
variable {P : Program} {w : World} {K : PySem.W.Frag} {mg : Str → Option Value} {base : Heap} {fn ca : Nat → Option Addr} {tb : List (Addr × Str)} {k : Nat}
theorem d_is_int (W : Wld P mg K fn ca tb) (C : Cals P w K mg base fn ca tb k) (f : Addr) (cdv : Value) (A : Around) (outer : List Env) (s : Shared) (H : Hp) (E : XK) (hr : Room (k + 2) (A.deeper (PyProof.Rows.envOfC "is_int" (C8.fnScope t_is_int) s.heap.objs.size f cdv))) :
    PSs (cxOf CX0 P w K mg base N_is_int "is_int" (C8.fnScope t_is_int) f cdv A outer s H E).nox (C8.fnBody t_is_int) (tK K (FA.oft fn ca tb) (callF G k) c_is_int) := by
  have nd := sc_is_int.nd
  exact (k_cons (s_ret (e_and (e_isInt (by rfl) W.m_isinstance (by rfl) W.m_int (e_var (pv 0))) (e_one (e_not (e_isBool (by rfl) W.m_isinstance (by rfl) W.m_bool (e_var (pv 0)))))))
      k_nil)
theorem d_is_from (W : Wld P mg K fn ca tb) (C : Cals P w K mg base fn ca tb k) (f : Addr) (cdv : Value) (A : Around) (outer : List Env) (s : Shared) (H : Hp) (E : XK) (hr : Room (k + 2) (A.deeper (PyProof.Rows.envOfC "is_from" (C8.fnScope t_is_from) s.heap.objs.size f cdv))) :
    PSs (cxOf CX0 P w K mg base N_is_from "is_from" (C8.fnScope t_is_from) f cdv A outer s H E).nox (C8.fnBody t_is_from) (tK K (FA.oft fn ca tb) (callF G k) c_is_from) := by
  have nd := sc_is_from.nd
  exact (k_cons (s_ret (e_and (e_call C.c_is_int hr (by rfl) (a_cons (e_var (pv 0)) a_nil)) (e_one (e_chn c_le c_le (e_var (pv 1)) (e_var (pv 0)) (e_var (pv 2))))))
      k_nil)
theorem d_is_ratio (W : Wld P mg K fn ca tb) (C : Cals P w K mg base fn ca tb k) (f : Addr) (cdv : Value) (A : Around) (outer : List Env) (s : Shared) (H : Hp) (E : XK) (hr : Room (k + 2) (A.deeper (PyProof.Rows.envOfC "is_ratio" (C8.fnScope t_is_ratio) s.heap.objs.size f cdv))) :
    PSs (cxOf CX0 P w K mg base N_is_ratio "is_ratio" (C8.fnScope t_is_ratio) f cdv A outer s H E).nox (C8.fnBody t_is_ratio) (tK K (FA.oft fn ca tb) (callF G k) c_is_ratio) := by
  have nd := sc_is_ratio.nd
  exact (k_cons (s_if (PW.pt (t_or (t_not (t_val (e_isTup (by rfl) W.m_isinstance (by rfl) W.m_tuple (e_var (pv 0))))) (t_or (t_cmp (c_ne hr) (e_len (by rfl) W.m_len (a_cons (e_var (pv 0)) a_nil)) e_int) (t_or (t_not (t_val (e_call C.c_is_int hr (by rfl) (a_cons (e_idx (e_var (pv 0)) e_int) a_nil)))) (t_or1 (t_not (t_val (e_call C.c_is_int hr (by rfl) (a_cons (e_idx (e_var (pv 0)) e_int) a_nil))))))))) (k_cons (s_ret e_bl)
      k_nil) k_nil)
      (k_cons (s_ret (e_and (e_cmp c_gt (e_idx (e_var (pv 0)) e_int) e_int) (e_one (e_cmp (c_eq hr) (e_gcd (by rfl) W.m_gcd (a_cons (e_idx (e_var (pv 0)) e_int) (a_cons (e_idx (e_var (pv 0)) e_int) a_nil))) e_int))))
      k_nil))
theorem d_need_ratio (W : Wld P mg K fn ca tb) (C : Cals P w K mg base fn ca tb k) (f : Addr) (cdv : Value) (A : Around) (outer : List Env) (s : Shared) (H : Hp) (E : XK) (hr : Room (k + 2) (A.deeper (PyProof.Rows.envOfC "need_ratio" (C8.fnScope t_need_ratio) s.heap.objs.size f cdv))) :
    PSs (cxOf (L2.CX P w) P w K mg base N_need_ratio "need_ratio" (C8.fnScope t_need_ratio) f cdv A outer s H E) (C8.fnBody t_need_ratio) (tK K (FA.oft fn ca tb) (callF G k) c_need_ratio) ∧ PSs (cxOf (L2.CX P w) P w K mg base N_need_ratio "need_ratio" (C8.fnScope t_need_ratio) f cdv A outer s H E) (C8.fnBody t_need_ratio) (tXK K (FA.oft fn ca tb) (callF G k) (WF E) c_need_ratio) := by
  have nd := sc_need_ratio.nd
  have HC : CalmF calmC (callF G k) := calm_k k
  obtain ⟨_, r_BadRatio⟩ := W.r_BadRatio
  have tk : Takes (cxOf (L2.CX P w) P w K mg base N_need_ratio "need_ratio" (C8.fnScope t_need_ratio) f cdv A outer s H E) (WF E) := takes_of rfl rfl rfl rfl
  have po : PassesOwn (model P w) (A.deeper (PyProof.Rows.envOfC "need_ratio" (C8.fnScope t_need_ratio) s.heap.objs.size f cdv)) (PyProof.Rows.envOfC "need_ratio" (C8.fnScope t_need_ratio) s.heap.objs.size f cdv) (cxOf (L2.CX P w) P w K mg base N_need_ratio "need_ratio" (C8.fnScope t_need_ratio) f cdv A outer s H E).xe := passes_of (X := cxOf (L2.CX P w) P w K mg base N_need_ratio "need_ratio" (C8.fnScope t_need_ratio) f cdv A outer s H E) rfl
  have z : XB (cxOf (L2.CX P w) P w K mg base N_need_ratio "need_ratio" (C8.fnScope t_need_ratio) f cdv A outer s H E) (FA.oft fn ca tb) (callF G k) (WF E) (C8.fnBody t_need_ratio) c_need_ratio :=
    (xk_cons free_wf (xs_if HC (t_not (t_val (e_call C.c_is_ratio hr (by rfl) (a_cons (e_var (pv 0)) a_nil)))) (xk_cons free_wf (xs_raise0 r_BadRatio.2 r_BadRatio.1 rfl tk (by rfl))
      xk_nil) xk_nil)
      xk_nil)
  exact ⟨z.ok, z.ex⟩
theorem d_made (W : Wld P mg K fn ca tb) (C : Cals P w K mg base fn ca tb k) (f : Addr) (cdv : Value) (A : Around) (outer : List Env) (s : Shared) (H : Hp) (E : XK) (hr : Room (k + 2) (A.deeper (PyProof.Rows.envOfC "made" (C8.fnScope t_made) s.heap.objs.size f cdv))) :
    PSs (cxOf CX0 P w K mg base N_made "made" (C8.fnScope t_made) f cdv A outer s H E).nox (C8.fnBody t_made) (tK K (FA.oft fn ca tb) (callF G k) c_made) := by
  have nd := sc_made.nd
  exact (k_cons (s_set (i := 2) nd rfl (by first | exact .inl rfl | exact .inr rfl) (e_gcd (by rfl) W.m_gcd (a_cons (e_var (pv 0)) (a_cons (e_var (pv 1)) a_nil))))
      (k_cons (s_if (t_cmp c_lt (e_var (pv 1)) e_int) (k_cons (s_set (i := 2) nd rfl (by first | exact .inl rfl | exact .inr rfl) (e_neg (e_var (pv 2))))
      k_nil) k_nil)
      (k_cons (s_ret (e_tup (a_cons (e_fdiv (e_var (pv 0)) (e_var (pv 2))) (a_cons (e_fdiv (e_var (pv 1)) (e_var (pv 2))) a_nil))))
      k_nil)))
theorem d_plus (W : Wld P mg K fn ca tb) (C : Cals P w K mg base fn ca tb k) (f : Addr) (cdv : Value) (A : Around) (outer : List Env) (s : Shared) (H : Hp) (E : XK) (hr : Room (k + 2) (A.deeper (PyProof.Rows.envOfC "plus" (C8.fnScope t_plus) s.heap.objs.size f cdv))) :
    PSs (cxOf CX0 P w K mg base N_plus "plus" (C8.fnScope t_plus) f cdv A outer s H E).nox (C8.fnBody t_plus) (tK K (FA.oft fn ca tb) (callF G k) c_plus) := by
  have nd := sc_plus.nd
  exact (k_cons (s_ret (e_call C.c_made hr (by rfl) (a_cons (e_add (e_mul (e_idx (e_var (pv 0)) e_int) (e_idx (e_var (pv 1)) e_int)) (e_mul (e_idx (e_var (pv 1)) e_int) (e_idx (e_var (pv 0)) e_int))) (a_cons (e_mul (e_idx (e_var (pv 0)) e_int) (e_idx (e_var (pv 1)) e_int)) a_nil))))
      k_nil)
theorem d_less (W : Wld P mg K fn ca tb) (C : Cals P w K mg base fn ca tb k) (f : Addr) (cdv : Value) (A : Around) (outer : List Env) (s : Shared) (H : Hp) (E : XK) (hr : Room (k + 2) (A.deeper (PyProof.Rows.envOfC "less" (C8.fnScope t_less) s.heap.objs.size f cdv))) :
    PSs (cxOf CX0 P w K mg base N_less "less" (C8.fnScope t_less) f cdv A outer s H E).nox (C8.fnBody t_less) (tK K (FA.oft fn ca tb) (callF G k) c_less) := by
  have nd := sc_less.nd
  exact (k_cons (s_ret (e_call C.c_made hr (by rfl) (a_cons (e_sub (e_mul (e_idx (e_var (pv 0)) e_int) (e_idx (e_var (pv 1)) e_int)) (e_mul (e_idx (e_var (pv 1)) e_int) (e_idx (e_var (pv 0)) e_int))) (a_cons (e_mul (e_idx (e_var (pv 0)) e_int) (e_idx (e_var (pv 1)) e_int)) a_nil))))
      k_nil)
theorem d_times (W : Wld P mg K fn ca tb) (C : Cals P w K mg base fn ca tb k) (f : Addr) (cdv : Value) (A : Around) (outer : List Env) (s : Shared) (H : Hp) (E : XK) (hr : Room (k + 2) (A.deeper (PyProof.Rows.envOfC "times" (C8.fnScope t_times) s.heap.objs.size f cdv))) :
    PSs (cxOf CX0 P w K mg base N_times "times" (C8.fnScope t_times) f cdv A outer s H E).nox (C8.fnBody t_times) (tK K (FA.oft fn ca tb) (callF G k) c_times) := by
  have nd := sc_times.nd
  exact (k_cons (s_ret (e_call C.c_made hr (by rfl) (a_cons (e_mul (e_idx (e_var (pv 0)) e_int) (e_idx (e_var (pv 1)) e_int)) (a_cons (e_mul (e_idx (e_var (pv 0)) e_int) (e_idx (e_var (pv 1)) e_int)) a_nil))))
      k_nil)
theorem d_over (W : Wld P mg K fn ca tb) (C : Cals P w K mg base fn ca tb k) (f : Addr) (cdv : Value) (A : Around) (outer : List Env) (s : Shared) (H : Hp) (E : XK) (hr : Room (k + 2) (A.deeper (PyProof.Rows.envOfC "over" (C8.fnScope t_over) s.heap.objs.size f cdv))) :
    PSs (cxOf CX0 P w K mg base N_over "over" (C8.fnScope t_over) f cdv A outer s H E).nox (C8.fnBody t_over) (tK K (FA.oft fn ca tb) (callF G k) c_over) := by
  have nd := sc_over.nd
  exact (k_cons (s_ret (e_call C.c_made hr (by rfl) (a_cons (e_mul (e_idx (e_var (pv 0)) e_int) (e_idx (e_var (pv 1)) e_int)) (a_cons (e_mul (e_idx (e_var (pv 0)) e_int) (e_idx (e_var (pv 1)) e_int)) a_nil))))
      k_nil)
theorem d_negative (W : Wld P mg K fn ca tb) (C : Cals P w K mg base fn ca tb k) (f : Addr) (cdv : Value) (A : Around) (outer : List Env) (s : Shared) (H : Hp) (E : XK) (hr : Room (k + 2) (A.deeper (PyProof.Rows.envOfC "negative" (C8.fnScope t_negative) s.heap.objs.size f cdv))) :
    PSs (cxOf CX0 P w K mg base N_negative "negative" (C8.fnScope t_negative) f cdv A outer s H E).nox (C8.fnBody t_negative) (tK K (FA.oft fn ca tb) (callF G k) c_negative) := by
  have nd := sc_negative.nd
  exact (k_cons (s_ret (e_tup (a_cons (e_neg (e_idx (e_var (pv 0)) e_int)) (a_cons (e_idx (e_var (pv 0)) e_int) a_nil))))
      k_nil)
theorem d_is_below (W : Wld P mg K fn ca tb) (C : Cals P w K mg base fn ca tb k) (f : Addr) (cdv : Value) (A : Around) (outer : List Env) (s : Shared) (H : Hp) (E : XK) (hr : Room (k + 2) (A.deeper (PyProof.Rows.envOfC "is_below" (C8.fnScope t_is_below) s.heap.objs.size f cdv))) :
    PSs (cxOf CX0 P w K mg base N_is_below "is_below" (C8.fnScope t_is_below) f cdv A outer s H E).nox (C8.fnBody t_is_below) (tK K (FA.oft fn ca tb) (callF G k) c_is_below) := by
  have nd := sc_is_below.nd
  exact (k_cons (s_ret (e_cmp c_lt (e_mul (e_idx (e_var (pv 0)) e_int) (e_idx (e_var (pv 1)) e_int)) (e_mul (e_idx (e_var (pv 1)) e_int) (e_idx (e_var (pv 0)) e_int))))
      k_nil)
theorem d_total (W : Wld P mg K fn ca tb) (C : Cals P w K mg base fn ca tb k) (f : Addr) (cdv : Value) (A : Around) (outer : List Env) (s : Shared) (H : Hp) (E : XK) (hr : Room (k + 2) (A.deeper (PyProof.Rows.envOfC "total" (C8.fnScope t_total) s.heap.objs.size f cdv))) :
    PSs (cxOf CX0 P w K mg base N_total "total" (C8.fnScope t_total) f cdv A outer s H E).nox (C8.fnBody t_total) (tK K (FA.oft fn ca tb) (callF G k) c_total) := by
  have nd := sc_total.nd
  exact (k_cons (s_set (i := 1) nd rfl (by first | exact .inl rfl | exact .inr rfl) (e_gc W.z_ZERO (by rfl)))
      (k_cons (s_for PassesOwn.never rfl (i_seq (e_var (pv 0))) (g_v (pg_name (i := 2) nd rfl (by first | exact .inl rfl | exact .inr rfl))) (k_cons (s_set (i := 1) nd rfl (by first | exact .inl rfl | exact .inr rfl) (e_call C.c_plus hr (by rfl) (a_cons (e_var (pv 1)) (a_cons (e_var (pv 2)) a_nil))))
      k_nil))
      (k_cons (s_ret (e_var (pv 1)))
      k_nil)))
theorem d_is_poly (W : Wld P mg K fn ca tb) (C : Cals P w K mg base fn ca tb k) (f : Addr) (cdv : Value) (A : Around) (outer : List Env) (s : Shared) (H : Hp) (E : XK) (hr : Room (k + 2) (A.deeper (PyProof.Rows.envOfC "is_poly" (C8.fnScope t_is_poly) s.heap.objs.size f cdv))) :
    PSs (cxOf CX0 P w K mg base N_is_poly "is_poly" (C8.fnScope t_is_poly) f cdv A outer s H E).nox (C8.fnBody t_is_poly) (tK K (FA.oft fn ca tb) (callF G k) c_is_poly) := by
  have nd := sc_is_poly.nd
  exact (k_cons (s_if (PW.pt (t_or (t_not (t_val (e_isTup (by rfl) W.m_isinstance (by rfl) W.m_tuple (e_var (pv 0))))) (t_or (t_cmp c_gt (e_len (by rfl) W.m_len (a_cons (e_var (pv 0)) a_nil)) (e_add (e_gc W.z_MOST_DEGREE_polys (by rfl)) e_int)) (t_or1 (t_not (t_val (e_all rfl (by rfl) W.m_all (a_cons (e_comp [("one", 1)] rfl nd (i_seq (e_var (pv 0))) (blkOk_by (by rfl)) (fun _ _ _ _ _ => (g_v (pg_name (i := 1) nd rfl (by first | exact .inl rfl | exact .inr rfl)))) (fun _ _ _ _ _ => w_nil) (fun _ _ _ _ _ => (e_call C.c_is_ratio hr (by rfl) (a_cons (e_var (pv 1)) a_nil)))) a_nil)))))))) (k_cons (s_ret e_bl)
      k_nil) k_nil)
      (k_cons (s_ret (e_or (e_cmp (c_eq hr) (e_var (pv 0)) (e_tup a_nil)) (e_one (e_cmp (c_ne hr) (e_idx (e_var (pv 0)) (e_neg e_int)) (e_gc W.z_ZERO (by rfl))))))
      k_nil))
theorem d_need_poly (W : Wld P mg K fn ca tb) (C : Cals P w K mg base fn ca tb k) (f : Addr) (cdv : Value) (A : Around) (outer : List Env) (s : Shared) (H : Hp) (E : XK) (hr : Room (k + 2) (A.deeper (PyProof.Rows.envOfC "need_poly" (C8.fnScope t_need_poly) s.heap.objs.size f cdv))) :
    PSs (cxOf (L2.CX P w) P w K mg base N_need_poly "need_poly" (C8.fnScope t_need_poly) f cdv A outer s H E) (C8.fnBody t_need_poly) (tK K (FA.oft fn ca tb) (callF G k) c_need_poly) ∧ PSs (cxOf (L2.CX P w) P w K mg base N_need_poly "need_poly" (C8.fnScope t_need_poly) f cdv A outer s H E) (C8.fnBody t_need_poly) (tXK K (FA.oft fn ca tb) (callF G k) (WF E) c_need_poly) := by
  have nd := sc_need_poly.nd
  have HC : CalmF calmC (callF G k) := calm_k k
  obtain ⟨_, r_BadPolynomial⟩ := W.r_BadPolynomial
  have tk : Takes (cxOf (L2.CX P w) P w K mg base N_need_poly "need_poly" (C8.fnScope t_need_poly) f cdv A outer s H E) (WF E) := takes_of rfl rfl rfl rfl
  have po : PassesOwn (model P w) (A.deeper (PyProof.Rows.envOfC "need_poly" (C8.fnScope t_need_poly) s.heap.objs.size f cdv)) (PyProof.Rows.envOfC "need_poly" (C8.fnScope t_need_poly) s.heap.objs.size f cdv) (cxOf (L2.CX P w) P w K mg base N_need_poly "need_poly" (C8.fnScope t_need_poly) f cdv A outer s H E).xe := passes_of (X := cxOf (L2.CX P w) P w K mg base N_need_poly "need_poly" (C8.fnScope t_need_poly) f cdv A outer s H E) rfl
  have z : XB (cxOf (L2.CX P w) P w K mg base N_need_poly "need_poly" (C8.fnScope t_need_poly) f cdv A outer s H E) (FA.oft fn ca tb) (callF G k) (WF E) (C8.fnBody t_need_poly) c_need_poly :=
    (xk_cons free_wf (xs_if HC (t_not (t_val (e_call C.c_is_poly hr (by rfl) (a_cons (e_var (pv 0)) a_nil)))) (xk_cons free_wf (xs_raise0 r_BadPolynomial.2 r_BadPolynomial.1 rfl tk (by rfl))
      xk_nil) xk_nil)
      xk_nil)
  exact ⟨z.ok, z.ex⟩
theorem d_trimmed (W : Wld P mg K fn ca tb) (C : Cals P w K mg base fn ca tb k) (f : Addr) (cdv : Value) (A : Around) (outer : List Env) (s : Shared) (H : Hp) (E : XK) (hr : Room (k + 2) (A.deeper (PyProof.Rows.envOfC "trimmed" (C8.fnScope t_trimmed) s.heap.objs.size f cdv))) :
    PSs (cxOf CX0 P w K mg base N_trimmed "trimmed" (C8.fnScope t_trimmed) f cdv A outer s H E).nox (C8.fnBody t_trimmed) (tK K (FA.oft fn ca tb) (callF G k) c_trimmed) := by
  have nd := sc_trimmed.nd
  exact (k_cons (s_set (i := 1) nd rfl (by first | exact .inl rfl | exact .inr rfl) (e_len (by rfl) W.m_len (a_cons (e_var (pv 0)) a_nil)))
      (k_cons (s_while PassesOwn.never (PW.pt (t_and (t_cmp c_gt (e_var (pv 1)) e_int) (t_and1 (t_cmp (c_eq hr) (e_idx (e_var (pv 0)) (e_sub (e_var (pv 1)) e_int)) (e_gc W.z_ZERO (by rfl)))))) (k_cons (s_isub (i := 1) nd rfl (by first | exact .inl rfl | exact .inr rfl) e_int)
      k_nil))
      (k_cons (s_ret (e_tuple (by rfl) W.m_tuple (a_cons (e_slc (e_var (pv 0)) o_none (o_some (e_var (pv 1)))) a_nil)))
      k_nil)))
theorem d_at (W : Wld P mg K fn ca tb) (C : Cals P w K mg base fn ca tb k) (f : Addr) (cdv : Value) (A : Around) (outer : List Env) (s : Shared) (H : Hp) (E : XK) (hr : Room (k + 2) (A.deeper (PyProof.Rows.envOfC "at" (C8.fnScope t_at) s.heap.objs.size f cdv))) :
    PSs (cxOf CX0 P w K mg base N_at "at" (C8.fnScope t_at) f cdv A outer s H E).nox (C8.fnBody t_at) (tK K (FA.oft fn ca tb) (callF G k) c_at) := by
  have nd := sc_at.nd
  exact (k_cons (s_set (i := 2) nd rfl (by first | exact .inl rfl | exact .inr rfl) (e_gc W.z_ZERO (by rfl)))
      (k_cons (s_for PassesOwn.never rfl (i_seq (e_rev (e_var (pv 0)))) (g_v (pg_name (i := 3) nd rfl (by first | exact .inl rfl | exact .inr rfl))) (k_cons (s_set (i := 2) nd rfl (by first | exact .inl rfl | exact .inr rfl) (e_call C.c_plus hr (by rfl) (a_cons (e_call C.c_times hr (by rfl) (a_cons (e_var (pv 2)) (a_cons (e_var (pv 1)) a_nil))) (a_cons (e_var (pv 3)) a_nil))))
      k_nil))
      (k_cons (s_ret (e_var (pv 2)))
      k_nil)))
theorem d_p_plus (W : Wld P mg K fn ca tb) (C : Cals P w K mg base fn ca tb k) (f : Addr) (cdv : Value) (A : Around) (outer : List Env) (s : Shared) (H : Hp) (E : XK) (hr : Room (k + 2) (A.deeper (PyProof.Rows.envOfC "p_plus" (C8.fnScope t_p_plus) s.heap.objs.size f cdv))) :
    PSs (cxOf CX0 P w K mg base N_p_plus "p_plus" (C8.fnScope t_p_plus) f cdv A outer s H E).nox (C8.fnBody t_p_plus) (tK K (FA.oft fn ca tb) (callF G k) c_p_plus) := by
  have nd := sc_p_plus.nd
  exact (k_cons (s_set (i := 2) nd rfl (by first | exact .inl rfl | exact .inr rfl) (e_max2 rfl (by rfl) W.m_max (a_cons (e_len (by rfl) W.m_len (a_cons (e_var (pv 0)) a_nil)) (a_cons (e_len (by rfl) W.m_len (a_cons (e_var (pv 1)) a_nil)) a_nil))))
      (k_cons (s_set (i := 3) nd rfl (by first | exact .inl rfl | exact .inr rfl) (e_lst (a_star (e_var (pv 0)) (a_star (e_mul (e_lst (a_cons (e_gc W.z_ZERO (by rfl)) a_nil)) (e_sub (e_var (pv 2)) (e_len (by rfl) W.m_len (a_cons (e_var (pv 0)) a_nil)))) a_nil))))
      (k_cons (s_set (i := 4) nd rfl (by first | exact .inl rfl | exact .inr rfl) (e_lst (a_star (e_var (pv 1)) (a_star (e_mul (e_lst (a_cons (e_gc W.z_ZERO (by rfl)) a_nil)) (e_sub (e_var (pv 2)) (e_len (by rfl) W.m_len (a_cons (e_var (pv 1)) a_nil)))) a_nil))))
      (k_cons (s_ret (e_call C.c_trimmed hr (by rfl) (a_cons (e_comp [("x", 5), ("y", 6)] rfl nd (i_zip (by rfl) W.m_zip (a_cons (e_var (pv 3)) (a_cons (e_var (pv 4)) a_nil))) (blkOk_by (by rfl)) (fun _ _ _ _ _ => (g_tup rfl (gs_cons (g_v (pg_name (i := 5) nd rfl (by first | exact .inl rfl | exact .inr rfl))) (gs_cons (g_v (pg_name (i := 6) nd rfl (by first | exact .inl rfl | exact .inr rfl))) gs_nil)))) (fun _ _ _ _ _ => w_nil) (fun _ _ _ _ _ => (e_call C.c_plus hr (by rfl) (a_cons (e_var (pv 5)) (a_cons (e_var (pv 6)) a_nil))))) a_nil)))
      k_nil))))
theorem d_p_times (W : Wld P mg K fn ca tb) (C : Cals P w K mg base fn ca tb k) (f : Addr) (cdv : Value) (A : Around) (outer : List Env) (s : Shared) (H : Hp) (E : XK) (hr : Room (k + 2) (A.deeper (PyProof.Rows.envOfC "p_times" (C8.fnScope t_p_times) s.heap.objs.size f cdv))) :
    PSs (cxOf CX0 P w K mg base N_p_times "p_times" (C8.fnScope t_p_times) f cdv A outer s H E).nox (C8.fnBody t_p_times) (tK K (FA.oft fn ca tb) (callF G k) c_p_times) := by
  have nd := sc_p_times.nd
  exact (k_cons (s_if (PW.pt (t_or (t_cmp (c_eq hr) (e_var (pv 0)) (e_tup a_nil)) (t_or1 (t_cmp (c_eq hr) (e_var (pv 1)) (e_tup a_nil))))) (k_cons (s_ret (e_tup a_nil))
      k_nil) k_nil)
      (k_cons (s_set (i := 2) nd rfl (by first | exact .inl rfl | exact .inr rfl) (e_mul (e_lst (a_cons (e_gc W.z_ZERO (by rfl)) a_nil)) (e_sub (e_add (e_len (by rfl) W.m_len (a_cons (e_var (pv 0)) a_nil)) (e_len (by rfl) W.m_len (a_cons (e_var (pv 1)) a_nil))) e_int)))
      (k_cons (s_for PassesOwn.never rfl (i_enu (by rfl) W.m_enumerate (a_cons (e_var (pv 0)) a_nil)) (g_tup rfl (gs_cons (g_v (pg_name (i := 3) nd rfl (by first | exact .inl rfl | exact .inr rfl))) (gs_cons (g_v (pg_name (i := 4) nd rfl (by first | exact .inl rfl | exact .inr rfl))) gs_nil))) (k_cons (s_for PassesOwn.never rfl (i_enu (by rfl) W.m_enumerate (a_cons (e_var (pv 1)) a_nil)) (g_tup rfl (gs_cons (g_v (pg_name (i := 5) nd rfl (by first | exact .inl rfl | exact .inr rfl))) (gs_cons (g_v (pg_name (i := 6) nd rfl (by first | exact .inl rfl | exact .inr rfl))) gs_nil))) (k_cons (s_asg (e_call C.c_plus hr (by rfl) (a_cons (e_idx (e_var (pv 2)) (e_add (e_var (pv 3)) (e_var (pv 5)))) (a_cons (e_call C.c_times hr (by rfl) (a_cons (e_var (pv 4)) (a_cons (e_var (pv 6)) a_nil))) a_nil))) (g_sub (e_var (pv 2)) (e_add (e_var (pv 3)) (e_var (pv 5)))))
      k_nil))
      k_nil))
      (k_cons (s_ret (e_tuple (by rfl) W.m_tuple (a_cons (e_var (pv 2)) a_nil)))
      k_nil))))
theorem d_p_slope (W : Wld P mg K fn ca tb) (C : Cals P w K mg base fn ca tb k) (f : Addr) (cdv : Value) (A : Around) (outer : List Env) (s : Shared) (H : Hp) (E : XK) (hr : Room (k + 2) (A.deeper (PyProof.Rows.envOfC "p_slope" (C8.fnScope t_p_slope) s.heap.objs.size f cdv))) :
    PSs (cxOf CX0 P w K mg base N_p_slope "p_slope" (C8.fnScope t_p_slope) f cdv A outer s H E).nox (C8.fnBody t_p_slope) (tK K (FA.oft fn ca tb) (callF G k) c_p_slope) := by
  have nd := sc_p_slope.nd
  exact (k_cons (s_ret (e_tuple (by rfl) W.m_tuple (a_cons (e_slc (e_comp [("power", 1), ("one", 2)] rfl nd (i_enu (by rfl) W.m_enumerate (a_cons (e_var (pv 0)) a_nil)) (blkOk_by (by rfl)) (fun _ _ _ _ _ => (g_tup rfl (gs_cons (g_v (pg_name (i := 1) nd rfl (by first | exact .inl rfl | exact .inr rfl))) (gs_cons (g_v (pg_name (i := 2) nd rfl (by first | exact .inl rfl | exact .inr rfl))) gs_nil)))) (fun _ _ _ _ _ => w_nil) (fun _ _ _ _ _ => (e_call C.c_times hr (by rfl) (a_cons (e_var (pv 2)) (a_cons (e_tup (a_cons (e_var (pv 1)) (a_cons e_int a_nil))) a_nil))))) (o_some e_int) o_none) a_nil)))
      k_nil)
theorem d_choose (W : Wld P mg K fn ca tb) (C : Cals P w K mg base fn ca tb k) (f : Addr) (cdv : Value) (A : Around) (outer : List Env) (s : Shared) (H : Hp) (E : XK) (hr : Room (k + 2) (A.deeper (PyProof.Rows.envOfC "choose" (C8.fnScope t_choose) s.heap.objs.size f cdv))) :
    PSs (cxOf CX0 P w K mg base N_choose "choose" (C8.fnScope t_choose) f cdv A outer s H E).nox (C8.fnBody t_choose) (tK K (FA.oft fn ca tb) (callF G k) c_choose) := by
  have nd := sc_choose.nd
  exact (k_cons (s_set (i := 2) nd rfl (by first | exact .inl rfl | exact .inr rfl) e_int)
      (k_cons (s_for PassesOwn.never rfl (i_rng1 (by rfl) W.m_range (a_cons (e_var (pv 1)) a_nil)) (g_v (pg_name (i := 3) nd rfl (by first | exact .inl rfl | exact .inr rfl))) (k_cons (s_set (i := 2) nd rfl (by first | exact .inl rfl | exact .inr rfl) (e_fdiv (e_mul (e_var (pv 2)) (e_sub (e_var (pv 0)) (e_var (pv 3)))) (e_add (e_var (pv 3)) e_int)))
      k_nil))
      (k_cons (s_ret (e_var (pv 2)))
      k_nil)))
theorem d_symmetric (W : Wld P mg K fn ca tb) (C : Cals P w K mg base fn ca tb k) (f : Addr) (cdv : Value) (A : Around) (outer : List Env) (s : Shared) (H : Hp) (E : XK) (hr : Room (k + 2) (A.deeper (PyProof.Rows.envOfC "symmetric" (C8.fnScope t_symmetric) s.heap.objs.size f cdv))) :
    PSs (cxOf CX0 P w K mg base N_symmetric "symmetric" (C8.fnScope t_symmetric) f cdv A outer s H E).nox (C8.fnBody t_symmetric) (tK K (FA.oft fn ca tb) (callF G k) c_symmetric) := by
  have nd := sc_symmetric.nd
  exact (k_cons (s_set (i := 1) nd rfl (by first | exact .inl rfl | exact .inr rfl) (e_lst (a_cons (e_gc W.z_ONE (by rfl)) a_nil)))
      (k_cons (s_for PassesOwn.never rfl (i_seq (e_var (pv 0))) (g_v (pg_name (i := 2) nd rfl (by first | exact .inl rfl | exact .inr rfl))) (k_cons (s_set (i := 3) nd rfl (by first | exact .inl rfl | exact .inr rfl) (e_lst (a_star (e_var (pv 1)) (a_cons (e_gc W.z_ZERO (by rfl)) a_nil))))
      (k_cons (s_for PassesOwn.never rfl (i_rng1 (by rfl) W.m_range (a_cons (e_len (by rfl) W.m_len (a_cons (e_var (pv 1)) a_nil)) a_nil)) (g_v (pg_name (i := 4) nd rfl (by first | exact .inl rfl | exact .inr rfl))) (k_cons (s_asg (e_call C.c_plus hr (by rfl) (a_cons (e_idx (e_var (pv 3)) (e_add (e_var (pv 4)) e_int)) (a_cons (e_call C.c_times hr (by rfl) (a_cons (e_idx (e_var (pv 1)) (e_var (pv 4))) (a_cons (e_var (pv 2)) a_nil))) a_nil))) (g_sub (e_var (pv 3)) (e_add (e_var (pv 4)) e_int)))
      k_nil))
      (k_cons (s_set (i := 1) nd rfl (by first | exact .inl rfl | exact .inr rfl) (e_var (pv 3)))
      k_nil))))
      (k_cons (s_ret (e_var (pv 1)))
      k_nil)))
theorem d_blossom_of (W : Wld P mg K fn ca tb) (C : Cals P w K mg base fn ca tb k) (f : Addr) (cdv : Value) (A : Around) (outer : List Env) (s : Shared) (H : Hp) (E : XK) (hr : Room (k + 2) (A.deeper (PyProof.Rows.envOfC "blossom_of" (C8.fnScope t_blossom_of) s.heap.objs.size f cdv))) :
    PSs (cxOf CX0 P w K mg base N_blossom_of "blossom_of" (C8.fnScope t_blossom_of) f cdv A outer s H E).nox (C8.fnBody t_blossom_of) (tK K (FA.oft fn ca tb) (callF G k) c_blossom_of) := by
  have nd := sc_blossom_of.nd
  exact (k_cons (s_par2 (i := 2) (j := 3) rfl nd rfl rfl (by decide) rfl rfl (a_cons (e_gc W.z_ZERO (by rfl)) (a_cons (e_call C.c_symmetric hr (by rfl) (a_cons (e_var (pv 1)) a_nil)) a_nil)))
      (k_cons (s_for PassesOwn.never rfl (i_enu (by rfl) W.m_enumerate (a_cons (e_var (pv 0)) a_nil)) (g_tup rfl (gs_cons (g_v (pg_name (i := 4) nd rfl (by first | exact .inl rfl | exact .inr rfl))) (gs_cons (g_v (pg_name (i := 5) nd rfl (by first | exact .inl rfl | exact .inr rfl))) gs_nil))) (k_cons (s_set (i := 2) nd rfl (by first | exact .inl rfl | exact .inr rfl) (e_call C.c_plus hr (by rfl) (a_cons (e_var (pv 2)) (a_cons (e_call C.c_times hr (by rfl) (a_cons (e_var (pv 5)) (a_cons (e_call C.c_times hr (by rfl) (a_cons (e_idx (e_var (pv 3)) (e_var (pv 4))) (a_cons (e_call C.c_made hr (by rfl) (a_cons e_int (a_cons (e_call C.c_choose hr (by rfl) (a_cons (e_len (by rfl) W.m_len (a_cons (e_var (pv 1)) a_nil)) (a_cons (e_var (pv 4)) a_nil))) a_nil))) a_nil))) a_nil))) a_nil))))
      k_nil))
      (k_cons (s_ret (e_var (pv 2)))
      k_nil)))
theorem d_need_low (W : Wld P mg K fn ca tb) (C : Cals P w K mg base fn ca tb k) (f : Addr) (cdv : Value) (A : Around) (outer : List Env) (s : Shared) (H : Hp) (E : XK) (hr : Room (k + 2) (A.deeper (PyProof.Rows.envOfC "need_low" (C8.fnScope t_need_low) s.heap.objs.size f cdv))) :
    PSs (cxOf (L2.CX P w) P w K mg base N_need_low "need_low" (C8.fnScope t_need_low) f cdv A outer s H E) (C8.fnBody t_need_low) (tK K (FA.oft fn ca tb) (callF G k) c_need_low) ∧ PSs (cxOf (L2.CX P w) P w K mg base N_need_low "need_low" (C8.fnScope t_need_low) f cdv A outer s H E) (C8.fnBody t_need_low) (tXK K (FA.oft fn ca tb) (callF G k) (WF E) c_need_low) := by
  have nd := sc_need_low.nd
  have HC : CalmF calmC (callF G k) := calm_k k
  obtain ⟨_, r_BadDegree⟩ := W.r_BadDegree
  have tk : Takes (cxOf (L2.CX P w) P w K mg base N_need_low "need_low" (C8.fnScope t_need_low) f cdv A outer s H E) (WF E) := takes_of rfl rfl rfl rfl
  have po : PassesOwn (model P w) (A.deeper (PyProof.Rows.envOfC "need_low" (C8.fnScope t_need_low) s.heap.objs.size f cdv)) (PyProof.Rows.envOfC "need_low" (C8.fnScope t_need_low) s.heap.objs.size f cdv) (cxOf (L2.CX P w) P w K mg base N_need_low "need_low" (C8.fnScope t_need_low) f cdv A outer s H E).xe := passes_of (X := cxOf (L2.CX P w) P w K mg base N_need_low "need_low" (C8.fnScope t_need_low) f cdv A outer s H E) rfl
  have z : XB (cxOf (L2.CX P w) P w K mg base N_need_low "need_low" (C8.fnScope t_need_low) f cdv A outer s H E) (FA.oft fn ca tb) (callF G k) (WF E) (C8.fnBody t_need_low) c_need_low :=
    (xk_cons free_wf (xs_if HC (t_not (t_val (e_call C.c_is_from hr (by rfl) (a_cons (e_var (pv 0)) (a_cons (e_var (pv 1)) (a_cons (e_gc W.z_MOST_DEGREE_knots (by rfl)) a_nil)))))) (xk_cons free_wf (xs_raise0 r_BadDegree.2 r_BadDegree.1 rfl tk (by rfl))
      xk_nil) xk_nil)
      xk_nil)
  exact ⟨z.ok, z.ex⟩
theorem d_faults_of (W : Wld P mg K fn ca tb) (C : Cals P w K mg base fn ca tb k) (f : Addr) (cdv : Value) (A : Around) (outer : List Env) (s : Shared) (H : Hp) (E : XK) (hr : Room (k + 2) (A.deeper (PyProof.Rows.envOfC "faults_of" (C8.fnScope t_faults_of) s.heap.objs.size f cdv))) :
    PSs (cxOf CX0 P w K mg base N_faults_of "faults_of" (C8.fnScope t_faults_of) f cdv A outer s H E).nox (C8.fnBody t_faults_of) (tK K (FA.oft fn ca tb) (callF G k) c_faults_of) := by
  have nd := sc_faults_of.nd
  exact (k_cons (s_if (PW.pt (t_or (t_not (t_val (e_isTup (by rfl) W.m_isinstance (by rfl) W.m_tuple (e_var (pv 1))))) (t_or1 (t_not (t_chn c_le c_le (e_add (e_var (pv 0)) e_int) (e_len (by rfl) W.m_len (a_cons (e_var (pv 1)) a_nil)) (e_gc W.z_MOST_KNOTS (by rfl))))))) (k_cons (s_ret (e_lst (a_cons e_non a_nil)))
      k_nil) k_nil)
      (k_cons (s_for PassesOwn.never rfl (i_enu (by rfl) W.m_enumerate (a_cons (e_var (pv 1)) a_nil)) (g_tup rfl (gs_cons (g_v (pg_name (i := 2) nd rfl (by first | exact .inl rfl | exact .inr rfl))) (gs_cons (g_v (pg_name (i := 3) nd rfl (by first | exact .inl rfl | exact .inr rfl))) gs_nil))) (k_cons (s_if (PW.pt (t_or (t_not (t_val (e_call C.c_is_ratio hr (by rfl) (a_cons (e_var (pv 3)) a_nil)))) (t_or1 (PW.pt (t_and (t_cmp c_gt (e_var (pv 2)) e_int) (t_and1 (t_val (e_call C.c_is_below hr (by rfl) (a_cons (e_var (pv 3)) (a_cons (e_idx (e_var (pv 1)) (e_sub (e_var (pv 2)) e_int)) a_nil)))))))))) (k_cons (s_ret (e_lst (a_cons (e_var (pv 2)) a_nil)))
      k_nil) k_nil)
      (k_cons (s_if (PW.pt (t_and (t_cmp c_gt (e_var (pv 2)) (e_var (pv 0))) (t_and1 (t_cmp (c_eq hr) (e_idx (e_var (pv 1)) (e_sub (e_sub (e_var (pv 2)) (e_var (pv 0))) e_int)) (e_var (pv 3)))))) (k_cons (s_ret (e_lst (a_cons (e_var (pv 2)) a_nil)))
      k_nil) k_nil)
      k_nil)))
      (k_cons (s_ret (e_lst a_nil))
      k_nil)))
theorem d_need_knots (W : Wld P mg K fn ca tb) (C : Cals P w K mg base fn ca tb k) (f : Addr) (cdv : Value) (A : Around) (outer : List Env) (s : Shared) (H : Hp) (E : XK) (hr : Room (k + 2) (A.deeper (PyProof.Rows.envOfC "need_knots" (C8.fnScope t_need_knots) s.heap.objs.size f cdv))) :
    PSs (cxOf (L2.CX P w) P w K mg base N_need_knots "need_knots" (C8.fnScope t_need_knots) f cdv A outer s H E) (C8.fnBody t_need_knots) (tK K (FA.oft fn ca tb) (callF G k) c_need_knots) ∧ PSs (cxOf (L2.CX P w) P w K mg base N_need_knots "need_knots" (C8.fnScope t_need_knots) f cdv A outer s H E) (C8.fnBody t_need_knots) (tXK K (FA.oft fn ca tb) (callF G k) (WF E) c_need_knots) := by
  have nd := sc_need_knots.nd
  have HC : CalmF calmC (callF G k) := calm_k k
  obtain ⟨_, r_BadKnots⟩ := W.r_BadKnots
  have tk : Takes (cxOf (L2.CX P w) P w K mg base N_need_knots "need_knots" (C8.fnScope t_need_knots) f cdv A outer s H E) (WF E) := takes_of rfl rfl rfl rfl
  have po : PassesOwn (model P w) (A.deeper (PyProof.Rows.envOfC "need_knots" (C8.fnScope t_need_knots) s.heap.objs.size f cdv)) (PyProof.Rows.envOfC "need_knots" (C8.fnScope t_need_knots) s.heap.objs.size f cdv) (cxOf (L2.CX P w) P w K mg base N_need_knots "need_knots" (C8.fnScope t_need_knots) f cdv A outer s H E).xe := passes_of (X := cxOf (L2.CX P w) P w K mg base N_need_knots "need_knots" (C8.fnScope t_need_knots) f cdv A outer s H E) rfl
  have z : XB (cxOf (L2.CX P w) P w K mg base N_need_knots "need_knots" (C8.fnScope t_need_knots) f cdv A outer s H E) (FA.oft fn ca tb) (callF G k) (WF E) (C8.fnBody t_need_knots) c_need_knots :=
    (xk_cons free_wf (xs_calm HC (s_set (i := 2) nd rfl (by first | exact .inl rfl | exact .inr rfl) (e_call C.c_faults_of hr (by rfl) (a_cons (e_var (pv 0)) (a_cons (e_var (pv 1)) a_nil)))))
      (xk_cons free_wf (xs_if HC (t_cmp (c_ne hr) (e_var (pv 2)) (e_lst a_nil)) (xk_cons free_wf (xs_raise1 HC r_BadKnots.2 r_BadKnots.1 rfl tk hr (by rfl) (e_idx (e_var (pv 2)) e_int))
      xk_nil) xk_nil)
      xk_nil))
  exact ⟨z.ok, z.ex⟩
theorem d_need_index (W : Wld P mg K fn ca tb) (C : Cals P w K mg base fn ca tb k) (f : Addr) (cdv : Value) (A : Around) (outer : List Env) (s : Shared) (H : Hp) (E : XK) (hr : Room (k + 2) (A.deeper (PyProof.Rows.envOfC "need_index" (C8.fnScope t_need_index) s.heap.objs.size f cdv))) :
    PSs (cxOf (L2.CX P w) P w K mg base N_need_index "need_index" (C8.fnScope t_need_index) f cdv A outer s H E) (C8.fnBody t_need_index) (tK K (FA.oft fn ca tb) (callF G k) c_need_index) ∧ PSs (cxOf (L2.CX P w) P w K mg base N_need_index "need_index" (C8.fnScope t_need_index) f cdv A outer s H E) (C8.fnBody t_need_index) (tXK K (FA.oft fn ca tb) (callF G k) (WF E) c_need_index) := by
  have nd := sc_need_index.nd
  have HC : CalmF calmC (callF G k) := calm_k k
  obtain ⟨_, r_BadNumber⟩ := W.r_BadNumber
  have tk : Takes (cxOf (L2.CX P w) P w K mg base N_need_index "need_index" (C8.fnScope t_need_index) f cdv A outer s H E) (WF E) := takes_of rfl rfl rfl rfl
  have po : PassesOwn (model P w) (A.deeper (PyProof.Rows.envOfC "need_index" (C8.fnScope t_need_index) s.heap.objs.size f cdv)) (PyProof.Rows.envOfC "need_index" (C8.fnScope t_need_index) s.heap.objs.size f cdv) (cxOf (L2.CX P w) P w K mg base N_need_index "need_index" (C8.fnScope t_need_index) f cdv A outer s H E).xe := passes_of (X := cxOf (L2.CX P w) P w K mg base N_need_index "need_index" (C8.fnScope t_need_index) f cdv A outer s H E) rfl
  have z : XB (cxOf (L2.CX P w) P w K mg base N_need_index "need_index" (C8.fnScope t_need_index) f cdv A outer s H E) (FA.oft fn ca tb) (callF G k) (WF E) (C8.fnBody t_need_index) c_need_index :=
    (xk_cons free_wf (xs_if HC (t_not (t_val (e_call C.c_is_from hr (by rfl) (a_cons (e_var (pv 2)) (a_cons e_int (a_cons (e_sub (e_sub (e_len (by rfl) W.m_len (a_cons (e_var (pv 1)) a_nil)) (e_var (pv 0))) e_int) a_nil)))))) (xk_cons free_wf (xs_raise0 r_BadNumber.2 r_BadNumber.1 rfl tk (by rfl))
      xk_nil) xk_nil)
      xk_nil)
  exact ⟨z.ok, z.ex⟩
theorem d_basis_at (W : Wld P mg K fn ca tb) (C : Cals P w K mg base fn ca tb k) (f : Addr) (cdv : Value) (A : Around) (outer : List Env) (s : Shared) (H : Hp) (E : XK) (hr : Room (k + 2) (A.deeper (PyProof.Rows.envOfC "basis_at" (C8.fnScope t_basis_at) s.heap.objs.size f cdv))) :
    PSs (cxOf CX0 P w K mg base N_basis_at "basis_at" (C8.fnScope t_basis_at) f cdv A outer s H E).nox (C8.fnBody t_basis_at) (tK K (FA.oft fn ca tb) (callF G k) c_basis_at) := by
  have nd := sc_basis_at.nd
  exact (k_cons (s_if (t_cmp (c_eq hr) (e_var (pv 0)) e_int) (k_cons (s_ret (e_ite (PW.pt (t_and (t_not (t_val (e_call C.c_is_below hr (by rfl) (a_cons (e_var (pv 3)) (a_cons (e_idx (e_var (pv 1)) (e_var (pv 2))) a_nil))))) (t_and1 (t_val (e_call C.c_is_below hr (by rfl) (a_cons (e_var (pv 3)) (a_cons (e_idx (e_var (pv 1)) (e_add (e_var (pv 2)) e_int)) a_nil))))))) (e_gc W.z_ONE (by rfl)) (e_gc W.z_ZERO (by rfl))))
      k_nil) k_nil)
      (k_cons (s_set (i := 4) nd rfl (by first | exact .inl rfl | exact .inr rfl) (e_gc W.z_ZERO (by rfl)))
      (k_cons (s_par2 (i := 5) (j := 6) rfl nd rfl rfl (by decide) rfl rfl (a_cons (e_idx (e_var (pv 1)) (e_var (pv 2))) (a_cons (e_idx (e_var (pv 1)) (e_add (e_var (pv 2)) (e_var (pv 0)))) a_nil)))
      (k_cons (s_if (t_cmp (c_ne hr) (e_var (pv 5)) (e_var (pv 6))) (k_cons (s_set (i := 4) nd rfl (by first | exact .inl rfl | exact .inr rfl) (e_call C.c_times hr (by rfl) (a_cons (e_call C.c_over hr (by rfl) (a_cons (e_call C.c_less hr (by rfl) (a_cons (e_var (pv 3)) (a_cons (e_var (pv 5)) a_nil))) (a_cons (e_call C.c_less hr (by rfl) (a_cons (e_var (pv 6)) (a_cons (e_var (pv 5)) a_nil))) a_nil))) (a_cons (e_call C.c_basis_at hr (by rfl) (a_cons (e_sub (e_var (pv 0)) e_int) (a_cons (e_var (pv 1)) (a_cons (e_var (pv 2)) (a_cons (e_var (pv 3)) a_nil))))) a_nil))))
      k_nil) k_nil)
      (k_cons (s_par2 (i := 5) (j := 6) rfl nd rfl rfl (by decide) rfl rfl (a_cons (e_idx (e_var (pv 1)) (e_add (e_var (pv 2)) e_int)) (a_cons (e_idx (e_var (pv 1)) (e_add (e_add (e_var (pv 2)) (e_var (pv 0))) e_int)) a_nil)))
      (k_cons (s_if (t_cmp (c_ne hr) (e_var (pv 5)) (e_var (pv 6))) (k_cons (s_set (i := 4) nd rfl (by first | exact .inl rfl | exact .inr rfl) (e_call C.c_plus hr (by rfl) (a_cons (e_var (pv 4)) (a_cons (e_call C.c_times hr (by rfl) (a_cons (e_call C.c_over hr (by rfl) (a_cons (e_call C.c_less hr (by rfl) (a_cons (e_var (pv 6)) (a_cons (e_var (pv 3)) a_nil))) (a_cons (e_call C.c_less hr (by rfl) (a_cons (e_var (pv 6)) (a_cons (e_var (pv 5)) a_nil))) a_nil))) (a_cons (e_call C.c_basis_at hr (by rfl) (a_cons (e_sub (e_var (pv 0)) e_int) (a_cons (e_var (pv 1)) (a_cons (e_add (e_var (pv 2)) e_int) (a_cons (e_var (pv 3)) a_nil))))) a_nil))) a_nil))))
      k_nil) k_nil)
      (k_cons (s_ret (e_var (pv 4)))
      k_nil)))))))
theorem d_basis_poly (W : Wld P mg K fn ca tb) (C : Cals P w K mg base fn ca tb k) (f : Addr) (cdv : Value) (A : Around) (outer : List Env) (s : Shared) (H : Hp) (E : XK) (hr : Room (k + 2) (A.deeper (PyProof.Rows.envOfC "basis_poly" (C8.fnScope t_basis_poly) s.heap.objs.size f cdv))) :
    PSs (cxOf CX0 P w K mg base N_basis_poly "basis_poly" (C8.fnScope t_basis_poly) f cdv A outer s H E).nox (C8.fnBody t_basis_poly) (tK K (FA.oft fn ca tb) (callF G k) c_basis_poly) := by
  have nd := sc_basis_poly.nd
  exact (k_cons (s_if (t_cmp (c_eq hr) (e_var (pv 0)) e_int) (k_cons (s_ret (e_ite (t_cmp (c_eq hr) (e_var (pv 2)) (e_var (pv 3))) (e_tup (a_cons (e_gc W.z_ONE (by rfl)) a_nil)) (e_tup a_nil)))
      k_nil) k_nil)
      (k_cons (s_set (i := 4) nd rfl (by first | exact .inl rfl | exact .inr rfl) (e_tup a_nil))
      (k_cons (s_par2 (i := 5) (j := 6) rfl nd rfl rfl (by decide) rfl rfl (a_cons (e_idx (e_var (pv 1)) (e_var (pv 2))) (a_cons (e_idx (e_var (pv 1)) (e_add (e_var (pv 2)) (e_var (pv 0)))) a_nil)))
      (k_cons (s_if (t_cmp (c_ne hr) (e_var (pv 5)) (e_var (pv 6))) (k_cons (s_set (i := 7) nd rfl (by first | exact .inl rfl | exact .inr rfl) (e_call C.c_over hr (by rfl) (a_cons (e_gc W.z_ONE (by rfl)) (a_cons (e_call C.c_less hr (by rfl) (a_cons (e_var (pv 6)) (a_cons (e_var (pv 5)) a_nil))) a_nil))))
      (k_cons (s_set (i := 4) nd rfl (by first | exact .inl rfl | exact .inr rfl) (e_call C.c_p_times hr (by rfl) (a_cons (e_tup (a_cons (e_call C.c_times hr (by rfl) (a_cons (e_call C.c_negative hr (by rfl) (a_cons (e_var (pv 5)) a_nil)) (a_cons (e_var (pv 7)) a_nil))) (a_cons (e_var (pv 7)) a_nil))) (a_cons (e_call C.c_basis_poly hr (by rfl) (a_cons (e_sub (e_var (pv 0)) e_int) (a_cons (e_var (pv 1)) (a_cons (e_var (pv 2)) (a_cons (e_var (pv 3)) a_nil))))) a_nil))))
      k_nil)) k_nil)
      (k_cons (s_par2 (i := 5) (j := 6) rfl nd rfl rfl (by decide) rfl rfl (a_cons (e_idx (e_var (pv 1)) (e_add (e_var (pv 2)) e_int)) (a_cons (e_idx (e_var (pv 1)) (e_add (e_add (e_var (pv 2)) (e_var (pv 0))) e_int)) a_nil)))
      (k_cons (s_if (t_cmp (c_ne hr) (e_var (pv 5)) (e_var (pv 6))) (k_cons (s_set (i := 7) nd rfl (by first | exact .inl rfl | exact .inr rfl) (e_call C.c_over hr (by rfl) (a_cons (e_gc W.z_ONE (by rfl)) (a_cons (e_call C.c_less hr (by rfl) (a_cons (e_var (pv 6)) (a_cons (e_var (pv 5)) a_nil))) a_nil))))
      (k_cons (s_set (i := 8) nd rfl (by first | exact .inl rfl | exact .inr rfl) (e_tup (a_cons (e_call C.c_times hr (by rfl) (a_cons (e_var (pv 6)) (a_cons (e_var (pv 7)) a_nil))) (a_cons (e_call C.c_negative hr (by rfl) (a_cons (e_var (pv 7)) a_nil)) a_nil))))
      (k_cons (s_set (i := 4) nd rfl (by first | exact .inl rfl | exact .inr rfl) (e_call C.c_p_plus hr (by rfl) (a_cons (e_var (pv 4)) (a_cons (e_call C.c_p_times hr (by rfl) (a_cons (e_var (pv 8)) (a_cons (e_call C.c_basis_poly hr (by rfl) (a_cons (e_sub (e_var (pv 0)) e_int) (a_cons (e_var (pv 1)) (a_cons (e_add (e_var (pv 2)) e_int) (a_cons (e_var (pv 3)) a_nil))))) a_nil))) a_nil))))
      k_nil))) k_nil)
      (k_cons (s_ret (e_var (pv 4)))
      k_nil)))))))
theorem d_basis_value (W : Wld P mg K fn ca tb) (C : Cals P w K mg base fn ca tb k) (f : Addr) (cdv : Value) (A : Around) (outer : List Env) (s : Shared) (H : Hp) (E : XK) (hr : Room (k + 2) (A.deeper (PyProof.Rows.envOfC "basis_value" (C8.fnScope t_basis_value) s.heap.objs.size f cdv))) :
    PSs (cxOf (L2.CX P w) P w K mg base N_basis_value "basis_value" (C8.fnScope t_basis_value) f cdv A outer s H E) (C8.fnBody t_basis_value) (tK K (FA.oft fn ca tb) (callF G k) c_basis_value) ∧ PSs (cxOf (L2.CX P w) P w K mg base N_basis_value "basis_value" (C8.fnScope t_basis_value) f cdv A outer s H E) (C8.fnBody t_basis_value) (tXK K (FA.oft fn ca tb) (callF G k) (WF E) c_basis_value) := by
  have nd := sc_basis_value.nd
  have HC : CalmF calmC (callF G k) := calm_k k
  have tk : Takes (cxOf (L2.CX P w) P w K mg base N_basis_value "basis_value" (C8.fnScope t_basis_value) f cdv A outer s H E) (WF E) := takes_of rfl rfl rfl rfl
  have po : PassesOwn (model P w) (A.deeper (PyProof.Rows.envOfC "basis_value" (C8.fnScope t_basis_value) s.heap.objs.size f cdv)) (PyProof.Rows.envOfC "basis_value" (C8.fnScope t_basis_value) s.heap.objs.size f cdv) (cxOf (L2.CX P w) P w K mg base N_basis_value "basis_value" (C8.fnScope t_basis_value) f cdv A outer s H E).xe := passes_of (X := cxOf (L2.CX P w) P w K mg base N_basis_value "basis_value" (C8.fnScope t_basis_value) f cdv A outer s H E) rfl
  have z : XB (cxOf (L2.CX P w) P w K mg base N_basis_value "basis_value" (C8.fnScope t_basis_value) f cdv A outer s H E) (FA.oft fn ca tb) (callF G k) (WF E) (C8.fnBody t_basis_value) c_basis_value :=
    (xk_cons free_wf (xs_expr (x_call HC C.x_need_low tk hr (by rfl) (a_cons (e_var (pv 0)) (a_cons e_int a_nil))))
      (xk_cons free_wf (xs_expr (x_call HC C.x_need_knots tk hr (by rfl) (a_cons (e_var (pv 0)) (a_cons (e_var (pv 1)) a_nil))))
      (xk_cons free_wf (xs_expr (x_call HC C.x_need_index tk hr (by rfl) (a_cons (e_var (pv 0)) (a_cons (e_var (pv 1)) (a_cons (e_var (pv 2)) a_nil)))))
      (xk_cons free_wf (xs_expr (x_call HC C.x_need_ratio tk hr (by rfl) (a_cons (e_var (pv 3)) a_nil)))
      (xk_cons free_wf (xs_calm HC (s_ret (e_call C.c_basis_at hr (by rfl) (a_cons (e_var (pv 0)) (a_cons (e_var (pv 1)) (a_cons (e_var (pv 2)) (a_cons (e_var (pv 3)) a_nil)))))))
      xk_nil)))))
  exact ⟨z.ok, z.ex⟩
theorem d_basis_pieces (W : Wld P mg K fn ca tb) (C : Cals P w K mg base fn ca tb k) (f : Addr) (cdv : Value) (A : Around) (outer : List Env) (s : Shared) (H : Hp) (E : XK) (hr : Room (k + 2) (A.deeper (PyProof.Rows.envOfC "basis_pieces" (C8.fnScope t_basis_pieces) s.heap.objs.size f cdv))) :
    PSs (cxOf (L2.CX P w) P w K mg base N_basis_pieces "basis_pieces" (C8.fnScope t_basis_pieces) f cdv A outer s H E) (C8.fnBody t_basis_pieces) (tK K (FA.oft fn ca tb) (callF G k) c_basis_pieces) ∧ PSs (cxOf (L2.CX P w) P w K mg base N_basis_pieces "basis_pieces" (C8.fnScope t_basis_pieces) f cdv A outer s H E) (C8.fnBody t_basis_pieces) (tXK K (FA.oft fn ca tb) (callF G k) (WF E) c_basis_pieces) := by
  have nd := sc_basis_pieces.nd
  have HC : CalmF calmC (callF G k) := calm_k k
  have tk : Takes (cxOf (L2.CX P w) P w K mg base N_basis_pieces "basis_pieces" (C8.fnScope t_basis_pieces) f cdv A outer s H E) (WF E) := takes_of rfl rfl rfl rfl
  have po : PassesOwn (model P w) (A.deeper (PyProof.Rows.envOfC "basis_pieces" (C8.fnScope t_basis_pieces) s.heap.objs.size f cdv)) (PyProof.Rows.envOfC "basis_pieces" (C8.fnScope t_basis_pieces) s.heap.objs.size f cdv) (cxOf (L2.CX P w) P w K mg base N_basis_pieces "basis_pieces" (C8.fnScope t_basis_pieces) f cdv A outer s H E).xe := passes_of (X := cxOf (L2.CX P w) P w K mg base N_basis_pieces "basis_pieces" (C8.fnScope t_basis_pieces) f cdv A outer s H E) rfl
  have z : XB (cxOf (L2.CX P w) P w K mg base N_basis_pieces "basis_pieces" (C8.fnScope t_basis_pieces) f cdv A outer s H E) (FA.oft fn ca tb) (callF G k) (WF E) (C8.fnBody t_basis_pieces) c_basis_pieces :=
    (xk_cons free_wf (xs_expr (x_call HC C.x_need_low tk hr (by rfl) (a_cons (e_var (pv 0)) (a_cons e_int a_nil))))
      (xk_cons free_wf (xs_expr (x_call HC C.x_need_knots tk hr (by rfl) (a_cons (e_var (pv 0)) (a_cons (e_var (pv 1)) a_nil))))
      (xk_cons free_wf (xs_expr (x_call HC C.x_need_index tk hr (by rfl) (a_cons (e_var (pv 0)) (a_cons (e_var (pv 1)) (a_cons (e_var (pv 2)) a_nil)))))
      (xk_cons free_wf (xs_calm HC (s_set (i := 3) nd rfl (by first | exact .inl rfl | exact .inr rfl) (e_lst a_nil)))
      (xk_cons free_wf (xs_calm HC (s_for po rfl (i_rng2 (by rfl) W.m_range (a_cons (e_var (pv 2)) (a_cons (e_add (e_add (e_var (pv 2)) (e_var (pv 0))) e_int) a_nil))) (g_v (pg_name (i := 4) nd rfl (by first | exact .inl rfl | exact .inr rfl))) (k_cons (s_if (t_cmp (c_ne hr) (e_idx (e_var (pv 1)) (e_var (pv 4))) (e_idx (e_var (pv 1)) (e_add (e_var (pv 4)) e_int))) (k_cons (s_expr (e_append (e_var (pv 3)) (a_cons (e_tup (a_cons (e_tup (a_cons (e_idx (e_var (pv 1)) (e_var (pv 4))) (a_cons (e_idx (e_var (pv 1)) (e_add (e_var (pv 4)) e_int)) a_nil))) (a_cons (e_call C.c_basis_poly hr (by rfl) (a_cons (e_var (pv 0)) (a_cons (e_var (pv 1)) (a_cons (e_var (pv 2)) (a_cons (e_var (pv 4)) a_nil))))) a_nil))) a_nil)))
      k_nil) k_nil)
      k_nil)))
      (xk_cons free_wf (xs_calm HC (s_ret (e_tuple (by rfl) W.m_tuple (a_cons (e_var (pv 3)) a_nil))))
      xk_nil))))))
  exact ⟨z.ok, z.ex⟩
theorem d_greville (W : Wld P mg K fn ca tb) (C : Cals P w K mg base fn ca tb k) (f : Addr) (cdv : Value) (A : Around) (outer : List Env) (s : Shared) (H : Hp) (E : XK) (hr : Room (k + 2) (A.deeper (PyProof.Rows.envOfC "greville" (C8.fnScope t_greville) s.heap.objs.size f cdv))) :
    PSs (cxOf (L2.CX P w) P w K mg base N_greville "greville" (C8.fnScope t_greville) f cdv A outer s H E) (C8.fnBody t_greville) (tK K (FA.oft fn ca tb) (callF G k) c_greville) ∧ PSs (cxOf (L2.CX P w) P w K mg base N_greville "greville" (C8.fnScope t_greville) f cdv A outer s H E) (C8.fnBody t_greville) (tXK K (FA.oft fn ca tb) (callF G k) (WF E) c_greville) := by
  have nd := sc_greville.nd
  have HC : CalmF calmC (callF G k) := calm_k k
  have tk : Takes (cxOf (L2.CX P w) P w K mg base N_greville "greville" (C8.fnScope t_greville) f cdv A outer s H E) (WF E) := takes_of rfl rfl rfl rfl
  have po : PassesOwn (model P w) (A.deeper (PyProof.Rows.envOfC "greville" (C8.fnScope t_greville) s.heap.objs.size f cdv)) (PyProof.Rows.envOfC "greville" (C8.fnScope t_greville) s.heap.objs.size f cdv) (cxOf (L2.CX P w) P w K mg base N_greville "greville" (C8.fnScope t_greville) f cdv A outer s H E).xe := passes_of (X := cxOf (L2.CX P w) P w K mg base N_greville "greville" (C8.fnScope t_greville) f cdv A outer s H E) rfl
  have z : XB (cxOf (L2.CX P w) P w K mg base N_greville "greville" (C8.fnScope t_greville) f cdv A outer s H E) (FA.oft fn ca tb) (callF G k) (WF E) (C8.fnBody t_greville) c_greville :=
    (xk_cons free_wf (xs_expr (x_call HC C.x_need_low tk hr (by rfl) (a_cons (e_var (pv 0)) (a_cons e_int a_nil))))
      (xk_cons free_wf (xs_expr (x_call HC C.x_need_knots tk hr (by rfl) (a_cons (e_var (pv 0)) (a_cons (e_var (pv 1)) a_nil))))
      (xk_cons free_wf (xs_calm HC (s_set (i := 2) nd rfl (by first | exact .inl rfl | exact .inr rfl) (e_sub (e_sub (e_len (by rfl) W.m_len (a_cons (e_var (pv 1)) a_nil)) (e_var (pv 0))) e_int)))
      (xk_cons free_wf (xs_calm HC (s_ret (e_tuple (by rfl) W.m_tuple (a_cons (e_comp [("at", 3)] rfl nd (i_rng1 (by rfl) W.m_range (a_cons (e_var (pv 2)) a_nil)) (blkOk_by (by rfl)) (fun _ _ _ _ _ => (g_v (pg_name (i := 3) nd rfl (by first | exact .inl rfl | exact .inr rfl)))) (fun _ _ _ _ _ => w_nil) (fun _ _ _ _ _ => (e_call C.c_times hr (by rfl) (a_cons (e_call C.c_total hr (by rfl) (a_cons (e_slc (e_var (pv 1)) (o_some (e_add (e_var (pv 3)) e_int)) (o_some (e_add (e_add (e_var (pv 3)) (e_var (pv 0))) e_int))) a_nil)) (a_cons (e_call C.c_made hr (by rfl) (a_cons e_int (a_cons (e_var (pv 0)) a_nil))) a_nil))))) a_nil))))
      xk_nil))))
  exact ⟨z.ok, z.ex⟩
theorem d_row_for (W : Wld P mg K fn ca tb) (C : Cals P w K mg base fn ca tb k) (f : Addr) (cdv : Value) (A : Around) (outer : List Env) (s : Shared) (H : Hp) (E : XK) (hr : Room (k + 2) (A.deeper (PyProof.Rows.envOfC "row_for" (C8.fnScope t_row_for) s.heap.objs.size f cdv))) :
    PSs (cxOf CX0 P w K mg base N_row_for "row_for" (C8.fnScope t_row_for) f cdv A outer s H E).nox (C8.fnBody t_row_for) (tK K (FA.oft fn ca tb) (callF G k) c_row_for) := by
  have nd := sc_row_for.nd
  exact (k_cons (s_ret (e_tuple (by rfl) W.m_tuple (a_cons (e_comp [("at", 3)] rfl nd (i_rng1 (by rfl) W.m_range (a_cons (e_sub (e_sub (e_len (by rfl) W.m_len (a_cons (e_var (pv 2)) a_nil)) (e_var (pv 1))) e_int) a_nil)) (blkOk_by (by rfl)) (fun _ _ _ _ _ => (g_v (pg_name (i := 3) nd rfl (by first | exact .inl rfl | exact .inr rfl)))) (fun _ _ _ _ _ => w_nil) (fun _ _ _ _ _ => (e_call C.c_blossom_of hr (by rfl) (a_cons (e_var (pv 0)) (a_cons (e_slc (e_var (pv 2)) (o_some (e_add (e_var (pv 3)) e_int)) (o_some (e_add (e_add (e_var (pv 3)) (e_var (pv 1))) e_int))) a_nil))))) a_nil)))
      k_nil)
theorem d_coefficients (W : Wld P mg K fn ca tb) (C : Cals P w K mg base fn ca tb k) (f : Addr) (cdv : Value) (A : Around) (outer : List Env) (s : Shared) (H : Hp) (E : XK) (hr : Room (k + 2) (A.deeper (PyProof.Rows.envOfC "coefficients" (C8.fnScope t_coefficients) s.heap.objs.size f cdv))) :
    PSs (cxOf (L2.CX P w) P w K mg base N_coefficients "coefficients" (C8.fnScope t_coefficients) f cdv A outer s H E) (C8.fnBody t_coefficients) (tK K (FA.oft fn ca tb) (callF G k) c_coefficients) ∧ PSs (cxOf (L2.CX P w) P w K mg base N_coefficients "coefficients" (C8.fnScope t_coefficients) f cdv A outer s H E) (C8.fnBody t_coefficients) (tXK K (FA.oft fn ca tb) (callF G k) (WF E) c_coefficients) := by
  have nd := sc_coefficients.nd
  have HC : CalmF calmC (callF G k) := calm_k k
  obtain ⟨_, r_BadDegree⟩ := W.r_BadDegree
  have tk : Takes (cxOf (L2.CX P w) P w K mg base N_coefficients "coefficients" (C8.fnScope t_coefficients) f cdv A outer s H E) (WF E) := takes_of rfl rfl rfl rfl
  have po : PassesOwn (model P w) (A.deeper (PyProof.Rows.envOfC "coefficients" (C8.fnScope t_coefficients) s.heap.objs.size f cdv)) (PyProof.Rows.envOfC "coefficients" (C8.fnScope t_coefficients) s.heap.objs.size f cdv) (cxOf (L2.CX P w) P w K mg base N_coefficients "coefficients" (C8.fnScope t_coefficients) f cdv A outer s H E).xe := passes_of (X := cxOf (L2.CX P w) P w K mg base N_coefficients "coefficients" (C8.fnScope t_coefficients) f cdv A outer s H E) rfl
  have z : XB (cxOf (L2.CX P w) P w K mg base N_coefficients "coefficients" (C8.fnScope t_coefficients) f cdv A outer s H E) (FA.oft fn ca tb) (callF G k) (WF E) (C8.fnBody t_coefficients) c_coefficients :=
    (xk_cons free_wf (xs_expr (x_call HC C.x_need_poly tk hr (by rfl) (a_cons (e_var (pv 0)) a_nil)))
      (xk_cons free_wf (xs_expr (x_call HC C.x_need_low tk hr (by rfl) (a_cons (e_var (pv 1)) (a_cons e_int a_nil))))
      (xk_cons free_wf (xs_if HC (t_cmp c_gt (e_len (by rfl) W.m_len (a_cons (e_var (pv 0)) a_nil)) (e_add (e_var (pv 1)) e_int)) (xk_cons free_wf (xs_raise0 r_BadDegree.2 r_BadDegree.1 rfl tk (by rfl))
      xk_nil) xk_nil)
      (xk_cons free_wf (xs_expr (x_call HC C.x_need_knots tk hr (by rfl) (a_cons (e_var (pv 1)) (a_cons (e_var (pv 2)) a_nil))))
      (xk_cons free_wf (xs_calm HC (s_ret (e_call C.c_row_for hr (by rfl) (a_cons (e_var (pv 0)) (a_cons (e_var (pv 1)) (a_cons (e_var (pv 2)) a_nil))))))
      xk_nil)))))
  exact ⟨z.ok, z.ex⟩
theorem d_is_interval (W : Wld P mg K fn ca tb) (C : Cals P w K mg base fn ca tb k) (f : Addr) (cdv : Value) (A : Around) (outer : List Env) (s : Shared) (H : Hp) (E : XK) (hr : Room (k + 2) (A.deeper (PyProof.Rows.envOfC "is_interval" (C8.fnScope t_is_interval) s.heap.objs.size f cdv))) :
    PSs (cxOf CX0 P w K mg base N_is_interval "is_interval" (C8.fnScope t_is_interval) f cdv A outer s H E).nox (C8.fnBody t_is_interval) (tK K (FA.oft fn ca tb) (callF G k) c_is_interval) := by
  have nd := sc_is_interval.nd
  exact (k_cons (s_if (PW.pt (t_or (t_not (t_val (e_isTup (by rfl) W.m_isinstance (by rfl) W.m_tuple (e_var (pv 0))))) (t_or (t_cmp (c_ne hr) (e_len (by rfl) W.m_len (a_cons (e_var (pv 0)) a_nil)) e_int) (t_or (t_not (t_val (e_call C.c_is_ratio hr (by rfl) (a_cons (e_idx (e_var (pv 0)) e_int) a_nil)))) (t_or1 (t_not (t_val (e_call C.c_is_ratio hr (by rfl) (a_cons (e_idx (e_var (pv 0)) e_int) a_nil))))))))) (k_cons (s_ret e_bl)
      k_nil) k_nil)
      (k_cons (s_ret (e_call C.c_is_below hr (by rfl) (a_cons (e_idx (e_var (pv 0)) e_int) (a_cons (e_idx (e_var (pv 0)) e_int) a_nil))))
      k_nil))
theorem d_poly_over (W : Wld P mg K fn ca tb) (C : Cals P w K mg base fn ca tb k) (f : Addr) (cdv : Value) (A : Around) (outer : List Env) (s : Shared) (H : Hp) (E : XK) (hr : Room (k + 2) (A.deeper (PyProof.Rows.envOfC "poly_over" (C8.fnScope t_poly_over) s.heap.objs.size f cdv))) :
    PSs (cxOf CX0 P w K mg base N_poly_over "poly_over" (C8.fnScope t_poly_over) f cdv A outer s H E).nox (C8.fnBody t_poly_over) (tK K (FA.oft fn ca tb) (callF G k) c_poly_over) := by
  have nd := sc_poly_over.nd
  exact (k_cons (s_for PassesOwn.never rfl (i_seq (e_rev (e_var (pv 0)))) (g_tup rfl (gs_cons (g_v (pg_name (i := 2) nd rfl (by first | exact .inl rfl | exact .inr rfl))) (gs_cons (g_v (pg_name (i := 3) nd rfl (by first | exact .inl rfl | exact .inr rfl))) gs_nil))) (k_cons (s_if (t_not (t_val (e_call C.c_is_below hr (by rfl) (a_cons (e_var (pv 1)) (a_cons (e_idx (e_var (pv 2)) e_int) a_nil))))) (k_cons (s_ret (e_var (pv 3)))
      k_nil) k_nil)
      k_nil))
      (k_cons (s_ret (e_idx (e_idx (e_var (pv 0)) e_int) e_int))
      k_nil))
theorem d_row_from (W : Wld P mg K fn ca tb) (C : Cals P w K mg base fn ca tb k) (f : Addr) (cdv : Value) (A : Around) (outer : List Env) (s : Shared) (H : Hp) (E : XK) (hr : Room (k + 2) (A.deeper (PyProof.Rows.envOfC "row_from" (C8.fnScope t_row_from) s.heap.objs.size f cdv))) :
    PSs (cxOf CX0 P w K mg base N_row_from "row_from" (C8.fnScope t_row_from) f cdv A outer s H E).nox (C8.fnBody t_row_from) (tK K (FA.oft fn ca tb) (callF G k) c_row_from) := by
  have nd := sc_row_from.nd
  exact (k_cons (s_set (i := 3) nd rfl (by first | exact .inl rfl | exact .inr rfl) (e_lst a_nil))
      (k_cons (s_for PassesOwn.never rfl (i_rng1 (by rfl) W.m_range (a_cons (e_sub (e_sub (e_len (by rfl) W.m_len (a_cons (e_var (pv 2)) a_nil)) (e_var (pv 1))) e_int) a_nil)) (g_v (pg_name (i := 4) nd rfl (by first | exact .inl rfl | exact .inr rfl))) (k_cons (s_set (i := 5) nd rfl (by first | exact .inl rfl | exact .inr rfl) (e_idx (e_comp [("at", 6)] rfl nd (i_rng2 (by rfl) W.m_range (a_cons (e_var (pv 4)) (a_cons (e_add (e_add (e_var (pv 4)) (e_var (pv 1))) e_int) a_nil))) (blkOk_by (by rfl)) (fun _ _ _ _ _ => (g_v (pg_name (i := 6) nd rfl (by first | exact .inl rfl | exact .inr rfl)))) (fun _ _ _ _ _ => (w_one (t_cmp (c_ne hr) (e_idx (e_var (pv 2)) (e_var (pv 6))) (e_idx (e_var (pv 2)) (e_add (e_var (pv 6)) e_int))))) (fun _ _ _ _ _ => (e_var (pv 6)))) e_int))
      (k_cons (s_expr (e_append (e_var (pv 3)) (a_cons (e_call C.c_blossom_of hr (by rfl) (a_cons (e_call C.c_poly_over hr (by rfl) (a_cons (e_var (pv 0)) (a_cons (e_idx (e_var (pv 2)) (e_var (pv 5))) a_nil))) (a_cons (e_slc (e_var (pv 2)) (o_some (e_add (e_var (pv 4)) e_int)) (o_some (e_add (e_add (e_var (pv 4)) (e_var (pv 1))) e_int))) a_nil))) a_nil)))
      k_nil)))
      (k_cons (s_ret (e_tuple (by rfl) W.m_tuple (a_cons (e_var (pv 3)) a_nil)))
      k_nil)))
theorem d_order_at (W : Wld P mg K fn ca tb) (C : Cals P w K mg base fn ca tb k) (f : Addr) (cdv : Value) (A : Around) (outer : List Env) (s : Shared) (H : Hp) (E : XK) (hr : Room (k + 2) (A.deeper (PyProof.Rows.envOfC "order_at" (C8.fnScope t_order_at) s.heap.objs.size f cdv))) :
    PSs (cxOf CX0 P w K mg base N_order_at "order_at" (C8.fnScope t_order_at) f cdv A outer s H E).nox (C8.fnBody t_order_at) (tK K (FA.oft fn ca tb) (callF G k) c_order_at) := by
  have nd := sc_order_at.nd
  exact (k_cons (s_for PassesOwn.never rfl (i_rng1 (by rfl) W.m_range (a_cons (e_add (e_var (pv 2)) e_int) a_nil)) (g_v (pg_name (i := 4) nd rfl (by first | exact .inl rfl | exact .inr rfl))) (k_cons (s_if (t_cmp (c_ne hr) (e_call C.c_at hr (by rfl) (a_cons (e_var (pv 0)) (a_cons (e_var (pv 3)) a_nil))) (e_call C.c_at hr (by rfl) (a_cons (e_var (pv 1)) (a_cons (e_var (pv 3)) a_nil)))) (k_cons (s_ret (e_sub (e_var (pv 4)) e_int))
      k_nil) k_nil)
      (k_cons (s_par2 (i := 0) (j := 1) rfl nd rfl rfl (by decide) rfl rfl (a_cons (e_call C.c_p_slope hr (by rfl) (a_cons (e_var (pv 0)) a_nil)) (a_cons (e_call C.c_p_slope hr (by rfl) (a_cons (e_var (pv 1)) a_nil)) a_nil)))
      k_nil)))
      (k_cons (s_ret (e_var (pv 2)))
      k_nil))
theorem d_small (W : Wld P mg K fn ca tb) (C : Cals P w K mg base fn ca tb k) (f : Addr) (cdv : Value) (A : Around) (outer : List Env) (s : Shared) (H : Hp) (E : XK) (hr : Room (k + 2) (A.deeper (PyProof.Rows.envOfC "small" (C8.fnScope t_small) s.heap.objs.size f cdv))) :
    PSs (cxOf (L2.CX P w) P w K mg base N_small "small" (C8.fnScope t_small) f cdv A outer s H E) (C8.fnBody t_small) (tK K (FA.oft fn ca tb) (callF G k) c_small_2) ∧ PSs (cxOf (L2.CX P w) P w K mg base N_small "small" (C8.fnScope t_small) f cdv A outer s H E) (C8.fnBody t_small) (tXK K (FA.oft fn ca tb) (callF G k) (WF E) c_small_2) := by
  have nd := sc_small.nd
  have HC : CalmF calmC (callF G k) := calm_k k
  obtain ⟨_, r_TooMany⟩ := W.r_TooMany
  have tk : Takes (cxOf (L2.CX P w) P w K mg base N_small "small" (C8.fnScope t_small) f cdv A outer s H E) (WF E) := takes_of rfl rfl rfl rfl
  have po : PassesOwn (model P w) (A.deeper (PyProof.Rows.envOfC "small" (C8.fnScope t_small) s.heap.objs.size f cdv)) (PyProof.Rows.envOfC "small" (C8.fnScope t_small) s.heap.objs.size f cdv) (cxOf (L2.CX P w) P w K mg base N_small "small" (C8.fnScope t_small) f cdv A outer s H E).xe := passes_of (X := cxOf (L2.CX P w) P w K mg base N_small "small" (C8.fnScope t_small) f cdv A outer s H E) rfl
  have z : XB (cxOf (L2.CX P w) P w K mg base N_small "small" (C8.fnScope t_small) f cdv A outer s H E) (FA.oft fn ca tb) (callF G k) (WF E) (C8.fnBody t_small) c_small_2 :=
    (xk_cons free_wf (xs_if HC (t_cmp c_gt (e_len (by rfl) W.m_len (a_cons (e_var (pv 0)) a_nil)) (e_gc W.z_MOST_KNOTS (by rfl))) (xk_cons free_wf (xs_raise1 HC r_TooMany.2 r_TooMany.1 rfl tk hr (by rfl) (e_gc W.z_MOST_KNOTS (by rfl)))
      xk_nil) xk_nil)
      (xk_cons free_wf (xs_calm HC (s_ret (e_tuple (by rfl) W.m_tuple (a_cons (e_var (pv 0)) a_nil))))
      xk_nil))
  exact ⟨z.ok, z.ex⟩
theorem d_with_ends (W : Wld P mg K fn ca tb) (C : Cals P w K mg base fn ca tb k) (f : Addr) (cdv : Value) (A : Around) (outer : List Env) (s : Shared) (H : Hp) (E : XK) (hr : Room (k + 2) (A.deeper (PyProof.Rows.envOfC "with_ends" (C8.fnScope t_with_ends) s.heap.objs.size f cdv))) :
    PSs (cxOf (L2.CX P w) P w K mg base N_with_ends "with_ends" (C8.fnScope t_with_ends) f cdv A outer s H E) (C8.fnBody t_with_ends) (tK K (FA.oft fn ca tb) (callF G k) c_with_ends) ∧ PSs (cxOf (L2.CX P w) P w K mg base N_with_ends "with_ends" (C8.fnScope t_with_ends) f cdv A outer s H E) (C8.fnBody t_with_ends) (tXK K (FA.oft fn ca tb) (callF G k) (WF E) c_with_ends) := by
  have nd := sc_with_ends.nd
  have HC : CalmF calmC (callF G k) := calm_k k
  have tk : Takes (cxOf (L2.CX P w) P w K mg base N_with_ends "with_ends" (C8.fnScope t_with_ends) f cdv A outer s H E) (WF E) := takes_of rfl rfl rfl rfl
  have po : PassesOwn (model P w) (A.deeper (PyProof.Rows.envOfC "with_ends" (C8.fnScope t_with_ends) s.heap.objs.size f cdv)) (PyProof.Rows.envOfC "with_ends" (C8.fnScope t_with_ends) s.heap.objs.size f cdv) (cxOf (L2.CX P w) P w K mg base N_with_ends "with_ends" (C8.fnScope t_with_ends) f cdv A outer s H E).xe := passes_of (X := cxOf (L2.CX P w) P w K mg base N_with_ends "with_ends" (C8.fnScope t_with_ends) f cdv A outer s H E) rfl
  have z : XB (cxOf (L2.CX P w) P w K mg base N_with_ends "with_ends" (C8.fnScope t_with_ends) f cdv A outer s H E) (FA.oft fn ca tb) (callF G k) (WF E) (C8.fnBody t_with_ends) c_with_ends :=
    (xk_cons free_wf (xs_calm HC (s_set (i := 3) nd rfl (by first | exact .inl rfl | exact .inr rfl) (e_mul (e_lst (a_cons (e_idx (e_var (pv 1)) e_int) a_nil)) (e_add (e_var (pv 0)) e_int))))
      (xk_cons free_wf (xs_calm HC (s_for po rfl (i_seq (e_var (pv 2))) (g_tup rfl (gs_cons (g_v (pg_name (i := 4) nd rfl (by first | exact .inl rfl | exact .inr rfl))) (gs_cons (g_v (pg_name (i := 5) nd rfl (by first | exact .inl rfl | exact .inr rfl))) gs_nil))) (k_cons (s_expr (e_extend (e_var (pv 3)) (a_cons (e_mul (e_lst (a_cons (e_var (pv 4)) a_nil)) (e_var (pv 5))) a_nil)))
      k_nil)))
      (xk_cons free_wf (xs_ret (x_call HC C.x_small tk hr (by rfl) (a_cons (e_lst (a_star (e_var (pv 3)) (a_star (e_mul (e_lst (a_cons (e_idx (e_var (pv 1)) e_int) a_nil)) (e_add (e_var (pv 0)) e_int)) a_nil))) a_nil)))
      xk_nil)))
  exact ⟨z.ok, z.ex⟩
theorem d_is_piece (W : Wld P mg K fn ca tb) (C : Cals P w K mg base fn ca tb k) (f : Addr) (cdv : Value) (A : Around) (outer : List Env) (s : Shared) (H : Hp) (E : XK) (hr : Room (k + 2) (A.deeper (PyProof.Rows.envOfC "is_piece" (C8.fnScope t_is_piece) s.heap.objs.size f cdv))) :
    PSs (cxOf CX0 P w K mg base N_is_piece "is_piece" (C8.fnScope t_is_piece) f cdv A outer s H E).nox (C8.fnBody t_is_piece) (tK K (FA.oft fn ca tb) (callF G k) c_is_piece) := by
  have nd := sc_is_piece.nd
  exact (k_cons (s_if (PW.pt (t_or (t_not (t_val (e_isTup (by rfl) W.m_isinstance (by rfl) W.m_tuple (e_var (pv 0))))) (t_or (t_cmp (c_ne hr) (e_len (by rfl) W.m_len (a_cons (e_var (pv 0)) a_nil)) e_int) (t_or1 (t_not (t_val (e_call C.c_is_interval hr (by rfl) (a_cons (e_idx (e_var (pv 0)) e_int) a_nil)))))))) (k_cons (s_ret e_bl)
      k_nil) k_nil)
      (k_cons (s_ret (e_and (e_call C.c_is_poly hr (by rfl) (a_cons (e_idx (e_var (pv 0)) e_int) a_nil)) (e_one (e_cmp c_le (e_len (by rfl) W.m_len (a_cons (e_idx (e_var (pv 0)) e_int) a_nil)) (e_add (e_var (pv 1)) e_int)))))
      k_nil))
theorem d_from_pieces (W : Wld P mg K fn ca tb) (C : Cals P w K mg base fn ca tb k) (f : Addr) (cdv : Value) (A : Around) (outer : List Env) (s : Shared) (H : Hp) (E : XK) (hr : Room (k + 2) (A.deeper (PyProof.Rows.envOfC "from_pieces" (C8.fnScope t_from_pieces) s.heap.objs.size f cdv))) :
    PSs (cxOf (L2.CX P w) P w K mg base N_from_pieces "from_pieces" (C8.fnScope t_from_pieces) f cdv A outer s H E) (C8.fnBody t_from_pieces) (tK K (FA.oft fn ca tb) (callF G k) c_from_pieces) ∧ PSs (cxOf (L2.CX P w) P w K mg base N_from_pieces "from_pieces" (C8.fnScope t_from_pieces) f cdv A outer s H E) (C8.fnBody t_from_pieces) (tXK K (FA.oft fn ca tb) (callF G k) (WF E) c_from_pieces) := by
  have nd := sc_from_pieces.nd
  have HC : CalmF calmC (callF G k) := calm_k k
  obtain ⟨_, r_BadPieces⟩ := W.r_BadPieces
  have tk : Takes (cxOf (L2.CX P w) P w K mg base N_from_pieces "from_pieces" (C8.fnScope t_from_pieces) f cdv A outer s H E) (WF E) := takes_of rfl rfl rfl rfl
  have po : PassesOwn (model P w) (A.deeper (PyProof.Rows.envOfC "from_pieces" (C8.fnScope t_from_pieces) s.heap.objs.size f cdv)) (PyProof.Rows.envOfC "from_pieces" (C8.fnScope t_from_pieces) s.heap.objs.size f cdv) (cxOf (L2.CX P w) P w K mg base N_from_pieces "from_pieces" (C8.fnScope t_from_pieces) f cdv A outer s H E).xe := passes_of (X := cxOf (L2.CX P w) P w K mg base N_from_pieces "from_pieces" (C8.fnScope t_from_pieces) f cdv A outer s H E) rfl
  have z : XB (cxOf (L2.CX P w) P w K mg base N_from_pieces "from_pieces" (C8.fnScope t_from_pieces) f cdv A outer s H E) (FA.oft fn ca tb) (callF G k) (WF E) (C8.fnBody t_from_pieces) c_from_pieces :=
    (xk_cons free_wf (xs_expr (x_call HC C.x_need_low tk hr (by rfl) (a_cons (e_var (pv 0)) (a_cons e_int a_nil))))
      (xk_cons free_wf (xs_if HC (PW.pt (t_or (t_not (t_val (e_isTup (by rfl) W.m_isinstance (by rfl) W.m_tuple (e_var (pv 1))))) (t_or1 (t_not (t_chn c_le c_le e_int (e_len (by rfl) W.m_len (a_cons (e_var (pv 1)) a_nil)) (e_gc W.z_MOST_PIECES (by rfl))))))) (xk_cons free_wf (xs_raise1 HC r_BadPieces.2 r_BadPieces.1 rfl tk hr (by rfl) e_non)
      xk_nil) xk_nil)
      (xk_cons free_wf (xs_for HC free_wf po rfl (i_enu (by rfl) W.m_enumerate (a_cons (e_var (pv 1)) a_nil)) (g_tup rfl (gs_cons (g_v (pg_name (i := 4) nd rfl (by first | exact .inl rfl | exact .inr rfl))) (gs_cons (g_v (pg_name (i := 5) nd rfl (by first | exact .inl rfl | exact .inr rfl))) gs_nil))) (xk_cons free_wf (xs_if HC (PW.pt (t_or (t_not (t_val (e_call C.c_is_piece hr (by rfl) (a_cons (e_var (pv 5)) (a_cons (e_var (pv 0)) a_nil))))) (t_or1 (PW.pt (t_and (t_cmp c_gt (e_var (pv 4)) e_int) (t_and1 (t_cmp (c_ne hr) (e_idx (e_idx (e_var (pv 5)) e_int) e_int) (e_idx (e_idx (e_idx (e_var (pv 1)) (e_sub (e_var (pv 4)) e_int)) e_int) e_int)))))))) (xk_cons free_wf (xs_raise1 HC r_BadPieces.2 r_BadPieces.1 rfl tk hr (by rfl) (e_var (pv 4)))
      xk_nil) xk_nil)
      xk_nil))
      (xk_cons free_wf (xs_calm HC (s_set (i := 2) nd rfl (by first | exact .inl rfl | exact .inr rfl) (e_lst a_nil)))
      (xk_cons free_wf (xs_calm HC (s_for po rfl (i_zip (by rfl) W.m_zip (a_cons (e_var (pv 1)) (a_cons (e_slc (e_var (pv 1)) (o_some e_int) o_none) a_nil))) (g_tup rfl (gs_cons (g_v (pg_name (i := 6) nd rfl (by first | exact .inl rfl | exact .inr rfl))) (gs_cons (g_v (pg_name (i := 7) nd rfl (by first | exact .inl rfl | exact .inr rfl))) gs_nil))) (k_cons (s_set (i := 8) nd rfl (by first | exact .inl rfl | exact .inr rfl) (e_idx (e_idx (e_var (pv 7)) e_int) e_int))
      (k_cons (s_expr (e_append (e_var (pv 2)) (a_cons (e_tup (a_cons (e_var (pv 8)) (a_cons (e_sub (e_var (pv 0)) (e_call C.c_order_at hr (by rfl) (a_cons (e_idx (e_var (pv 6)) e_int) (a_cons (e_idx (e_var (pv 7)) e_int) (a_cons (e_var (pv 0)) (a_cons (e_var (pv 8)) a_nil)))))) a_nil))) a_nil)))
      k_nil))))
      (xk_cons free_wf (xs_set (i := 3) nd rfl (by first | exact .inl rfl | exact .inr rfl) (x_call HC C.x_with_ends tk hr (by rfl) (a_cons (e_var (pv 0)) (a_cons (e_tup (a_cons (e_idx (e_idx (e_idx (e_var (pv 1)) e_int) e_int) e_int) (a_cons (e_idx (e_idx (e_idx (e_var (pv 1)) (e_neg e_int)) e_int) e_int) a_nil))) (a_cons (e_var (pv 2)) a_nil)))))
      (xk_cons free_wf (xs_calm HC (s_ret (e_tup (a_cons (e_var (pv 0)) (a_cons (e_var (pv 3)) (a_cons (e_call C.c_row_from hr (by rfl) (a_cons (e_var (pv 1)) (a_cons (e_var (pv 0)) (a_cons (e_var (pv 3)) a_nil)))) a_nil))))))
      xk_nil)))))))
  exact ⟨z.ok, z.ex⟩
theorem d_space_size (W : Wld P mg K fn ca tb) (C : Cals P w K mg base fn ca tb k) (f : Addr) (cdv : Value) (A : Around) (outer : List Env) (s : Shared) (H : Hp) (E : XK) (hr : Room (k + 2) (A.deeper (PyProof.Rows.envOfC "space_size" (C8.fnScope t_space_size) s.heap.objs.size f cdv))) :
    PSs (cxOf (L2.CX P w) P w K mg base N_space_size "space_size" (C8.fnScope t_space_size) f cdv A outer s H E) (C8.fnBody t_space_size) (tK K (FA.oft fn ca tb) (callF G k) c_space_size) ∧ PSs (cxOf (L2.CX P w) P w K mg base N_space_size "space_size" (C8.fnScope t_space_size) f cdv A outer s H E) (C8.fnBody t_space_size) (tXK K (FA.oft fn ca tb) (callF G k) (WF E) c_space_size) := by
  have nd := sc_space_size.nd
  have HC : CalmF calmC (callF G k) := calm_k k
  obtain ⟨_, r_BadNodes⟩ := W.r_BadNodes
  obtain ⟨_, r_BadNumber⟩ := W.r_BadNumber
  have tk : Takes (cxOf (L2.CX P w) P w K mg base N_space_size "space_size" (C8.fnScope t_space_size) f cdv A outer s H E) (WF E) := takes_of rfl rfl rfl rfl
  have po : PassesOwn (model P w) (A.deeper (PyProof.Rows.envOfC "space_size" (C8.fnScope t_space_size) s.heap.objs.size f cdv)) (PyProof.Rows.envOfC "space_size" (C8.fnScope t_space_size) s.heap.objs.size f cdv) (cxOf (L2.CX P w) P w K mg base N_space_size "space_size" (C8.fnScope t_space_size) f cdv A outer s H E).xe := passes_of (X := cxOf (L2.CX P w) P w K mg base N_space_size "space_size" (C8.fnScope t_space_size) f cdv A outer s H E) rfl
  have z : XB (cxOf (L2.CX P w) P w K mg base N_space_size "space_size" (C8.fnScope t_space_size) f cdv A outer s H E) (FA.oft fn ca tb) (callF G k) (WF E) (C8.fnBody t_space_size) c_space_size :=
    (xk_cons free_wf (xs_if HC (PW.pt (t_or (t_not (t_val (e_isTup (by rfl) W.m_isinstance (by rfl) W.m_tuple (e_var (pv 0))))) (t_or1 (t_not (t_chn c_le c_le e_int (e_len (by rfl) W.m_len (a_cons (e_var (pv 0)) a_nil)) (e_gc W.z_MOST_BREAKS (by rfl))))))) (xk_cons free_wf (xs_raise1 HC r_BadNodes.2 r_BadNodes.1 rfl tk hr (by rfl) e_non)
      xk_nil) xk_nil)
      (xk_cons free_wf (xs_for HC free_wf po rfl (i_enu (by rfl) W.m_enumerate (a_cons (e_var (pv 0)) a_nil)) (g_tup rfl (gs_cons (g_v (pg_name (i := 3) nd rfl (by first | exact .inl rfl | exact .inr rfl))) (gs_cons (g_v (pg_name (i := 4) nd rfl (by first | exact .inl rfl | exact .inr rfl))) gs_nil))) (xk_cons free_wf (xs_if HC (PW.pt (t_or (t_not (t_val (e_call C.c_is_ratio hr (by rfl) (a_cons (e_var (pv 4)) a_nil)))) (t_or1 (PW.pt (t_and (t_cmp c_gt (e_var (pv 3)) e_int) (t_and1 (t_not (t_val (e_call C.c_is_below hr (by rfl) (a_cons (e_idx (e_var (pv 0)) (e_sub (e_var (pv 3)) e_int)) (a_cons (e_var (pv 4)) a_nil))))))))))) (xk_cons free_wf (xs_raise1 HC r_BadNodes.2 r_BadNodes.1 rfl tk hr (by rfl) (e_var (pv 3)))
      xk_nil) xk_nil)
      xk_nil))
      (xk_cons free_wf (xs_expr (x_call HC C.x_need_low tk hr (by rfl) (a_cons (e_var (pv 1)) (a_cons e_int a_nil))))
      (xk_cons free_wf (xs_if HC (t_not (t_val (e_call C.c_is_from hr (by rfl) (a_cons (e_var (pv 2)) (a_cons (e_neg e_int) (a_cons (e_var (pv 1)) a_nil)))))) (xk_cons free_wf (xs_raise0 r_BadNumber.2 r_BadNumber.1 rfl tk (by rfl))
      xk_nil) xk_nil)
      (xk_cons free_wf (xs_calm HC (s_ret (e_sub (e_mul (e_sub (e_len (by rfl) W.m_len (a_cons (e_var (pv 0)) a_nil)) e_int) (e_add (e_var (pv 1)) e_int)) (e_mul (e_sub (e_len (by rfl) W.m_len (a_cons (e_var (pv 0)) a_nil)) e_int) (e_add (e_var (pv 2)) e_int)))))
      xk_nil)))))
  exact ⟨z.ok, z.ex⟩
theorem d__law_taken (W : Wld P mg K fn ca tb) (C : Cals P w K mg base fn ca tb k) (f : Addr) (cdv : Value) (A : Around) (outer : List Env) (s : Shared) (H : Hp) (E : XK) (hr : Room (k + 2) (A.deeper (PyProof.Rows.envOfC "_law_taken" (C8.fnScope t__law_taken) s.heap.objs.size f cdv))) :
    PSs (cxOf CX0 P w K mg base N__law_taken "_law_taken" (C8.fnScope t__law_taken) f cdv A outer s H E).nox (C8.fnBody t__law_taken) (tK K (FA.oft fn ca tb) (callF G k) c__law_taken) := by
  have nd := sc__law_taken.nd
  exact (k_cons (s_if (t_cmp c_gt (e_idx (e_var (pv 0)) e_int) e_int) (k_cons (s_set (i := 3) nd rfl (by first | exact .inl rfl | exact .inr rfl) (e_mod (e_intf (by rfl) W.m_int (a_cons (e_idx (e_var (pv 0)) e_int) a_nil)) (e_var (pv 1))))
      (k_cons (s_asg (e_fdiv (e_idx (e_var (pv 0)) e_int) (e_var (pv 1))) (g_sub (e_var (pv 0)) e_int))
      (k_cons (s_ret (e_var (pv 3)))
      k_nil))) k_nil)
      (k_cons (s_asg (e_add (e_idx (e_var (pv 0)) e_int) e_int) (g_sub (e_var (pv 0)) e_int))
      (k_cons (s_if (t_cmp c_gt (e_idx (e_var (pv 0)) e_int) (e_len (by rfl) W.m_len (a_cons (e_idx (e_var (pv 0)) e_int) a_nil))) (k_cons (s_asg (e_mod (e_intf (by rfl) W.m_int (a_cons (e_add (e_mul (e_idx (e_var (pv 0)) e_int) e_int) e_int) a_nil)) e_int) (g_sub (e_var (pv 0)) e_int))
      (k_cons (s_ret (e_mod (e_intf (by rfl) W.m_int (a_cons (e_fdiv (e_idx (e_var (pv 0)) e_int) e_int) a_nil)) (e_var (pv 1))))
      k_nil)) k_nil)
      (k_cons (s_set (i := 2) nd rfl (by first | exact .inl rfl | exact .inr rfl) (e_idx (e_idx (e_var (pv 0)) e_int) (e_sub (e_idx (e_var (pv 0)) e_int) e_int)))
      (k_cons (s_asg (e_mod (e_intf (by rfl) W.m_int (a_cons (e_add (e_add (e_mul (e_idx (e_var (pv 0)) e_int) e_int) (e_var (pv 2))) e_int) a_nil)) e_int) (g_sub (e_var (pv 0)) e_int))
      (k_cons (s_if (t_cmp c_ge (e_var (pv 2)) (e_pow e_int e_int)) (k_cons (s_asg (e_fdiv (e_var (pv 2)) (e_var (pv 1))) (g_sub (e_var (pv 0)) e_int))
      k_nil) k_nil)
      (k_cons (s_ret (e_mod (e_intf (by rfl) W.m_int (a_cons (e_var (pv 2)) a_nil)) (e_var (pv 1))))
      k_nil)))))))
theorem d__law_pick (W : Wld P mg K fn ca tb) (C : Cals P w K mg base fn ca tb k) (f : Addr) (cdv : Value) (A : Around) (outer : List Env) (s : Shared) (H : Hp) (E : XK) (hr : Room (k + 2) (A.deeper (PyProof.Rows.envOfC "_law_pick" (C8.fnScope t__law_pick) s.heap.objs.size f cdv))) :
    PSs (cxOf CX0 P w K mg base N__law_pick "_law_pick" (C8.fnScope t__law_pick) f cdv A outer s H E).nox (C8.fnBody t__law_pick) (tK K (FA.oft fn ca tb) (callF G k) c__law_pick) := by
  have nd := sc__law_pick.nd
  exact (k_cons (s_ret (e_idx (e_var (pv 1)) (e_call C.c__law_taken hr (by rfl) (a_cons (e_var (pv 0)) (a_cons (e_len (by rfl) W.m_len (a_cons (e_var (pv 1)) a_nil)) a_nil)))))
      k_nil)
theorem d__law_word (W : Wld P mg K fn ca tb) {AB : Addr} (h_BlendError : mg "BlendError" = some (.ref AB) ∧ Exm K (FA.oft fn ca tb) (.ref AB) [0, 1, 2, 5, 7, 11, 12, 15, 17]) (f : Addr) (cdv : Value) (A : Around) (outer : List Env) (s : Shared) (H : Hp) (E : XK) (hr : Room (k + 2 + 1) (A.deeper (PyProof.Rows.envOfC "_law_word" (C8.fnScope t__law_word) s.heap.objs.size f cdv))) :
    HdsX (cxOf CX0 P w K mg base N__law_word "_law_word" (C8.fnScope t__law_word) f cdv A outer s H E).nox (FA.oft fn ca tb) cf0 (hdsOf (C8.fnBody t__law_word)) (.cons [0, 1, 2, 5, 7, 11, 12, 15, 17] 2 (.cons (.asg (.v 3) (.lst (.cons (.xis 2 [7]) (.cons (.xis 2 [12]) (.cons (.xis 2 [5]) (.cons (.xis 2 [11]) .nil)))))) (.cons (.asg (.v 3) (.bin .add (.var 3) (.lst (.cons (.xis 2 [15]) (.cons (.xis 2 [2]) (.cons (.xis 2 [1]) .nil)))))) (.cons (.expr (.mth .append (.var 3) (.cons (.xis 2 [17]) .nil))) (.cons (.asg (.v 4) (.lst (.cons (.con (.str "degree")) (.cons (.con (.str "knots")) (.cons (.con (.str "nodes")) (.cons (.con (.str "number")) (.cons (.con (.str "pieces")) (.cons (.con (.str "polynomial")) (.cons (.con (.str "ratio")) (.cons (.con (.str "many")) .nil)))))))))) (.cons (.asg (.v 1) (.ite (.and (.cmp .eq (.mth .count (.var 3) (.cons (.con (.bl true)) .nil)) (.con (.int 1))) (.xis 2 [0, 1, 2, 5, 7, 11, 12, 15, 17])) (.idx (.var 4) (.mth .index (.var 3) (.cons (.con (.bl true)) .nil))) (.con (.str "other")))) (.cons (.ifs (.cmp .isIn (.var 1) (.lst (.cons (.con (.str "knots")) (.cons (.con (.str "nodes")) (.cons (.con (.str "pieces")) .nil))))) (.cons (.asg (.v 1) (.tup (.cons (.var 1) (.cons (.xfld 2 "index") .nil)))) .nil) .nil) (.cons (.ifs (.cmp .eq (.var 1) (.con (.str "many"))) (.cons (.asg (.v 1) (.tup (.cons (.var 1) (.cons (.xfld 2 "most") .nil)))) .nil) .nil) .nil))))))) .nil) [(.ref AB, 2, tSu K (FA.oft fn ca tb) cf0 2 (.cons (.asg (.v 3) (.lst (.cons (.xis 2 [7]) (.cons (.xis 2 [12]) (.cons (.xis 2 [5]) (.cons (.xis 2 [11]) .nil)))))) (.cons (.asg (.v 3) (.bin .add (.var 3) (.lst (.cons (.xis 2 [15]) (.cons (.xis 2 [2]) (.cons (.xis 2 [1]) .nil)))))) (.cons (.expr (.mth .append (.var 3) (.cons (.xis 2 [17]) .nil))) (.cons (.asg (.v 4) (.lst (.cons (.con (.str "degree")) (.cons (.con (.str "knots")) (.cons (.con (.str "nodes")) (.cons (.con (.str "number")) (.cons (.con (.str "pieces")) (.cons (.con (.str "polynomial")) (.cons (.con (.str "ratio")) (.cons (.con (.str "many")) .nil)))))))))) (.cons (.asg (.v 1) (.ite (.and (.cmp .eq (.mth .count (.var 3) (.cons (.con (.bl true)) .nil)) (.con (.int 1))) (.xis 2 [0, 1, 2, 5, 7, 11, 12, 15, 17])) (.idx (.var 4) (.mth .index (.var 3) (.cons (.con (.bl true)) .nil))) (.con (.str "other")))) (.cons (.ifs (.cmp .isIn (.var 1) (.lst (.cons (.con (.str "knots")) (.cons (.con (.str "nodes")) (.cons (.con (.str "pieces")) .nil))))) (.cons (.asg (.v 1) (.tup (.cons (.var 1) (.cons (.xfld 2 "index") .nil)))) .nil) .nil) (.cons (.ifs (.cmp .eq (.var 1) (.con (.str "many"))) (.cons (.asg (.v 1) (.tup (.cons (.var 1) (.cons (.xfld 2 "most") .nil)))) .nil) .nil) .nil))))))))] := by
  have nd := sc__law_word.nd
  obtain ⟨i_a_BadDegree, i_BadDegree⟩ := W.i_BadDegree
  obtain ⟨i_a_BadKnots, i_BadKnots⟩ := W.i_BadKnots
  obtain ⟨i_a_BadNodes, i_BadNodes⟩ := W.i_BadNodes
  obtain ⟨i_a_BadNumber, i_BadNumber⟩ := W.i_BadNumber
  obtain ⟨i_a_BadPieces, i_BadPieces⟩ := W.i_BadPieces
  obtain ⟨i_a_BadPolynomial, i_BadPolynomial⟩ := W.i_BadPolynomial
  obtain ⟨i_a_BadRatio, i_BadRatio⟩ := W.i_BadRatio
  obtain ⟨i_a_TooMany, i_TooMany⟩ := W.i_TooMany
  exact (.cons ⟨by rfl, by decide, .inl h_BlendError.1⟩ h_BlendError.2 rfl rfl (hsu_of fun a oe cls d pn fs pv_ hz hf hy =>
      (k_cons (s_set (i := 3) nd rfl (by first | exact .inl rfl | exact .inr rfl) (e_lst (a_cons (x_is hy hz hf (pv 2) i_BadDegree.2 (pe_glob (v := .ref i_a_BadDegree) (by rfl) i_BadDegree.1 rfl) (fun _ h => h) (by rfl) W.m_isinstance) (a_cons (x_is hy hz hf (pv 2) i_BadKnots.2 (pe_glob (v := .ref i_a_BadKnots) (by rfl) i_BadKnots.1 rfl) (fun _ h => h) (by rfl) W.m_isinstance) (a_cons (x_is hy hz hf (pv 2) i_BadNodes.2 (pe_glob (v := .ref i_a_BadNodes) (by rfl) i_BadNodes.1 rfl) (fun _ h => h) (by rfl) W.m_isinstance) (a_cons (x_is hy hz hf (pv 2) i_BadNumber.2 (pe_glob (v := .ref i_a_BadNumber) (by rfl) i_BadNumber.1 rfl) (fun _ h => h) (by rfl) W.m_isinstance) a_nil))))))
      (k_cons (s_set (i := 3) nd rfl (by first | exact .inl rfl | exact .inr rfl) (e_add (e_var (pv 3)) (e_lst (a_cons (x_is hy hz hf (pv 2) i_BadPieces.2 (pe_glob (v := .ref i_a_BadPieces) (by rfl) i_BadPieces.1 rfl) (fun _ h => h) (by rfl) W.m_isinstance) (a_cons (x_is hy hz hf (pv 2) i_BadPolynomial.2 (pe_glob (v := .ref i_a_BadPolynomial) (by rfl) i_BadPolynomial.1 rfl) (fun _ h => h) (by rfl) W.m_isinstance) (a_cons (x_is hy hz hf (pv 2) i_BadRatio.2 (pe_glob (v := .ref i_a_BadRatio) (by rfl) i_BadRatio.1 rfl) (fun _ h => h) (by rfl) W.m_isinstance) a_nil))))))
      (k_cons (s_expr (e_append (e_var (pv 3)) (a_cons (x_is hy hz hf (pv 2) i_TooMany.2 (pe_glob (v := .ref i_a_TooMany) (by rfl) i_TooMany.1 rfl) (fun _ h => h) (by rfl) W.m_isinstance) a_nil)))
      (k_cons (s_set (i := 4) nd rfl (by first | exact .inl rfl | exact .inr rfl) (e_lst (a_cons e_str (a_cons e_str (a_cons e_str (a_cons e_str (a_cons e_str (a_cons e_str (a_cons e_str (a_cons e_str a_nil))))))))))
      (k_cons (s_set (i := 1) nd rfl (by first | exact .inl rfl | exact .inr rfl) (e_ite (PW.pt (t_and (t_cmp (c_eqS hr) (e_countS hr (e_var (pv 3)) (a_cons e_bl a_nil)) e_int) (t_and1 (t_val (x_is hy hz hf (pv 2) W.iV (pe_bltn (v := .ty "ValueError") (by rfl) W.m_ValueError (by decide +kernel) rfl (by decide) (by decide)) (fun _ h => h) (by rfl) W.m_isinstance))))) (e_idx (e_var (pv 4)) (e_indexS hr (e_var (pv 3)) (a_cons e_bl a_nil))) e_str))
      (k_cons (s_if (t_cmp (c_inS hr) (e_var (pv 1)) (e_lst (a_cons e_str (a_cons e_str (a_cons e_str a_nil))))) (k_cons (s_set (i := 1) nd rfl (by first | exact .inl rfl | exact .inr rfl) (e_tup (a_cons (e_var (pv 1)) (a_cons (x_fld hy hz hf (pv 2)) a_nil))))
      k_nil) k_nil)
      (k_cons (s_if (t_cmp (c_eqS hr) (e_var (pv 1)) e_str) (k_cons (s_set (i := 1) nd rfl (by first | exact .inl rfl | exact .inr rfl) (e_tup (a_cons (e_var (pv 1)) (a_cons (x_fld hy hz hf (pv 2)) a_nil))))
      k_nil) k_nil)
      k_nil)))))))) .nil)
theorem d_law (W : Wld P mg K fn ca tb) (C : Cals P w K mg base fn ca tb k) {c0 P0 : Addr} (f : Addr) (cdv : Value) (A : Around) (outer : List Env) (s : Shared) (H : Hp) (E : XK) (TB : LamX.TabB base mg c0 P0) (hcode : cdv = .ref c0) (htb : tb = [(P0, ("law" : Str) ++ ".<locals>." ++ "<lambda>")]) (hr0 : Room (k + 4) (A.deeper (PyProof.Rows.envOfC "law" (C8.fnScope t_law) s.heap.objs.size f cdv))) :
    PSs (cxOf CX0 P w K mg base N_law "law" (C8.fnScope t_law) f cdv A outer s H E).nox (C8.fnBody t_law) (tK K (FA.oft fn ca tb) (callF G k) c_law_79) := by
  have nd := sc_law.nd
  have HC : CalmF calmC (callF G k) := calm_k k
  obtain ⟨_, h_BlendError⟩ := W.h_BlendError
  obtain ⟨i_a_BadDegree, i_BadDegree⟩ := W.i_BadDegree
  obtain ⟨i_a_BadKnots, i_BadKnots⟩ := W.i_BadKnots
  obtain ⟨i_a_BadNodes, i_BadNodes⟩ := W.i_BadNodes
  obtain ⟨i_a_BadNumber, i_BadNumber⟩ := W.i_BadNumber
  obtain ⟨i_a_BadPieces, i_BadPieces⟩ := W.i_BadPieces
  obtain ⟨i_a_BadPolynomial, i_BadPolynomial⟩ := W.i_BadPolynomial
  obtain ⟨i_a_BadRatio, i_BadRatio⟩ := W.i_BadRatio
  obtain ⟨i_a_TooMany, i_TooMany⟩ := W.i_TooMany
  have hr := hr0.mono (show k + 2 ≤ k + 4 by omega)
  have EW : ∀ {params : Arguments} {body : Expr} {scope : Scope} {lpos pos p : Pos} {ps : List Str} {b : CE}, LamG N_law (C8.fnScope t_law) scope ps → (LamG N_law (C8.fnScope t_law) scope ps → PB.LamMk (cxOf CX0 P w K mg base N_law "law" (C8.fnScope t_law) f cdv A outer s H E).nox params body scope lpos ps) →
      (∀ (A' : Around) (outer' : List Env) (s' : Shared) (H' : Hp) (E' : XK) (f' c_ : Addr), Room (k + 2) (A'.deeper (LamX.lamEnv (cxOf CX0 P w K mg base N_law "law" (C8.fnScope t_law) f cdv A outer s H E).nox scope s'.heap.objs.size f' c_)) → Takes (LamX.lamCx (cxOf CX0 P w K mg base N_law "law" (C8.fnScope t_law) f cdv A outer s H E).nox A' outer' s' H' E' scope f' c_) (WF E') → XC (LamX.lamCx (cxOf CX0 P w K mg base N_law "law" (C8.fnScope t_law) f cdv A outer s H E).nox A' outer' s' H' E' scope f' c_) (FA.oft fn ca tb) (callF G k) (WF E') body b) →
      L2.PE (cxOf CX0 P w K mg base N_law "law" (C8.fnScope t_law) f cdv A outer s H E).nox (.Call (.Name "_law_word" p) [.Lambda params body scope lpos] [] pos) (tE K (FA.oft fn ca tb) (callF G k) (.lam b w_law_79)) := fun L mk hb => by
    exact e_lam (X := (cxOf CX0 P w K mg base N_law "law" (C8.fnScope t_law) f cdv A outer s H E).nox) (fa := (FA.oft fn ca tb)) (cf := callF G k) (ch := (.cons [0, 1, 2, 5, 7, 11, 12, 15, 17] 2 (.cons (.asg (.v 3) (.lst (.cons (.xis 2 [7]) (.cons (.xis 2 [12]) (.cons (.xis 2 [5]) (.cons (.xis 2 [11]) .nil)))))) (.cons (.asg (.v 3) (.bin .add (.var 3) (.lst (.cons (.xis 2 [15]) (.cons (.xis 2 [2]) (.cons (.xis 2 [1]) .nil)))))) (.cons (.expr (.mth .append (.var 3) (.cons (.xis 2 [17]) .nil))) (.cons (.asg (.v 4) (.lst (.cons (.con (.str "degree")) (.cons (.con (.str "knots")) (.cons (.con (.str "nodes")) (.cons (.con (.str "number")) (.cons (.con (.str "pieces")) (.cons (.con (.str "polynomial")) (.cons (.con (.str "ratio")) (.cons (.con (.str "many")) .nil)))))))))) (.cons (.asg (.v 1) (.ite (.and (.cmp .eq (.mth .count (.var 3) (.cons (.con (.bl true)) .nil)) (.con (.int 1))) (.xis 2 [0, 1, 2, 5, 7, 11, 12, 15, 17])) (.idx (.var 4) (.mth .index (.var 3) (.cons (.con (.bl true)) .nil))) (.con (.str "other")))) (.cons (.ifs (.cmp .isIn (.var 1) (.lst (.cons (.con (.str "knots")) (.cons (.con (.str "nodes")) (.cons (.con (.str "pieces")) .nil))))) (.cons (.asg (.v 1) (.tup (.cons (.var 1) (.cons (.xfld 2 "index") .nil)))) .nil) .nil) (.cons (.ifs (.cmp .eq (.var 1) (.con (.str "many"))) (.cons (.asg (.v 1) (.tup (.cons (.var 1) (.cons (.xfld 2 "most") .nil)))) .nil) .nil) .nil))))))) .nil)) (j := k + 2) (st := t__law_word) (Ng := N__law_word) (a := "_law_work") (fnd := "_law_found") (i := 1) W.w_word rfl sc__law_word rfl rfl (by decide) rfl (.inl rfl)
      (fun g cdv A outer s H E hr => d__law_word W h_BlendError g cdv A outer s H E hr) (by rfl) TB hcode htb rfl hr0 L (mk L) (fun A outer s H E f c_ hr => hb A outer s H E f c_ hr (takes_of rfl rfl rfl rfl))
  exact (k_cons (s_set (i := 1) nd rfl (by first | exact .inl rfl | exact .inr rfl) (e_lst (a_cons (e_var (pv 0)) (a_cons e_int (a_cons e_int (a_cons e_int a_nil))))))
      (k_cons (s_asg (e_tup (a_cons (e_tup (a_cons e_int (a_cons e_int a_nil))) (a_cons (e_tup (a_cons e_int (a_cons e_int a_nil))) (a_cons (e_tup (a_cons e_int (a_cons e_int a_nil))) a_nil)))) (g_tup rfl (gs_cons (g_v (pg_name (i := 11) nd rfl (by first | exact .inl rfl | exact .inr rfl))) (gs_cons (g_v (pg_name (i := 12) nd rfl (by first | exact .inl rfl | exact .inr rfl))) (gs_cons (g_v (pg_name (i := 13) nd rfl (by first | exact .inl rfl | exact .inr rfl))) gs_nil)))))
      (k_cons (s_asg (e_tup (a_cons (e_tup (a_cons (e_var (pv 11)) (a_cons (e_var (pv 11)) (a_cons (e_var (pv 12)) (a_cons (e_var (pv 13)) a_nil))))) (a_cons (e_tup (a_cons (e_var (pv 11)) (a_cons (e_var (pv 12)) a_nil))) a_nil))) (g_tup rfl (gs_cons (g_v (pg_name (i := 14) nd rfl (by first | exact .inl rfl | exact .inr rfl))) (gs_cons (g_v (pg_name (i := 15) nd rfl (by first | exact .inl rfl | exact .inr rfl))) gs_nil))))
      (k_cons (s_set (i := 2) nd rfl (by first | exact .inl rfl | exact .inr rfl) (e_call C.c__law_pick hr (by rfl) (a_cons (e_var (pv 1)) (a_cons (e_lst (a_cons e_non (a_cons (e_neg e_int) (a_cons e_int (a_cons e_bl (a_cons e_str (a_cons (e_tup (a_cons e_int a_nil)) a_nil))))))) a_nil))))
      (k_cons (s_set (i := 3) nd rfl (by first | exact .inl rfl | exact .inr rfl) (e_lst (a_cons (EW (ps := []) (lamG_by (N := N_law) (sc := C8.fnScope t_law) (by decide +kernel)) (fun L => mk0 L rfl (fun _ _ _ _ _ _ => rfl)) fun A outer s H E f c_ hr tk =>
        (x_call HC C.x_basis_value tk hr (by rfl) (a_cons (e_var (pv 2)) (a_cons e_non (a_cons e_non (a_cons e_non a_nil)))))) a_nil)))
      (k_cons (s_expr (e_append (e_var (pv 3)) (a_cons (EW (ps := []) (lamG_by (N := N_law) (sc := C8.fnScope t_law) (by decide +kernel)) (fun L => mk0 L rfl (fun _ _ _ _ _ _ => rfl)) fun A outer s H E f c_ hr tk =>
        (x_call HC C.x_basis_pieces tk hr (by rfl) (a_cons (e_var (pv 2)) (a_cons e_non (a_cons e_non a_nil))))) a_nil)))
      (k_cons (s_expr (e_append (e_var (pv 3)) (a_cons (EW (ps := []) (lamG_by (N := N_law) (sc := C8.fnScope t_law) (by decide +kernel)) (fun L => mk0 L rfl (fun _ _ _ _ _ _ => rfl)) fun A outer s H E f c_ hr tk =>
        (x_call HC C.x_greville tk hr (by rfl) (a_cons (e_var (pv 2)) (a_cons e_non a_nil)))) a_nil)))
      (k_cons (s_expr (e_append (e_var (pv 3)) (a_cons (EW (ps := []) (lamG_by (N := N_law) (sc := C8.fnScope t_law) (by decide +kernel)) (fun L => mk0 L rfl (fun _ _ _ _ _ _ => rfl)) fun A outer s H E f c_ hr tk =>
        (x_call HC C.x_coefficients tk hr (by rfl) (a_cons (e_var (pv 15)) (a_cons (e_var (pv 2)) (a_cons e_non a_nil))))) a_nil)))
      (k_cons (s_expr (e_append (e_var (pv 3)) (a_cons (EW (ps := []) (lamG_by (N := N_law) (sc := C8.fnScope t_law) (by decide +kernel)) (fun L => mk0 L rfl (fun _ _ _ _ _ _ => rfl)) fun A outer s H E f c_ hr tk =>
        (x_call HC C.x_from_pieces tk hr (by rfl) (a_cons (e_var (pv 2)) (a_cons e_non a_nil)))) a_nil)))
      (k_cons (s_expr (e_append (e_var (pv 3)) (a_cons (EW (ps := []) (lamG_by (N := N_law) (sc := C8.fnScope t_law) (by decide +kernel)) (fun L => mk0 L rfl (fun _ _ _ _ _ _ => rfl)) fun A outer s H E f c_ hr tk =>
        (x_call HC C.x_space_size tk hr (by rfl) (a_cons (e_slc (e_var (pv 14)) (o_some e_int) o_none) (a_cons (e_var (pv 2)) (a_cons e_non a_nil))))) a_nil)))
      (k_cons (s_set (i := 3) nd rfl (by first | exact .inl rfl | exact .inr rfl) (e_add (e_var (pv 3)) (e_lst (a_cons (EW (ps := []) (lamG_by (N := N_law) (sc := C8.fnScope t_law) (by decide +kernel)) (fun L => mk0 L rfl (fun _ _ _ _ _ _ => rfl)) fun A outer s H E f c_ hr tk =>
        (x_call HC C.x_greville tk hr (by rfl) (a_cons e_int (a_cons e_non a_nil)))) (a_cons (EW (ps := ["_law_d"]) (lamG_by (N := N_law) (sc := C8.fnScope t_law) (by decide +kernel)) (fun L => mk1 L rfl rfl (fun _ _ _ _ _ _ _ => ⟨_, rfl, fun _ => rfl⟩)) fun A outer s H E f c_ hr tk =>
        (x_call HC C.x_coefficients tk hr (by rfl) (a_cons (e_var (pv 15)) (a_cons e_int (a_cons e_non a_nil))))) a_nil)))))
      (k_cons (s_if (t_cmp (c_ne hr) (e_var (pv 3)) (e_mul (e_lst (a_cons e_str a_nil)) e_int)) (k_cons (s_ret e_bl)
      k_nil) k_nil)
      (k_cons (s_set (i := 4) nd rfl (by first | exact .inl rfl | exact .inr rfl) (e_call C.c__law_pick hr (by rfl) (a_cons (e_var (pv 1)) (a_cons (e_lst (a_cons e_non (a_cons e_int (a_cons (e_tup (a_cons e_int (a_cons e_int a_nil))) (a_cons (e_tup (a_cons e_int (a_cons e_int a_nil))) (a_cons (e_tup (a_cons e_bl (a_cons e_int a_nil))) (a_cons (e_lst (a_cons e_int (a_cons e_int a_nil))) (a_cons e_str (a_cons e_dct a_nil))))))))) a_nil))))
      (k_cons (s_set (i := 5) nd rfl (by first | exact .inl rfl | exact .inr rfl) (e_lst (a_cons (e_tup (a_cons e_non (a_cons e_non a_nil))) (a_cons (e_tup (a_cons (e_tup a_nil) (a_cons e_non a_nil))) (a_cons (e_tup (a_cons (e_list (by rfl) W.m_list (a_cons (e_var (pv 14)) a_nil)) (a_cons e_non a_nil))) (a_cons (e_tup (a_cons (e_tup (a_cons (e_var (pv 11)) (a_cons (e_var (pv 12)) a_nil))) (a_cons e_non a_nil))) (a_cons (e_tup (a_cons (e_mul (e_tup (a_cons (e_var (pv 11)) a_nil)) e_int) (a_cons e_non a_nil))) a_nil)))))))
      (k_cons (s_set (i := 5) nd rfl (by first | exact .inl rfl | exact .inr rfl) (e_add (e_var (pv 5)) (e_lst (a_cons (e_tup (a_cons (e_tup (a_cons (e_var (pv 11)) (a_cons (e_var (pv 4)) (a_cons (e_var (pv 12)) (a_cons e_non a_nil))))) (a_cons e_int a_nil))) (a_cons (e_tup (a_cons (e_tup (a_cons (e_var (pv 12)) (a_cons (e_var (pv 11)) (a_cons (e_var (pv 13)) a_nil)))) (a_cons e_int a_nil))) (a_cons (e_tup (a_cons (e_tup (a_cons (e_var (pv 11)) (a_cons (e_var (pv 11)) (a_cons (e_var (pv 11)) (a_cons (e_var (pv 12)) a_nil))))) (a_cons e_int a_nil))) a_nil))))))
      (k_cons (s_expr (e_append (e_var (pv 5)) (a_cons (e_tup (a_cons (e_tup (a_cons (e_var (pv 11)) (a_cons (e_var (pv 12)) (a_cons (e_var (pv 12)) (a_cons (e_var (pv 12)) a_nil))))) (a_cons e_int a_nil))) a_nil)))
      (k_cons (s_asg (e_call C.c__law_pick hr (by rfl) (a_cons (e_var (pv 1)) (a_cons (e_var (pv 5)) a_nil))) (g_tup rfl (gs_cons (g_v (pg_name (i := 16) nd rfl (by first | exact .inl rfl | exact .inr rfl))) (gs_cons (g_v (pg_name (i := 17) nd rfl (by first | exact .inl rfl | exact .inr rfl))) gs_nil))))
      (k_cons (s_set (i := 3) nd rfl (by first | exact .inl rfl | exact .inr rfl) (e_lst (a_cons (EW (ps := []) (lamG_by (N := N_law) (sc := C8.fnScope t_law) (by decide +kernel)) (fun L => mk0 L rfl (fun _ _ _ _ _ _ => rfl)) fun A outer s H E f c_ hr tk =>
        (x_call HC C.x_basis_value tk hr (by rfl) (a_cons e_int (a_cons (e_var (pv 16)) (a_cons e_non (a_cons e_non a_nil)))))) a_nil)))
      (k_cons (s_expr (e_append (e_var (pv 3)) (a_cons (EW (ps := []) (lamG_by (N := N_law) (sc := C8.fnScope t_law) (by decide +kernel)) (fun L => mk0 L rfl (fun _ _ _ _ _ _ => rfl)) fun A outer s H E f c_ hr tk =>
        (x_call HC C.x_basis_pieces tk hr (by rfl) (a_cons e_int (a_cons (e_var (pv 16)) (a_cons e_non a_nil))))) a_nil)))
      (k_cons (s_set (i := 3) nd rfl (by first | exact .inl rfl | exact .inr rfl) (e_add (e_var (pv 3)) (e_lst (a_cons (EW (ps := []) (lamG_by (N := N_law) (sc := C8.fnScope t_law) (by decide +kernel)) (fun L => mk0 L rfl (fun _ _ _ _ _ _ => rfl)) fun A outer s H E f c_ hr tk =>
        (x_call HC C.x_greville tk hr (by rfl) (a_cons e_int (a_cons (e_var (pv 16)) a_nil)))) (a_cons (EW (ps := ["_law_f"]) (lamG_by (N := N_law) (sc := C8.fnScope t_law) (by decide +kernel)) (fun L => mk1 L rfl rfl (fun _ _ _ _ _ _ _ => ⟨_, rfl, fun _ => rfl⟩)) fun A outer s H E f c_ hr tk =>
        (x_call HC C.x_coefficients tk hr (by rfl) (a_cons (e_var (pv 15)) (a_cons e_int (a_cons (e_var (pv 16)) a_nil))))) a_nil)))))
      (k_cons (s_if (t_cmp (c_ne hr) (e_var (pv 3)) (e_mul (e_lst (a_cons (e_tup (a_cons e_str (a_cons (e_var (pv 17)) a_nil))) a_nil)) e_int)) (k_cons (s_ret e_bl)
      k_nil) k_nil)
      (k_cons (s_set (i := 6) nd rfl (by first | exact .inl rfl | exact .inr rfl) (e_call C.c__law_pick hr (by rfl) (a_cons (e_var (pv 1)) (a_cons (e_lst (a_cons e_non (a_cons (e_neg e_int) (a_cons e_int (a_cons e_bl (a_cons e_str (a_cons (e_tup (a_cons e_int a_nil)) a_nil))))))) a_nil))))
      (k_cons (s_set (i := 3) nd rfl (by first | exact .inl rfl | exact .inr rfl) (e_lst (a_cons (EW (ps := []) (lamG_by (N := N_law) (sc := C8.fnScope t_law) (by decide +kernel)) (fun L => mk0 L rfl (fun _ _ _ _ _ _ => rfl)) fun A outer s H E f c_ hr tk =>
        (x_call HC C.x_basis_value tk hr (by rfl) (a_cons e_int (a_cons (e_var (pv 14)) (a_cons (e_var (pv 6)) (a_cons e_non a_nil)))))) a_nil)))
      (k_cons (s_expr (e_append (e_var (pv 3)) (a_cons (EW (ps := []) (lamG_by (N := N_law) (sc := C8.fnScope t_law) (by decide +kernel)) (fun L => mk0 L rfl (fun _ _ _ _ _ _ => rfl)) fun A outer s H E f c_ hr tk =>
        (x_call HC C.x_basis_pieces tk hr (by rfl) (a_cons e_int (a_cons (e_var (pv 14)) (a_cons (e_var (pv 6)) a_nil))))) a_nil)))
      (k_cons (s_if (PW.pt (t_or (t_cmp (c_ne hr) (e_var (pv 3)) (e_mul (e_lst (a_cons e_str a_nil)) e_int)) (t_or1 (t_cmp (c_ne hr) (EW (ps := []) (lamG_by (N := N_law) (sc := C8.fnScope t_law) (by decide +kernel)) (fun L => mk0 L rfl (fun _ _ _ _ _ _ => rfl)) fun A outer s H E f c_ hr tk =>
        (x_call HC C.x_basis_value tk hr (by rfl) (a_cons e_int (a_cons (e_var (pv 14)) (a_cons e_int (a_cons (e_var (pv 4)) a_nil)))))) e_str)))) (k_cons (s_ret e_bl)
      k_nil) k_nil)
      (k_cons (s_set (i := 7) nd rfl (by first | exact .inl rfl | exact .inr rfl) (e_call C.c__law_pick hr (by rfl) (a_cons (e_var (pv 1)) (a_cons (e_lst (a_cons e_non (a_cons (e_tup (a_cons (e_tup (a_cons e_int (a_cons e_int a_nil))) a_nil)) (a_cons (e_lst (a_cons (e_tup (a_cons e_int (a_cons e_int a_nil))) a_nil)) (a_cons (e_tup (a_cons (e_var (pv 4)) a_nil)) a_nil))))) a_nil))))
      (k_cons (s_if (t_cmp (c_ne hr) (EW (ps := []) (lamG_by (N := N_law) (sc := C8.fnScope t_law) (by decide +kernel)) (fun L => mk0 L rfl (fun _ _ _ _ _ _ => rfl)) fun A outer s H E f c_ hr tk =>
        (x_call HC C.x_coefficients tk hr (by rfl) (a_cons (e_var (pv 7)) (a_cons e_non (a_cons e_non a_nil))))) e_str) (k_cons (s_ret e_bl)
      k_nil) k_nil)
      (k_cons (s_set (i := 8) nd rfl (by first | exact .inl rfl | exact .inr rfl) (e_tup (a_cons (e_tup (a_cons (e_var (pv 11)) (a_cons (e_var (pv 12)) a_nil))) (a_cons (e_var (pv 15)) a_nil))))
      (k_cons (s_set (i := 5) nd rfl (by first | exact .inl rfl | exact .inr rfl) (e_lst (a_cons (e_tup (a_cons e_non (a_cons e_non a_nil))) (a_cons (e_tup (a_cons (e_tup a_nil) (a_cons e_non a_nil))) (a_cons (e_tup (a_cons (e_lst (a_cons (e_var (pv 8)) a_nil)) (a_cons e_non a_nil))) (a_cons (e_tup (a_cons (e_mul (e_tup (a_cons (e_var (pv 8)) a_nil)) e_int) (a_cons e_non a_nil))) (a_cons (e_tup (a_cons (e_tup (a_cons (e_var (pv 8)) (a_cons e_non a_nil))) (a_cons e_int a_nil))) (a_cons (e_tup (a_cons (e_tup (a_cons (e_var (pv 8)) (a_cons (e_var (pv 8)) a_nil))) (a_cons e_int a_nil))) a_nil))))))))
      (k_cons (s_set (i := 5) nd rfl (by first | exact .inl rfl | exact .inr rfl) (e_add (e_var (pv 5)) (e_lst (a_cons (e_tup (a_cons (e_tup (a_cons (e_tup (a_cons (e_tup (a_cons (e_var (pv 12)) (a_cons (e_var (pv 11)) a_nil))) (a_cons (e_var (pv 15)) a_nil))) a_nil)) (a_cons e_int a_nil))) (a_cons (e_tup (a_cons (e_tup (a_cons (e_tup (a_cons (e_tup (a_cons (e_var (pv 11)) (a_cons (e_var (pv 12)) a_nil))) (a_cons (e_tup (a_cons (e_var (pv 11)) (a_cons (e_var (pv 11)) a_nil))) a_nil))) a_nil)) (a_cons e_int a_nil))) a_nil)))))
      (k_cons (s_expr (e_append (e_var (pv 5)) (a_cons (e_tup (a_cons (e_tup (a_cons (e_tup (a_cons (e_tup (a_cons (e_var (pv 11)) (a_cons (e_var (pv 12)) a_nil))) (a_cons (e_tup (a_cons (e_var (pv 12)) (a_cons (e_var (pv 12)) (a_cons (e_var (pv 12)) a_nil)))) a_nil))) a_nil)) (a_cons e_int a_nil))) a_nil)))
      (k_cons (s_asg (e_call C.c__law_pick hr (by rfl) (a_cons (e_var (pv 1)) (a_cons (e_add (e_var (pv 5)) (e_lst (a_cons (e_tup (a_cons (e_tup (a_cons (e_tup (a_cons (e_var (pv 11)) (a_cons (e_var (pv 12)) (a_cons (e_var (pv 15)) a_nil)))) a_nil)) (a_cons e_int a_nil))) (a_cons (e_tup (a_cons (e_tup (a_cons (e_tup (a_cons (e_tup (a_cons (e_var (pv 11)) (a_cons (e_var (pv 4)) a_nil))) (a_cons (e_var (pv 15)) a_nil))) a_nil)) (a_cons e_int a_nil))) a_nil)))) a_nil))) (g_tup rfl (gs_cons (g_v (pg_name (i := 18) nd rfl (by first | exact .inl rfl | exact .inr rfl))) (gs_cons (g_v (pg_name (i := 17) nd rfl (by first | exact .inl rfl | exact .inr rfl))) gs_nil))))
      (k_cons (s_if (t_cmp (c_ne hr) (EW (ps := []) (lamG_by (N := N_law) (sc := C8.fnScope t_law) (by decide +kernel)) (fun L => mk0 L rfl (fun _ _ _ _ _ _ => rfl)) fun A outer s H E f c_ hr tk =>
        (x_call HC C.x_from_pieces tk hr (by rfl) (a_cons e_int (a_cons (e_var (pv 18)) a_nil)))) (e_tup (a_cons e_str (a_cons (e_var (pv 17)) a_nil)))) (k_cons (s_ret e_bl)
      k_nil) k_nil)
      (k_cons (s_set (i := 9) nd rfl (by first | exact .inl rfl | exact .inr rfl) (e_tuple (by rfl) W.m_tuple (a_cons (e_comp [("_law_at", 20)] rfl nd (i_rng1 (by rfl) W.m_range (a_cons e_int a_nil)) (blkOk_by (by rfl)) (fun _ _ _ _ _ => (g_v (pg_name (i := 20) nd rfl (by first | exact .inl rfl | exact .inr rfl)))) (fun _ _ _ _ _ => w_nil) (fun _ _ _ _ _ => (e_tup (a_cons (e_tup (a_cons (e_tup (a_cons (e_var (pv 20)) (a_cons e_int a_nil))) (a_cons (e_tup (a_cons (e_add (e_var (pv 20)) e_int) (a_cons e_int a_nil))) a_nil))) (a_cons (e_ite (t_cmp (c_eq hr) (e_mod (e_var (pv 20)) e_int) e_int) (e_tup (a_cons (e_tup (a_cons e_int (a_cons e_int a_nil))) a_nil)) (e_tup a_nil)) a_nil))))) a_nil)))
      (k_cons (s_if (PW.pt (t_or (t_cmp (c_ne hr) (EW (ps := []) (lamG_by (N := N_law) (sc := C8.fnScope t_law) (by decide +kernel)) (fun L => mk0 L rfl (fun _ _ _ _ _ _ => rfl)) fun A outer s H E f c_ hr tk =>
        (x_call HC C.x_from_pieces tk hr (by rfl) (a_cons e_int (a_cons (e_var (pv 9)) a_nil)))) (e_tup (a_cons e_str (a_cons e_int a_nil)))) (t_or1 (t_cmp (c_ne hr) (e_len (by rfl) W.m_len (a_cons (e_idx (e_call C.c_from_pieces hr (by rfl) (a_cons e_int (a_cons (e_var (pv 9)) a_nil))) e_int) a_nil)) e_int)))) (k_cons (s_ret e_bl)
      k_nil) k_nil)
      (k_cons (s_set (i := 5) nd rfl (by first | exact .inl rfl | exact .inr rfl) (e_lst (a_cons (e_tup (a_cons e_non (a_cons e_non a_nil))) (a_cons (e_tup (a_cons (e_tup (a_cons (e_var (pv 11)) a_nil)) (a_cons e_non a_nil))) (a_cons (e_tup (a_cons (e_lst (a_cons (e_var (pv 11)) (a_cons (e_var (pv 12)) a_nil))) (a_cons e_non a_nil))) (a_cons (e_tup (a_cons (e_add (e_tup (a_cons (e_var (pv 11)) a_nil)) (e_mul (e_slc (e_var (pv 14)) (o_some e_int) o_none) e_int)) (a_cons e_non a_nil))) (a_cons (e_tup (a_cons (e_tup (a_cons (e_var (pv 11)) (a_cons (e_var (pv 4)) a_nil))) (a_cons e_int a_nil))) a_nil)))))))
      (k_cons (s_expr (e_append (e_var (pv 5)) (a_cons (e_tup (a_cons (e_tup (a_cons (e_var (pv 11)) (a_cons (e_var (pv 11)) a_nil))) (a_cons e_int a_nil))) a_nil)))
      (k_cons (s_asg (e_call C.c__law_pick hr (by rfl) (a_cons (e_var (pv 1)) (a_cons (e_add (e_var (pv 5)) (e_lst (a_cons (e_tup (a_cons (e_tup (a_cons (e_var (pv 12)) (a_cons (e_var (pv 11)) a_nil))) (a_cons e_int a_nil))) a_nil))) a_nil))) (g_tup rfl (gs_cons (g_v (pg_name (i := 19) nd rfl (by first | exact .inl rfl | exact .inr rfl))) (gs_cons (g_v (pg_name (i := 17) nd rfl (by first | exact .inl rfl | exact .inr rfl))) gs_nil))))
      (k_cons (s_if (t_cmp (c_ne hr) (EW (ps := []) (lamG_by (N := N_law) (sc := C8.fnScope t_law) (by decide +kernel)) (fun L => mk0 L rfl (fun _ _ _ _ _ _ => rfl)) fun A outer s H E f c_ hr tk =>
        (x_call HC C.x_space_size tk hr (by rfl) (a_cons (e_var (pv 19)) (a_cons e_non (a_cons e_non a_nil))))) (e_tup (a_cons e_str (a_cons (e_var (pv 17)) a_nil)))) (k_cons (s_ret e_bl)
      k_nil) k_nil)
      (k_cons (s_set (i := 10) nd rfl (by first | exact .inl rfl | exact .inr rfl) (e_call C.c__law_pick hr (by rfl) (a_cons (e_var (pv 1)) (a_cons (e_lst (a_cons e_non (a_cons (e_neg e_int) (a_cons e_int (a_cons e_bl (a_cons e_str a_nil)))))) a_nil))))
      (k_cons (s_ret (e_and (e_cmp (c_eq hr) (EW (ps := []) (lamG_by (N := N_law) (sc := C8.fnScope t_law) (by decide +kernel)) (fun L => mk0 L rfl (fun _ _ _ _ _ _ => rfl)) fun A outer s H E f c_ hr tk =>
        (x_call HC C.x_space_size tk hr (by rfl) (a_cons (e_tup (a_cons (e_var (pv 11)) (a_cons (e_var (pv 12)) a_nil))) (a_cons e_int (a_cons (e_var (pv 10)) a_nil))))) e_str) (e_one (e_cmp (c_eq hr) (e_call C.c_space_size hr (by rfl) (a_cons (e_tup (a_cons (e_var (pv 11)) (a_cons (e_var (pv 12)) a_nil))) (a_cons e_int (a_cons e_int a_nil)))) e_int))))
      k_nil)))))))))))))))))))))))))))))))))))))))))
theorem cals (W : Wld P mg K fn ca tb) (h_is_int : Has K mg "is_int" t_is_int P_is_int) (h_is_from : Has K mg "is_from" t_is_from P_is_from) (h_is_ratio : Has K mg "is_ratio" t_is_ratio P_is_ratio) (h_need_ratio : Has K mg "need_ratio" t_need_ratio P_need_ratio) (h_made : Has K mg "made" t_made P_made) (h_plus : Has K mg "plus" t_plus P_plus) (h_less : Has K mg "less" t_less P_less) (h_times : Has K mg "times" t_times P_times) (h_over : Has K mg "over" t_over P_over) (h_negative : Has K mg "negative" t_negative P_negative) (h_is_below : Has K mg "is_below" t_is_below P_is_below) (h_total : Has K mg "total" t_total P_total) (h_is_poly : Has K mg "is_poly" t_is_poly P_is_poly) (h_need_poly : Has K mg "need_poly" t_need_poly P_need_poly) (h_trimmed : Has K mg "trimmed" t_trimmed P_trimmed) (h_at : Has K mg "at" t_at P_at) (h_p_plus : Has K mg "p_plus" t_p_plus P_p_plus) (h_p_times : Has K mg "p_times" t_p_times P_p_times) (h_p_slope : Has K mg "p_slope" t_p_slope P_p_slope) (h_choose : Has K mg "choose" t_choose P_choose) (h_symmetric : Has K mg "symmetric" t_symmetric P_symmetric) (h_blossom_of : Has K mg "blossom_of" t_blossom_of P_blossom_of) (h_need_low : Has K mg "need_low" t_need_low P_need_low) (h_faults_of : Has K mg "faults_of" t_faults_of P_faults_of) (h_need_knots : Has K mg "need_knots" t_need_knots P_need_knots) (h_need_index : Has K mg "need_index" t_need_index P_need_index) (h_basis_at : Has K mg "basis_at" t_basis_at P_basis_at) (h_basis_poly : Has K mg "basis_poly" t_basis_poly P_basis_poly) (h_basis_value : Has K mg "basis_value" t_basis_value P_basis_value) (h_basis_pieces : Has K mg "basis_pieces" t_basis_pieces P_basis_pieces) (h_greville : Has K mg "greville" t_greville P_greville) (h_row_for : Has K mg "row_for" t_row_for P_row_for) (h_coefficients : Has K mg "coefficients" t_coefficients P_coefficients) (h_is_interval : Has K mg "is_interval" t_is_interval P_is_interval) (h_poly_over : Has K mg "poly_over" t_poly_over P_poly_over) (h_row_from : Has K mg "row_from" t_row_from P_row_from) (h_order_at : Has K mg "order_at" t_order_at P_order_at) (h_small : Has K mg "small" t_small P_small) (h_with_ends : Has K mg "with_ends" t_with_ends P_with_ends) (h_is_piece : Has K mg "is_piece" t_is_piece P_is_piece) (h_from_pieces : Has K mg "from_pieces" t_from_pieces P_from_pieces) (h_space_size : Has K mg "space_size" t_space_size P_space_size) (h__law_taken : Has K mg "_law_taken" t__law_taken P__law_taken) (h__law_pick : Has K mg "_law_pick" t__law_pick P__law_pick) (h_law : Has K mg "law" t_law P_law) (k : Nat) : Cals P w K mg base fn ca tb k := by
  induction k with
  | zero => exact ⟨h_is_int.zero, h_is_from.zero, h_is_ratio.zero, h_need_ratio.zero, h_made.zero, h_plus.zero, h_less.zero, h_times.zero, h_over.zero, h_negative.zero, h_is_below.zero, h_total.zero, h_is_poly.zero, h_need_poly.zero, h_trimmed.zero, h_at.zero, h_p_plus.zero, h_p_times.zero, h_p_slope.zero, h_choose.zero, h_symmetric.zero, h_blossom_of.zero, h_need_low.zero, h_faults_of.zero, h_need_knots.zero, h_need_index.zero, h_basis_at.zero, h_basis_poly.zero, h_basis_value.zero, h_basis_pieces.zero, h_greville.zero, h_row_for.zero, h_coefficients.zero, h_is_interval.zero, h_poly_over.zero, h_row_from.zero, h_order_at.zero, h_small.zero, h_with_ends.zero, h_is_piece.zero, h_from_pieces.zero, h_space_size.zero, h__law_taken.zero, h__law_pick.zero, h_need_ratio.zeroX, h_need_poly.zeroX, h_need_low.zeroX, h_need_knots.zeroX, h_need_index.zeroX, h_basis_value.zeroX, h_basis_pieces.zeroX, h_greville.zeroX, h_coefficients.zeroX, h_small.zeroX, h_with_ends.zeroX, h_from_pieces.zeroX, h_space_size.zeroX⟩
  | succ k ih => exact ⟨h_is_int.succ rfl sc_is_int rfl fun f cdv A outer s H E hr => d_is_int W ih f cdv A outer s H E hr,
      h_is_from.succ rfl sc_is_from rfl fun f cdv A outer s H E hr => d_is_from W ih f cdv A outer s H E hr,
      h_is_ratio.succ rfl sc_is_ratio rfl fun f cdv A outer s H E hr => d_is_ratio W ih f cdv A outer s H E hr,
      CalX.cal (h_need_ratio.succX rfl sc_need_ratio rfl fun f cdv A outer s H E hr => d_need_ratio W ih f cdv A outer s H E hr),
      h_made.succ rfl sc_made rfl fun f cdv A outer s H E hr => d_made W ih f cdv A outer s H E hr,
      h_plus.succ rfl sc_plus rfl fun f cdv A outer s H E hr => d_plus W ih f cdv A outer s H E hr,
      h_less.succ rfl sc_less rfl fun f cdv A outer s H E hr => d_less W ih f cdv A outer s H E hr,
      h_times.succ rfl sc_times rfl fun f cdv A outer s H E hr => d_times W ih f cdv A outer s H E hr,
      h_over.succ rfl sc_over rfl fun f cdv A outer s H E hr => d_over W ih f cdv A outer s H E hr,
      h_negative.succ rfl sc_negative rfl fun f cdv A outer s H E hr => d_negative W ih f cdv A outer s H E hr,
      h_is_below.succ rfl sc_is_below rfl fun f cdv A outer s H E hr => d_is_below W ih f cdv A outer s H E hr,
      h_total.succ rfl sc_total rfl fun f cdv A outer s H E hr => d_total W ih f cdv A outer s H E hr,
      h_is_poly.succ rfl sc_is_poly rfl fun f cdv A outer s H E hr => d_is_poly W ih f cdv A outer s H E hr,
      CalX.cal (h_need_poly.succX rfl sc_need_poly rfl fun f cdv A outer s H E hr => d_need_poly W ih f cdv A outer s H E hr),
      h_trimmed.succ rfl sc_trimmed rfl fun f cdv A outer s H E hr => d_trimmed W ih f cdv A outer s H E hr,
      h_at.succ rfl sc_at rfl fun f cdv A outer s H E hr => d_at W ih f cdv A outer s H E hr,
      h_p_plus.succ rfl sc_p_plus rfl fun f cdv A outer s H E hr => d_p_plus W ih f cdv A outer s H E hr,
      h_p_times.succ rfl sc_p_times rfl fun f cdv A outer s H E hr => d_p_times W ih f cdv A outer s H E hr,
      h_p_slope.succ rfl sc_p_slope rfl fun f cdv A outer s H E hr => d_p_slope W ih f cdv A outer s H E hr,
      h_choose.succ rfl sc_choose rfl fun f cdv A outer s H E hr => d_choose W ih f cdv A outer s H E hr,
      h_symmetric.succ rfl sc_symmetric rfl fun f cdv A outer s H E hr => d_symmetric W ih f cdv A outer s H E hr,
      h_blossom_of.succ rfl sc_blossom_of rfl fun f cdv A outer s H E hr => d_blossom_of W ih f cdv A outer s H E hr,
      CalX.cal (h_need_low.succX rfl sc_need_low rfl fun f cdv A outer s H E hr => d_need_low W ih f cdv A outer s H E hr),
      h_faults_of.succ rfl sc_faults_of rfl fun f cdv A outer s H E hr => d_faults_of W ih f cdv A outer s H E hr,
      CalX.cal (h_need_knots.succX rfl sc_need_knots rfl fun f cdv A outer s H E hr => d_need_knots W ih f cdv A outer s H E hr),
      CalX.cal (h_need_index.succX rfl sc_need_index rfl fun f cdv A outer s H E hr => d_need_index W ih f cdv A outer s H E hr),
      h_basis_at.succ rfl sc_basis_at rfl fun f cdv A outer s H E hr => d_basis_at W ih f cdv A outer s H E hr,
      h_basis_poly.succ rfl sc_basis_poly rfl fun f cdv A outer s H E hr => d_basis_poly W ih f cdv A outer s H E hr,
      CalX.cal (h_basis_value.succX rfl sc_basis_value rfl fun f cdv A outer s H E hr => d_basis_value W ih f cdv A outer s H E hr),
      CalX.cal (h_basis_pieces.succX rfl sc_basis_pieces rfl fun f cdv A outer s H E hr => d_basis_pieces W ih f cdv A outer s H E hr),
      CalX.cal (h_greville.succX rfl sc_greville rfl fun f cdv A outer s H E hr => d_greville W ih f cdv A outer s H E hr),
      h_row_for.succ rfl sc_row_for rfl fun f cdv A outer s H E hr => d_row_for W ih f cdv A outer s H E hr,
      CalX.cal (h_coefficients.succX rfl sc_coefficients rfl fun f cdv A outer s H E hr => d_coefficients W ih f cdv A outer s H E hr),
      h_is_interval.succ rfl sc_is_interval rfl fun f cdv A outer s H E hr => d_is_interval W ih f cdv A outer s H E hr,
      h_poly_over.succ rfl sc_poly_over rfl fun f cdv A outer s H E hr => d_poly_over W ih f cdv A outer s H E hr,
      h_row_from.succ rfl sc_row_from rfl fun f cdv A outer s H E hr => d_row_from W ih f cdv A outer s H E hr,
      h_order_at.succ rfl sc_order_at rfl fun f cdv A outer s H E hr => d_order_at W ih f cdv A outer s H E hr,
      CalX.cal (h_small.succX rfl sc_small rfl fun f cdv A outer s H E hr => d_small W ih f cdv A outer s H E hr),
      CalX.cal (h_with_ends.succX rfl sc_with_ends rfl fun f cdv A outer s H E hr => d_with_ends W ih f cdv A outer s H E hr),
      h_is_piece.succ rfl sc_is_piece rfl fun f cdv A outer s H E hr => d_is_piece W ih f cdv A outer s H E hr,
      CalX.cal (h_from_pieces.succX rfl sc_from_pieces rfl fun f cdv A outer s H E hr => d_from_pieces W ih f cdv A outer s H E hr),
      CalX.cal (h_space_size.succX rfl sc_space_size rfl fun f cdv A outer s H E hr => d_space_size W ih f cdv A outer s H E hr),
      h__law_taken.succ rfl sc__law_taken rfl fun f cdv A outer s H E hr => d__law_taken W ih f cdv A outer s H E hr,
      h__law_pick.succ rfl sc__law_pick rfl fun f cdv A outer s H E hr => d__law_pick W ih f cdv A outer s H E hr,
      h_need_ratio.succX rfl sc_need_ratio rfl fun f cdv A outer s H E hr => d_need_ratio W ih f cdv A outer s H E hr,
      h_need_poly.succX rfl sc_need_poly rfl fun f cdv A outer s H E hr => d_need_poly W ih f cdv A outer s H E hr,
      h_need_low.succX rfl sc_need_low rfl fun f cdv A outer s H E hr => d_need_low W ih f cdv A outer s H E hr,
      h_need_knots.succX rfl sc_need_knots rfl fun f cdv A outer s H E hr => d_need_knots W ih f cdv A outer s H E hr,
      h_need_index.succX rfl sc_need_index rfl fun f cdv A outer s H E hr => d_need_index W ih f cdv A outer s H E hr,
      h_basis_value.succX rfl sc_basis_value rfl fun f cdv A outer s H E hr => d_basis_value W ih f cdv A outer s H E hr,
      h_basis_pieces.succX rfl sc_basis_pieces rfl fun f cdv A outer s H E hr => d_basis_pieces W ih f cdv A outer s H E hr,
      h_greville.succX rfl sc_greville rfl fun f cdv A outer s H E hr => d_greville W ih f cdv A outer s H E hr,
      h_coefficients.succX rfl sc_coefficients rfl fun f cdv A outer s H E hr => d_coefficients W ih f cdv A outer s H E hr,
      h_small.succX rfl sc_small rfl fun f cdv A outer s H E hr => d_small W ih f cdv A outer s H E hr,
      h_with_ends.succX rfl sc_with_ends rfl fun f cdv A outer s H E hr => d_with_ends W ih f cdv A outer s H E hr,
      h_from_pieces.succX rfl sc_from_pieces rfl fun f cdv A outer s H E hr => d_from_pieces W ih f cdv A outer s H E hr,
      h_space_size.succX rfl sc_space_size rfl fun f cdv A outer s H E hr => d_space_size W ih f cdv A outer s H E hr⟩
end
theorem law_end {P : Program} {w : World} {K : PySem.W.Frag} {h : Heap} {mg : Str → Option Value} {fn ca : Nat → Option Addr} {tb : List (Addr × Str)} {fa : Addr} (KX : K.In h) (Gm : h.Ns mainGlobals mg) (hgl : (Fx.glo "law").ok K = true) (hmg : mg "law" = some (.ref fa)) (htb : tb = [((He.cT K ("law", none)).2, ("law" : Str) ++ ".<locals>." ++ "<lambda>")]) (W : Wld P mg K fn ca tb) (h_is_int : Has K mg "is_int" t_is_int P_is_int) (h_is_from : Has K mg "is_from" t_is_from P_is_from) (h_is_ratio : Has K mg "is_ratio" t_is_ratio P_is_ratio) (h_need_ratio : Has K mg "need_ratio" t_need_ratio P_need_ratio) (h_made : Has K mg "made" t_made P_made) (h_plus : Has K mg "plus" t_plus P_plus) (h_less : Has K mg "less" t_less P_less) (h_times : Has K mg "times" t_times P_times) (h_over : Has K mg "over" t_over P_over) (h_negative : Has K mg "negative" t_negative P_negative) (h_is_below : Has K mg "is_below" t_is_below P_is_below) (h_total : Has K mg "total" t_total P_total) (h_is_poly : Has K mg "is_poly" t_is_poly P_is_poly) (h_need_poly : Has K mg "need_poly" t_need_poly P_need_poly) (h_trimmed : Has K mg "trimmed" t_trimmed P_trimmed) (h_at : Has K mg "at" t_at P_at) (h_p_plus : Has K mg "p_plus" t_p_plus P_p_plus) (h_p_times : Has K mg "p_times" t_p_times P_p_times) (h_p_slope : Has K mg "p_slope" t_p_slope P_p_slope) (h_choose : Has K mg "choose" t_choose P_choose) (h_symmetric : Has K mg "symmetric" t_symmetric P_symmetric) (h_blossom_of : Has K mg "blossom_of" t_blossom_of P_blossom_of) (h_need_low : Has K mg "need_low" t_need_low P_need_low) (h_faults_of : Has K mg "faults_of" t_faults_of P_faults_of) (h_need_knots : Has K mg "need_knots" t_need_knots P_need_knots) (h_need_index : Has K mg "need_index" t_need_index P_need_index) (h_basis_at : Has K mg "basis_at" t_basis_at P_basis_at) (h_basis_poly : Has K mg "basis_poly" t_basis_poly P_basis_poly) (h_basis_value : Has K mg "basis_value" t_basis_value P_basis_value) (h_basis_pieces : Has K mg "basis_pieces" t_basis_pieces P_basis_pieces) (h_greville : Has K mg "greville" t_greville P_greville) (h_row_for : Has K mg "row_for" t_row_for P_row_for) (h_coefficients : Has K mg "coefficients" t_coefficients P_coefficients) (h_is_interval : Has K mg "is_interval" t_is_interval P_is_interval) (h_poly_over : Has K mg "poly_over" t_poly_over P_poly_over) (h_row_from : Has K mg "row_from" t_row_from P_row_from) (h_order_at : Has K mg "order_at" t_order_at P_order_at) (h_small : Has K mg "small" t_small P_small) (h_with_ends : Has K mg "with_ends" t_with_ends P_with_ends) (h_is_piece : Has K mg "is_piece" t_is_piece P_is_piece) (h_from_pieces : Has K mg "from_pieces" t_from_pieces P_from_pieces) (h_space_size : Has K mg "space_size" t_space_size P_space_size) (h__law_taken : Has K mg "_law_taken" t__law_taken P__law_taken) (h__law_pick : Has K mg "_law_pick" t__law_pick P__law_pick) (h_law : Has K mg "law" t_law P_law) :
    ∃ fd : FuncData, (∀ (s : Shared) (u : Value), BindsTo s fd ⟨[u], []⟩ [("_law_script", u)]) ∧ ∀ base : Heap, K.In base → base.Ns mainGlobals mg → LamX.TabB base mg (He.cT K ("law", none)).1 (He.cT K ("law", none)).2 → FnOk P w K mg base CX0 44 fa fd ["_law_script"] (spI K (FA.oft fn ca tb) G 40 440) := by
  obtain ⟨f, fd, F, b⟩ := h_law.ex
  have e := hmg.symm.trans F.mgf
  cases e
  refine ⟨fd, fun s u => .of_eq (b [u] rfl), fun base _ _ TB => ?_⟩
  exact fn_succC rfl F.fn (code_of KX Gm hgl F) sc_law rfl (fun A outer s H E hr => d_law W (cals W h_is_int h_is_from h_is_ratio h_need_ratio h_made h_plus h_less h_times h_over h_negative h_is_below h_total h_is_poly h_need_poly h_trimmed h_at h_p_plus h_p_times h_p_slope h_choose h_symmetric h_blossom_of h_need_low h_faults_of h_need_knots h_need_index h_basis_at h_basis_poly h_basis_value h_basis_pieces h_greville h_row_for h_coefficients h_is_interval h_poly_over h_row_from h_order_at h_small h_with_ends h_is_piece h_from_pieces h_space_size h__law_taken h__law_pick h_law 39) fa _ A outer s H E TB rfl htb hr)
theorem hfacts {w : World} {K : PySem.W.Frag} {h : Heap} {mg : Str → Option Value} {fa : Addr} (KX : K.In h) (G : h.Ns mainGlobals mg) (hmg : mg "law" = some (.ref fa)) (c : SaysP hfx hfn hini hiv K) :
    ∃ fd : FuncData, (∀ (s : Shared) (u : Value), BindsTo s fd ⟨[u], []⟩ [("_law_script", u)]) ∧ ∀ base : Heap, K.In base → base.Ns mainGlobals mg → LamX.TabB base mg (He.cT K ("law", none)).1 (He.cT K ("law", none)).2 → FnOk PySem.Challenge.pw_blendcurves_k38_knots_refused w K mg base CX0 44 fa fd ["_law_script"] (spI K (FA.oft (fun _ => none) (fvs K CLL) [((He.cT K ("law", none)).2, ("law" : Str) ++ ".<locals>." ++ "<lambda>")]) PB.G 40 440) :=
  law_end (P := PySem.Challenge.pw_blendcurves_k38_knots_refused) (fn := (fun _ => none)) (ca := (fvs K CLL)) KX G (c.fact 126 rfl) hmg rfl
    ⟨fx_free KX G (c.fact 0 rfl),
      fx_free KX G (c.fact 1 rfl),
      fx_free KX G (c.fact 2 rfl),
      fx_free KX G (c.fact 3 rfl),
      fx_gcd KX G (c.fact 4 rfl),
      fx_free KX G (c.fact 5 rfl),
      fx_free KX G (c.fact 6 rfl),
      fx_free KX G (c.fact 7 rfl),
      fx_free KX G (c.fact 8 rfl),
      fx_free KX G (c.fact 9 rfl),
      fx_free KX G (c.fact 10 rfl),
      fx_free KX G (c.fact 11 rfl),
      fx_free KX G (c.fact 12 rfl),
      fx_con KX G (c.fact 13 rfl),
      fx_con KX G (c.fact 14 rfl),
      fx_con KX G (c.fact 15 rfl),
      fx_con KX G (c.fact 16 rfl),
      fx_con KX G (c.fact 17 rfl),
      fx_con KX G (c.fact 18 rfl),
      fx_con KX G (c.fact 19 rfl),
      fx_e0 KX G (c.fact 20 rfl) rfl,
      fx_e0 KX G (c.fact 21 rfl) rfl,
      fx_e1 KX G (c.fact 22 rfl) rfl (Option.some.inj (c.iniAt 0 rfl)) rfl rfl (by decide +kernel) rfl rfl rfl (fun env => ⟨_, rfl⟩) (fun _ _ _ _ _ _ _ us hl => match us, hl with | [_, _], _ => rfl) rfl rfl,
      fx_e0 KX G (c.fact 23 rfl) rfl,
      fx_e0 KX G (c.fact 24 rfl) rfl,
      fx_e1 KX G (c.fact 25 rfl) rfl (Option.some.inj (c.iniAt 1 rfl)) rfl rfl (by decide +kernel) rfl rfl rfl (fun env => ⟨_, rfl⟩) (fun _ _ _ _ _ _ _ us hl => match us, hl with | [_, _], _ => rfl) rfl rfl,
      fx_e1 KX G (c.fact 26 rfl) rfl (Option.some.inj (c.iniAt 2 rfl)) rfl rfl (by decide +kernel) rfl rfl rfl (fun env => ⟨_, rfl⟩) (fun _ _ _ _ _ _ _ us hl => match us, hl with | [_, _], _ => rfl) rfl rfl,
      fx_e1 KX G (c.fact 27 rfl) rfl (Option.some.inj (c.iniAt 3 rfl)) rfl rfl (by decide +kernel) rfl rfl rfl (fun env => ⟨_, rfl⟩) (fun _ _ _ _ _ _ _ us hl => match us, hl with | [_, _], _ => rfl) rfl rfl,
      fx_hdl KX G (c.fact 28 rfl) (fx_sub (c.fact 28 rfl) (c.fact 43 rfl) (c.fact 44 rfl) (fx_sub (c.fact 28 rfl) (c.fact 41 rfl) (c.fact 42 rfl) (fx_sub (c.fact 28 rfl) (c.fact 39 rfl) (c.fact 40 rfl) (fx_sub (c.fact 28 rfl) (c.fact 37 rfl) (c.fact 38 rfl) (fx_sub (c.fact 28 rfl) (c.fact 35 rfl) (c.fact 36 rfl) (fx_sub (c.fact 28 rfl) (c.fact 33 rfl) (c.fact 34 rfl) (fx_sub (c.fact 28 rfl) (c.fact 31 rfl) (c.fact 32 rfl) (fx_sub (c.fact 28 rfl) (c.fact 29 rfl) (c.fact 30 rfl) exml_nil)))))))),
      ⟨_, PySem.W.mg_of KX G (He.eqO_ok (c.fact 37 rfl)), (isx_cons (He.eqO_ok (c.fact 43 rfl)) (fx_isx (c.fact 60 rfl)) (fx_kit (c.fact 59 rfl)) (isx_cons (He.eqO_ok (c.fact 41 rfl)) (fx_isx (c.fact 58 rfl)) (fx_kit (c.fact 57 rfl)) (isx_cons (He.eqO_ok (c.fact 39 rfl)) (fx_isx (c.fact 56 rfl)) (fx_kit (c.fact 55 rfl)) (isx_cons (He.eqO_ok (c.fact 37 rfl)) (fx_isx (c.fact 54 rfl)) (fx_kit (c.fact 53 rfl)) (isx_cons (He.eqO_ok (c.fact 35 rfl)) (fx_isx (c.fact 52 rfl)) (fx_kit (c.fact 51 rfl)) (isx_cons (He.eqO_ok (c.fact 33 rfl)) (fx_isx (c.fact 50 rfl)) (fx_kit (c.fact 49 rfl)) (isx_cons (He.eqO_ok (c.fact 31 rfl)) (fx_isx (c.fact 48 rfl)) (fx_kit (c.fact 47 rfl)) (isx_cons (He.eqO_ok (c.fact 29 rfl)) (fx_isx (c.fact 46 rfl)) (fx_kit (c.fact 45 rfl)) isx_nil))))))))⟩,
      ⟨_, PySem.W.mg_of KX G (He.eqO_ok (c.fact 33 rfl)), (isx_cons (He.eqO_ok (c.fact 43 rfl)) (fx_isx (c.fact 60 rfl)) (fx_kit (c.fact 68 rfl)) (isx_cons (He.eqO_ok (c.fact 41 rfl)) (fx_isx (c.fact 58 rfl)) (fx_kit (c.fact 67 rfl)) (isx_cons (He.eqO_ok (c.fact 39 rfl)) (fx_isx (c.fact 56 rfl)) (fx_kit (c.fact 66 rfl)) (isx_cons (He.eqO_ok (c.fact 37 rfl)) (fx_isx (c.fact 54 rfl)) (fx_kit (c.fact 65 rfl)) (isx_cons (He.eqO_ok (c.fact 35 rfl)) (fx_isx (c.fact 52 rfl)) (fx_kit (c.fact 64 rfl)) (isx_cons (He.eqO_ok (c.fact 33 rfl)) (fx_isx (c.fact 50 rfl)) (fx_kit (c.fact 63 rfl)) (isx_cons (He.eqO_ok (c.fact 31 rfl)) (fx_isx (c.fact 48 rfl)) (fx_kit (c.fact 62 rfl)) (isx_cons (He.eqO_ok (c.fact 29 rfl)) (fx_isx (c.fact 46 rfl)) (fx_kit (c.fact 61 rfl)) isx_nil))))))))⟩,
      ⟨_, PySem.W.mg_of KX G (He.eqO_ok (c.fact 39 rfl)), (isx_cons (He.eqO_ok (c.fact 43 rfl)) (fx_isx (c.fact 60 rfl)) (fx_kit (c.fact 76 rfl)) (isx_cons (He.eqO_ok (c.fact 41 rfl)) (fx_isx (c.fact 58 rfl)) (fx_kit (c.fact 75 rfl)) (isx_cons (He.eqO_ok (c.fact 39 rfl)) (fx_isx (c.fact 56 rfl)) (fx_kit (c.fact 74 rfl)) (isx_cons (He.eqO_ok (c.fact 37 rfl)) (fx_isx (c.fact 54 rfl)) (fx_kit (c.fact 73 rfl)) (isx_cons (He.eqO_ok (c.fact 35 rfl)) (fx_isx (c.fact 52 rfl)) (fx_kit (c.fact 72 rfl)) (isx_cons (He.eqO_ok (c.fact 33 rfl)) (fx_isx (c.fact 50 rfl)) (fx_kit (c.fact 71 rfl)) (isx_cons (He.eqO_ok (c.fact 31 rfl)) (fx_isx (c.fact 48 rfl)) (fx_kit (c.fact 70 rfl)) (isx_cons (He.eqO_ok (c.fact 29 rfl)) (fx_isx (c.fact 46 rfl)) (fx_kit (c.fact 69 rfl)) isx_nil))))))))⟩,
      ⟨_, PySem.W.mg_of KX G (He.eqO_ok (c.fact 35 rfl)), (isx_cons (He.eqO_ok (c.fact 43 rfl)) (fx_isx (c.fact 60 rfl)) (fx_kit (c.fact 84 rfl)) (isx_cons (He.eqO_ok (c.fact 41 rfl)) (fx_isx (c.fact 58 rfl)) (fx_kit (c.fact 83 rfl)) (isx_cons (He.eqO_ok (c.fact 39 rfl)) (fx_isx (c.fact 56 rfl)) (fx_kit (c.fact 82 rfl)) (isx_cons (He.eqO_ok (c.fact 37 rfl)) (fx_isx (c.fact 54 rfl)) (fx_kit (c.fact 81 rfl)) (isx_cons (He.eqO_ok (c.fact 35 rfl)) (fx_isx (c.fact 52 rfl)) (fx_kit (c.fact 80 rfl)) (isx_cons (He.eqO_ok (c.fact 33 rfl)) (fx_isx (c.fact 50 rfl)) (fx_kit (c.fact 79 rfl)) (isx_cons (He.eqO_ok (c.fact 31 rfl)) (fx_isx (c.fact 48 rfl)) (fx_kit (c.fact 78 rfl)) (isx_cons (He.eqO_ok (c.fact 29 rfl)) (fx_isx (c.fact 46 rfl)) (fx_kit (c.fact 77 rfl)) isx_nil))))))))⟩,
      ⟨_, PySem.W.mg_of KX G (He.eqO_ok (c.fact 31 rfl)), (isx_cons (He.eqO_ok (c.fact 43 rfl)) (fx_isx (c.fact 60 rfl)) (fx_kit (c.fact 92 rfl)) (isx_cons (He.eqO_ok (c.fact 41 rfl)) (fx_isx (c.fact 58 rfl)) (fx_kit (c.fact 91 rfl)) (isx_cons (He.eqO_ok (c.fact 39 rfl)) (fx_isx (c.fact 56 rfl)) (fx_kit (c.fact 90 rfl)) (isx_cons (He.eqO_ok (c.fact 37 rfl)) (fx_isx (c.fact 54 rfl)) (fx_kit (c.fact 89 rfl)) (isx_cons (He.eqO_ok (c.fact 35 rfl)) (fx_isx (c.fact 52 rfl)) (fx_kit (c.fact 88 rfl)) (isx_cons (He.eqO_ok (c.fact 33 rfl)) (fx_isx (c.fact 50 rfl)) (fx_kit (c.fact 87 rfl)) (isx_cons (He.eqO_ok (c.fact 31 rfl)) (fx_isx (c.fact 48 rfl)) (fx_kit (c.fact 86 rfl)) (isx_cons (He.eqO_ok (c.fact 29 rfl)) (fx_isx (c.fact 46 rfl)) (fx_kit (c.fact 85 rfl)) isx_nil))))))))⟩,
      ⟨_, PySem.W.mg_of KX G (He.eqO_ok (c.fact 41 rfl)), (isx_cons (He.eqO_ok (c.fact 43 rfl)) (fx_isx (c.fact 60 rfl)) (fx_kit (c.fact 100 rfl)) (isx_cons (He.eqO_ok (c.fact 41 rfl)) (fx_isx (c.fact 58 rfl)) (fx_kit (c.fact 99 rfl)) (isx_cons (He.eqO_ok (c.fact 39 rfl)) (fx_isx (c.fact 56 rfl)) (fx_kit (c.fact 98 rfl)) (isx_cons (He.eqO_ok (c.fact 37 rfl)) (fx_isx (c.fact 54 rfl)) (fx_kit (c.fact 97 rfl)) (isx_cons (He.eqO_ok (c.fact 35 rfl)) (fx_isx (c.fact 52 rfl)) (fx_kit (c.fact 96 rfl)) (isx_cons (He.eqO_ok (c.fact 33 rfl)) (fx_isx (c.fact 50 rfl)) (fx_kit (c.fact 95 rfl)) (isx_cons (He.eqO_ok (c.fact 31 rfl)) (fx_isx (c.fact 48 rfl)) (fx_kit (c.fact 94 rfl)) (isx_cons (He.eqO_ok (c.fact 29 rfl)) (fx_isx (c.fact 46 rfl)) (fx_kit (c.fact 93 rfl)) isx_nil))))))))⟩,
      ⟨_, PySem.W.mg_of KX G (He.eqO_ok (c.fact 43 rfl)), (isx_cons (He.eqO_ok (c.fact 43 rfl)) (fx_isx (c.fact 60 rfl)) (fx_kit (c.fact 108 rfl)) (isx_cons (He.eqO_ok (c.fact 41 rfl)) (fx_isx (c.fact 58 rfl)) (fx_kit (c.fact 107 rfl)) (isx_cons (He.eqO_ok (c.fact 39 rfl)) (fx_isx (c.fact 56 rfl)) (fx_kit (c.fact 106 rfl)) (isx_cons (He.eqO_ok (c.fact 37 rfl)) (fx_isx (c.fact 54 rfl)) (fx_kit (c.fact 105 rfl)) (isx_cons (He.eqO_ok (c.fact 35 rfl)) (fx_isx (c.fact 52 rfl)) (fx_kit (c.fact 104 rfl)) (isx_cons (He.eqO_ok (c.fact 33 rfl)) (fx_isx (c.fact 50 rfl)) (fx_kit (c.fact 103 rfl)) (isx_cons (He.eqO_ok (c.fact 31 rfl)) (fx_isx (c.fact 48 rfl)) (fx_kit (c.fact 102 rfl)) (isx_cons (He.eqO_ok (c.fact 29 rfl)) (fx_isx (c.fact 46 rfl)) (fx_kit (c.fact 101 rfl)) isx_nil))))))))⟩,
      ⟨_, PySem.W.mg_of KX G (He.eqO_ok (c.fact 29 rfl)), (isx_cons (He.eqO_ok (c.fact 43 rfl)) (fx_isx (c.fact 60 rfl)) (fx_kit (c.fact 116 rfl)) (isx_cons (He.eqO_ok (c.fact 41 rfl)) (fx_isx (c.fact 58 rfl)) (fx_kit (c.fact 115 rfl)) (isx_cons (He.eqO_ok (c.fact 39 rfl)) (fx_isx (c.fact 56 rfl)) (fx_kit (c.fact 114 rfl)) (isx_cons (He.eqO_ok (c.fact 37 rfl)) (fx_isx (c.fact 54 rfl)) (fx_kit (c.fact 113 rfl)) (isx_cons (He.eqO_ok (c.fact 35 rfl)) (fx_isx (c.fact 52 rfl)) (fx_kit (c.fact 112 rfl)) (isx_cons (He.eqO_ok (c.fact 33 rfl)) (fx_isx (c.fact 50 rfl)) (fx_kit (c.fact 111 rfl)) (isx_cons (He.eqO_ok (c.fact 31 rfl)) (fx_isx (c.fact 48 rfl)) (fx_kit (c.fact 110 rfl)) (isx_cons (He.eqO_ok (c.fact 29 rfl)) (fx_isx (c.fact 46 rfl)) (fx_kit (c.fact 109 rfl)) isx_nil))))))))⟩,
      (isx_cons (He.eqO_ok (c.fact 43 rfl)) (fx_isx (c.fact 60 rfl)) (fx_kitV (c.fact 124 rfl)) (isx_cons (He.eqO_ok (c.fact 41 rfl)) (fx_isx (c.fact 58 rfl)) (fx_kitV (c.fact 123 rfl)) (isx_cons (He.eqO_ok (c.fact 39 rfl)) (fx_isx (c.fact 56 rfl)) (fx_kitV (c.fact 122 rfl)) (isx_cons (He.eqO_ok (c.fact 37 rfl)) (fx_isx (c.fact 54 rfl)) (fx_kitV (c.fact 121 rfl)) (isx_cons (He.eqO_ok (c.fact 35 rfl)) (fx_isx (c.fact 52 rfl)) (fx_kitV (c.fact 120 rfl)) (isx_cons (He.eqO_ok (c.fact 33 rfl)) (fx_isx (c.fact 50 rfl)) (fx_kitV (c.fact 119 rfl)) (isx_cons (He.eqO_ok (c.fact 31 rfl)) (fx_isx (c.fact 48 rfl)) (fx_kitV (c.fact 118 rfl)) (isx_cons (He.eqO_ok (c.fact 29 rfl)) (fx_isx (c.fact 46 rfl)) (fx_kitV (c.fact 117 rfl)) isx_nil)))))))),
      (fx_has (n := 0) (st := t__law_word) KX G (c.fact 125 rfl) (c.defB 45 rfl).1 (c.defB 45 rfl).2 (fun _ _ _ _ _ _ us hl => match us, hl with | [_], _ => rfl))⟩
    (fx_has (n := 0) (st := t_is_int) KX G (c.fact 127 rfl) (c.defB 0 rfl).1 (c.defB 0 rfl).2 (fun _ _ _ _ _ _ us hl => match us, hl with | [_], _ => rfl))
    (fx_has (n := 0) (st := t_is_from) KX G (c.fact 128 rfl) (c.defB 1 rfl).1 (c.defB 1 rfl).2 (fun _ _ _ _ _ _ us hl => match us, hl with | [_, _, _], _ => rfl))
    (fx_has (n := 0) (st := t_is_ratio) KX G (c.fact 129 rfl) (c.defB 2 rfl).1 (c.defB 2 rfl).2 (fun _ _ _ _ _ _ us hl => match us, hl with | [_], _ => rfl))
    (fx_has (n := 0) (st := t_need_ratio) KX G (c.fact 130 rfl) (c.defB 3 rfl).1 (c.defB 3 rfl).2 (fun _ _ _ _ _ _ us hl => match us, hl with | [_], _ => rfl))
    (fx_has (n := 0) (st := t_made) KX G (c.fact 131 rfl) (c.defB 4 rfl).1 (c.defB 4 rfl).2 (fun _ _ _ _ _ _ us hl => match us, hl with | [_, _], _ => rfl))
    (fx_has (n := 0) (st := t_plus) KX G (c.fact 132 rfl) (c.defB 5 rfl).1 (c.defB 5 rfl).2 (fun _ _ _ _ _ _ us hl => match us, hl with | [_, _], _ => rfl))
    (fx_has (n := 0) (st := t_less) KX G (c.fact 133 rfl) (c.defB 6 rfl).1 (c.defB 6 rfl).2 (fun _ _ _ _ _ _ us hl => match us, hl with | [_, _], _ => rfl))
    (fx_has (n := 0) (st := t_times) KX G (c.fact 134 rfl) (c.defB 7 rfl).1 (c.defB 7 rfl).2 (fun _ _ _ _ _ _ us hl => match us, hl with | [_, _], _ => rfl))
    (fx_has (n := 0) (st := t_over) KX G (c.fact 135 rfl) (c.defB 8 rfl).1 (c.defB 8 rfl).2 (fun _ _ _ _ _ _ us hl => match us, hl with | [_, _], _ => rfl))
    (fx_has (n := 0) (st := t_negative) KX G (c.fact 136 rfl) (c.defB 9 rfl).1 (c.defB 9 rfl).2 (fun _ _ _ _ _ _ us hl => match us, hl with | [_], _ => rfl))
    (fx_has (n := 0) (st := t_is_below) KX G (c.fact 137 rfl) (c.defB 10 rfl).1 (c.defB 10 rfl).2 (fun _ _ _ _ _ _ us hl => match us, hl with | [_, _], _ => rfl))
    (fx_has (n := 0) (st := t_total) KX G (c.fact 138 rfl) (c.defB 11 rfl).1 (c.defB 11 rfl).2 (fun _ _ _ _ _ _ us hl => match us, hl with | [_], _ => rfl))
    (fx_has (n := 0) (st := t_is_poly) KX G (c.fact 139 rfl) (c.defB 12 rfl).1 (c.defB 12 rfl).2 (fun _ _ _ _ _ _ us hl => match us, hl with | [_], _ => rfl))
    (fx_has (n := 0) (st := t_need_poly) KX G (c.fact 140 rfl) (c.defB 13 rfl).1 (c.defB 13 rfl).2 (fun _ _ _ _ _ _ us hl => match us, hl with | [_], _ => rfl))
    (fx_has (n := 0) (st := t_trimmed) KX G (c.fact 141 rfl) (c.defB 14 rfl).1 (c.defB 14 rfl).2 (fun _ _ _ _ _ _ us hl => match us, hl with | [_], _ => rfl))
    (fx_has (n := 0) (st := t_at) KX G (c.fact 142 rfl) (c.defB 15 rfl).1 (c.defB 15 rfl).2 (fun _ _ _ _ _ _ us hl => match us, hl with | [_, _], _ => rfl))
    (fx_has (n := 0) (st := t_p_plus) KX G (c.fact 143 rfl) (c.defB 16 rfl).1 (c.defB 16 rfl).2 (fun _ _ _ _ _ _ us hl => match us, hl with | [_, _], _ => rfl))
    (fx_has (n := 0) (st := t_p_times) KX G (c.fact 144 rfl) (c.defB 17 rfl).1 (c.defB 17 rfl).2 (fun _ _ _ _ _ _ us hl => match us, hl with | [_, _], _ => rfl))
    (fx_has (n := 0) (st := t_p_slope) KX G (c.fact 145 rfl) (c.defB 18 rfl).1 (c.defB 18 rfl).2 (fun _ _ _ _ _ _ us hl => match us, hl with | [_], _ => rfl))
    (fx_has (n := 0) (st := t_choose) KX G (c.fact 146 rfl) (c.defB 19 rfl).1 (c.defB 19 rfl).2 (fun _ _ _ _ _ _ us hl => match us, hl with | [_, _], _ => rfl))
    (fx_has (n := 0) (st := t_symmetric) KX G (c.fact 147 rfl) (c.defB 20 rfl).1 (c.defB 20 rfl).2 (fun _ _ _ _ _ _ us hl => match us, hl with | [_], _ => rfl))
    (fx_has (n := 0) (st := t_blossom_of) KX G (c.fact 148 rfl) (c.defB 21 rfl).1 (c.defB 21 rfl).2 (fun _ _ _ _ _ _ us hl => match us, hl with | [_, _], _ => rfl))
    (fx_has (n := 0) (st := t_need_low) KX G (c.fact 149 rfl) (c.defB 22 rfl).1 (c.defB 22 rfl).2 (fun _ _ _ _ _ _ us hl => match us, hl with | [_, _], _ => rfl))
    (fx_has (n := 0) (st := t_faults_of) KX G (c.fact 150 rfl) (c.defB 23 rfl).1 (c.defB 23 rfl).2 (fun _ _ _ _ _ _ us hl => match us, hl with | [_, _], _ => rfl))
    (fx_has (n := 0) (st := t_need_knots) KX G (c.fact 151 rfl) (c.defB 24 rfl).1 (c.defB 24 rfl).2 (fun _ _ _ _ _ _ us hl => match us, hl with | [_, _], _ => rfl))
    (fx_has (n := 0) (st := t_need_index) KX G (c.fact 152 rfl) (c.defB 25 rfl).1 (c.defB 25 rfl).2 (fun _ _ _ _ _ _ us hl => match us, hl with | [_, _, _], _ => rfl))
    (fx_has (n := 0) (st := t_basis_at) KX G (c.fact 153 rfl) (c.defB 26 rfl).1 (c.defB 26 rfl).2 (fun _ _ _ _ _ _ us hl => match us, hl with | [_, _, _, _], _ => rfl))
    (fx_has (n := 0) (st := t_basis_poly) KX G (c.fact 154 rfl) (c.defB 27 rfl).1 (c.defB 27 rfl).2 (fun _ _ _ _ _ _ us hl => match us, hl with | [_, _, _, _], _ => rfl))
    (fx_has (n := 0) (st := t_basis_value) KX G (c.fact 155 rfl) (c.defB 28 rfl).1 (c.defB 28 rfl).2 (fun _ _ _ _ _ _ us hl => match us, hl with | [_, _, _, _], _ => rfl))
    (fx_has (n := 0) (st := t_basis_pieces) KX G (c.fact 156 rfl) (c.defB 29 rfl).1 (c.defB 29 rfl).2 (fun _ _ _ _ _ _ us hl => match us, hl with | [_, _, _], _ => rfl))
    (fx_has (n := 0) (st := t_greville) KX G (c.fact 157 rfl) (c.defB 30 rfl).1 (c.defB 30 rfl).2 (fun _ _ _ _ _ _ us hl => match us, hl with | [_, _], _ => rfl))
    (fx_has (n := 0) (st := t_row_for) KX G (c.fact 158 rfl) (c.defB 31 rfl).1 (c.defB 31 rfl).2 (fun _ _ _ _ _ _ us hl => match us, hl with | [_, _, _], _ => rfl))
    (fx_has (n := 0) (st := t_coefficients) KX G (c.fact 159 rfl) (c.defB 32 rfl).1 (c.defB 32 rfl).2 (fun _ _ _ _ _ _ us hl => match us, hl with | [_, _, _], _ => rfl))
    (fx_has (n := 0) (st := t_is_interval) KX G (c.fact 160 rfl) (c.defB 33 rfl).1 (c.defB 33 rfl).2 (fun _ _ _ _ _ _ us hl => match us, hl with | [_], _ => rfl))
    (fx_has (n := 0) (st := t_poly_over) KX G (c.fact 161 rfl) (c.defB 34 rfl).1 (c.defB 34 rfl).2 (fun _ _ _ _ _ _ us hl => match us, hl with | [_, _], _ => rfl))
    (fx_has (n := 0) (st := t_row_from) KX G (c.fact 162 rfl) (c.defB 35 rfl).1 (c.defB 35 rfl).2 (fun _ _ _ _ _ _ us hl => match us, hl with | [_, _, _], _ => rfl))
    (fx_has (n := 0) (st := t_order_at) KX G (c.fact 163 rfl) (c.defB 36 rfl).1 (c.defB 36 rfl).2 (fun _ _ _ _ _ _ us hl => match us, hl with | [_, _, _, _], _ => rfl))
    (fx_has (n := 0) (st := t_small) KX G (c.fact 164 rfl) (c.defB 37 rfl).1 (c.defB 37 rfl).2 (fun _ _ _ _ _ _ us hl => match us, hl with | [_], _ => rfl))
    (fx_has (n := 0) (st := t_with_ends) KX G (c.fact 165 rfl) (c.defB 38 rfl).1 (c.defB 38 rfl).2 (fun _ _ _ _ _ _ us hl => match us, hl with | [_, _, _], _ => rfl))
    (fx_has (n := 0) (st := t_is_piece) KX G (c.fact 166 rfl) (c.defB 39 rfl).1 (c.defB 39 rfl).2 (fun _ _ _ _ _ _ us hl => match us, hl with | [_, _], _ => rfl))
    (fx_has (n := 0) (st := t_from_pieces) KX G (c.fact 167 rfl) (c.defB 40 rfl).1 (c.defB 40 rfl).2 (fun _ _ _ _ _ _ us hl => match us, hl with | [_, _], _ => rfl))
    (fx_has (n := 0) (st := t_space_size) KX G (c.fact 168 rfl) (c.defB 41 rfl).1 (c.defB 41 rfl).2 (fun _ _ _ _ _ _ us hl => match us, hl with | [_, _, _], _ => rfl))
    (fx_has (n := 0) (st := t__law_taken) KX G (c.fact 169 rfl) (c.defB 42 rfl).1 (c.defB 42 rfl).2 (fun _ _ _ _ _ _ us hl => match us, hl with | [_, _], _ => rfl))
    (fx_has (n := 0) (st := t__law_pick) KX G (c.fact 170 rfl) (c.defB 43 rfl).1 (c.defB 43 rfl).2 (fun _ _ _ _ _ _ us hl => match us, hl with | [_, _], _ => rfl))
    (fx_has (n := 0) (st := t_law) KX G (c.fact 126 rfl) (c.defB 44 rfl).1 (c.defB 44 rfl).2 (fun _ _ _ _ _ _ us hl => match us, hl with | [_], _ => rfl))
end PB
open PySem PySem.W PyProof.Rows
set_option maxHeartbeats 0 in
theorem PySem.Challenge.cw_blendcurves_k38_knots_refused_holds : PySem.Challenge.rw_blendcurves_k38_knots_refused.Holds := by
  w_on; o_law
  refine HandSHeadRun.head_imp (r := (PySem.W.OpenLaw.row PySem.Challenge.rw_blendcurves_k38_knots_refused)) (q := view (PySem.W.OpenLaw.row PySem.Challenge.rw_blendcurves_k38_knots_refused).prog [0,72]) (H := PB.hk) (ob := PB.hob) (M := 20000) (loose := PB.hnm) (d := HandSHeadRun.topDef (PySem.W.OpenLaw.row PySem.Challenge.rw_blendcurves_k38_knots_refused).prog 72) (kwd := []) PB.hob_eq PB.hrun
    (by kernel_rfl) (by kernel_rfl) (by kernel_rfl) (by rfl) (by first | assumption | decide +kernel) (by decide +kernel) ⟨rfl, rfl, rfl, rfl, rfl, by decide +kernel⟩ ?hw ?hc
  case hw => w_witness2
  case hc =>
    refine LamX.walk_ofTsE (l := PySem.Challenge.rw_blendcurves_k38_knots_refused) (n := 63) (k := 44) (x := "_law_script") (CX := fun _ => L2.CX0) rfl (by decide) (by kernel_rfl) ⟨rfl, by decide, by decide⟩ ?F (fun _ _ _ _ _ z => z)
    intro w mg fa h Y G hmg0
    obtain ⟨K, KX, c, t⟩ := Y
    have hmg : mg ("law" : PySem.Str) = some (.ref fa) := by
      have e : (HandSHeadRun.topDef (PySem.W.OpenLaw.row PySem.Challenge.rw_blendcurves_k38_knots_refused).prog 72).name = ("law" : PySem.Str) := by kernel_rfl
      rw [← e]
      exact hmg0
    obtain ⟨fd, hb, hF⟩ := PB.hfacts (w := w) KX G hmg c
    have one : ∀ q ∈ [He.cT K ("law", none)], q = He.cT K ("law", none) := fun q hq => by simpa using hq
    refine ⟨K, KX, fd, [He.cT K ("law", none)], _, fun q hq => ?_, fun q hq => ?_, fun q hq => ?_, hb, fun H a ns hl _ hT hS => PB.law_spT (fun q hq => ?_) hS (PB.math38 ns hl) _, fun base KB NB TB => PB.fnok_frz (hF base KB NB (TB _ List.mem_cons_self))⟩
    · rw [one q hq]; exact t.empty _ List.mem_cons_self
    · rw [one q hq]; exact t.out _ List.mem_cons_self
    · rw [one q hq]; exact PySem.W.codeHd_of_K KX (t.hd _ List.mem_cons_self)
    · rw [show q = _ from List.mem_singleton.mp hq]; exact LamX.TabS.nil (hT _ List.mem_cons_self)

