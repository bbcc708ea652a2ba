import PyProof.Rows.All
import Wide.All
import OpenK.AllK
import Wide.FinOn
import HandS.ForMost
import HandS.CallSlots
import HandS.Exc
import HandS.WordsExc
import HandS.Flow
import HandS.Deep
import HandS.TupAny
import HandS.TupMul
import HandS.TupLe
import HandS.Wide
import HandS.StrMore
import HandS.Zip
import HandS.Rev
import HandS.IsInst
import HandS.Sort
import HandS.Iter
import HandS.More
import HandS.TryOnly
import HandS.Conv
import HandS.Zip0
import PyProof.EnumMake
import HandS.ExcOwn
import HandS.Comp
import HandS.Replace
import PyProof.Rows.BitMore
import PySem.Challenge.RW_hushedpages_k28_stems_numbered
section
set_option Elab.async false
set_option linter.all false
set_option maxRecDepth 100000
/-! The mini evaluator: pure data, a store of mutable objects, slots. -/
namespace HP

/-- pure data -/
inductive D where
  | non | bl (b : Bool) | int (i : Int) | str (s : List Char) | tup (xs : List D) | lst (xs : List D)

mutual
def D.dec : (a b : D) → Decidable (a = b)
  | .non, .non => .isTrue rfl
  | .bl a, .bl b => if h : a = b then .isTrue (by rw [h]) else .isFalse fun e => h (D.bl.inj e)
  | .int a, .int b => if h : a = b then .isTrue (by rw [h]) else .isFalse fun e => h (D.int.inj e)
  | .str a, .str b => if h : a = b then .isTrue (by rw [h]) else .isFalse fun e => h (D.str.inj e)
  | .tup a, .tup b => match D.decs a b with
    | .isTrue h => .isTrue (by rw [h])
    | .isFalse h => .isFalse fun e => h (D.tup.inj e)
  | .lst a, .lst b => match D.decs a b with
    | .isTrue h => .isTrue (by rw [h])
    | .isFalse h => .isFalse fun e => h (D.lst.inj e)
  | .non, .bl _ | .non, .int _ | .non, .str _ | .non, .tup _ | .non, .lst _ => .isFalse fun e => nomatch e
  | .bl _, .non | .bl _, .int _ | .bl _, .str _ | .bl _, .tup _ | .bl _, .lst _ => .isFalse fun e => nomatch e
  | .int _, .non | .int _, .bl _ | .int _, .str _ | .int _, .tup _ | .int _, .lst _ => .isFalse fun e => nomatch e
  | .str _, .non | .str _, .bl _ | .str _, .int _ | .str _, .tup _ | .str _, .lst _ => .isFalse fun e => nomatch e
  | .tup _, .non | .tup _, .bl _ | .tup _, .int _ | .tup _, .str _ | .tup _, .lst _ => .isFalse fun e => nomatch e
  | .lst _, .non | .lst _, .bl _ | .lst _, .int _ | .lst _, .str _ | .lst _, .tup _ => .isFalse fun e => nomatch e
def D.decs : (a b : List D) → Decidable (a = b)
  | [], [] => .isTrue rfl
  | x :: xs, y :: ys => match D.dec x y, D.decs xs ys with
    | .isTrue h, .isTrue h' => .isTrue (by rw [h, h'])
    | .isFalse h, _ => .isFalse fun e => h (List.cons.inj e).1
    | _, .isFalse h => .isFalse fun e => h (List.cons.inj e).2
  | [], _ :: _ => .isFalse fun e => nomatch e
  | _ :: _, [] => .isFalse fun e => nomatch e
end
instance : DecidableEq D := D.dec

/-- a value in a slot: data, a mutable object of the store, the law's script -/
inductive Vl where
  | d (x : D) | ref (n : Nat) | scr (ns : List Int)
  deriving DecidableEq
/-- a mutable object -/
inductive O where
  | lst (xs : List Vl) | dic (kvs : List (D × Vl)) | dead
  deriving DecidableEq
abbrev Mem := List O
/-- an exception: its class's number, its attributes -/
structure Exc where
  cls : Nat
  args : List D
  deriving DecidableEq

inductive R (α : Type) where
  | ok (a : α) (m : Mem) | ex (x : Exc) (m : Mem) | st
/-- g behind r -/
def then1 {α β : Type} (g : α → Mem → R β) (r : R α) : R β := match r with
  | .ok a m => g a m
  | .ex x m => .ex x m
  | .st => .st
theorem then1_ok {α β : Type} (g : α → Mem → R β) (a : α) (m : Mem) : then1 g (.ok a m) = g a m := rfl
theorem then1_ex {α β : Type} (g : α → Mem → R β) (x : Exc) (m : Mem) : then1 g (.ex x m) = .ex x m := rfl
/-- r, then f, then g of both -/
def then2 {σ α β γ : Type} (g : α → β → Mem → R γ) (f : σ → Mem → R β) (s : σ) (r : R α) : R γ := match r with
  | .ok a m => then1 (g a) (f s m)
  | .ex x m => .ex x m
  | .st => .st
theorem then2_ok {σ α β γ : Type} (g : α → β → Mem → R γ) (f : σ → Mem → R β) (s : σ) (a : α) (m : Mem) : then2 g f s (.ok a m) = then1 (g a) (f s m) := rfl
theorem then2_ex {σ α β γ : Type} (g : α → β → Mem → R γ) (f : σ → Mem → R β) (s : σ) (x : Exc) (m : Mem) : then2 g f s (.ex x m) = .ex x m := rfl
def then3 {σ α β γ δ : Type} (g : α → β → γ → Mem → R δ) (f : σ → Mem → R β) (h : σ → Mem → R γ) (s : σ) (r : R α) : R δ := match r with
  | .ok a m => then2 (g a) h s (f s m)
  | .ex x m => .ex x m
  | .st => .st
theorem then3_ok {σ α β γ δ : Type} (g : α → β → γ → Mem → R δ) (f : σ → Mem → R β) (h : σ → Mem → R γ) (s : σ) (a : α) (m : Mem) : then3 g f h s (.ok a m) = then2 (g a) h s (f s m) := rfl
theorem then3_ex {σ α β γ δ : Type} (g : α → β → γ → Mem → R δ) (f : σ → Mem → R β) (h : σ → Mem → R γ) (s : σ) (x : Exc) (m : Mem) : then3 g f h s (.ex x m) = .ex x m := rfl
def then4 {σ α β γ δ ε : Type} (g : α → β → γ → δ → Mem → R ε) (f : σ → Mem → R β) (h : σ → Mem → R γ) (k : σ → Mem → R δ) (s : σ) (r : R α) : R ε := match r with
  | .ok a m => then3 (g a) h k s (f s m)
  | .ex x m => .ex x m
  | .st => .st
theorem then4_ok {σ α β γ δ ε : Type} (g : α → β → γ → δ → Mem → R ε) (f : σ → Mem → R β) (h : σ → Mem → R γ) (k : σ → Mem → R δ) (s : σ) (a : α) (m : Mem) : then4 g f h k s (.ok a m) = then3 (g a) h k s (f s m) := rfl
theorem then4_ex {σ α β γ δ ε : Type} (g : α → β → γ → δ → Mem → R ε) (f : σ → Mem → R β) (h : σ → Mem → R γ) (k : σ → Mem → R δ) (s : σ) (x : Exc) (m : Mem) : then4 g f h k s (.ex x m) = .ex x m := rfl
/-- a test that must hold -/
def need {α : Type} (b : Bool) (r : R α) : R α := match b with
  | true => r
  | false => .st
theorem need_true {α : Type} (r : R α) : need true r = r := rfl
theorem need_of {α : Type} {b : Bool} (r : R α) (h : b = true) : need b r = r := by rw [h]; rfl
def ofO {α : Type} (o : Option α) (m : Mem) : R α := match o with
  | some a => .ok a m
  | none => .st
theorem ofO_some {α : Type} (a : α) (m : Mem) : ofO (some a) m = .ok a m := rfl
theorem ofO_none {α : Type} (m : Mem) : ofO (none : Option α) m = .st := rfl
abbrev Sl := List (Option Vl)
def getS : Sl → Nat → Option Vl
  | [], _ => none
  | x :: _, 0 => x
  | _ :: s, n + 1 => getS s n
theorem getS_zero (x : Option Vl) (s : Sl) : getS (x :: s) 0 = x := rfl
theorem getS_succ (x : Option Vl) (s : Sl) (n : Nat) : getS (x :: s) (n + 1) = getS s n := rfl

/-! ### syntax -/
inductive Bop where | add | sub | mul | fdiv | mod | shl | band | pow
  deriving DecidableEq
inductive Cop where | eq | ne | lt | le | gt | ge | isin | notin | is_ | isnot
  deriving DecidableEq
inductive Ty where | int | str | bool | tuple | list | dict | none
  deriving DecidableEq
/-- what is walked -/
inductive Itk where | seq | rng | enum | zip | rev | items | vals
  deriving DecidableEq
/-- built-in calls -/
inductive Pr where
  | len | tuple | list (mu : Bool) | int | str | max | min | sum | sorted (mu : Bool) | isinst (ts : List Ty) | divmod | dict | all | any | ord | bool
  deriving DecidableEq
/-- methods -/
inductive Mt where
  | append | extend | reverse | pop | insert | sort | lcount | lindex | join | find | index | count | split | strip | islower | isalpha | endswith | replace | get
  deriving DecidableEq
inductive Tg where | n (i : Nat) | t (ts : List Tg)
mutual
inductive E where
  | c (x : D) | v (i : Nat) | g (i : Nat)
  | bin (op : Bop) (a b : E) | neg (a : E) | not (a : E) | and (a b : E) | or (a b : E)
  | cmp (op : Cop) (a b : E) | chain (o p : Cop) (a b c : E) | ite (c a b : E)
  | tup (es : Es) | lst (mu : Bool) (es : Es) | dic (ks vs : Es)
  | ix (a i : E) | sl (a lo hi : E) | sls (a lo hi s : E)
  | call (f : Nat) (es : Es) | pr (p : Pr) (es : Es) | mt (m : Mt) (a : E) (es : Es)
  | comp (mu : Bool) (tg : Tg) (k : Itk) (es : Es) (cond e : E)
  | dcomp (tg : Tg) (k : Itk) (es : Es) (cond ek ev : E)
  | frz (e : E) | prt (e : E)
  | attr (a : E) (k : Nat)
inductive Es where | nil | cons (e : E) (es : Es)
end
mutual
inductive S where
  | asg (tg : Tg) (e : E) | setix (a i e : E) | aug (i : Nat) (op : Bop) (e : E) | augix (a i : E) (op : Bop) (e : E)
  | ex (e : E) | ret (e : E) | retn
  | ite (c : E) (a b : Ss) | for_ (tg : Tg) (k : Itk) (es : Es) (body : Ss) | whl (c : E) (body : Ss)
  | brk | cnt | pass | raise (cls : Nat) (es : Es) | try_ (body : Ss) (cls : Nat) (slot : Option Nat) (suite : Ss)
  | frz (i : Nat) | fgt (is : List Nat)
inductive Ss where | nil | cons (s : S) (ss : Ss)
end

/-! ### helpers -/
def L24 : Nat := 16777216
/-- below the model's size line -/
def szOk (n : Nat) : Bool := decide (n ≤ 16777216)
def szLt (n : Nat) : Bool := decide (n < 16777216)
theorem szOk_of {n : Nat} (h : n ≤ 16777216) : szOk n = true := decide_eq_true h
theorem szLt_of {n : Nat} (h : n < 16777216) : szLt n = true := decide_eq_true h
def pure1 : Vl → Option D
  | .d x => some x
  | _ => none
def pures : List Vl → Option (List D)
  | [] => some []
  | .d x :: r => match pures r with
    | some xs => some (x :: xs)
    | none => none
  | _ :: _ => none
theorem pures_nil : pures [] = some [] := rfl
theorem pures_map (xs : List D) : pures (xs.map Vl.d) = some xs := by
  induction xs with
  | nil => rfl
  | cons x r ih => show (match pures (r.map Vl.d) with | some xs => some (x :: xs) | none => none) = _; rw [ih]
theorem pures_some {vs : List Vl} {xs : List D} (h : pures vs = some xs) : vs = xs.map Vl.d := by
  induction vs generalizing xs with
  | nil => cases h; rfl
  | cons v r ih =>
    cases v with
    | d x =>
      unfold pures at h
      cases e : pures r with
      | none => rw [e] at h; cases h
      | some ys => rw [e] at h; cases h; rw [ih e]; rfl
    | ref n => cases h
    | scr n => cases h
/-- the items of a list or a tuple -/
def seqOf (x : Vl) (m : Mem) : Option (List Vl) := match x with
  | .d (.tup xs) => some (xs.map Vl.d)
  | .d (.lst xs) => some (xs.map Vl.d)
  | .ref n => match m[n]? with
    | some (.lst xs) => some xs
    | _ => none
  | _ => none
def keysOf (kvs : List (D × Vl)) : List Vl := kvs.map fun p => .d p.1
/-- Python's index -/
def pyIx {α : Type} (xs : List α) (i : Int) : Option α := if i < 0 then (if i + xs.length < 0 then none else xs[(i + xs.length).toNat]?) else xs[i.toNat]?
def pyIxN (n : Nat) (i : Int) : Option Nat := if i < 0 then (if i + n < 0 then none else some (i + n).toNat) else if i < n then some i.toNat else none
/-- a slice's bound -/
def pyB (n d : Nat) : Option Int → Nat
  | none => d
  | some v => if v < 0 then (v + (n : Int)).toNat else min v.toNat n
def pyCut {α : Type} (xs : List α) (lo hi : Option Int) : List α := (xs.drop (pyB xs.length 0 lo)).take (pyB xs.length xs.length hi - pyB xs.length 0 lo)
/-- the places lo, lo + k, .. below n -/
def stepIx (lo n k : Nat) : List Nat := (List.range ((n - lo + k - 1) / k)).map fun i => lo + i * k
def pyStep {α : Type} (xs : List α) (lo k : Nat) : List α := (stepIx lo xs.length k).filterMap fun i => xs[i]?
def boundOf : Vl → Option (Option Int)
  | .d .non => some none
  | .d (.int i) => some (some i)
  | _ => none
mutual
/-- Python's == on data -/
def D.eqv : D → D → Bool
  | .non, .non => true
  | .bl a, .bl b => a == b
  | .bl a, .int j => (if a then 1 else 0) == j
  | .int i, .bl b => i == (if b then 1 else 0)
  | .int i, .int j => i == j
  | .str x, .str y => x == y
  | .lst xs, .lst ys => D.eqvs xs ys
  | .tup xs, .tup ys => D.eqvs xs ys
  | _, _ => false
def D.eqvs : List D → List D → Bool
  | [], [] => true
  | x :: xs, y :: ys => D.eqv x y && D.eqvs xs ys
  | _, _ => false
end
mutual
def D.dep : D → Nat
  | .lst xs => D.deps xs + 1
  | .tup xs => D.deps xs + 1
  | _ => 0
def D.deps : List D → Nat
  | [] => 0
  | x :: xs => max (D.dep x) (D.deps xs)
end
def CMulB (i j : Int) : Bool := decide (-18446744073709551616 < i ∧ i < 18446744073709551616) || decide (-18446744073709551616 < j ∧ j < 18446744073709551616) || decide (i.natAbs.log2 + j.natAbs.log2 < 1000000)
def CDivB (j : Int) : Bool := decide (0 < j ∧ j.natAbs.log2 < 9000)
def CPowB (i j : Int) : Bool := decide (0 ≤ j ∧ j ≤ 1000000 ∧ i.natAbs < 18446744073709551616)
def rep {α : Type} (k : Int) (xs : List α) : List α := (List.replicate k.toNat xs).flatten
/-- frozen items of a list value -/
def lstOf (x : Vl) (m : Mem) : Option (List D) := match x with
  | .d (.lst xs) => some xs
  | .ref n => match m[n]? with
    | some (.lst xs) => pures xs
    | _ => none
  | _ => none
/-- data or the content of a list -/
def datOf (x : Vl) (m : Mem) : Option D := match x with
  | .d y => some y
  | .ref n => match m[n]? with
    | some (.lst xs) => match pures xs with
      | some ys => some (.lst ys)
      | none => none
    | _ => none
  | .scr _ => none
def binop (op : Bop) (x y : Vl) (m : Mem) : R Vl := match op, x, y with
  | .add, .d (.int i), .d (.int j) => .ok (.d (.int (i + j))) m
  | .add, .d (.str s), .d (.str t) => need (szOk (s.length + t.length)) (.ok (.d (.str (s ++ t))) m)
  | .add, .d (.tup s), .d (.tup t) => need (szOk (s.length + t.length)) (.ok (.d (.tup (s ++ t))) m)
  | .add, x, y => match lstOf x m, lstOf y m with
    | some s, some t => need (szOk (s.length + t.length)) (.ok (.d (.lst (s ++ t))) m)
    | _, _ => .st
  | .sub, .d (.int i), .d (.int j) => .ok (.d (.int (i - j))) m
  | .mul, .d (.int i), .d (.int j) => need (CMulB i j) (.ok (.d (.int (i * j))) m)
  | .mul, .d (.str s), .d (.int j) => .st
  | .mul, .d (.lst s), .d (.int j) => .st
  | .fdiv, .d (.int i), .d (.int j) => need (CDivB j) (.ok (.d (.int (i / j))) m)
  | .mod, .d (.int i), .d (.int j) => need (decide (0 < j)) (.ok (.d (.int (i % j))) m)
  | .shl, .d (.int i), .d (.int j) => need (CPowB i j) (.ok (.d (.int (i * 2 ^ j.toNat))) m)
  | .pow, .d (.int i), .d (.int j) => need (CPowB i j) (.ok (.d (.int (i ^ j.toNat))) m)
  | .band, .d (.int i), .d (.int j) => .ok (.d (.int (PySem.Builtin.bitAnd i j))) m
  | _, _, _ => .st
def truth (x : Vl) (m : Mem) : Option Bool := match x with
  | .d .non => some false
  | .d (.bl b) => some b
  | .d (.int i) => some (i != 0)
  | .d (.str s) => some (!s.isEmpty)
  | .d (.tup xs) => some (!xs.isEmpty)
  | .d (.lst xs) => some (!xs.isEmpty)
  | .ref n => match m[n]? with
    | some (.lst xs) => some (!xs.isEmpty)
    | _ => none
  | .scr _ => none
/-- s stands in t -/
def isSub (s : List Char) : List Char → Bool
  | [] => s.isEmpty
  | c :: t => s.isPrefixOf (c :: t) || isSub s t
def anyEq (x : D) : List D → Bool
  | [] => false
  | y :: r => D.eqv y x || anyEq x r
def inOp (x y : Vl) (m : Mem) : R Bool := match x, y with
  | .d (.str s), .d (.str t) => .ok (isSub s t) m
  | .d x, y => match y with
    | .d (.tup ys) => need (decide (D.dep x ≤ 60)) (.ok (anyEq x ys) m)
    | y => match lstOf y m with
      | some ys => need (decide (D.dep x ≤ 60)) (.ok (anyEq x ys) m)
      | none => .st
  | _, _ => .st
def okB (b : Bool) (m : Mem) : R Vl := .ok (.d (.bl b)) m
def okNB (b : Bool) (m : Mem) : R Vl := .ok (.d (.bl (!b))) m
def cmpop (op : Cop) (x y : Vl) (m : Mem) : R Vl := match op with
  | .eq => match datOf x m, datOf y m with
    | some a, some b => need (decide (min a.dep b.dep ≤ 60)) (.ok (.d (.bl (D.eqv a b))) m)
    | _, _ => .st
  | .ne => match datOf x m, datOf y m with
    | some a, some b => need (decide (min a.dep b.dep ≤ 60)) (.ok (.d (.bl (!D.eqv a b))) m)
    | _, _ => .st
  | .lt => match x, y with
    | .d (.int i), .d (.int j) => .ok (.d (.bl (decide (i < j)))) m
    | _, _ => .st
  | .le => match x, y with
    | .d (.int i), .d (.int j) => .ok (.d (.bl (decide (i ≤ j)))) m
    | _, _ => .st
  | .gt => match x, y with
    | .d (.int i), .d (.int j) => .ok (.d (.bl (decide (j < i)))) m
    | _, _ => .st
  | .ge => match x, y with
    | .d (.int i), .d (.int j) => .ok (.d (.bl (decide (j ≤ i)))) m
    | _, _ => .st
  | .isin => then1 okB (inOp x y m)
  | .notin => then1 okNB (inOp x y m)
  | .is_ => match x, y with
    | .d a, .d .non => .ok (.d (.bl (decide (a = .non)))) m
    | .ref _, .d .non => .ok (.d (.bl false)) m
    | _, _ => .st
  | .isnot => match x, y with
    | .d a, .d .non => .ok (.d (.bl (!decide (a = .non)))) m
    | .ref _, .d .non => .ok (.d (.bl true)) m
    | _, _ => .st
def ixop (x i : Vl) (m : Mem) : R Vl := match x, i with
  | .d (.str s), .d (.int i) => match pyIx s i with
    | some c => .ok (.d (.str [c])) m
    | none => .st
  | x, .d (.int i) => match seqOf x m with
    | some xs => ofO (pyIx xs i) m
    | none => .st
  | _, _ => .st
def slop (x lo hi : Vl) (m : Mem) : R Vl := match boundOf lo, boundOf hi with
  | some l, some h => match x with
    | .d (.str s) => .ok (.d (.str (pyCut s l h))) m
    | .d (.tup s) => .ok (.d (.tup (pyCut s l h))) m
    | x => match lstOf x m with
      | some s => .ok (.d (.lst (pyCut s l h))) m
      | none => .st
  | _, _ => .st
/-- a text's slice with a positive step, from lo on -/
def slsop (x lo hi s : Vl) (m : Mem) : R Vl := match x, boundOf lo, hi, s with
  | .d (.str t), some l, .d .non, .d (.int k) => need (decide (0 < k ∧ k < 1000000)) (.ok (.d (.str (pyStep t (pyB t.length 0 l) k.toNat))) m)
  | _, _, _, _ => .st
def mkTup (vs : List Vl) (m : Mem) : R Vl := match pures vs with
  | some xs => need (szOk xs.length) (.ok (.d (.tup xs)) m)
  | none => .st
def mkLst (mu : Bool) (vs : List Vl) (m : Mem) : R Vl := match mu with
  | true => need (szOk vs.length) (.ok (.ref m.length) (m ++ [.lst vs]))
  | false => match pures vs with
    | some xs => need (szOk xs.length) (.ok (.d (.lst xs)) m)
    | none => .st
def isTy (x : Vl) (m : Mem) : Ty → Option Bool := fun t => match x with
  | .d .non => some (t == .none)
  | .d (.bl _) => some (t == .bool || t == .int)
  | .d (.int _) => some (t == .int)
  | .d (.str _) => some (t == .str)
  | .d (.tup _) => some (t == .tuple)
  | .d (.lst _) => some (t == .list)
  | .ref n => match m[n]? with
    | some (.lst _) => some (t == .list)
    | _ => none
  | .scr _ => none
def isTys (x : Vl) (m : Mem) : List Ty → Option Bool
  | [] => some false
  | t :: ts => match isTy x m t with
    | some true => some true
    | some false => isTys x m ts
    | none => none
def intsOf : List Vl → Option (List Int)
  | [] => some []
  | .d (.int i) :: r => match intsOf r with
    | some is => some (i :: is)
    | none => none
  | _ :: _ => none
theorem intsOf_map (ns : List Int) : intsOf (ns.map fun i => Vl.d (.int i)) = some ns := by
  induction ns with
  | nil => rfl
  | cons x r ih =>
    show (match intsOf (r.map fun i => Vl.d (.int i)) with | some is => some (x :: is) | none => none) = _
    rw [ih]
def maxL : List Int → Int
  | [] => 0
  | [x] => x
  | x :: r => max x (maxL r)
def minL : List Int → Int
  | [] => 0
  | [x] => x
  | x :: r => min x (minL r)
def strsOf : List Vl → Option (List (List Char))
  | [] => some []
  | .d (.str s) :: r => match strsOf r with
    | some is => some (s :: is)
    | none => none
  | _ :: _ => none
theorem strsOf_map (ns : List (List Char)) : strsOf (ns.map fun i => Vl.d (.str i)) = some ns := by
  induction ns with
  | nil => rfl
  | cons x r ih =>
    show (match strsOf (r.map fun i => Vl.d (.str i)) with | some is => some (x :: is) | none => none) = _
    rw [ih]
/-- sep.join -/
def joinS (sep : List Char) : List (List Char) → List Char
  | [] => []
  | [x] => x
  | x :: r => x ++ sep ++ joinS sep r
def maxop (vs : List Vl) (m : Mem) : R Vl := match vs with
  | [.d (.int i), .d (.int j)] => .ok (.d (.int (if j > i then j else i))) m
  | [x] => match lstOf x m with
    | some xs => match intsOf (xs.map Vl.d) with
      | some ns => need (!ns.isEmpty) (.ok (.d (.int (maxL ns))) m)
      | none => .st
    | none => .st
  | _ => .st
def minop (vs : List Vl) (m : Mem) : R Vl := match vs with
  | [.d (.int i), .d (.int j)] => .ok (.d (.int (if j < i then j else i))) m
  | [x] => match lstOf x m with
    | some xs => match intsOf (xs.map Vl.d) with
      | some ns => need (!ns.isEmpty) (.ok (.d (.int (minL ns))) m)
      | none => .st
    | none => .st
  | _ => .st
def prim (p : Pr) (vs : List Vl) (m : Mem) : R Vl := match p, vs with
  | .len, [x] => match x with
    | .d (.str s) => .ok (.d (.int s.length)) m
    | x => match seqOf x m with
      | some xs => .ok (.d (.int xs.length)) m
      | none => .st
  | .tuple, [x] => match x with
    | .d (.tup xs) => .ok (.d (.tup xs)) m
    | x => match lstOf x m with
      | some xs => .ok (.d (.tup xs)) m
      | none => .st
  | .list mu, [x] => match x with
    | .scr ns => match mu with
      | true => .ok (.ref m.length) (m ++ [.lst (ns.map fun i => .d (.int i))])
      | false => .ok (.d (.lst (ns.map .int))) m
    | x => match seqOf x m with
      | some xs => mkLst mu xs m
      | none => .st
  | .int, [.d (.int i)] => .ok (.d (.int i)) m
  | .int, [.d (.bl b)] => .ok (.d (.int (if b then 1 else 0))) m
  | .max, vs => maxop vs m
  | .min, vs => minop vs m
  | .sum, [x] => match lstOf x m with
    | some xs => match intsOf (xs.map Vl.d) with
      | some ns => .ok (.d (.int ns.sum)) m
      | none => .st
    | none => .st
  | .isinst ts, [x] => match isTys x m ts with
    | some b => .ok (.d (.bl b)) m
    | none => .st
  | .divmod, [.d (.int i), .d (.int j)] => need (decide (0 < j ∧ j < 1073741824)) (.ok (.d (.tup [.int (i / j), .int (i % j)])) m)
  | _, _ => .st
/-- the first place of y in t, from place k on, counted from i -/
def findFrom (y : List Char) : List Char → Nat → Option Nat
  | [], i => if y.isEmpty then some i else none
  | c :: t, i => if y.isPrefixOf (c :: t) then some i else findFrom y t (i + 1)
def meth (k : Mt) (x : Vl) (vs : List Vl) (m : Mem) : R Vl := match k, x, vs with
  | .append, .ref n, [v] => match m[n]? with
    | some (.lst xs) => need (szLt xs.length) (.ok (.d .non) (m.set n (.lst (xs ++ [v]))))
    | _ => .st
  | .reverse, .ref n, [] => match m[n]? with
    | some (.lst xs) => .ok (.d .non) (m.set n (.lst xs.reverse))
    | _ => .st
  | .pop, .ref n, [] => match m[n]? with
    | some (.lst xs) => match xs[xs.length - 1]? with
      | some y => .ok y (m.set n (.lst xs.dropLast))
      | none => .st
    | _ => .st
  | .extend, .ref n, [y] => match m[n]?, lstOf y m with
    | some (.lst xs), some ys => need (szOk (xs.length + ys.length)) (.ok (.d .non) (m.set n (.lst (xs ++ ys.map Vl.d))))
    | _, _ => .st
  | .join, .d (.str sep), [y] => match lstOf y m with
    | some ys => match strsOf (ys.map Vl.d) with
      | some ss => need (szOk ((ss.map List.length).sum + ss.length * sep.length)) (.ok (.d (.str (joinS sep ss))) m)
      | none => .st
    | none => .st
  | .find, .d (.str s), [.d (.str y)] => .ok (.d (.int (match findFrom y s 0 with | some i => (i : Int) | none => -1))) m
  | .index, .d (.str s), [.d (.str y)] => match findFrom y s 0 with
    | some i => .ok (.d (.int i)) m
    | none => .st
  | _, _, _ => .st
/-- a method's receiver is of its type -/
def isLstB (x : Vl) (m : Mem) : Bool := match x with
  | .ref n => match m[n]? with
    | some (.lst _) => true
    | _ => false
  | .d (.lst _) => true
  | _ => false
def isStrB (x : Vl) : Bool := match x with
  | .d (.str _) => true
  | _ => false
def recv (k : Mt) (x : Vl) (m : Mem) : R Vl := match k with
  | .append | .extend | .reverse | .pop | .insert | .sort | .lcount | .lindex => need (isLstB x m) (.ok x m)
  | .get => .st
  | _ => need (isStrB x) (.ok x m)
/-- what zip walks -/
def zipSrc : Vl → Option (List D)
  | .d (.tup xs) => some xs
  | .d (.lst xs) => some xs
  | .d (.str s) => some (s.map fun c => .str [c])
  | _ => none
/-- the items of a loop -/
def itemsOf (k : Itk) (vs : List Vl) (m : Mem) : R (List Vl) := match k, vs with
  | .seq, [.d (.str s)] => .ok (s.map fun c => .d (.str [c])) m
  | .seq, [x] => ofO (seqOf x m) m
  | .rng, [.d (.int n)] => need (decide (-1000000000 ≤ n ∧ n ≤ 1000000000)) (.ok ((List.range n.toNat).map fun (i : Nat) => .d (.int (i : Int))) m)
  | .rng, [.d (.int a), .d (.int b)] => need (decide (-1000000000 ≤ a ∧ a ≤ 1000000000 ∧ -1000000000 ≤ b ∧ b ≤ 1000000000)) (.ok ((List.range (b - a).toNat).map fun (i : Nat) => .d (.int (a + (i : Int)))) m)
  | .rev, [x] => match x with
    | .d (.tup xs) => .ok (xs.reverse.map Vl.d) m
    | _ => .st
  | .zip, [a, b] => match zipSrc a, zipSrc b with
    | some xs, some ys => .ok ((xs.zip ys).map fun p => .d (.tup [p.1, p.2])) m
    | _, _ => .st
  | _, _ => .st
/-- a target is stored -/
def unpack (x : Vl) (m : Mem) : Option (List Vl) := seqOf x m
mutual
def setT : Tg → Vl → Sl → Mem → Option Sl
  | .n i, v, σ, _ => some (σ.set i (some v))
  | .t ts, v, σ, m => match seqOf v m with
    | some xs => setTs ts xs σ m
    | none => none
def setTs : List Tg → List Vl → Sl → Mem → Option Sl
  | [], [], σ, _ => some σ
  | t :: ts, x :: xs, σ, m => match setT t x σ m with
    | some σ' => setTs ts xs σ' m
    | none => none
  | _, _, _, _ => none
end
mutual
def Tg.sets : Tg → List Nat
  | .n i => [i]
  | .t ts => Tg.setss ts
def Tg.setss : List Tg → List Nat
  | [] => []
  | u :: us => Tg.sets u ++ Tg.setss us
end
def fgt (σ : Sl) : List Nat → Sl
  | [] => σ
  | i :: is => fgt (σ.set i none) is
structure Ctx where
  call : Nat → List Vl → Mem → R Vl
  glob : Nat → Option D
  fuel : Nat
/-- and, or, if: by the truth of what came -/
def brK {α : Type} (x y : R α) (t : Option Bool) : R α := match t with
  | some true => x
  | some false => y
  | none => .st
def and2 (f : Sl → Mem → R Vl) (σ : Sl) (x : Vl) (m : Mem) (t : Option Bool) : R Vl := match t with
  | some true => f σ m
  | some false => .ok x m
  | none => .st
def andK (f : Sl → Mem → R Vl) (σ : Sl) (r : R Vl) : R Vl := match r with
  | .ok x m => and2 f σ x m (truth x m)
  | .ex x m => .ex x m
  | .st => .st
def or2 (f : Sl → Mem → R Vl) (σ : Sl) (x : Vl) (m : Mem) (t : Option Bool) : R Vl := match t with
  | some true => .ok x m
  | some false => f σ m
  | none => .st
def orK (f : Sl → Mem → R Vl) (σ : Sl) (r : R Vl) : R Vl := match r with
  | .ok x m => or2 f σ x m (truth x m)
  | .ex x m => .ex x m
  | .st => .st
def ite2 {σ α : Type} (f g : σ → Mem → R α) (s : σ) (m : Mem) (t : Option Bool) : R α := match t with
  | some true => f s m
  | some false => g s m
  | none => .st
def iteK {σ α : Type} (f g : σ → Mem → R α) (s : σ) (r : R Vl) : R α := match r with
  | .ok v m => ite2 f g s m (truth v m)
  | .ex x m => .ex x m
  | .st => .st
def notop (v : Vl) (m : Mem) : R Vl := match truth v m with
  | some b => .ok (.d (.bl (!b))) m
  | none => .st
def negop (v : Vl) (m : Mem) : R Vl := match v with
  | .d (.int i) => .ok (.d (.int (-i))) m
  | _ => .st
/-- behind the first comparison of a chain: y, its answer, then the second -/
def chain2 (p : Cop) (f : Sl → Mem → R Vl) (σ : Sl) (y v : Vl) (m : Mem) (t : Option Bool) : R Vl := match t with
  | some true => then1 (cmpop p y) (f σ m)
  | some false => .ok v m
  | none => .st
def chain1 (p : Cop) (f : Sl → Mem → R Vl) (σ : Sl) (y : Vl) (r : R Vl) : R Vl := match r with
  | .ok v m => chain2 p f σ y v m (truth v m)
  | .ex x m => .ex x m
  | .st => .st
def chainop (o p : Cop) (f : Sl → Mem → R Vl) (σ : Sl) (x y : Vl) (m : Mem) : R Vl := chain1 p f σ y (cmpop o x y m)
theorem and2_true (f : Sl → Mem → R Vl) (σ : Sl) (x : Vl) (m : Mem) : and2 f σ x m (some true) = f σ m := rfl
theorem and2_false (f : Sl → Mem → R Vl) (σ : Sl) (x : Vl) (m : Mem) : and2 f σ x m (some false) = .ok x m := rfl
theorem andK_ok (f : Sl → Mem → R Vl) (σ : Sl) (x : Vl) (m : Mem) : andK f σ (.ok x m) = and2 f σ x m (truth x m) := rfl
theorem andK_ex (f : Sl → Mem → R Vl) (σ : Sl) (x : Exc) (m : Mem) : andK f σ (.ex x m) = .ex x m := rfl
theorem or2_true (f : Sl → Mem → R Vl) (σ : Sl) (x : Vl) (m : Mem) : or2 f σ x m (some true) = .ok x m := rfl
theorem or2_false (f : Sl → Mem → R Vl) (σ : Sl) (x : Vl) (m : Mem) : or2 f σ x m (some false) = f σ m := rfl
theorem orK_ok (f : Sl → Mem → R Vl) (σ : Sl) (x : Vl) (m : Mem) : orK f σ (.ok x m) = or2 f σ x m (truth x m) := rfl
theorem orK_ex (f : Sl → Mem → R Vl) (σ : Sl) (x : Exc) (m : Mem) : orK f σ (.ex x m) = .ex x m := rfl
theorem ite2_true {σ α : Type} (f g : σ → Mem → R α) (s : σ) (m : Mem) : ite2 f g s m (some true) = f s m := rfl
theorem ite2_false {σ α : Type} (f g : σ → Mem → R α) (s : σ) (m : Mem) : ite2 f g s m (some false) = g s m := rfl
theorem iteK_ok {σ α : Type} (f g : σ → Mem → R α) (s : σ) (v : Vl) (m : Mem) : iteK f g s (.ok v m) = ite2 f g s m (truth v m) := rfl
theorem iteK_ex {σ α : Type} (f g : σ → Mem → R α) (s : σ) (x : Exc) (m : Mem) : iteK f g s (.ex x m) = .ex x m := rfl
theorem chain2_true (p : Cop) (f : Sl → Mem → R Vl) (σ : Sl) (y v : Vl) (m : Mem) : chain2 p f σ y v m (some true) = then1 (cmpop p y) (f σ m) := rfl
theorem chain2_false (p : Cop) (f : Sl → Mem → R Vl) (σ : Sl) (y v : Vl) (m : Mem) : chain2 p f σ y v m (some false) = .ok v m := rfl
theorem chain1_ok (p : Cop) (f : Sl → Mem → R Vl) (σ : Sl) (y v : Vl) (m : Mem) : chain1 p f σ y (.ok v m) = chain2 p f σ y v m (truth v m) := rfl
/-- what a for walks stays as it is: the list at n, if it is a mutable one -/
def still (src : Option Nat) (xs : List Vl) (m : Mem) : Bool := match src with
  | none => true
  | some n => decide (m[n]? = some (.lst xs))
def srcOf (k : Itk) (vs : List Vl) : Option Nat := match k, vs with
  | .seq, [.ref n] => some n
  | _, _ => none
/-- a comprehension's turns -/
def compK2 (k : Mem → List Vl → R (List Vl)) (acc : List Vl) (r : R Vl) : R (List Vl) := match r with
  | .ok v m => need (szLt acc.length) (k m (acc ++ [v]))
  | .ex _ _ => .st
  | .st => .st
def compK (e : Sl → Mem → R Vl) (k : Mem → List Vl → R (List Vl)) (σ : Sl) (acc : List Vl) (r : R Vl) : R (List Vl) := match r with
  | .ok v m => match truth v m with
    | some true => compK2 k acc (e σ m)
    | some false => k m acc
    | none => .st
  | .ex _ _ => .st
  | .st => .st
def compL (c e : Sl → Mem → R Vl) (tg : Tg) (ok : Mem → Bool) (σ : Sl) : List Vl → Mem → List Vl → R (List Vl)
  | [], m, acc => match ok m with
    | true => .ok acc m
    | false => .st
  | x :: xs, m, acc => match ok m, setT tg x σ m with
    | true, some σ' => compK e (compL c e tg ok σ xs) σ' acc (c σ' m)
    | _, _ => .st
def compop (c e : Sl → Mem → R Vl) (tg : Tg) (k : Itk) (σ : Sl) (vs : List Vl) (m : Mem) : R (List Vl) := match itemsOf k vs m with
  | .ok xs m => compL c e tg (still (srcOf k vs) xs) (fgt σ tg.sets) xs m []
  | .ex x m => .ex x m
  | .st => .st
def freeze (v : Vl) (m : Mem) : R Vl := match v with
  | .d x => .ok (.d x) m
  | .ref n => match m[n]? with
    | some (.lst xs) => match pures xs with
      | some ys => .ok (.d (.lst ys)) (m.set n .dead)
      | none => .st
    | _ => .st
  | .scr _ => .st
/-- a slice's written part -/
def intOnly (v : Vl) (m : Mem) : R Vl := match v with
  | .d (.int i) => .ok (.d (.int i)) m
  | _ => .st
def okCons (v : Vl) (vs : List Vl) (m : Mem) : R (List Vl) := .ok (v :: vs) m
mutual
def evE (C : Ctx) : E → Sl → Mem → R Vl
  | .c x, _, m => .ok (.d x) m
  | .v i, σ, m => ofO (getS σ i) m
  | .g i, _, m => match C.glob i with
    | some x => .ok (.d x) m
    | none => .st
  | .bin op a b, σ, m => then2 (binop op) (evE C b) σ (evE C a σ m)
  | .neg a, σ, m => then1 negop (evE C a σ m)
  | .not a, σ, m => then1 notop (evE C a σ m)
  | .and a b, σ, m => andK (evE C b) σ (evE C a σ m)
  | .or a b, σ, m => orK (evE C b) σ (evE C a σ m)
  | .cmp op a b, σ, m => then2 (cmpop op) (evE C b) σ (evE C a σ m)
  | .chain o p a b c, σ, m => then2 (chainop o p (evE C c) σ) (evE C b) σ (evE C a σ m)
  | .ite c a b, σ, m => iteK (evE C a) (evE C b) σ (evE C c σ m)
  | .tup es, σ, m => then1 mkTup (evEs C es σ m)
  | .lst mu es, σ, m => then1 (mkLst mu) (evEs C es σ m)
  | .dic _ _, _, _ => .st
  | .ix a i, σ, m => then2 ixop (evE C i) σ (evE C a σ m)
  | .sl a lo hi, σ, m => then3 slop (evE C lo) (evE C hi) σ (evE C a σ m)
  | .sls a lo hi s, σ, m => then4 slsop (evE C lo) (evE C hi) (evE C s) σ (evE C a σ m)
  | .call f es, σ, m => then1 (C.call f) (evEs C es σ m)
  | .pr p es, σ, m => then1 (prim p) (evEs C es σ m)
  | .mt k a es, σ, m => then2 (meth k) (evEs C es) σ (then1 (recv k) (evE C a σ m))
  | .comp mu tg k es c e, σ, m => then1 (mkLst mu) (then1 (compop (evE C c) (evE C e) tg k σ) (evEs C es σ m))
  | .dcomp _ _ _ _ _ _, _, _ => .st
  | .frz e, σ, m => then1 freeze (evE C e σ m)
  | .prt e, σ, m => then1 intOnly (evE C e σ m)
  | .attr _ _, _, _ => .st
def evEs (C : Ctx) : Es → Sl → Mem → R (List Vl)
  | .nil, _, m => .ok [] m
  | .cons e es, σ, m => then2 okCons (evEs C es) σ (evE C e σ m)
end

/-! ### statements -/
inductive Fl where
  | nx (σ : Sl) (m : Mem) | rt (v : Vl) (m : Mem) | bk (σ : Sl) (m : Mem) | ct (σ : Sl) (m : Mem) | ex (x : Exc) (σ : Sl) (m : Mem) | st
/-- a block's rest -/
def seqK (f : Sl → Mem → Fl) (r : Fl) : Fl := match r with
  | .nx σ m => f σ m
  | r => r
theorem seqK_nx (f : Sl → Mem → Fl) (σ : Sl) (m : Mem) : seqK f (.nx σ m) = f σ m := rfl
theorem seqK_rt (f : Sl → Mem → Fl) (v : Vl) (m : Mem) : seqK f (.rt v m) = .rt v m := rfl
theorem seqK_bk (f : Sl → Mem → Fl) (σ : Sl) (m : Mem) : seqK f (.bk σ m) = .bk σ m := rfl
theorem seqK_ct (f : Sl → Mem → Fl) (σ : Sl) (m : Mem) : seqK f (.ct σ m) = .ct σ m := rfl
theorem seqK_ex (f : Sl → Mem → Fl) (x : Exc) (σ : Sl) (m : Mem) : seqK f (.ex x σ m) = .ex x σ m := rfl
/-- an expression in a statement: its end g -/
def fl1 {α : Type} (g : α → Mem → Fl) (σ : Sl) (r : R α) : Fl := match r with
  | .ok a m => g a m
  | .ex x m => .ex x σ m
  | .st => .st
theorem fl1_ok {α : Type} (g : α → Mem → Fl) (σ : Sl) (a : α) (m : Mem) : fl1 g σ (.ok a m) = g a m := rfl
theorem fl1_ex {α : Type} (g : α → Mem → Fl) (σ : Sl) (x : Exc) (m : Mem) : fl1 g σ (.ex x m) = .ex x σ m := rfl
def asgE (tg : Tg) (σ : Sl) (v : Vl) (m : Mem) : Fl := match setT tg v σ m with
  | some σ' => .nx σ' m
  | none => .st
def exE (σ : Sl) (_ : Vl) (m : Mem) : Fl := .nx σ m
def exU (σ : Sl) (_ : Unit) (m : Mem) : Fl := .nx σ m
def retE (v : Vl) (m : Mem) : Fl := .rt v m
def setE (i : Nat) (σ : Sl) (v : Vl) (m : Mem) : Fl := .nx (σ.set i (some v)) m
def raiseE (cls : Nat) (σ : Sl) (vs : List Vl) (m : Mem) : Fl := match pures vs with
  | some xs => .ex ⟨cls, xs⟩ σ m
  | none => .st
def if2 (f g : Sl → Mem → Fl) (σ : Sl) (m : Mem) (t : Option Bool) : Fl := match t with
  | some true => f σ m
  | some false => g σ m
  | none => .st
def ifK (f g : Sl → Mem → Fl) (σ : Sl) (v : Vl) (m : Mem) : Fl := if2 f g σ m (truth v m)
theorem if2_true (f g : Sl → Mem → Fl) (σ : Sl) (m : Mem) : if2 f g σ m (some true) = f σ m := rfl
theorem if2_false (f g : Sl → Mem → Fl) (σ : Sl) (m : Mem) : if2 f g σ m (some false) = g σ m := rfl
/-- behind a turn's body: on with k, or out -/
def turnK (k : Sl → Mem → Fl) (r : Fl) : Fl := match r with
  | .nx σ m => k σ m
  | .ct σ m => k σ m
  | .bk σ m => .nx σ m
  | r => r
theorem turnK_nx (k : Sl → Mem → Fl) (σ : Sl) (m : Mem) : turnK k (.nx σ m) = k σ m := rfl
theorem turnK_ct (k : Sl → Mem → Fl) (σ : Sl) (m : Mem) : turnK k (.ct σ m) = k σ m := rfl
theorem turnK_bk (k : Sl → Mem → Fl) (σ : Sl) (m : Mem) : turnK k (.bk σ m) = .nx σ m := rfl
theorem turnK_rt (k : Sl → Mem → Fl) (v : Vl) (m : Mem) : turnK k (.rt v m) = .rt v m := rfl
theorem turnK_ex (k : Sl → Mem → Fl) (x : Exc) (σ : Sl) (m : Mem) : turnK k (.ex x σ m) = .ex x σ m := rfl
def forL (body : Sl → Mem → Fl) (tg : Tg) (ok : Mem → Bool) : List Vl → Sl → Mem → Fl
  | [], σ, m => match ok m with
    | true => .nx σ m
    | false => .st
  | x :: xs, σ, m => match ok m, setT tg x σ m with
    | true, some σ' => turnK (forL body tg ok xs) (body σ' m)
    | _, _ => .st
def while2 (body k : Sl → Mem → Fl) (σ : Sl) (m : Mem) (t : Option Bool) : Fl := match t with
  | some true => turnK k (body σ m)
  | some false => .nx σ m
  | none => .st
def whileK (body k : Sl → Mem → Fl) (σ : Sl) (v : Vl) (m : Mem) : Fl := while2 body k σ m (truth v m)
def whileL (c : Sl → Mem → R Vl) (body : Sl → Mem → Fl) : Nat → Sl → Mem → Fl
  | 0, _, _ => .st
  | n + 1, σ, m => fl1 (whileK body (whileL c body n) σ) σ (c σ m)
def setixop (x i v : Vl) (m : Mem) : R Unit := match x, i with
  | .ref n, .d (.int i) => match m[n]? with
    | some (.lst xs) => match pyIxN xs.length i with
      | some j => .ok () (m.set n (.lst (xs.set j v)))
      | none => .st
    | _ => .st
  | _, _ => .st
/-- value first, then the list, then the place -/
def setixop3 (v x i : Vl) (m : Mem) : R Unit := setixop x i v m
/-- op= at a name: numbers and texts alone -/
def augop (op : Bop) (x y : Vl) (m : Mem) : R Vl := match op, x, y with
  | .add, .d (.int i), .d (.int j) => .ok (.d (.int (i + j))) m
  | .add, .d (.str s), .d (.str t) => need (szOk (s.length + t.length)) (.ok (.d (.str (s ++ t))) m)
  | .sub, .d (.int i), .d (.int j) => .ok (.d (.int (i - j))) m
  | _, _, _ => .st
def forK (body : Sl → Mem → Fl) (tg : Tg) (k : Itk) (σ : Sl) (vs : List Vl) (m : Mem) : Fl := match itemsOf k vs m with
  | .ok xs m => forL body tg (still (srcOf k vs) xs) xs σ m
  | .ex x m => .ex x σ m
  | .st => .st
mutual
def evS (C : Ctx) : S → Sl → Mem → Fl
  | .asg tg e, σ, m => fl1 (asgE tg σ) σ (evE C e σ m)
  | .setix a i e, σ, m => fl1 (exU σ) σ (then3 setixop3 (evE C a) (evE C i) σ (evE C e σ m))
  | .aug i op e, σ, m => fl1 (setE i σ) σ (then2 (augop op) (evE C e) σ (ofO (getS σ i) m))
  | .augix _ _ _ _, _, _ => .st
  | .ex e, σ, m => fl1 (exE σ) σ (evE C e σ m)
  | .ret e, σ, m => fl1 retE σ (evE C e σ m)
  | .retn, _, m => .rt (.d .non) m
  | .ite c a b, σ, m => fl1 (ifK (evSs C a) (evSs C b) σ) σ (evE C c σ m)
  | .for_ tg k es body, σ, m => fl1 (forK (evSs C body) tg k σ) σ (evEs C es σ m)
  | .whl c body, σ, m => whileL (evE C c) (evSs C body) C.fuel σ m
  | .brk, σ, m => .bk σ m
  | .cnt, σ, m => .ct σ m
  | .pass, σ, m => .nx σ m
  | .raise cls es, σ, m => fl1 (raiseE cls σ) σ (evEs C es σ m)
  | .try_ _ _ _ _, _, _ => .st
  | .frz i, σ, m => fl1 (setE i σ) σ (then1 freeze (ofO (getS σ i) m))
  | .fgt is, σ, m => .nx (fgt σ is) m
def evSs (C : Ctx) : Ss → Sl → Mem → Fl
  | .nil, σ, m => .nx σ m
  | .cons s ss, σ, m => seqK (evSs C ss) (evS C s σ m)
end

/-! ### defs -/
structure Fn where
  arity : Nat
  slots : Nat
  body : Ss
def isPure : O → Bool
  | .lst xs => xs.all fun v => match v with | .d _ => true | _ => false
  | .dic kvs => kvs.all fun p => match p.2 with | .d _ => true | _ => false
  | .dead => true
/-- older objects are as they were, or hold data alone -/
def oldOk : Mem → Mem → Bool
  | [], _ => true
  | o :: os, o' :: os' => (decide (o = o') || isPure o') && oldOk os os'
  | _ :: _, [] => false
/-- at a def's end: objects made within are dropped where nothing can reach them -/
def drop (m m' : Mem) (v : Vl) : Mem := match v with
  | .d _ => match oldOk m m' with
    | true => m'.take m.length
    | false => m'
  | _ => m'
def endFn (m : Mem) (r : Fl) : R Vl := match r with
  | .nx _ m' => .ok (.d .non) (drop m m' (.d .non))
  | .rt v m' => .ok v (drop m m' v)
  | .ex x _ m' => .ex x (drop m m' (.d .non))
  | _ => .st
def runFn (C : Ctx) (fn : Fn) (vs : List Vl) (m : Mem) : R Vl :=
  need (vs.length == fn.arity) (endFn m (evSs C fn.body (vs.map some ++ List.replicate (fn.slots - fn.arity) none) m))
structure Prog where
  fns : Nat → Option Fn
  glob : Nat → Option D
/-- the program's defs, calls within one another at most k deep -/
def sem (P : Prog) : Nat → Nat → List Vl → Mem → R Vl
  | 0, _, _, _ => .st
  | k + 1, f, vs, m => match P.fns f with
    | some fn => runFn ⟨sem P k, P.glob, 1000000000⟩ fn vs m
    | none => .st
end HP
end

section
set_option Elab.async false
set_option linter.all false
set_option maxRecDepth 100000
set_option maxHeartbeats 4000000
set_option autoImplicit false
/-! Soundness 1: the relations between the evaluator's world and the hand layer's heap. -/
namespace HP
open PySem PySem.Spec PyProof.Rows L2

def toS (s : List Char) : Str := ⟨(s.map Char.toNat).toArray⟩
theorem toS_len (s : List Char) : (toS s).length = s.length := by
  show (s.map Char.toNat).toArray.size = s.length
  simp
theorem toS_list (s : List Char) : (toS s).cps.toList = s.map Char.toNat := by simp [toS]
theorem map_toNat_inj : ∀ {s t : List Char}, s.map Char.toNat = t.map Char.toNat → s = t
  | [], [], _ => rfl
  | [], _ :: _, h => by simp at h
  | _ :: _, [], h => by simp at h
  | a :: s, b :: t, h => by
    simp only [List.map_cons, List.cons.injEq] at h
    rw [Char.toNat_inj.mp h.1, map_toNat_inj h.2]
theorem toS_inj {s t : List Char} (h : toS s = toS t) : s = t := by
  apply map_toNat_inj
  rw [← toS_list, ← toS_list, h]
mutual
def D.py : D → PyData
  | .non => .none
  | .bl b => .bool b
  | .int i => .int i
  | .str s => .str (toS s)
  | .tup xs => .tuple (D.pys xs)
  | .lst xs => .list (D.pys xs)
def D.pys : List D → List PyData
  | [] => []
  | x :: xs => D.py x :: D.pys xs
end
theorem pys_map : ∀ xs : List D, D.pys xs = xs.map D.py
  | [] => rfl
  | x :: xs => by rw [D.pys, pys_map xs, List.map_cons]
theorem SqT.mono {K : PySem.W.Frag} {F F' : Hp} {a : Addr} {xs : List V} (e : Same F F') (h : SqT K F a xs) : SqT K F' a xs := by
  rcases h with (h | ⟨o, h⟩) | h
  · exact .inl (.inl (e _ _ h))
  · exact .inl (.inr ⟨o, e _ _ h⟩)
  · exact .inr h
mutual
theorem Dp.mono {K : PySem.W.Frag} {F F' : Hp} (e : Same F F') : ∀ {v : V} {d : PyData}, Dp K F v d → Dp K F' v d
  | _, _, .non => .non
  | _, _, .bl b => .bl b
  | _, _, .int i => .int i
  | _, _, .str s => .str s
  | _, _, .lst h t => .lst (e.seq h) (DpAll.mono e t)
  | _, _, .tup h t => .tup (SqT.mono e h) (DpAll.mono e t)
theorem DpAll.mono {K : PySem.W.Frag} {F F' : Hp} (e : Same F F') : ∀ {vs : List V} {ds : List PyData}, DpAll K F vs ds → DpAll K F' vs ds
  | _, _, .nil => .nil
  | _, _, .cons h t => .cons (Dp.mono e h) (DpAll.mono e t)
end

mutual
/-- a value of the layer and the data that it is, over what never changes -/
inductive Rp (K : PySem.W.Frag) (F : Hp) : V → D → Prop where
  | non : Rp K F .non .non
  | bl (b : Bool) : Rp K F (.bl b) (.bl b)
  | int (i : Int) : Rp K F (.int i) (.int i)
  | str (s : List Char) : s.length ≤ sizeLine → Rp K F (.str (toS s)) (.str s)
  | lst {a : Addr} {vs : List V} {ds : List D} : F a = some (.lst vs) → Rps K F vs ds → Rp K F (.ref a) (.lst ds)
  | tup {a : Addr} {vs : List V} {ds : List D} : SqT K F a vs → Rps K F vs ds → Rp K F (.ref a) (.tup ds)
inductive Rps (K : PySem.W.Frag) (F : Hp) : List V → List D → Prop where
  | nil : Rps K F [] []
  | cons {v : V} {vs : List V} {d : D} {ds : List D} : Rp K F v d → Rps K F vs ds → Rps K F (v :: vs) (d :: ds)
end
mutual
theorem Rp.mono {K : PySem.W.Frag} {F F' : Hp} (e : Same F F') : ∀ {v : V} {d : D}, Rp K F v d → Rp K F' v d
  | _, _, .non => .non
  | _, _, .bl b => .bl b
  | _, _, .int i => .int i
  | _, _, .str s h => .str s h
  | _, _, .lst h t => .lst (e _ _ h) (Rps.mono e t)
  | _, _, .tup h t => .tup (SqT.mono e h) (Rps.mono e t)
theorem Rps.mono {K : PySem.W.Frag} {F F' : Hp} (e : Same F F') : ∀ {vs : List V} {ds : List D}, Rps K F vs ds → Rps K F' vs ds
  | _, _, .nil => .nil
  | _, _, .cons h t => .cons (Rp.mono e h) (Rps.mono e t)
end
mutual
theorem Rp.dp {K : PySem.W.Frag} {F : Hp} : ∀ {v : V} {d : D}, Rp K F v d → Dp K F v d.py
  | _, _, .non => .non
  | _, _, .bl b => .bl b
  | _, _, .int i => .int i
  | _, _, .str s _ => .str _
  | _, _, .lst h t => .lst (SqL.of h) (Rps.dp t)
  | _, _, .tup h t => .tup h (Rps.dp t)
theorem Rps.dp {K : PySem.W.Frag} {F : Hp} : ∀ {vs : List V} {ds : List D}, Rps K F vs ds → DpAll K F vs (D.pys ds)
  | _, _, .nil => .nil
  | _, _, .cons h t => .cons (Rp.dp h) (Rps.dp t)
end

/-- a value of the layer and a value of the evaluator -/
def RpV (K : PySem.W.Frag) (F : Hp) (ρ : List Addr) (v : V) : Vl → Prop
  | .d x => Rp K F v x
  | .ref n => ∃ a, v = .ref a ∧ ρ[n]? = some a
  | .scr ns => ∃ a, v = .ref a ∧ SqL K F a (ns.map V.int)
abbrev RpVs (K : PySem.W.Frag) (F : Hp) (ρ : List Addr) : List V → List Vl → Prop := Paired (RpV K F ρ)
theorem pre_get {α : Type} {l l' : List α} {n : Nat} {a : α} (h : l <+: l') (e : l[n]? = some a) : l'[n]? = some a := by
  obtain ⟨t, rfl⟩ := h
  rw [List.getElem?_append_left (List.getElem?_eq_some_iff.mp e).1]
  exact e
theorem RpV.mono {K : PySem.W.Frag} {F F' : Hp} {ρ ρ' : List Addr} (e : Same F F') (p : ρ <+: ρ') {v : V} : ∀ {x : Vl}, RpV K F ρ v x → RpV K F' ρ' v x
  | .d _, h => Rp.mono e h
  | .ref _, ⟨a, h1, h2⟩ => ⟨a, h1, pre_get p h2⟩
  | .scr _, ⟨a, h1, h2⟩ => ⟨a, h1, e.seq h2⟩
theorem RpVs.mono {K : PySem.W.Frag} {F F' : Hp} {ρ ρ' : List Addr} (e : Same F F') (p : ρ <+: ρ') {vs : List V} {xs : List Vl} (h : RpVs K F ρ vs xs) : RpVs K F' ρ' vs xs :=
  Paired.mapP h fun _ _ q => q.mono e p
theorem Paired.len {α β : Type} {F : α → β → Prop} {l : List α} {m : List β} (h : Paired F l m) : l.length = m.length := Paired.length h
theorem Paired.getR {α β : Type} {F : α → β → Prop} : ∀ {l : List α} {m : List β} {i : Nat} {y : β}, Paired F l m → m[i]? = some y → ∃ x, l[i]? = some x ∧ F x y
  | _, _, _, _, .nil, e => by simp at e
  | _, _, 0, _, .cons r _, e => by simp at e; subst e; exact ⟨_, rfl, r⟩
  | _, _, i + 1, y, .cons _ t, e => by
    obtain ⟨u, h1, h2⟩ := Paired.getR (i := i) (y := y) t (by simpa using e)
    exact ⟨u, by simpa using h1, h2⟩
theorem Paired.getL {α β : Type} {F : α → β → Prop} : ∀ {l : List α} {m : List β} {i : Nat} {x : α}, Paired F l m → l[i]? = some x → ∃ y, m[i]? = some y ∧ F x y
  | _, _, _, _, .nil, e => by simp at e
  | _, _, 0, _, .cons r _, e => by simp at e; subst e; exact ⟨_, rfl, r⟩
  | _, _, i + 1, y, .cons _ t, e => by
    obtain ⟨u, h1, h2⟩ := Paired.getL (i := i) (x := y) t (by simpa using e)
    exact ⟨u, by simpa using h1, h2⟩
theorem Paired.setR {α β : Type} {F : α → β → Prop} {x : α} {y : β} (r : F x y) : ∀ {l : List α} {m : List β} (i : Nat), Paired F l m → Paired F (l.set i x) (m.set i y)
  | _, _, _, .nil => .nil
  | _, _, 0, .cons _ t => .cons r t
  | _, _, i + 1, .cons q t => .cons q (Paired.setR r i t)
theorem Paired.app {α β : Type} {F : α → β → Prop} : ∀ {l l' : List α} {m m' : List β}, Paired F l m → Paired F l' m' → Paired F (l ++ l') (m ++ m')
  | _, _, _, _, .nil, s => s
  | _, _, _, _, .cons r t, s => .cons r (Paired.app t s)
theorem Paired.takeR {α β : Type} {F : α → β → Prop} : ∀ {l : List α} {m : List β} (n : Nat), Paired F l m → Paired F (l.take n) (m.take n)
  | _, _, 0, _ => .nil
  | _, _, _ + 1, .nil => .nil
  | _, _, n + 1, .cons r t => .cons r (Paired.takeR n t)
theorem Paired.dropR {α β : Type} {F : α → β → Prop} : ∀ {l : List α} {m : List β} (n : Nat), Paired F l m → Paired F (l.drop n) (m.drop n)
  | _, _, 0, r => r
  | _, _, _ + 1, .nil => .nil
  | _, _, n + 1, .cons _ t => Paired.dropR n t
theorem Paired.rev {α β : Type} {F : α → β → Prop} {l : List α} {m : List β} (h : Paired F l m) : Paired F l.reverse m.reverse := by
  induction h with
  | nil => exact .nil
  | cons r t ih => rw [List.reverse_cons, List.reverse_cons]; exact Paired.app ih (.cons r .nil)
/-- data at a list of values -/
theorem RpVs.rps {K : PySem.W.Frag} {F : Hp} {ρ : List Addr} : ∀ {vs : List V} {xs : List D}, RpVs K F ρ vs (xs.map Vl.d) → Rps K F vs xs
  | _, [], .nil => .nil
  | _, x :: xs, .cons r t => .cons r (RpVs.rps t)
theorem Rps.vs {K : PySem.W.Frag} {F : Hp} {ρ : List Addr} : ∀ {vs : List V} {xs : List D}, Rps K F vs xs → RpVs K F ρ vs (xs.map Vl.d)
  | _, [], .nil => .nil
  | _, x :: xs, .cons r t => .cons r (Rps.vs t)
theorem Rps.len {K : PySem.W.Frag} {F : Hp} : ∀ {vs : List V} {xs : List D}, Rps K F vs xs → vs.length = xs.length
  | _, [], .nil => rfl
  | _, x :: xs, .cons r t => by rw [List.length_cons, List.length_cons, Rps.len t]

/-- a mutable object, at its address -/
def ORel (K : PySem.W.Frag) (F : Hp) (ρ : List Addr) (H : Hp) (a : Addr) : O → Prop
  | .lst xs => ∃ vs, H a = some (.lst vs) ∧ RpVs K F ρ vs xs
  | .dic _ => False
  | .dead => True
structure Wd (K : PySem.W.Frag) (G F : Hp) (ρ : List Addr) (μ : Mem) (H : Hp) : Prop where
  sub : Same F H
  len : ρ.length = μ.length
  obj : ∀ (n : Nat) (o : O) (a : Addr), μ[n]? = some o → o ≠ .dead → ρ[n]? = some a → F a = none ∧ ORel K F ρ H a o
  inj : ∀ (n m : Nat) (a : Addr) (o o' : O), μ[n]? = some o → o ≠ .dead → μ[m]? = some o' → o' ≠ .dead → ρ[n]? = some a → ρ[m]? = some a → n = m
  gsub : Same G H
  gf : ∀ (a : Addr) (o : HO), G a = some o → F a = none
  gl : ∀ (n : Nat) (o : O) (a : Addr), μ[n]? = some o → o ≠ .dead → ρ[n]? = some a → G a = none

theorem same_new {F : Hp} {p : Addr} {o : HO} (h : F p = none) : Same F (upd F p o) := fun b x e => by
  rw [upd_ne (ne_of_none e h)]
  exact e
theorem ORel.mono {K : PySem.W.Frag} {F F' : Hp} {ρ ρ' : List Addr} {H H' : Hp} {a : Addr} (e : Same F F') (p : ρ <+: ρ') (h : H' a = H a) : ∀ {o : O}, ORel K F ρ H a o → ORel K F' ρ' H' a o
  | .lst _, ⟨vs, h1, h2⟩ => ⟨vs, by rw [h]; exact h1, h2.mono e p⟩
  | .dic _, q => q
  | .dead, _ => trivial
section
variable {K : PySem.W.Frag} {G F : Hp} {ρ : List Addr} {μ : Mem} {H : Hp} {p : Addr}
theorem Wd.fnone (w : Wd K G F ρ μ H) (h : H p = none) : F p = none := w.sub.free h
theorem Wd.alive (w : Wd K G F ρ μ H) {n : Nat} {o : O} {a : Addr} (h1 : μ[n]? = some o) (h2 : o ≠ .dead) (h3 : ρ[n]? = some a) : ∃ x, H a = some x := by
  obtain ⟨_, q⟩ := w.obj n o a h1 h2 h3
  cases o with
  | lst xs => obtain ⟨vs, e, _⟩ := q; exact ⟨_, e⟩
  | dic _ => exact q.elim
  | dead => exact absurd rfl h2
/-- a new thing that never changes -/
theorem Wd.newF (w : Wd K G F ρ μ H) (h : H p = none) (o : HO) : Wd K G (upd F p o) ρ μ (upd H p o) := by
  have hf := w.fnone h
  refine ⟨fun b x e => ?_, w.len, fun n u a h1 h2 h3 => ?_, w.inj, w.gsub.trans (same_new h), fun b x e => by rw [upd_ne (ne_of_none (w.gsub _ _ e) h)]; exact w.gf b x e, w.gl⟩
  · by_cases hb : b = p
    · subst hb; rw [upd_same] at e ⊢; exact e
    · rw [upd_ne hb] at e ⊢; exact w.sub _ _ e
  · obtain ⟨x, hx⟩ := w.alive h1 h2 h3
    have ne := ne_of_none hx h
    obtain ⟨q1, q2⟩ := w.obj n u a h1 h2 h3
    exact ⟨by rw [upd_ne ne]; exact q1, q2.mono (same_new hf) (List.prefix_refl _) (upd_ne ne)⟩
/-- a new mutable list -/
theorem Wd.newM (w : Wd K G F ρ μ H) (h : H p = none) {vs : List V} {xs : List Vl} (r : RpVs K F ρ vs xs) : Wd K G F (ρ ++ [p]) (μ ++ [.lst xs]) (upd H p (.lst vs)) := by
  have hf := w.fnone h
  have pre : ρ <+: ρ ++ [p] := List.prefix_append _ _
  have key : ∀ (n : Nat) (o : O) (a : Addr), (μ ++ [O.lst xs])[n]? = some o → o ≠ .dead → (ρ ++ [p])[n]? = some a → (μ[n]? = some o ∧ ρ[n]? = some a ∧ a ≠ p) ∨ (n = μ.length ∧ o = .lst xs ∧ a = p) := fun n o a h1 h2 h3 => by
    by_cases hn : n < μ.length
    · rw [List.getElem?_append_left hn] at h1
      rw [List.getElem?_append_left (by rw [w.len]; exact hn)] at h3
      obtain ⟨x, hx⟩ := w.alive h1 h2 h3
      exact .inl ⟨h1, h3, ne_of_none hx h⟩
    · have e : n = μ.length := by
        have := (List.getElem?_eq_some_iff.mp h1).1
        rw [List.length_append, List.length_singleton] at this
        omega
      subst e
      rw [List.getElem?_concat_length] at h1
      rw [← w.len, List.getElem?_concat_length] at h3
      exact .inr ⟨rfl, (Option.some.inj h1).symm, (Option.some.inj h3).symm⟩
  refine ⟨fun b x e => ?_, by rw [List.length_append, List.length_append, w.len]; rfl, fun n o a h1 h2 h3 => ?_, fun n m a o o' h1 h2 h3 h4 h5 h6 => ?_, w.gsub.trans (same_new h), w.gf, fun n o a h1 h2 h3 => ?_⟩
  · rw [upd_ne (ne_of_none (w.sub _ _ e) h)]; exact w.sub _ _ e
  · rcases key n o a h1 h2 h3 with ⟨q1, q2, q3⟩ | ⟨rfl, rfl, rfl⟩
    · obtain ⟨r1, r2⟩ := w.obj n o a q1 h2 q2
      exact ⟨r1, r2.mono (Same.refl _) pre (upd_ne q3)⟩
    · exact ⟨hf, vs, upd_same, r.mono (Same.refl _) pre⟩
  · rcases key n o a h1 h2 h5 with ⟨q1, q2, q3⟩ | ⟨rfl, rfl, rfl⟩
    · rcases key m o' a h3 h4 h6 with ⟨s1, s2, s3⟩ | ⟨rfl, rfl, rfl⟩
      · exact w.inj n m a o o' q1 h2 s1 h4 q2 s2
      · exact absurd rfl q3
    · rcases key m o' a h3 h4 h6 with ⟨s1, s2, s3⟩ | ⟨e, _, _⟩
      · exact absurd rfl s3
      · exact e.symm
  · rcases key n o a h1 h2 h3 with ⟨q1, q2, q3⟩ | ⟨rfl, rfl, rfl⟩
    · exact w.gl n o a q1 h2 q2
    · exact w.gsub.free h
/-- a mutable list changes -/
theorem Wd.setM (w : Wd K G F ρ μ H) {n : Nat} {o₀ : O} {a : Addr} (h1 : μ[n]? = some o₀) (h2 : o₀ ≠ .dead) (h3 : ρ[n]? = some a) {vs : List V} {xs : List Vl} (r : RpVs K F ρ vs xs) :
    Wd K G F ρ (μ.set n (.lst xs)) (upd H a (.lst vs)) := by
  have hn := (List.getElem?_eq_some_iff.mp h1).1
  obtain ⟨hfa, _⟩ := w.obj n o₀ a h1 h2 h3
  have key : ∀ (m : Nat) (o : O), (μ.set n (.lst xs))[m]? = some o → (m = n ∧ o = .lst xs) ∨ (m ≠ n ∧ μ[m]? = some o) := fun m o e => by
    by_cases hm : m = n
    · subst hm; rw [List.getElem?_set_self hn] at e; exact .inl ⟨rfl, (Option.some.inj e).symm⟩
    · rw [List.getElem?_set_ne (Ne.symm hm)] at e; exact .inr ⟨hm, e⟩
  have live : ∀ (m : Nat) (o : O), (μ.set n (.lst xs))[m]? = some o → o ≠ .dead → ∃ o', μ[m]? = some o' ∧ o' ≠ .dead := fun m o e d => by
    rcases key m o e with ⟨rfl, _⟩ | ⟨_, q⟩
    · exact ⟨_, h1, h2⟩
    · exact ⟨_, q, d⟩
  have hga := w.gl n o₀ a h1 h2 h3
  refine ⟨fun b x e => ?_, by rw [List.length_set]; exact w.len, fun m o b e1 e2 e3 => ?_, fun m k b o o' e1 e2 e3 e4 e5 e6 => ?_, fun b x e => by rw [upd_ne (ne_of_none e hga)]; exact w.gsub _ _ e, w.gf, fun m o b e1 e2 e3 => ?_⟩
  · rw [upd_ne (ne_of_none e hfa)]; exact w.sub _ _ e
  · rcases key m o e1 with ⟨rfl, rfl⟩ | ⟨hm, q⟩
    · rw [h3] at e3; cases e3
      exact ⟨hfa, vs, upd_same, r⟩
    · obtain ⟨r1, r2⟩ := w.obj m o b q e2 e3
      have hb : b ≠ a := fun z => hm (by subst z; exact w.inj m n b o o₀ q e2 h1 h2 e3 h3)
      exact ⟨r1, r2.mono (Same.refl _) (List.prefix_refl _) (upd_ne hb)⟩
  · obtain ⟨o1, q1, d1⟩ := live m o e1 e2
    obtain ⟨o2, q2, d2⟩ := live k o' e3 e4
    exact w.inj m k b o1 o2 q1 d1 q2 d2 e5 e6
  · obtain ⟨o1, q1, d1⟩ := live m o e1 e2
    exact w.gl m o1 b q1 d1 e3
/-- a mutable list freezes -/
theorem Wd.freeze (w : Wd K G F ρ μ H) {n : Nat} {xs : List Vl} {a : Addr} {vs : List V} (h1 : μ[n]? = some (.lst xs)) (h3 : ρ[n]? = some a) (hv : H a = some (.lst vs)) :
    Wd K G (upd F a (.lst vs)) ρ (μ.set n .dead) H ∧ Same F (upd F a (.lst vs)) := by
  have hn := (List.getElem?_eq_some_iff.mp h1).1
  have h2 : O.lst xs ≠ .dead := fun e => nomatch e
  obtain ⟨hfa, _⟩ := w.obj n _ a h1 h2 h3
  have key : ∀ (m : Nat) (o : O), (μ.set n O.dead)[m]? = some o → o ≠ .dead → m ≠ n ∧ μ[m]? = some o := fun m o e d => by
    by_cases hm : m = n
    · subst hm; rw [List.getElem?_set_self hn] at e; exact absurd (Option.some.inj e).symm d
    · rw [List.getElem?_set_ne (Ne.symm hm)] at e; exact ⟨hm, e⟩
  have sm := same_new (o := HO.lst vs) hfa
  have hga := w.gl n _ a h1 h2 h3
  refine ⟨⟨fun b x e => ?_, by rw [List.length_set]; exact w.len, fun m o b e1 e2 e3 => ?_, fun m k b o o' e1 e2 e3 e4 e5 e6 => ?_, w.gsub, fun b x e => by rw [upd_ne (ne_of_none e hga)]; exact w.gf b x e, fun m o b e1 e2 e3 => w.gl m o b (key m o e1 e2).2 e2 e3⟩, sm⟩
  · by_cases hb : b = a
    · subst hb; rw [upd_same] at e; rw [hv]; exact e
    · rw [upd_ne hb] at e; exact w.sub _ _ e
  · obtain ⟨hm, q⟩ := key m o e1 e2
    obtain ⟨r1, r2⟩ := w.obj m o b q e2 e3
    have hb : b ≠ a := fun z => hm (by subst z; exact w.inj m n b o _ q e2 h1 h2 e3 h3)
    exact ⟨by rw [upd_ne hb]; exact r1, r2.mono sm (List.prefix_refl _) rfl⟩
  · exact w.inj m k b o o' (key m o e1 e2).2 e2 (key k o' e3 e4).2 e4 e5 e6
end

/-! ### slots -/
def SlO (K : PySem.W.Frag) (F : Hp) (ρ : List Addr) (x : Option V) : Option Vl → Prop
  | some d => ∃ v, x = some v ∧ RpV K F ρ v d
  | none => True
abbrev SlR (K : PySem.W.Frag) (F : Hp) (ρ : List Addr) : L2.St → Sl → Prop := Paired (SlO K F ρ)
theorem SlR.mono {K : PySem.W.Frag} {F F' : Hp} {ρ ρ' : List Addr} (e : Same F F') (p : ρ <+: ρ') {s : L2.St} {σ : Sl} (h : SlR K F ρ s σ) : SlR K F' ρ' s σ :=
  Paired.mapP h fun x y q => by
    cases y with
    | none => trivial
    | some d => obtain ⟨v, e1, r⟩ := q; exact ⟨v, e1, r.mono e p⟩
theorem getS_eq : ∀ (σ : Sl) (i : Nat) (d : Vl), getS σ i = some d → σ[i]? = some (some d)
  | [], _, _, h => by cases h
  | x :: _, 0, d, h => by simpa [getS] using h
  | _ :: s, n + 1, d, h => by simpa using getS_eq s n d h
theorem SlR.get {K : PySem.W.Frag} {F : Hp} {ρ : List Addr} {s : L2.St} {σ : Sl} (h : SlR K F ρ s σ) {i : Nat} {d : Vl} (e : getS σ i = some d) : ∃ v, s[i]? = some (some v) ∧ RpV K F ρ v d := by
  obtain ⟨x, h1, v, h2, h3⟩ := Paired.getR h (getS_eq σ i d e)
  exact ⟨v, by rw [h1, h2], h3⟩
theorem SlR.set {K : PySem.W.Frag} {F : Hp} {ρ : List Addr} {s : L2.St} {σ : Sl} (h : SlR K F ρ s σ) {i : Nat} {v : V} {d : Vl} (r : RpV K F ρ v d) : SlR K F ρ (s.set i (some v)) (σ.set i (some d)) :=
  Paired.setR (show SlO K F ρ (some v) (some d) from ⟨v, rfl, r⟩) i h

/-! ### ends -/
/-- what an exception must bring -/
structure XP where
  p : Hp → List Addr → Exc → Mem → Prop
  mono : ∀ {F F' : Hp} {ρ ρ' : List Addr} {x : Exc} {m : Mem}, Same F F' → ρ <+: ρ' → p F ρ x m → p F' ρ' x m
def Post {α β : Type} (K : PySem.W.Frag) (G : Hp) (rel : Hp → List Addr → β → α → Prop) (F : Hp) (ρ : List Addr) (wx : XP) (r : R α) (Q : β → Hp → Prop) : Prop := match r with
  | .ok d m => ∀ F' ρ' v H', Same F F' → ρ <+: ρ' → Wd K G F' ρ' m H' → rel F' ρ' v d → Q v H'
  | .ex x m => wx.p F ρ x m
  | .st => False
section
variable {α β γ δ : Type} {K : PySem.W.Frag} {G : Hp} {rel : Hp → List Addr → β → α → Prop} {F F' : Hp} {ρ ρ' : List Addr} {wx : XP} {r : R α} {Q Q' : β → Hp → Prop}
theorem Post.mono (h : Post K G rel F ρ wx r Q) (e : Same F F') (p : ρ <+: ρ') : Post K G rel F' ρ' wx r Q := by
  cases r with
  | ok d m => exact fun F2 ρ2 v H2 s2 p2 w2 r2 => h F2 ρ2 v H2 (e.trans s2) (p.trans p2) w2 r2
  | ex x m => exact wx.mono e p h
  | st => exact h
theorem Post.imp (h : Post K G rel F ρ wx r Q) (hq : ∀ v H, Q v H → Q' v H) : Post K G rel F ρ wx r Q' := by
  cases r with
  | ok d m => exact fun F2 ρ2 v H2 s2 p2 w2 r2 => hq _ _ (h F2 ρ2 v H2 s2 p2 w2 r2)
  | ex x m => exact h
  | st => exact h
/-- the state behind r, on the way to g -/
def Mid {α β γ δ : Type} (K : PySem.W.Frag) (G : Hp) (rel : Hp → List Addr → β → α → Prop) (rel' : Hp → List Addr → δ → γ → Prop) (F : Hp) (ρ : List Addr) (wx : XP) (g : α → Mem → R γ) (Q : δ → Hp → Prop) (v : β) (H : Hp) : Prop :=
  ∃ F1 ρ1 a m, Wd K G F1 ρ1 m H ∧ rel F1 ρ1 v a ∧ Same F F1 ∧ ρ <+: ρ1 ∧ Post K G rel' F1 ρ1 wx (g a m) Q
theorem Post.bind {rel' : Hp → List Addr → δ → γ → Prop} {g : α → Mem → R γ} {Z : R α → R γ} {P : δ → Hp → Prop} (h : Post K G rel' F ρ wx (Z r) P) (hok : ∀ a m, Z (.ok a m) = g a m) (hex : ∀ x m, Z (.ex x m) = .ex x m) (hst : Z .st = .st) :
    Post K G rel F ρ wx r (Mid K G rel rel' F ρ wx g P) := by
  cases r with
  | ok a m =>
    rw [hok] at h
    exact fun F1 ρ1 v H1 s1 p1 w1 r1 => ⟨F1, ρ1, a, m, w1, r1, s1, p1, h.mono s1 p1⟩
  | ex x m => rw [hex] at h; exact h
  | st => rw [hst] at h; exact h
end
end HP
end

section
set_option Elab.async false
set_option linter.all false
set_option maxRecDepth 100000
set_option maxHeartbeats 4000000
set_option autoImplicit false
/-! Soundness 2: operations on values. -/
namespace HP
open PySem PySem.Spec PyProof.Rows L2

section
variable {K : PySem.W.Frag} {G F : Hp} {ρ : List Addr} {μ : Mem} {H : Hp} {wx : XP} {Q : VK} {v : V} {p : Addr} {o : HO} {d : Vl}
theorem Post.same (h : Post K G (RpV K) F ρ wx (.ok d μ) Q) (w : Wd K G F ρ μ H) (r : RpV K F ρ v d) : Q v H := h F ρ v H (Same.refl _) (List.prefix_refl _) w r
theorem Post.newF (h : Post K G (RpV K) F ρ wx (.ok d μ) Q) (w : Wd K G F ρ μ H) (hp : H p = none) (r : RpV K (upd F p o) ρ (.ref p) d) : Q (.ref p) (upd H p o) :=
  h _ ρ _ _ (same_new (w.fnone hp)) (List.prefix_refl _) (w.newF hp o) r
theorem Post.newM {vs : List V} {xs : List Vl} (h : Post K G (RpV K) F ρ wx (.ok (.ref μ.length) (μ ++ [.lst xs])) Q) (w : Wd K G F ρ μ H) (hp : H p = none) (r : RpVs K F ρ vs xs) : Q (.ref p) (upd H p (.lst vs)) :=
  h F _ _ _ (Same.refl _) (List.prefix_append _ _) (w.newM hp r) ⟨p, rfl, by rw [← w.len, List.getElem?_concat_length]⟩
theorem Post.setM {n : Nat} {o₀ : O} {a : Addr} {vs : List V} {xs : List Vl} (h : Post K G (RpV K) F ρ wx (.ok d (μ.set n (.lst xs))) Q) (w : Wd K G F ρ μ H) (h1 : μ[n]? = some o₀) (h2 : o₀ ≠ .dead) (h3 : ρ[n]? = some a)
    (r : RpVs K F ρ vs xs) (rv : RpV K F ρ v d) : Q v (upd H a (.lst vs)) :=
  h F ρ _ _ (Same.refl _) (List.prefix_refl _) (w.setM h1 h2 h3 r) rv
end
theorem Post.need {α β : Type} {K : PySem.W.Frag} {G : Hp} {rel : Hp → List Addr → β → α → Prop} {F : Hp} {ρ : List Addr} {wx : XP} {r : R α} {Q : β → Hp → Prop} {b : Bool} (h : Post K G rel F ρ wx (need b r) Q) : b = true ∧ Post K G rel F ρ wx r Q := by
  cases b with
  | true => exact ⟨rfl, h⟩
  | false => exact h.elim
section
variable {K : PySem.W.Frag} {G F : Hp} {ρ : List Addr} {μ : Mem} {H : Hp} {v : V}
theorem RpV.int_ {i : Int} (h : RpV K F ρ v (.d (.int i))) : v = .int i := by cases h; rfl
theorem RpV.bl_ {i : Bool} (h : RpV K F ρ v (.d (.bl i))) : v = .bl i := by cases h; rfl
theorem RpV.non_ (h : RpV K F ρ v (.d .non)) : v = .non := by cases h; rfl
theorem RpV.str_ {s : List Char} (h : RpV K F ρ v (.d (.str s))) : v = .str (toS s) ∧ s.length ≤ sizeLine := by cases h; exact ⟨rfl, by assumption⟩
theorem RpV.tup_ {xs : List D} (h : RpV K F ρ v (.d (.tup xs))) : ∃ a vs, v = .ref a ∧ SqT K F a vs ∧ Rps K F vs xs := by cases h; exact ⟨_, _, rfl, by assumption, by assumption⟩
theorem RpV.lst_ {xs : List D} (h : RpV K F ρ v (.d (.lst xs))) : ∃ a vs, v = .ref a ∧ F a = some (.lst vs) ∧ Rps K F vs xs := by cases h; exact ⟨_, _, rfl, by assumption, by assumption⟩
theorem RpV.ref_ {n : Nat} {xs : List Vl} (h : RpV K F ρ v (.ref n)) (w : Wd K G F ρ μ H) (e : μ[n]? = some (.lst xs)) : ∃ a vs, v = .ref a ∧ ρ[n]? = some a ∧ H a = some (.lst vs) ∧ RpVs K F ρ vs xs := by
  obtain ⟨a, h1, h2⟩ := h
  obtain ⟨_, vs, h3, h4⟩ := w.obj n _ a e (fun z => nomatch z) h2
  exact ⟨a, vs, h1, h2, h3, h4⟩
/-- the list that a value is -/
theorem lstOf_ {d : Vl} {xs : List D} (h : RpV K F ρ v d) (w : Wd K G F ρ μ H) (e : lstOf d μ = some xs) : ∃ a vs, v = .ref a ∧ H a = some (.lst vs) ∧ Rps K F vs xs := by
  unfold lstOf at e
  split at e
  · cases e
    obtain ⟨a, vs, h1, h2, h3⟩ := h.lst_
    exact ⟨a, vs, h1, w.sub _ _ h2, h3⟩
  · split at e
    · rename_i q
      obtain ⟨a, vs, h1, h2, h3, h4⟩ := h.ref_ w q
      have := pures_some e
      subst this
      exact ⟨a, vs, h1, h3, h4.rps⟩
    · cases e
  · cases e
theorem seqOf_ {d : Vl} {xs : List Vl} (h : RpV K F ρ v d) (w : Wd K G F ρ μ H) (e : seqOf d μ = some xs) : ∃ a vs, v = .ref a ∧ (SqL K H a vs ∨ SqT K H a vs) ∧ RpVs K F ρ vs xs := by
  unfold seqOf at e
  split at e
  · cases e
    obtain ⟨a, vs, h1, h2, h3⟩ := h.tup_
    exact ⟨a, vs, h1, .inr (SqT.mono w.sub h2), h3.vs⟩
  · cases e
    obtain ⟨a, vs, h1, h2, h3⟩ := h.lst_
    exact ⟨a, vs, h1, .inl (SqL.of (w.sub _ _ h2)), h3.vs⟩
  · split at e
    · cases e
      rename_i q
      obtain ⟨a, vs, h1, h2, h3, h4⟩ := h.ref_ w q
      exact ⟨a, vs, h1, .inl (SqL.of h3), h4⟩
    · cases e
  · cases e
theorem datOf_ {d : Vl} {x : D} (h : RpV K F ρ v d) (w : Wd K G F ρ μ H) (e : datOf d μ = some x) : Dp K H v x.py := by
  unfold datOf at e
  split at e
  · cases e; exact Dp.mono w.sub (Rp.dp h)
  · split at e
    · rename_i q
      split at e
      · cases e
        rename_i q2
        obtain ⟨a, vs, h1, h2, h3, h4⟩ := h.ref_ w q
        have := pures_some q2
        subst this
        subst h1
        exact .lst (SqL.of h3) (DpAll.mono w.sub (Rps.dp h4.rps))
      · cases e
    · cases e
  · cases e
theorem Rps.app {vs vs' : List V} {xs xs' : List D} (h : Rps K F vs xs) (h' : Rps K F vs' xs') : Rps K F (vs ++ vs') (xs ++ xs') := by
  have := Paired.app (h.vs (ρ := [])) (h'.vs (ρ := []))
  rw [← List.map_append] at this
  exact RpVs.rps this
theorem Rps.takes {vs : List V} {xs : List D} (n : Nat) (h : Rps K F vs xs) : Rps K F (vs.take n) (xs.take n) := by
  have := Paired.takeR n (h.vs (ρ := []))
  rw [← List.map_take] at this
  exact RpVs.rps this
theorem Rps.drops {vs : List V} {xs : List D} (n : Nat) (h : Rps K F vs xs) : Rps K F (vs.drop n) (xs.drop n) := by
  have := Paired.dropR n (h.vs (ρ := []))
  rw [← List.map_drop] at this
  exact RpVs.rps this
theorem Rps.nil_iff {vs : List V} {xs : List D} (h : Rps K F vs xs) : vs = [] ↔ xs = [] := by
  have := h.len
  constructor
  · intro e; subst e; exact List.eq_nil_of_length_eq_zero this.symm
  · intro e; subst e; exact List.eq_nil_of_length_eq_zero this
end
theorem toS_app (s t : List Char) : toS s ++ toS t = toS (s ++ t) := by
  show (⟨(toS s).cps ++ (toS t).cps⟩ : Str) = _
  simp [toS]
theorem CMulB_ {i j : Int} (h : CMulB i j = true) : CMul i j ∨ CMulW i j := by
  unfold CMulB at h
  simp only [Bool.or_eq_true, decide_eq_true_eq] at h
  rcases h with (h | h) | h
  · exact .inl (.inl ⟨by have := h.1; omega, by have := h.2; omega⟩)
  · exact .inl (.inr ⟨by have := h.1; omega, by have := h.2; omega⟩)
  · exact .inr h

def rBin (K : PySem.W.Frag) (g : Vl → Vl → Mem → R Vl) : R2 := fun x y H Q => ∃ G F ρ μ a b wx, Wd K G F ρ μ H ∧ RpV K F ρ x a ∧ RpV K F ρ y b ∧ Post K G (RpV K) F ρ wx (g a b μ) Q
def rUn (K : PySem.W.Frag) (g : Vl → Mem → R Vl) : V → Hp → VK → Prop := fun x H Q => ∃ G F ρ μ a wx, Wd K G F ρ μ H ∧ RpV K F ρ x a ∧ Post K G (RpV K) F ρ wx (g a μ) Q
def rArgs (K : PySem.W.Frag) (g : List Vl → Mem → R Vl) : List V → Hp → VK → Prop := fun xs H Q => ∃ G F ρ μ as wx, Wd K G F ρ μ H ∧ RpVs K F ρ xs as ∧ Post K G (RpV K) F ρ wx (g as μ) Q
def rMeth (K : PySem.W.Frag) (g : Vl → List Vl → Mem → R Vl) : V → List V → Hp → VK → Prop := fun x xs H Q => ∃ G F ρ μ a as wx, Wd K G F ρ μ H ∧ RpV K F ρ x a ∧ RpVs K F ρ xs as ∧ Post K G (RpV K) F ρ wx (g a as μ) Q
/-- results that are no exception -/
def NoEx {α : Type} (r : R α) : Prop := match r with
  | .ex _ _ => False
  | _ => True
theorem Post.noex {α β : Type} {K : PySem.W.Frag} {G : Hp} {rel : Hp → List Addr → β → α → Prop} {F : Hp} {ρ : List Addr} {wx : XP} {r : R α} {Q : β → Hp → Prop} (h : Post K G rel F ρ wx r Q) (n : NoEx r) : ∃ d m, r = .ok d m := by
  cases r with
  | ok d m => exact ⟨d, m, rfl⟩
  | ex x m => exact n.elim
  | st => exact h.elim

def opOf : Bop → Operator
  | .add => .Add | .sub => .Sub | .mul => .Mult | .fdiv => .FloorDiv | .mod => .Mod | .shl => .LShift | .band => .BitAnd | .pow => .Pow
theorem szOk_ {n : Nat} (h : szOk n = true) : n ≤ sizeLine := by
  have := of_decide_eq_true h
  rw [sizeLine_eq]; omega
theorem szLt_ {n : Nat} (h : szLt n = true) : n < sizeLine := by
  have := of_decide_eq_true h
  rw [sizeLine_eq]; omega
section
variable {X : Cx}
theorem snd_bin (op : Bop) : OpR X (binaryOp (opOf op)) (rBin X.K (binop op)) := by
  intro pins s σ H x y v u Q I rx ry h
  obtain ⟨G, F, ρ, μ, a, b, wx, w, ra, rb, hp⟩ := h
  unfold binop at hp
  split at hp
  · -- int + int
    obtain rfl := ra.int_; obtain rfl := rb.int_
    exact op_add pins s σ H _ _ v u Q I rx ry ⟨_, _, rfl, rfl, hp.same w (.int _)⟩
  · -- str + str
    obtain ⟨hs, hp⟩ := hp.need
    have hs := szOk_ hs
    obtain ⟨rfl, h1⟩ := ra.str_; obtain ⟨rfl, h2⟩ := rb.str_
    refine op_add_str pins s σ H _ _ v u Q I rx ry ⟨_, _, rfl, rfl, by rw [toS_len, toS_len]; exact hs, ?_⟩
    rw [toS_app]
    exact hp.same w (.str _ (by rw [List.length_append]; exact hs))
  · -- tuple + tuple
    obtain ⟨hs, hp⟩ := hp.need
    have hs := szOk_ hs
    obtain ⟨a, vs, rfl, t1, r1⟩ := ra.tup_
    obtain ⟨b, ws, rfl, t2, r2⟩ := rb.tup_
    refine op_catA pins s σ H _ _ v u Q I rx ry ⟨a, b, vs, ws, rfl, rfl, SqT.mono w.sub t1, SqT.mono w.sub t2, by rw [r1.len, r2.len]; exact hs, fun e => ?_, fun e e' => ?_, fun _ _ p hpn => ?_⟩
    · have e2 := r1.nil_iff.mp e
      subst e2
      exact hp.same w (.tup t2 r2)
    · have e2 := r2.nil_iff.mp e'
      subst e2
      rw [List.append_nil] at hp
      exact hp.same w (.tup t1 r1)
    · exact hp.newF w hpn (.tup (SqT.of upd_same) ((Rps.app r1 r2).mono (same_new (w.fnone hpn))))
  · -- list + list
    rename_i o1 o2 o3
    split at hp
    · rename_i xs ys e1 e2
      obtain ⟨hs, hp⟩ := hp.need
      have hs := szOk_ hs
      obtain ⟨a', vs, rfl, t1, r1⟩ := lstOf_ ra w e1
      obtain ⟨b', ws, rfl, t2, r2⟩ := lstOf_ rb w e2
      refine op_cat pins s σ H _ _ v u Q I rx ry ⟨a', b', vs, ws, rfl, rfl, t1, t2, by rw [r1.len, r2.len]; exact hs, fun p hpn => ?_⟩
      exact hp.newF w hpn (.lst upd_same ((Rps.app r1 r2).mono (same_new (w.fnone hpn))))
    · exact hp.elim
  · obtain rfl := ra.int_; obtain rfl := rb.int_
    exact op_sub pins s σ H _ _ v u Q I rx ry ⟨_, _, rfl, rfl, hp.same w (.int _)⟩
  · obtain ⟨hc, hp⟩ := hp.need
    obtain rfl := ra.int_; obtain rfl := rb.int_
    rcases CMulB_ hc with hc | hc
    · exact op_mul pins s σ H _ _ v u Q I rx ry ⟨_, _, rfl, rfl, hc, hp.same w (.int _)⟩
    · exact op_mulW pins s σ H _ _ v u Q I rx ry ⟨_, _, rfl, rfl, hc, hp.same w (.int _)⟩
  · exact hp.elim
  · exact hp.elim
  · obtain ⟨hc, hp⟩ := hp.need
    obtain rfl := ra.int_; obtain rfl := rb.int_
    exact op_fdivW pins s σ H _ _ v u Q I rx ry ⟨_, _, rfl, rfl, (of_decide_eq_true (p := 0 < _ ∧ _) hc), hp.same w (.int _)⟩
  · obtain ⟨hc, hp⟩ := hp.need
    obtain rfl := ra.int_; obtain rfl := rb.int_
    exact op_mod pins s σ H _ _ v u Q I rx ry ⟨_, _, rfl, rfl, of_decide_eq_true hc, hp.same w (.int _)⟩
  · obtain ⟨hc, hp⟩ := hp.need
    obtain rfl := ra.int_; obtain rfl := rb.int_
    have hc := of_decide_eq_true hc
    exact op_shl pins s σ H _ _ v u Q I rx ry ⟨_, _, rfl, rfl, ⟨hc.1, hc.2.1, by have := hc.2.2; omega⟩, hp.same w (.int _)⟩
  · obtain ⟨hc, hp⟩ := hp.need
    obtain rfl := ra.int_; obtain rfl := rb.int_
    have hc := of_decide_eq_true hc
    exact op_pow pins s σ H _ _ v u Q I rx ry ⟨_, _, rfl, rfl, ⟨hc.1, hc.2.1, by have := hc.2.2; omega⟩, hp.same w (.int _)⟩
  · obtain rfl := ra.int_; obtain rfl := rb.int_
    exact op_and pins s σ H _ _ v u Q I rx ry ⟨_, _, rfl, rfl, hp.same w (.int _)⟩
  · exact hp.elim
end
end HP
end

section
set_option Elab.async false
set_option linter.all false
set_option maxRecDepth 100000
set_option maxHeartbeats 4000000
set_option autoImplicit false
/-! Soundness 3: comparisons, truth, indices, built-ins, methods. -/
namespace HP
open PySem PySem.Spec PyProof.Rows L2

/-! ### texts -/
section
open PySem.StrLaws Builtin Builtin.Str
theorem occ_rest (s sub : Str) (hi : Nat) : ∀ (l : List Nat) (st : Array Nat × Nat), st.fst.size = 1 → (forIn l st (occBody s sub hi 1)).run.fst = st.fst
  | [], st, h => rfl
  | a :: l, st, h => by
    rw [List.forIn_cons]
    unfold occBody
    rw [if_neg (fun q => by have := q.1.1.1; omega)]
    exact occ_rest s sub hi l (st.fst, st.snd) h
theorem occ_first (s sub : Str) (hi : Nat) : ∀ (l : List Nat) (free : Nat), (∀ i ∈ l, free ≤ i) →
    (forIn l ((#[] : Array Nat), free) (occBody s sub hi 1)).run.fst.toList = (l.find? fun i => decide (i + sub.length ≤ hi) && subAt s sub i).toList
  | [], free, _ => rfl
  | a :: l, free, hf => by
    rw [List.forIn_cons]
    unfold occBody
    have ha : free ≤ a := hf a (List.mem_cons_self ..)
    by_cases hc : a + sub.length ≤ hi ∧ subAt s sub a = true
    · have c1 : (((#[] : Array Nat), free).fst.size < 1 ∧ ((#[] : Array Nat), free).snd ≤ a) ∧ a + sub.length ≤ hi := ⟨⟨by simp, ha⟩, hc.1⟩
      rw [if_pos ⟨c1, hc.2⟩]
      have e := occ_rest s sub hi l (#[a], a + sub.length) rfl
      unfold occBody at e
      rw [List.find?_cons_of_pos (by simp [hc.1, hc.2])]
      exact congrArg Array.toList e
    · have c2 : ¬ (((((#[] : Array Nat), free).fst.size < 1 ∧ ((#[] : Array Nat), free).snd ≤ a) ∧ a + sub.length ≤ hi) ∧ subAt s sub a = true) := fun h => hc ⟨h.1.2, h.2⟩
      rw [if_neg c2]
      rw [List.find?_cons_of_neg (by
        simp only [Bool.and_eq_true, decide_eq_true_eq]
        exact hc)]
      exact occ_first s sub hi l free (fun i hi' => hf i (List.mem_cons_of_mem _ hi'))
theorem occ1 (s sub : Str) (lo hi : Nat) : occurrences s sub lo hi 1 = ((List.range' lo (hi + 1 - lo)).find? fun i => decide (i + sub.length ≤ hi) && subAt s sub i).toList := by
  rw [occ_eq]
  exact occ_first s sub hi _ lo fun i h => by simp [List.mem_range'] at h; omega
theorem subAt_toS (t y : List Char) (i : Nat) : subAt (toS t) (toS y) i = ((t.drop i).take y.length == y) := by
  rw [subAt_eq, toS_list, toS_list, toS_len, ← List.map_drop, ← List.map_take]
  rw [Bool.eq_iff_iff, beq_iff_eq, beq_iff_eq]
  exact ⟨map_toNat_inj, fun e => by rw [e]⟩
end
theorem prefix_take (y : List Char) : ∀ t : List Char, y.isPrefixOf t = (decide (y.length ≤ t.length) && (t.take y.length == y)) := by
  intro t
  rw [Bool.eq_iff_iff]
  simp only [List.isPrefixOf_iff_prefix, Bool.and_eq_true, decide_eq_true_eq, beq_iff_eq]
  constructor
  · rintro ⟨r, rfl⟩
    simp
  · rintro ⟨_, h⟩
    exact ⟨t.drop y.length, by have := List.take_append_drop y.length t; rw [h] at this; exact this⟩
theorem find_congr {α : Type} {p q : α → Bool} : ∀ {l : List α}, (∀ i ∈ l, p i = q i) → l.find? p = l.find? q
  | [], _ => rfl
  | a :: l, h => by
    rw [List.find?_cons, List.find?_cons, h a List.mem_cons_self, find_congr fun i hi => h i (List.mem_cons_of_mem _ hi)]
theorem findFrom_range (y : List Char) : ∀ (t : List Char) (k n : Nat), n = k + t.length →
    (List.range' k (t.length + 1)).find? (fun i => decide (i + y.length ≤ n) && ((t.drop (i - k)).take y.length == y)) = findFrom y t k
  | [], k, n, hn => by
    simp only [List.length_nil, Nat.add_zero] at hn
    subst hn
    show List.find? _ [n] = _
    unfold findFrom
    cases y with
    | nil => rw [List.find?_cons_of_pos (by simp)]; rfl
    | cons a r => rw [List.find?_cons_of_neg (by simp)]; rfl
  | c :: t, k, n, hn => by
    rw [List.length_cons] at hn
    rw [List.length_cons, List.range'_succ]
    unfold findFrom
    by_cases hp : y.isPrefixOf (c :: t) = true
    · rw [if_pos hp]
      rw [prefix_take, Bool.and_eq_true, decide_eq_true_eq, List.length_cons] at hp
      rw [List.find?_cons_of_pos]
      rw [Bool.and_eq_true, decide_eq_true_eq, Nat.sub_self, List.drop_zero]
      exact ⟨by omega, hp.2⟩
    · rw [if_neg hp]
      rw [List.find?_cons_of_neg]
      · have ih := findFrom_range y t (k + 1) n (by omega)
        rw [← ih]
        refine find_congr fun i hi => ?_
        have h1 : k + 1 ≤ i := by simp [List.mem_range'] at hi; omega
        have e : i - k = (i - (k + 1)) + 1 := by omega
        rw [e, List.drop_succ_cons]
      · rw [Nat.sub_self, List.drop_zero]
        intro h
        refine hp ?_
        rw [prefix_take]
        rw [Bool.and_eq_true, decide_eq_true_eq] at h ⊢
        exact ⟨by rw [List.length_cons]; omega, h.2⟩
theorem occ_find (t y : List Char) : Builtin.Str.occurrences (toS t) (toS y) 0 (toS t).length 1 = (findFrom y t 0).toList := by
  rw [occ1, toS_len t, Nat.sub_zero, ← findFrom_range y t 0 t.length (by omega)]
  congr 1
  refine find_congr fun i _ => ?_
  rw [subAt_toS, toS_len, Nat.sub_zero]
theorem isSub_find (y : List Char) : ∀ (t : List Char) (k : Nat), isSub y t = (findFrom y t k).isSome
  | [], k => by
    unfold isSub findFrom
    cases y <;> rfl
  | c :: t, k => by
    unfold isSub findFrom
    by_cases hp : y.isPrefixOf (c :: t) = true
    · rw [if_pos hp, hp]; rfl
    · rw [if_neg hp, ← isSub_find y t (k + 1)]
      rw [Bool.not_eq_true] at hp
      rw [hp]; rfl
theorem occ_in (t y : List Char) : (!(Builtin.Str.occurrences (toS t) (toS y) 0 (toS t).length 1).isEmpty) = isSub y t := by
  rw [occ_find, isSub_find y t 0]
  cases findFrom y t 0 <;> rfl

/-! ### equality -/
mutual
theorem eqv_py : ∀ a b : D, PyData.eqv a.py b.py = D.eqv a b
  | .non, b => by cases b <;> rfl
  | .bl x, b => by cases b <;> rfl
  | .int i, b => by cases b <;> rfl
  | .str s, .str t => by
    show (toS s == toS t) = (s == t)
    rw [Bool.eq_iff_iff, beq_iff_eq, beq_iff_eq]
    exact ⟨toS_inj, fun e => by rw [e]⟩
  | .str s, .non | .str s, .bl _ | .str s, .int _ | .str s, .tup _ | .str s, .lst _ => rfl
  | .tup xs, .tup ys => eqvs_py xs ys
  | .tup s, .non | .tup s, .bl _ | .tup s, .int _ | .tup s, .str _ | .tup s, .lst _ => rfl
  | .lst xs, .lst ys => eqvs_py xs ys
  | .lst s, .non | .lst s, .bl _ | .lst s, .int _ | .lst s, .str _ | .lst s, .tup _ => rfl
theorem eqvs_py : ∀ a b : List D, PyData.eqvAll (D.pys a) (D.pys b) = D.eqvs a b
  | [], [] => rfl
  | [], _ :: _ => rfl
  | _ :: _, [] => rfl
  | x :: xs, y :: ys => by
    show (PyData.eqv x.py y.py && PyData.eqvAll (D.pys xs) (D.pys ys)) = (D.eqv x y && D.eqvs xs ys)
    rw [eqv_py, eqvs_py]
end
theorem strOk_toS (s : List Char) : PyData.strOk (toS s) = true := by
  unfold PyData.strOk toS
  rw [Array.all_eq_true_iff_forall_mem]
  intro x hx
  simp at hx
  obtain ⟨c, _, rfl⟩ := hx
  have h := c.valid
  have : c.toNat < 0x110000 := by
    rcases h with h | h
    · have : c.val.toNat < 55296 := h
      show c.val.toNat < _
      omega
    · have : c.val.toNat < 1114112 := h.2
      exact this
  exact decide_eq_true this
mutual
theorem canLay_py : ∀ a : D, PyData.canLay0 a.py = true
  | .non => rfl
  | .bl _ => rfl
  | .int _ => rfl
  | .str s => strOk_toS s
  | .tup xs => canLays_py xs
  | .lst xs => canLays_py xs
theorem canLays_py : ∀ a : List D, PyData.canLayAll0 (D.pys a) = true
  | [] => rfl
  | x :: xs => by
    show (PyData.canLay0 x.py && PyData.canLayAll0 (D.pys xs)) = true
    rw [canLay_py, canLays_py]; rfl
end
mutual
theorem depth_py : ∀ a : D, PyData.depth a.py = a.dep
  | .non => by simp [D.py, PyData.depth, D.dep]
  | .bl _ => by simp [D.py, PyData.depth, D.dep]
  | .int _ => by simp [D.py, PyData.depth, D.dep]
  | .str s => by simp [D.py, PyData.depth, D.dep]
  | .tup xs => by simp [D.py, PyData.depth, D.dep, depths_py xs]
  | .lst xs => by simp [D.py, PyData.depth, D.dep, depths_py xs]
theorem depths_py : ∀ a : List D, PyData.depthAll (D.pys a) = D.deps a
  | [] => by simp [D.pys, PyData.depthAll, D.deps]
  | x :: xs => by simp [D.pys, PyData.depthAll, D.deps, depth_py x, depths_py xs]
end
end HP
end

section
set_option Elab.async false
set_option linter.all false
set_option maxRecDepth 100000
set_option maxHeartbeats 4000000
set_option autoImplicit false
/-! Soundness 4: comparisons, truth, indices, built-ins, methods by values. -/
namespace HP
open PySem PySem.Spec PyProof.Rows L2

def copOf : Cop → CmpOp
  | .eq => .Eq | .ne => .NotEq | .lt => .Lt | .le => .LtE | .gt => .Gt | .ge => .GtE | .isin => .In | .notin => .NotIn | .is_ => .Is | .isnot => .IsNot
theorem anyEq_py (x : D) : ∀ ys : List D, (D.pys ys).any (fun y => PyData.eqv y x.py) = anyEq x ys
  | [] => rfl
  | y :: r => by rw [D.pys, List.any_cons, eqv_py, anyEq_py x r]; rfl
section
variable {X : Cx} {pins : List (Addr × Obj)} {s : Shared} {σ : L2.St} {H G F : Hp} {ρ : List Addr} {μ : Mem} {x y : V} {v u : Value} {Q : VK} {wx : XP} {a b : Vl}
theorem cmp_bl {K : PySem.W.Frag} {c : Bool} (hp : Post K G (RpV K) F ρ wx (.ok (.d (.bl c)) μ) Q) (w : Wd K G F ρ μ H) : Q (.bl c) H := hp.same w (.bl c)
theorem snd_eq (hu : X.A.units + 64 < cLine) (I : Inv X pins σ H s) (rx : RelV x v) (ry : RelV y u) (w : Wd X.K G F ρ μ H) (ra : RpV X.K F ρ x a) (rb : RpV X.K F ρ y b) {da db : D} (e1 : datOf a μ = some da) (e2 : datOf b μ = some db)
    (hd : min da.dep db.dep ≤ 60) (q : Q (.bl (D.eqv da db)) H) : wpAny (model X.prog X.w) X.A (compareOp .Eq v u) (EP X pins σ Q) X.xe s := by
  obtain ⟨as, r1⟩ := Dp.reads I da.py x v (datOf_ ra w e1) rx
  obtain ⟨bs, r2⟩ := Dp.reads I db.py y u (datOf_ rb w e2) ry
  refine SeqAt.compareEq_reads r1 r2 (canLay_py da) (canLay_py db) (by rw [depth_py, depth_py]; omega) ⟨.bl _, H, I, rfl, ?_⟩
  rw [eqv_py]; exact q
theorem snd_ne (hu : X.A.units + 64 < cLine) (I : Inv X pins σ H s) (rx : RelV x v) (ry : RelV y u) (w : Wd X.K G F ρ μ H) (ra : RpV X.K F ρ x a) (rb : RpV X.K F ρ y b) {da db : D} (e1 : datOf a μ = some da) (e2 : datOf b μ = some db)
    (hd : min da.dep db.dep ≤ 60) (q : Q (.bl (!D.eqv da db)) H) : wpAny (model X.prog X.w) X.A (compareOp .NotEq v u) (EP X pins σ Q) X.xe s := by
  obtain ⟨as, r1⟩ := Dp.reads I da.py x v (datOf_ ra w e1) rx
  obtain ⟨bs, r2⟩ := Dp.reads I db.py y u (datOf_ rb w e2) ry
  refine SeqAt.compareNe_reads r1 r2 (canLay_py da) (canLay_py db) (by rw [depth_py, depth_py]; omega) ⟨.bl _, H, I, rfl, ?_⟩
  rw [eqv_py]; exact q
/-- in, over data -/
theorem snd_in (hu : X.A.units + 64 < cLine) (neg : Bool) (I : Inv X pins σ H s) (rx : RelV x v) (ry : RelV y u) (w : Wd X.K G F ρ μ H) (ra : RpV X.K F ρ x a) (rb : RpV X.K F ρ y b) {c : Bool} {m : Mem} (e : inOp a b μ = .ok c m)
    (q : m = μ → Q (.bl (if neg then !c else c)) H) : wpAny (model X.prog X.w) X.A (compareOp (if neg then .NotIn else .In) v u) (EP X pins σ Q) X.xe s := by
  unfold inOp at e
  split at e
  · -- texts
    rename_i s1 s2
    injection e with e1 e2
    subst e1 e2
    obtain ⟨rfl, _⟩ := ra.str_; obtain ⟨rfl, _⟩ := rb.str_
    cases neg with
    | false =>
      refine op_in_str pins s σ H _ _ v u Q I rx ry ⟨_, _, rfl, rfl, ?_⟩
      rw [occ_in]; exact q rfl
    | true =>
      refine op_notin_str pins s σ H _ _ v u Q I rx ry ⟨_, _, rfl, rfl, ?_⟩
      rw [occ_in]; exact q rfl
  · rename_i _ d hno
    have hx : Dp X.K H x d.py := Dp.mono w.sub (Rp.dp ra)
    obtain ⟨as, r1⟩ := Dp.reads I d.py x v hx rx
    split at e
    · rename_i ys
      by_cases hd : d.dep ≤ 60
      · rw [decide_eq_true hd] at e
        injection e with e1 e2
        subst e1 e2
        obtain ⟨bs, r2⟩ := Dp.reads I (D.tup ys).py y u (Dp.mono w.sub (Rp.dp rb)) ry
        have hr : X.A.units + 1 + min (PyData.depthAll (D.pys ys)) d.py.depth < cLine := by rw [depths_py, depth_py]; omega
        cases neg with
        | false => exact SeqAt.in_tuple_reads r2 r1 (canLays_py ys) (canLay_py d) hr ⟨.bl _, H, I, rfl, by rw [anyEq_py]; exact q rfl⟩
        | true => exact SeqAt.notIn_tuple_reads r2 r1 (canLays_py ys) (canLay_py d) hr ⟨.bl _, H, I, rfl, by rw [anyEq_py]; exact q rfl⟩
      · rw [decide_eq_false hd] at e; cases e
    · split at e
      · rename_i ys e3
        by_cases hd : d.dep ≤ 60
        · rw [decide_eq_true hd] at e
          injection e with e1 e2
          subst e1 e2
          obtain ⟨ad, vs, rfl, h1, h2⟩ := lstOf_ rb w e3
          obtain ⟨bs, r2⟩ := Dp.reads I (D.lst ys).py _ u (.lst (SqL.of h1) (DpAll.mono w.sub (Rps.dp h2))) ry
          have hr : X.A.units + 1 + min (PyData.depthAll (D.pys ys)) d.py.depth < cLine := by rw [depths_py, depth_py]; omega
          cases neg with
          | false => exact SeqAt.in_list_reads r2 r1 (canLays_py ys) (canLay_py d) hr ⟨.bl _, H, I, rfl, by rw [anyEq_py]; exact q rfl⟩
          | true => exact SeqAt.notIn_list_reads r2 r1 (canLays_py ys) (canLay_py d) hr ⟨.bl _, H, I, rfl, by rw [anyEq_py]; exact q rfl⟩
        · rw [decide_eq_false hd] at e; cases e
      · cases e
  · cases e
theorem non_of {K : PySem.W.Frag} {d : D} (r : RpV K F ρ x (.d d)) : decide (x = .non) = decide (d = .non) := by
  rw [Bool.eq_iff_iff, decide_eq_true_eq, decide_eq_true_eq]
  constructor
  · intro e; subst e; cases r; rfl
  · intro e; subst e; exact r.non_
theorem snd_cmp (hu : X.A.units + 64 < cLine) (op : Cop) : OpR X (compareOp (copOf op)) (rBin X.K (cmpop op)) := by
  intro pins s σ H x y v u Q I rx ry h
  obtain ⟨G, F, ρ, μ, a, b, wx, w, ra, rb, hp⟩ := h
  cases op with
  | eq =>
    simp only [cmpop] at hp
    split at hp
    · obtain ⟨hc, hp⟩ := hp.need
      exact snd_eq hu I rx ry w ra rb (by assumption) (by assumption) (of_decide_eq_true hc) (cmp_bl hp w)
    · exact hp.elim
  | ne =>
    simp only [cmpop] at hp
    split at hp
    · obtain ⟨hc, hp⟩ := hp.need
      exact snd_ne hu I rx ry w ra rb (by assumption) (by assumption) (of_decide_eq_true hc) (cmp_bl hp w)
    · exact hp.elim
  | lt =>
    simp only [cmpop] at hp
    split at hp
    · obtain rfl := ra.int_; obtain rfl := rb.int_
      exact op_lt pins s σ H _ _ v u Q I rx ry ⟨_, _, rfl, rfl, cmp_bl hp w⟩
    · exact hp.elim
  | le =>
    simp only [cmpop] at hp
    split at hp
    · obtain rfl := ra.int_; obtain rfl := rb.int_
      exact op_le pins s σ H _ _ v u Q I rx ry ⟨_, _, rfl, rfl, cmp_bl hp w⟩
    · exact hp.elim
  | gt =>
    simp only [cmpop] at hp
    split at hp
    · obtain rfl := ra.int_; obtain rfl := rb.int_
      exact op_gt pins s σ H _ _ v u Q I rx ry ⟨_, _, rfl, rfl, cmp_bl hp w⟩
    · exact hp.elim
  | ge =>
    simp only [cmpop] at hp
    split at hp
    · obtain rfl := ra.int_; obtain rfl := rb.int_
      exact op_ge pins s σ H _ _ v u Q I rx ry ⟨_, _, rfl, rfl, cmp_bl hp w⟩
    · exact hp.elim
  | isin =>
    simp only [cmpop] at hp
    cases e : inOp a b μ with
    | ok c m =>
      rw [e] at hp
      refine snd_in hu false I rx ry w ra rb e fun hm => ?_
      subst hm
      exact cmp_bl hp w
    | ex x m =>
      exfalso
      revert e
      unfold inOp
      split
      · intro e; cases e
      · split
        · intro e; revert e; unfold need; split <;> (intro e; cases e)
        · split
          · intro e; revert e; unfold need; split <;> (intro e; cases e)
          · intro e; cases e
      · intro e; cases e
    | st => rw [e] at hp; exact hp.elim
  | notin =>
    simp only [cmpop] at hp
    cases e : inOp a b μ with
    | ok c m =>
      rw [e] at hp
      refine snd_in hu true I rx ry w ra rb e fun hm => ?_
      subst hm
      exact cmp_bl hp w
    | ex x m =>
      exfalso
      revert e
      unfold inOp
      split
      · intro e; cases e
      · split
        · intro e; revert e; unfold need; split <;> (intro e; cases e)
        · split
          · intro e; revert e; unfold need; split <;> (intro e; cases e)
          · intro e; cases e
      · intro e; cases e
    | st => rw [e] at hp; exact hp.elim
  | is_ =>
    simp only [cmpop] at hp
    split at hp
    · obtain rfl := rb.non_
      refine op_isN pins s σ H _ _ v u Q I rx ry ⟨rfl, ?_⟩
      rw [non_of ra]; exact cmp_bl hp w
    · obtain rfl := rb.non_
      obtain ⟨ad, rfl, _⟩ := ra
      exact op_isN pins s σ H _ _ v u Q I rx ry ⟨rfl, cmp_bl hp w⟩
    · exact hp.elim
  | isnot =>
    simp only [cmpop] at hp
    split at hp
    · obtain rfl := rb.non_
      refine op_notN pins s σ H _ _ v u Q I rx ry ⟨rfl, ?_⟩
      rw [non_of ra]; exact cmp_bl hp w
    · obtain rfl := rb.non_
      obtain ⟨ad, rfl, _⟩ := ra
      exact op_notN pins s σ H _ _ v u Q I rx ry ⟨rfl, cmp_bl hp w⟩
    · exact hp.elim
/-- truth -/
theorem truth_ {K : PySem.W.Frag} (ra : RpV K F ρ x a) (w : Wd K G F ρ μ H) {k : Bool} (e : truth a μ = some k) : TruV K x H k := by
  unfold truth at e
  split at e
  · cases e; obtain rfl := ra.non_; rfl
  · cases e; obtain rfl := ra.bl_; rfl
  · cases e; obtain rfl := ra.int_; rfl
  · cases e
    obtain ⟨rfl, hz⟩ := ra.str_
    refine ⟨by rw [toS_len]; exact hz, ?_⟩
    rw [toS_len]
    rename_i s
    cases s with
    | nil => rfl
    | cons c r =>
      show true = _
      rw [List.length_cons]
      symm
      rw [bne_iff_ne]
      omega
  · cases e
    obtain ⟨ad, vs, rfl, t1, r1⟩ := ra.tup_
    refine .inr (.inl ⟨vs, SqT.mono w.sub t1, ?_⟩)
    have := r1.len
    rename_i xs
    cases vs <;> cases xs <;> first | rfl | simp at this
  · cases e
    obtain ⟨ad, vs, rfl, t1, r1⟩ := ra.lst_
    refine .inl ⟨vs, SqL.of (w.sub _ _ t1), ?_⟩
    have := r1.len
    rename_i xs
    cases vs <;> cases xs <;> first | rfl | simp at this
  · split at e
    · cases e
      rename_i q
      obtain ⟨ad, vs, rfl, _, h3, h4⟩ := ra.ref_ w q
      refine .inl ⟨vs, SqL.of h3, ?_⟩
      have := Paired.len h4
      rename_i xs _
      cases vs <;> cases xs <;> first | rfl | simp at this
    · cases e
  · cases e
theorem snd_neg : UnR X (unaryOp .USub) (rUn X.K negop) := by
  intro pins s σ H x v Q I rx h
  obtain ⟨G, F, ρ, μ, a, wx, w, ra, hp⟩ := h
  unfold negop at hp
  split at hp
  · obtain rfl := ra.int_
    exact un_neg pins s σ H _ v Q I rx ⟨_, rfl, hp.same w (.int _)⟩
  · exact hp.elim

/-! ### subscripts -/
theorem pyIx_at {α : Type} (xs : List α) (i : Int) : pyIx xs i = atI xs i := by
  unfold pyIx atI ixN
  by_cases h : i < 0
  · rw [if_pos h, if_neg (show ¬ (0 ≤ i) by omega)]
    by_cases h2 : i + xs.length < 0
    · rw [if_pos h2, if_neg (show ¬ (-(xs.length : Int) ≤ i) by omega)]; rfl
    · rw [if_neg h2, if_pos (show -(xs.length : Int) ≤ i by omega)]; rfl
  · rw [if_neg h, if_pos (show 0 ≤ i by omega)]
    by_cases h2 : i < xs.length
    · rw [if_pos h2]; rfl
    · rw [if_neg h2, List.getElem?_eq_none (by omega)]; rfl
theorem at_map {α β : Type} (f : α → β) (xs : List α) (i : Int) : atI (xs.map f) i = (atI xs i).map f := by
  unfold atI
  rw [List.length_map]
  cases ixN xs.length i with
  | none => rfl
  | some j => simp
theorem at_paired {α β : Type} {G : α → β → Prop} {l : List α} {m : List β} (h : Paired G l m) {i : Int} {z : β} (e : atI m i = some z) : ∃ w, atI l i = some w ∧ G w z := by
  unfold atI at e ⊢
  rw [Paired.len h]
  cases q : ixN m.length i with
  | none => rw [q] at e; cases e
  | some j =>
    rw [q] at e
    obtain ⟨w, h1, h2⟩ := Paired.getR h (show m[j]? = some z from e)
    exact ⟨w, h1, h2⟩
theorem snd_ix : IxR X (rBin X.K ixop) := by
  intro value slice pins s σ H x y v u Q I rx ry h hs
  obtain ⟨G, F, ρ, μ, a, b, wx, w, ra, rb, hp⟩ := h
  unfold ixop at hp
  split at hp
  · rename_i st i
    obtain ⟨rfl, hz⟩ := ra.str_; obtain rfl := rb.int_
    split at hp
    · rename_i c e
      rw [pyIx_at] at e
      refine ix_str value slice pins s σ H _ _ v u Q I rx ry ⟨_, i, c.toNat, rfl, rfl, by rw [toS_len]; exact hz, ?_, ?_⟩ hs
      · rw [toS_list, at_map, e]; rfl
      · exact hp.same w (.str [c] (by rw [sizeLine_eq, List.length_singleton]; omega))
    · exact hp.elim
  · rename_i i hno
    obtain rfl := rb.int_
    split at hp
    · rename_i xs e
      unfold ofO at hp
      split at hp
      · rename_i z ez
        rw [pyIx_at] at ez
        obtain ⟨ad, vs, rfl, hq, hr⟩ := seqOf_ ra w e
        obtain ⟨w', e1, r1⟩ := at_paired hr ez
        have q := hp.same w r1
        rcases hq with hq | hq
        · exact ix_list value slice pins s σ H _ _ v u Q I rx ry ⟨ad, vs, i, w', rfl, rfl, hq, e1, q⟩ hs
        · exact ix_tup value slice pins s σ H _ _ v u Q I rx ry ⟨ad, vs, i, w', rfl, rfl, hq, e1, q⟩ hs
      · exact hp.elim
    · exact hp.elim
  · exact hp.elim
theorem pyB_eq (n d : Nat) (o : Option Int) : pyB n d o = HT.sIx n d o := by cases o <;> rfl
theorem cutV_eq {K : PySem.W.Frag} {vs : List V} {xs : List D} (r : Rps K F vs xs) (lo hi : Option Int) : Rps K F (cutV vs lo hi) (pyCut xs lo hi) := by
  unfold cutV pyCut
  rw [pyB_eq, pyB_eq, ← r.len]
  exact (r.drops _).takes _
end
end HP
end

section
set_option Elab.async false
set_option linter.all false
set_option maxRecDepth 100000
set_option maxHeartbeats 4000000
set_option autoImplicit false
/-! Soundness 5: slices, built-ins, methods by values. -/
namespace HP
open PySem PySem.Spec PyProof.Rows L2

section
variable {X : Cx} {pins : List (Addr × Obj)} {s : Shared} {σ : L2.St} {H G F : Hp} {ρ : List Addr} {μ : Mem} {x y : V} {v u : Value} {Q : VK} {wx : XP} {a b : Vl}
def rCut (K : PySem.W.Frag) (g : Vl → Option Int → Option Int → Mem → R Vl) : V → Option Int → Option Int → Hp → VK → Prop := fun x lo hi H Q => ∃ G F ρ μ a wx, Wd K G F ρ μ H ∧ RpV K F ρ x a ∧ Post K G (RpV K) F ρ wx (g a lo hi μ) Q
def cutop (x : Vl) (l h : Option Int) (m : Mem) : R Vl := match x with
  | .d (.str s) => .ok (.d (.str (pyCut s l h))) m
  | .d (.tup s) => .ok (.d (.tup (pyCut s l h))) m
  | x => match lstOf x m with
    | some s => .ok (.d (.lst (pyCut s l h))) m
    | none => .st
theorem cut_len {α : Type} (xs : List α) (l h : Option Int) : (pyCut xs l h).length ≤ xs.length := by
  unfold pyCut
  rw [List.length_take, List.length_drop]
  omega
theorem cutS_toS (t : List Char) (lo hi : Option Int) : cutS (toS t) lo hi = toS (pyCut t lo hi) := by
  unfold cutS pyCut
  rw [toS_list, toS_len, pyB_eq, pyB_eq, ← List.map_drop, ← List.map_take]
  rfl
theorem snd_cut : L2.SlR X (rCut X.K cutop) := by
  intro pins s σ H x v vl vu lo hi sl Q I rx hs pl pu h
  obtain ⟨G, F, ρ, μ, a, wx, w, ra, hp⟩ := h
  unfold cutop at hp
  split at hp
  · rename_i t
    obtain ⟨rfl, hz⟩ := ra.str_
    refine sl_str pins s σ H _ v vl vu lo hi sl Q I rx hs pl pu ⟨_, rfl, by rw [toS_len]; exact hz, ?_⟩
    rw [cutS_toS]
    exact hp.same w (.str _ (Nat.le_trans (cut_len _ _ _) hz))
  · rename_i t
    obtain ⟨ad, vs, rfl, t1, r1⟩ := ra.tup_
    refine sl_tupA pins s σ H _ v vl vu lo hi sl Q I rx hs pl pu ⟨ad, vs, rfl, SqT.mono w.sub t1, fun e => ?_, fun _ p hpn => ?_⟩
    · have e2 : pyCut t lo hi = t := by
        unfold pyCut
        rw [pyB_eq, pyB_eq, ← r1.len, e.1, e.2, List.drop_zero]
        exact List.take_of_length_le (by rw [r1.len]; omega)
      rw [e2] at hp
      exact hp.same w (.tup t1 r1)
    · exact hp.newF w hpn (.tup (SqT.of upd_same) ((cutV_eq r1 lo hi).mono (same_new (w.fnone hpn))))
  · rename_i hno hno2
    split at hp
    · rename_i xs e
      obtain ⟨ad, vs, rfl, t1, r1⟩ := lstOf_ ra w e
      exact sl_list pins s σ H _ v vl vu lo hi sl Q I rx hs pl pu ⟨ad, vs, rfl, SqL.of t1, fun p hpn => hp.newF w hpn (.lst upd_same ((cutV_eq r1 lo hi).mono (same_new (w.fnone hpn))))⟩
    · exact hp.elim

/-! ### built-ins -/
theorem RpVs.one {K : PySem.W.Frag} {vs : List V} {a : Vl} (r : RpVs K F ρ vs [a]) : ∃ v, vs = [v] ∧ RpV K F ρ v a := by
  cases r with
  | cons r t => cases t; exact ⟨_, rfl, r⟩
theorem RpVs.two {K : PySem.W.Frag} {vs : List V} {a b : Vl} (r : RpVs K F ρ vs [a, b]) : ∃ v u, vs = [v, u] ∧ RpV K F ρ v a ∧ RpV K F ρ u b := by
  cases r with
  | cons r t =>
    cases t with
    | cons r2 t => cases t; exact ⟨_, _, rfl, r, r2⟩
theorem Paired.nilR {α β : Type} {G : α → β → Prop} {l : List α} (h : Paired G l ([] : List β)) : l = [] := by cases h; rfl
theorem mkLst_ {K : PySem.W.Frag} {mu : Bool} {vs : List V} {xs : List Vl} (w : Wd K G F ρ μ H) (r : RpVs K F ρ vs xs) (hp : Post K G (RpV K) F ρ wx (mkLst mu xs μ) Q) : vs.length ≤ sizeLine ∧ ∀ p, H p = none → Q (.ref p) (upd H p (.lst vs)) := by
  unfold mkLst at hp
  cases mu with
  | true =>
    obtain ⟨hs, hp⟩ := hp.need
    exact ⟨by rw [Paired.len r]; exact szOk_ hs, fun p hpn => hp.newM w hpn r⟩
  | false =>
    simp only at hp
    split at hp
    · rename_i ys e
      obtain ⟨hs, hp⟩ := hp.need
      have := pures_some e
      subst this
      have r' := r.rps
      exact ⟨by rw [r'.len]; exact szOk_ hs, fun p hpn => hp.newF w hpn (.lst upd_same (r'.mono (same_new (w.fnone hpn))))⟩
    · exact hp.elim
theorem mkTup_ {K : PySem.W.Frag} {vs : List V} {xs : List Vl} (w : Wd K G F ρ μ H) (r : RpVs K F ρ vs xs) (hp : Post K G (RpV K) F ρ wx (mkTup xs μ) Q) : vs.length ≤ sizeLine ∧ ∀ p, H p = none → Q (.ref p) (upd H p (.tup vs)) := by
  unfold mkTup at hp
  split at hp
  · rename_i ys e
    obtain ⟨hs, hp⟩ := hp.need
    have := pures_some e
    subst this
    have r' := r.rps
    exact ⟨by rw [r'.len]; exact szOk_ hs, fun p hpn => hp.newF w hpn (.tup (SqT.of upd_same) (r'.mono (same_new (w.fnone hpn))))⟩
  · exact hp.elim
theorem snd_len : CallR X (.builtin "len") (rArgs X.K (prim .len)) := by
  intro pins s σ H xs us Q I r h
  obtain ⟨G, F, ρ, μ, as, wx, w, ra, hp⟩ := h
  match as with
  | [] => exact hp.elim
  | _ :: _ :: _ => exact hp.elim
  | [a] =>
    obtain ⟨x, rfl, r0⟩ := RpVs.one ra
    simp only [prim] at hp
    split at hp
    · obtain ⟨rfl, hz⟩ := r0.str_
      refine call_len_str pins s σ H _ us Q I r ⟨_, rfl, by rw [toS_len]; exact hz, ?_⟩
      rw [toS_len]
      exact hp.same w (.int _)
    · split at hp
      · rename_i ys e
        obtain ⟨ad, vs, rfl, hq, hr⟩ := seqOf_ r0 w e
        refine call_len_seq pins s σ H _ us Q I r ⟨ad, vs, rfl, hq, ?_⟩
        rw [Paired.len hr]
        exact hp.same w (.int _)
      · exact hp.elim
theorem snd_tuple : CallR X (.type "tuple") (rArgs X.K (prim .tuple)) := by
  intro pins s σ H xs us Q I r h
  obtain ⟨G, F, ρ, μ, as, wx, w, ra, hp⟩ := h
  match as with
  | [] => exact hp.elim
  | _ :: _ :: _ => exact hp.elim
  | [a] =>
    obtain ⟨x, rfl, r0⟩ := RpVs.one ra
    simp only [prim] at hp
    split at hp
    · have ra' := r0
      obtain ⟨ad, vs, rfl, t1, r1⟩ := r0.tup_
      exact call_tuple_of pins s σ H _ us Q I r ⟨ad, vs, rfl, .inr ⟨SqT.mono w.sub t1, hp.same w ra'⟩⟩
    · split at hp
      · rename_i ys e
        obtain ⟨ad, vs, rfl, t1, r1⟩ := lstOf_ r0 w e
        exact call_tuple_of pins s σ H _ us Q I r ⟨ad, vs, rfl, .inl ⟨SqL.of t1, fun p hpn => hp.newF w hpn (.tup (SqT.of upd_same) (r1.mono (same_new (w.fnone hpn))))⟩⟩
      · exact hp.elim
theorem rps_ints {K : PySem.W.Frag} : ∀ ns : List Int, Rps K F (ns.map V.int) (ns.map D.int)
  | [] => .nil
  | n :: ns => .cons (.int n) (rps_ints ns)
theorem snd_list (mu : Bool) : CallR X (.type "list") (rArgs X.K (prim (.list mu))) := by
  intro pins s σ H xs us Q I r h
  obtain ⟨G, F, ρ, μ, as, wx, w, ra, hp⟩ := h
  match as with
  | [] => exact hp.elim
  | _ :: _ :: _ => exact hp.elim
  | [a] =>
    obtain ⟨x, rfl, r0⟩ := RpVs.one ra
    simp only [prim] at hp
    split at hp
    · rename_i ns
      obtain ⟨ad, rfl, hq⟩ := r0
      refine call_list_of pins s σ H _ us Q I r ⟨ad, _, rfl, .inl (w.sub.seq hq), fun p hpn => ?_⟩
      cases mu with
      | true =>
        refine hp.newM w hpn ?_
        have := (rps_ints (K := X.K) (F := F) ns).vs (ρ := ρ)
        rw [List.map_map] at this
        exact this
      | false => exact hp.newF w hpn (.lst upd_same (rps_ints ns))
    · split at hp
      · rename_i ys e
        obtain ⟨ad, vs, rfl, hq, hr⟩ := seqOf_ r0 w e
        exact call_list_of pins s σ H _ us Q I r ⟨ad, vs, rfl, hq, (mkLst_ w hr hp).2⟩
      · exact hp.elim
theorem snd_int : CallR X (.type "int") (rArgs X.K (prim .int)) := by
  intro pins s σ H xs us Q I r h
  obtain ⟨G, F, ρ, μ, as, wx, w, ra, hp⟩ := h
  unfold prim at hp
  split at hp <;> first | (rename_i q; cases q) | skip
  all_goals first
    | (obtain ⟨x, rfl, r0⟩ := RpVs.one ra
       obtain rfl := r0.int_
       exact call_int1 pins s σ H _ us Q I r (.inl ⟨_, rfl, hp.same w (.int _)⟩))
    | (obtain ⟨x, rfl, r0⟩ := RpVs.one ra
       obtain rfl := r0.bl_
       exact call_int1 pins s σ H _ us Q I r (.inr ⟨_, rfl, hp.same w (.int _)⟩))
    | exact hp.elim
end
end HP
end

section
set_option Elab.async false
set_option linter.all false
set_option maxRecDepth 100000
set_option maxHeartbeats 4000000
set_option autoImplicit false
/-! Soundness 6: further built-ins, methods. -/
namespace HP
open PySem PySem.Spec PyProof.Rows L2

theorem intsOf_ : ∀ {xs : List Vl} {ns : List Int}, intsOf xs = some ns → xs = ns.map fun i => Vl.d (.int i)
  | [], ns, h => by cases h; rfl
  | .d (.int i) :: r, ns, h => by
    unfold intsOf at h
    split at h
    · rename_i is e
      cases h
      rw [intsOf_ e]; rfl
    · cases h
  | .d .non :: _, _, h => by cases h
  | .d (.bl _) :: _, _, h => by cases h
  | .d (.str _) :: _, _, h => by cases h
  | .d (.tup _) :: _, _, h => by cases h
  | .d (.lst _) :: _, _, h => by cases h
  | .ref _ :: _, _, h => by cases h
  | .scr _ :: _, _, h => by cases h
theorem strsOf_ : ∀ {xs : List Vl} {ns : List (List Char)}, strsOf xs = some ns → xs = ns.map fun i => Vl.d (.str i)
  | [], ns, h => by cases h; rfl
  | .d (.str i) :: r, ns, h => by
    unfold strsOf at h
    split at h
    · rename_i is e
      cases h
      rw [strsOf_ e]; rfl
    · cases h
  | .d .non :: _, _, h => by cases h
  | .d (.bl _) :: _, _, h => by cases h
  | .d (.int _) :: _, _, h => by cases h
  | .d (.tup _) :: _, _, h => by cases h
  | .d (.lst _) :: _, _, h => by cases h
  | .ref _ :: _, _, h => by cases h
  | .scr _ :: _, _, h => by cases h
theorem map_d_inj : ∀ {xs ys : List D}, xs.map Vl.d = ys.map Vl.d → xs = ys
  | [], [], _ => rfl
  | [], _ :: _, h => by simp at h
  | _ :: _, [], h => by simp at h
  | x :: xs, y :: ys, h => by
    simp only [List.map_cons, List.cons.injEq] at h
    rw [Vl.d.inj h.1, map_d_inj h.2]
theorem map_d_int {xs : List D} {ns : List Int} (h : intsOf (xs.map Vl.d) = some ns) : xs = ns.map D.int := by
  have := intsOf_ h
  rw [show (fun i => Vl.d (D.int i)) = Vl.d ∘ D.int from rfl, ← List.map_map] at this
  exact map_d_inj this
theorem map_d_str {xs : List D} {ns : List (List Char)} (h : strsOf (xs.map Vl.d) = some ns) : xs = ns.map D.str := by
  have := strsOf_ h
  rw [show (fun i => Vl.d (D.str i)) = Vl.d ∘ D.str from rfl, ← List.map_map] at this
  exact map_d_inj this
theorem rps_int {K : PySem.W.Frag} {F : Hp} : ∀ {vs : List V} {ns : List Int}, Rps K F vs (ns.map D.int) → vs = ns.map V.int
  | _, [], .nil => rfl
  | _, n :: ns, .cons h t => by cases h; rw [rps_int t]; rfl
theorem rps_str {K : PySem.W.Frag} {F : Hp} : ∀ {vs : List V} {ns : List (List Char)}, Rps K F vs (ns.map D.str) → vs = (ns.map toS).map V.str
  | _, [], .nil => rfl
  | _, n :: ns, .cons h t => by cases h; rw [rps_str t]; rfl
theorem maxL_spec : ∀ {ns : List Int}, ns ≠ [] → maxL ns ∈ ns ∧ ∀ y ∈ ns, y ≤ maxL ns
  | [], h => absurd rfl h
  | [x], _ => ⟨by simp [maxL], fun y hy => by simp at hy; subst hy; exact Int.le_refl _⟩
  | x :: y :: r, _ => by
    have ih := maxL_spec (ns := y :: r) (by simp)
    have e : maxL (x :: y :: r) = max x (maxL (y :: r)) := rfl
    rw [e]
    refine ⟨?_, fun z hz => ?_⟩
    · rcases Int.le_total x (maxL (y :: r)) with h | h
      · rw [Int.max_eq_right h]; exact List.mem_cons_of_mem _ ih.1
      · rw [Int.max_eq_left h]; exact List.mem_cons_self
    · rcases List.mem_cons.mp hz with rfl | hz
      · exact Int.le_max_left _ _
      · exact Int.le_trans (ih.2 z hz) (Int.le_max_right _ _)
theorem minL_spec : ∀ {ns : List Int}, ns ≠ [] → minL ns ∈ ns ∧ ∀ y ∈ ns, minL ns ≤ y
  | [], h => absurd rfl h
  | [x], _ => ⟨by simp [minL], fun y hy => by simp at hy; subst hy; exact Int.le_refl _⟩
  | x :: y :: r, _ => by
    have ih := minL_spec (ns := y :: r) (by simp)
    have e : minL (x :: y :: r) = min x (minL (y :: r)) := rfl
    rw [e]
    refine ⟨?_, fun z hz => ?_⟩
    · rcases Int.le_total x (minL (y :: r)) with h | h
      · rw [Int.min_eq_left h]; exact List.mem_cons_self
      · rw [Int.min_eq_right h]; exact List.mem_cons_of_mem _ ih.1
    · rcases List.mem_cons.mp hz with rfl | hz
      · exact Int.min_le_left _ _
      · exact Int.le_trans (Int.min_le_right _ _) (ih.2 z hz)
section
variable {X : Cx} {pins : List (Addr × Obj)} {s : Shared} {σ : L2.St} {H G F : Hp} {ρ : List Addr} {μ : Mem} {x y : V} {v u : Value} {Q : VK} {wx : XP} {a b : Vl}
theorem snd_max (hc : X.calm = true) : CallR X (.builtin "max") (rArgs X.K (prim .max)) := by
  intro pins s σ H xs us Q I r h
  obtain ⟨G, F, ρ, μ, as, wx, w, ra, hp⟩ := h
  show wpAny _ _ _ _ _ _
  have hp : Post X.K G (RpV X.K) F ρ wx (maxop as μ) Q := hp
  unfold maxop at hp
  split at hp
  · obtain ⟨x, y, rfl, r0, r1⟩ := RpVs.two ra
    obtain rfl := r0.int_; obtain rfl := r1.int_
    exact call_max2 hc pins s σ H _ us Q I r ⟨_, _, rfl, hp.same w (.int _)⟩
  · obtain ⟨x, rfl, r0⟩ := RpVs.one ra
    split at hp
    · rename_i xs e
      split at hp
      · rename_i ns e2
        obtain ⟨hne, hp⟩ := hp.need
        obtain ⟨ad, vs, rfl, t1, r1⟩ := lstOf_ r0 w e
        have e3 := map_d_int e2
        subst e3
        have e4 := rps_int r1
        subst e4
        have hne' : ns ≠ [] := by
          intro z; subst z; simp at hne
        refine cr_max hc pins s σ H _ us Q I r ⟨ad, ns, rfl, SqL.of t1, List.length_pos_iff.mpr hne', fun m h1 h2 => ?_⟩
        have q := maxL_spec hne'
        have em : m = maxL ns := Int.le_antisymm (q.2 m h1) (h2 _ q.1)
        rw [em]
        exact hp.same w (.int _)
      · exact hp.elim
    · exact hp.elim
  · exact hp.elim
theorem snd_min (hc : X.calm = true) : CallR X (.builtin "min") (rArgs X.K (prim .min)) := by
  intro pins s σ H xs us Q I r h
  obtain ⟨G, F, ρ, μ, as, wx, w, ra, hp⟩ := h
  show wpAny _ _ _ _ _ _
  have hp : Post X.K G (RpV X.K) F ρ wx (minop as μ) Q := hp
  unfold minop at hp
  split at hp
  · obtain ⟨x, y, rfl, r0, r1⟩ := RpVs.two ra
    obtain rfl := r0.int_; obtain rfl := r1.int_
    exact call_min2 hc pins s σ H _ us Q I r ⟨_, _, rfl, hp.same w (.int _)⟩
  · obtain ⟨x, rfl, r0⟩ := RpVs.one ra
    split at hp
    · rename_i xs e
      split at hp
      · rename_i ns e2
        obtain ⟨hne, hp⟩ := hp.need
        obtain ⟨ad, vs, rfl, t1, r1⟩ := lstOf_ r0 w e
        have e3 := map_d_int e2
        subst e3
        have e4 := rps_int r1
        subst e4
        have hne' : ns ≠ [] := by
          intro z; subst z; simp at hne
        refine cr_min hc pins s σ H _ us Q I r ⟨ad, ns, rfl, SqL.of t1, List.length_pos_iff.mpr hne', fun m h1 h2 => ?_⟩
        have q := minL_spec hne'
        have em : m = minL ns := Int.le_antisymm (h2 _ q.1) (q.2 m h1)
        rw [em]
        exact hp.same w (.int _)
      · exact hp.elim
    · exact hp.elim
  · exact hp.elim
theorem snd_sum (hc : X.calm = true) : CallR X (.builtin "sum") (rArgs X.K (prim .sum)) := by
  intro pins s σ H xs us Q I r h
  obtain ⟨G, F, ρ, μ, as, wx, w, ra, hp⟩ := h
  match as with
  | [] => exact hp.elim
  | _ :: _ :: _ => exact hp.elim
  | [a] =>
    obtain ⟨x, rfl, r0⟩ := RpVs.one ra
    simp only [prim] at hp
    split at hp
    · rename_i xs e
      split at hp
      · rename_i ns e2
        obtain ⟨ad, vs, rfl, t1, r1⟩ := lstOf_ r0 w e
        have e3 := map_d_int e2
        subst e3
        have e4 := rps_int r1
        subst e4
        exact cr_sum hc pins s σ H _ us Q I r ⟨ad, ns, rfl, SqL.of t1, hp.same w (.int _)⟩
      · exact hp.elim
    · exact hp.elim
theorem snd_divmod : CallR X (.builtin "divmod") (rArgs X.K (prim .divmod)) := by
  intro pins s σ H xs us Q I r h
  obtain ⟨G, F, ρ, μ, as, wx, w, ra, hp⟩ := h
  unfold prim at hp
  split at hp <;> first | (rename_i q; cases q) | skip
  · obtain ⟨hc, hp⟩ := hp.need
    obtain ⟨x, y, rfl, r0, r1⟩ := RpVs.two ra
    obtain rfl := r0.int_; obtain rfl := r1.int_
    refine call_divmod pins s σ H _ us Q I r ⟨_, _, rfl, of_decide_eq_true (p := 0 < _ ∧ _) hc, fun p hpn => ?_⟩
    exact hp.newF w hpn (.tup (SqT.of upd_same) (.cons (.int _) (.cons (.int _) .nil)))
  · exact hp.elim

/-! ### isinstance -/
def tyStr : Ty → String
  | .int => "int" | .str => "str" | .bool => "bool" | .tuple => "tuple" | .list => "list" | .dict => "dict" | .none => "NoneType"
theorem isTy_ {K : PySem.W.Frag} (ra : RpV K F ρ x a) (w : Wd K G F ρ μ H) {t : Ty} {c : Bool} (e : isTy a μ t = some c) : ∃ tv, TyX K H x tv ∧ PySem.W.kitOne K tv (.type (tyStr t)) = some c := by
  unfold isTy at e
  split at e
  · cases e; obtain rfl := ra.non_
    exact ⟨_, .base .non, kit_ty (by cases t <;> decide +kernel)⟩
  · cases e; obtain rfl := ra.bl_
    exact ⟨_, .base (.bl _), kit_ty (by cases t <;> decide +kernel)⟩
  · cases e; obtain rfl := ra.int_
    exact ⟨_, .base (.int _), kit_ty (by cases t <;> decide +kernel)⟩
  · cases e; obtain ⟨rfl, _⟩ := ra.str_
    exact ⟨_, .base (.str _), kit_ty (by cases t <;> decide +kernel)⟩
  · cases e; obtain ⟨ad, vs, rfl, t1, r1⟩ := ra.tup_
    have t2 := SqT.mono w.sub t1
    refine ⟨.type "tuple", ?_, kit_ty (by cases t <;> decide +kernel)⟩
    rcases t2 with (t2 | ⟨o, t2⟩) | ⟨o, its, n, h1, h2, _⟩
    · exact .base (.tup t2)
    · exact .fTuple t2
    · exact .kTuple h1 h2
  · cases e; obtain ⟨ad, vs, rfl, t1, r1⟩ := ra.lst_
    exact ⟨_, .base (.lst (w.sub _ _ t1)), kit_ty (by cases t <;> decide +kernel)⟩
  · split at e
    · cases e
      rename_i q
      obtain ⟨ad, vs, rfl, _, h3, h4⟩ := ra.ref_ w q
      exact ⟨_, .base (.lst h3), kit_ty (by cases t <;> decide +kernel)⟩
    · cases e
  · cases e

/-! ### methods -/
theorem snd_append : MtR X "list.append" (rMeth X.K (meth .append)) := by
  intro pins s σ H x xs v us Q I rx rs h
  obtain ⟨G, F, ρ, μ, a, as, wx, w, ra, ras, hp⟩ := h
  simp only [meth] at hp
  split at hp <;> first | (rename_i q; cases q) | skip
  · rename_i n z
    split at hp
    · rename_i ys e
      obtain ⟨hs, hp⟩ := hp.need
      obtain ⟨y, rfl, ry⟩ := RpVs.one ras
      obtain ⟨ad, vs, rfl, hρ, hH, hr⟩ := ra.ref_ w e
      refine mt_append pins s σ H _ _ v us Q I rx rs ⟨ad, vs, y, rfl, rfl, hH, by rw [Paired.len hr]; exact szLt_ hs, ?_⟩
      exact hp.setM w e (fun z => nomatch z) hρ (Paired.app hr (.cons ry .nil)) .non
    · exact hp.elim
  · exact hp.elim
theorem snd_reverse : MtR X "list.reverse" (rMeth X.K (meth .reverse)) := by
  intro pins s σ H x xs v us Q I rx rs h
  obtain ⟨G, F, ρ, μ, a, as, wx, w, ra, ras, hp⟩ := h
  simp only [meth] at hp
  split at hp <;> first | (rename_i q; cases q) | skip
  · rename_i n
    split at hp
    · rename_i ys e
      obtain rfl := Paired.nilR ras
      obtain ⟨ad, vs, rfl, hρ, hH, hr⟩ := ra.ref_ w e
      refine mt_reverse pins s σ H _ _ v us Q I rx rs ⟨ad, vs, rfl, rfl, hH, ?_⟩
      exact hp.setM w e (fun z => nomatch z) hρ (Paired.rev hr) .non
    · exact hp.elim
  · exact hp.elim
theorem Paired.dropLastR {α β : Type} {G : α → β → Prop} {l : List α} {m : List β} (h : Paired G l m) : Paired G l.dropLast m.dropLast := by
  rw [List.dropLast_eq_take, List.dropLast_eq_take, Paired.len h]
  exact Paired.takeR _ h
theorem snd_pop : MtR X "list.pop" (rMeth X.K (meth .pop)) := by
  intro pins s σ H x xs v us Q I rx rs h
  obtain ⟨G, F, ρ, μ, a, as, wx, w, ra, ras, hp⟩ := h
  simp only [meth] at hp
  split at hp <;> first | (rename_i q; cases q) | skip
  · rename_i n
    split at hp
    · rename_i ys e
      split at hp
      · rename_i z ez
        obtain rfl := Paired.nilR ras
        obtain ⟨ad, vs, rfl, hρ, hH, hr⟩ := ra.ref_ w e
        obtain ⟨y, hy, ry⟩ := Paired.getR hr ez
        refine mt_pop pins s σ H _ _ v us Q I rx rs ⟨ad, vs, y, rfl, rfl, hH, by rw [Paired.len hr]; exact hy, ?_⟩
        exact hp.setM w e (fun z => nomatch z) hρ (Paired.dropLastR hr) ry
      · exact hp.elim
    · exact hp.elim
  · exact hp.elim
theorem snd_extend : MtR X "list.extend" (rMeth X.K (meth .extend)) := by
  intro pins s σ H x xs v us Q I rx rs h
  obtain ⟨G, F, ρ, μ, a, as, wx, w, ra, ras, hp⟩ := h
  simp only [meth] at hp
  split at hp <;> first | (rename_i q; cases q) | skip
  · rename_i n z
    split at hp
    · rename_i ys zs e e2
      obtain ⟨hs, hp⟩ := hp.need
      have hs := szOk_ hs
      obtain ⟨y, rfl, ry⟩ := RpVs.one ras
      obtain ⟨ad, vs, rfl, hρ, hH, hr⟩ := ra.ref_ w e
      obtain ⟨bd, ws, rfl, t1, r1⟩ := lstOf_ ry w e2
      refine mt_extend pins s σ H _ _ v us Q I rx rs ⟨ad, bd, vs, ws, rfl, rfl, hH, t1, by rw [Paired.len hr, r1.len]; exact hs, ?_⟩
      exact hp.setM w e (fun z => nomatch z) hρ (Paired.app hr r1.vs) .non
    · exact hp.elim
  · exact hp.elim
theorem join_foldl (sep : List Char) : ∀ (ss : List (List Char)) (acc : List Char), (ss.map toS).foldl (fun acc p => acc ++ (toS sep).cps ++ p.cps) (toS acc).cps = (toS (ss.foldl (fun a p => a ++ sep ++ p) acc)).cps
  | [], acc => rfl
  | p :: ss, acc => by
    rw [List.map_cons, List.foldl_cons, List.foldl_cons]
    have e : (toS acc).cps ++ (toS sep).cps ++ (toS p).cps = (toS (acc ++ sep ++ p)).cps := by simp [toS]
    rw [e]
    exact join_foldl sep ss _
theorem join_fold (sep : List Char) : ∀ (ss : List (List Char)) (acc : List Char), ss.foldl (fun a p => a ++ sep ++ p) acc = acc ++ (ss.map fun p => sep ++ p).flatten
  | [], acc => by simp
  | p :: ss, acc => by
    rw [List.foldl_cons, join_fold sep ss]
    simp
theorem joinS_eq (sep : List Char) : ∀ (x : List Char) (r : List (List Char)), joinS sep (x :: r) = x ++ (r.map fun p => sep ++ p).flatten
  | x, [] => by simp [joinS]
  | x, y :: r => by
    show x ++ sep ++ joinS sep (y :: r) = _
    rw [joinS_eq sep y r]
    simp
theorem toS_join (sep : List Char) (ss : List (List Char)) : Txt.join (toS sep) (ss.map toS) = toS (joinS sep ss) := by
  show Builtin.Str.glued (toS sep) (ss.map toS) = _
  unfold Builtin.Str.glued
  cases ss with
  | nil => rfl
  | cons x r =>
    show (⟨(r.map toS).foldl (fun acc p => acc ++ (toS sep).cps ++ p.cps) (toS x).cps⟩ : Str) = _
    rw [join_foldl, join_fold, joinS_eq]
theorem joinS_len (sep : List Char) : ∀ ss : List (List Char), (joinS sep ss).length ≤ (ss.map List.length).sum + ss.length * sep.length
  | [] => by simp [joinS]
  | [x] => by simp [joinS]
  | x :: y :: r => by
    have ih := joinS_len sep (y :: r)
    show (x ++ sep ++ joinS sep (y :: r)).length ≤ _
    rw [List.length_append, List.length_append, List.map_cons, List.sum_cons, List.length_cons, Nat.succ_mul]
    omega
theorem snd_join : MtR X "str.join" (rMeth X.K (meth .join)) := by
  intro pins s σ H x xs v us Q I rx rs h
  obtain ⟨G, F, ρ, μ, a, as, wx, w, ra, ras, hp⟩ := h
  simp only [meth] at hp
  split at hp <;> first | (rename_i q; cases q) | skip
  · rename_i sep z
    split at hp
    · rename_i ys e
      split at hp
      · rename_i ss e2
        obtain ⟨hs, hp⟩ := hp.need
        have hs := of_decide_eq_true (p := _ ≤ 16777216) hs
        obtain ⟨y, rfl, ry⟩ := RpVs.one ras
        obtain ⟨rfl, hz⟩ := ra.str_
        obtain ⟨bd, ws, rfl, t1, r1⟩ := lstOf_ ry w e
        have e3 := map_d_str e2
        subst e3
        have e4 := rps_str r1
        subst e4
        refine mt_join pins s σ H _ _ v us Q I rx rs ⟨_, bd, ss.map toS, rfl, rfl, .inl (SqL.of t1), ?_, ?_⟩
        · rw [List.map_map, List.length_map, toS_len]
          have e5 : ((fun x => x.length) ∘ toS) = List.length := by funext q; exact toS_len q
          rw [e5]
          exact hs
        · rw [toS_join]
          exact hp.same w (.str _ (by rw [sizeLine_eq]; have := joinS_len sep ss; omega))
      · exact hp.elim
    · exact hp.elim
  · exact hp.elim
theorem snd_find : MtR X "str.find" (rMeth X.K (meth .find)) := by
  intro pins s σ H x xs v us Q I rx rs h
  obtain ⟨G, F, ρ, μ, a, as, wx, w, ra, ras, hp⟩ := h
  simp only [meth] at hp
  split at hp <;> first | (rename_i q; cases q) | skip
  · obtain ⟨y, rfl, ry⟩ := RpVs.one ras
    obtain ⟨rfl, _⟩ := ra.str_; obtain ⟨rfl, _⟩ := ry.str_
    refine mt_find pins s σ H _ _ v us Q I rx rs ⟨_, _, rfl, rfl, ?_⟩
    have q := hp.same w (.int _)
    show Q (.int (match Builtin.Str.occurrences _ _ 0 _ 1 with | i :: _ => (i : Int) | [] => -1)) H
    rw [occ_find]
    revert q
    cases findFrom _ _ 0 <;> exact id
  · exact hp.elim
end
end HP
end

section
set_option Elab.async false
set_option linter.all false
set_option maxRecDepth 100000
set_option maxHeartbeats 4000000
set_option autoImplicit false
/-! Soundness 7: the checker, targets, what is walked. -/
namespace HP
open PySem PySem.Spec PyProof.Rows L2

/-! ### the checker -/
structure Ck where
  N : List Str
  fn : Nat → Option Str
  gl : Nat → Option Str
  blt : List Str
/-- the scope of a block; a comprehension's own scope -/
structure Sc where
  sc : Scope
  own : Option Scope
def visB (S : Sc) (x : Str) : Bool := match S.sc.names.lookup x with
  | some .local => true
  | some .cell => true
  | some .free => true
  | _ => false
def locB (S : Sc) (x : Str) : Bool := match S.sc.names.lookup x with
  | some .local => true
  | some .cell => match S.own with
    | none => true
    | some s0 => s0.names.lookup x == some .cell
  | _ => false
def glB (S : Sc) (x : Str) : Bool := match S.sc.names.lookup x with
  | some .globalImplicit => true
  | _ => false
def dbgB (x : Str) : Bool := !(x == ("__debug__" : Str)) && !(x == ("__classdict__" : Str)) && !decide (x = ("__name__" : Str))
def slotB (cc : Ck) (i : Nat) (x : Str) : Bool := decide (cc.N[i]? = some x)
/-- a built-in's name -/
def bltB (cc : Ck) (S : Sc) (x : Str) : Bool := glB S x && cc.blt.contains x
def notStar : Expr → Bool
  | .Starred _ _ => false
  | _ => true
mutual
def chkG (cc : Ck) (S : Sc) : Tg → Expr → Bool
  | .n i, .Name x _ => slotB cc i x && locB S x
  | .t ts, .Tuple es _ _ => chkGs cc S ts es
  | _, _ => false
def chkGs (cc : Ck) (S : Sc) : List Tg → List Expr → Bool
  | [], [] => true
  | t :: ts, e :: es => notStar e && chkG cc S t e && chkGs cc S ts es
  | _, _ => false
end
/-- what a body's rules lean on -/
structure XT where
  t : Nat → Option (Value × List Str)
/-- an exception as it lies -/
def XR (K : PySem.W.Frag) (T : XT) (F H : Hp) (x : Exc) (cls : Value) (dd : Option Addr) : Prop :=
  ∃ fs, T.t x.cls = some (cls, fs) ∧ fs.length = x.args.length ∧ ((x.args = [] ∧ dd = none) ∨ ∃ a vs, dd = some a ∧ H a = some (.xd (fs.zip vs)) ∧ Rps K F vs x.args)
/-- a callee's wish of exceptions -/
def wxOf (K : PySem.W.Frag) (G : Hp) (T : XT) (E : XK) : XP where
  p := fun F ρ x m => ∀ F' ρ' cls dd H', Same F F' → ρ <+: ρ' → Wd K G F' ρ' m H' → XR K T F' H' x cls dd → E cls dd H'
  mono := fun e p h F' ρ' cls dd H' s1 p1 w r => h F' ρ' cls dd H' (e.trans s1) (p.trans p1) w r
def wxAt (K : PySem.W.Frag) (G : Hp) (T : XT) (W : WX) (σ : Sl) : XP where
  p := fun F ρ x m => ∀ F' ρ' s cls dd H', Same F F' → ρ <+: ρ' → Wd K G F' ρ' m H' → SlR K F' ρ' s σ → XR K T F' H' x cls dd → W cls dd s H'
  mono := fun e p h F' ρ' s cls dd H' s1 p1 w l r => h F' ρ' s cls dd H' (e.trans s1) (p.trans p1) w l r
/-- the promise of a def -/
def spOf (K : PySem.W.Frag) (T : XT) (P : Prog) (k f : Nat) : Sp := fun vs H Q E => ∃ G F ρ μ as, Wd K G F ρ μ H ∧ RpVs K F ρ vs as ∧ Post K G (RpV K) F ρ (wxOf K G T E) (sem P k f as μ) Q
structure CkX (cc : Ck) (T : XT) (P : Prog) (k : Nat) (W : WX) (S : Sc) (X : Cx) : Prop where
  N : X.N = cc.N
  nd : X.N.Nodup
  sc : X.env.scope = S.sc
  fn : X.fn = match S.own with
    | none => fun _ => true
    | some s0 => fun x => s0.names.lookup x == some .cell
  calm : X.calm = true
  room : Room k X.A
  blt : ∀ x ∈ cc.blt, X.mg x = none
  gl : ∀ i x d, cc.gl i = some x → P.glob i = some d → ∃ v u, X.mg x = some u ∧ RelV v u ∧ Rp X.K (fun _ => none) v d
  calls : ∀ f x, cc.fn f = some x → ∃ a fd ps, FnOk X.prog X.w X.K X.mg X.base (L2.CX X.prog X.w) k a fd ps (spOf X.K T P k f) ∧ X.mg x = some (.ref a) ∧ PySem.W.keepIn X.K (.ref a) = true ∧ Binds X.K fd ps []
  tk : Takes X W
section
variable {cc : Ck} {T : XT} {P : Prog} {k : Nat} {W : WX} {S : Sc} {X : Cx}
theorem CkX.vis (c : CkX cc T P k W S X) {x : Str} (h : visB S x = true) : Vis X.env.scope x := by
  unfold visB at h
  rw [← c.sc] at h
  unfold Vis
  split at h
  · exact .inl (by assumption)
  · exact .inr (.inl (by assumption))
  · exact .inr (.inr (by assumption))
  · cases h
theorem CkX.loc (c : CkX cc T P k W S X) {x : Str} (h : locB S x = true) : Loc X.env.scope x ∧ (X.fn x = true ∨ X.env.scope.names.lookup x = some .local) := by
  unfold locB at h
  rw [← c.sc] at h
  split at h
  · exact ⟨.inl (by assumption), .inr (by assumption)⟩
  · refine ⟨.inr (by assumption), .inl ?_⟩
    rw [c.fn]
    split at h
    · rename_i e
      rw [e]
    · rename_i e
      rw [e]
      exact h
  · cases h
theorem CkX.glb (c : CkX cc T P k W S X) {x : Str} (h : glB S x = true) : Gl X x := by
  unfold glB at h
  rw [← c.sc] at h
  split at h
  · assumption
  · cases h
theorem CkX.slot (c : CkX cc T P k W S X) {i : Nat} {x : Str} (h : slotB cc i x = true) : X.N[i]? = some x := by
  rw [c.N]
  exact of_decide_eq_true h
theorem CkX.bltn (c : CkX cc T P k W S X) {x : Str} (h : bltB cc S x = true) : Gl X x ∧ X.mg x = none := by
  unfold bltB at h
  rw [Bool.and_eq_true] at h
  exact ⟨c.glb h.1, c.blt x (by simpa using h.2)⟩
theorem dbg_ {x : Str} (h : dbgB x = true) : (x == ("__debug__" : Str)) = false ∧ (x == ("__classdict__" : Str)) = false ∧ x ≠ ("__name__" : Str) := by
  unfold dbgB at h
  rw [Bool.and_eq_true, Bool.and_eq_true] at h
  exact ⟨by simpa using h.1.1, by simpa using h.1.2, by simpa using h.2⟩
end

/-! ### targets -/
theorem wipe_set_in {i : Nat} {x : Option V} : ∀ {vs : List Nat} {s : L2.St}, i ∈ vs → wipe (s.set i x) vs = wipe s vs
  | v :: vs, s, h => by
    unfold wipe
    by_cases e : i = v
    · subst e
      by_cases h2 : i ∈ vs
      · rw [wipe_set_in h2]
      · have key : ∀ (us : List Nat) (s : L2.St), i ∉ us → wipe (s.set i x) us = (wipe s us).set i x := by
          intro us
          induction us with
          | nil => intro s _; rfl
          | cons u us ih =>
            intro s hu
            have h1 : i ≠ u := fun z => hu (by simp [z])
            unfold wipe
            rw [ih s (fun z => hu (List.mem_cons_of_mem _ z)), List.set_comm _ _ h1]
        rw [key vs s h2, List.set_set]
    · rw [wipe_set_in (List.mem_of_ne_of_mem e h)]
/-- a target's store: where the values lie, the slots behind it -/
def tG (K : PySem.W.Frag) (tg : Tg) : TG := fun v s H Q => ∃ G F ρ μ d σ σ', Wd K G F ρ μ H ∧ SlR K F ρ s σ ∧ RpV K F ρ v d ∧ setT tg d σ μ = some σ' ∧
  ∀ s', SlR K F ρ s' σ' → (∀ vs, (∀ i ∈ tg.sets, i ∈ vs) → wipe s' vs = wipe s vs) → Q s' H
def tGs (K : PySem.W.Frag) (ts : List Tg) : TGs := fun vs s H Q => ∃ G F ρ μ ds σ σ', Wd K G F ρ μ H ∧ SlR K F ρ s σ ∧ RpVs K F ρ vs ds ∧ setTs ts ds σ μ = some σ' ∧
  ∀ s', SlR K F ρ s' σ' → (∀ us, (∀ i ∈ Tg.setss ts, i ∈ us) → wipe s' us = wipe s us) → Q s' H
theorem _root_.L2.PG.imp {X : Cx} {e : Expr} {t t' : TG} (h : PG X e t) (hi : ∀ v s H Q, t' v s H Q → t v s H Q) : PG X e t' := ⟨fun pins s σ H v u Q I r hw => h.run pins s σ H v u Q I r (hi _ _ _ _ hw)⟩
theorem _root_.L2.PGs.imp {X : Cx} {e : List Expr} {t t' : TGs} (h : PGs X e t) (hi : ∀ v s H Q, t' v s H Q → t v s H Q) : PGs X e t' := ⟨fun pins s σ H v u Q I r hw => h.run pins s σ H v u Q I r (hi _ _ _ _ hw)⟩
theorem _root_.L2.PG.or {X : Cx} {e : Expr} {t t' : TG} (h : PG X e t) (h' : PG X e t') : PG X e (fun v s H Q => t v s H Q ∨ t' v s H Q) :=
  ⟨fun pins s σ H v u Q I r hw => hw.elim (h.run pins s σ H v u Q I r) (h'.run pins s σ H v u Q I r)⟩
theorem assignEach_cons {e : Expr} {es : List Expr} {env : Env} (h : notStar e = true) : assignEach (e :: es) env = (false, assign e env) :: assignEach es env := by
  cases e <;> first | rfl | cases h
section
variable {cc : Ck} {T : XT} {P : Prog} {k : Nat} {W : WX} {S : Sc} {X : Cx}
theorem chkGs_len (cc : Ck) (S : Sc) (env : Env) : ∀ (ts : List Tg) (es : List Expr), chkGs cc S ts es = true → (assignEach es env).length = ts.length ∧ (assignEach es env).findIdx? (·.1) = none
  | [], [], _ => ⟨rfl, rfl⟩
  | t :: ts, e :: es, h => by
    simp only [chkGs, Bool.and_eq_true] at h
    obtain ⟨h1, h2⟩ := chkGs_len cc S env ts es h.2
    rw [assignEach_cons h.1.1]
    refine ⟨by rw [List.length_cons, List.length_cons, h1], ?_⟩
    rw [List.findIdx?_cons, h2]
    rfl
  | [], _ :: _, h => by simp [chkGs] at h
  | _ :: _, [], h => by simp [chkGs] at h
mutual
theorem sndG (c : CkX cc T P k W S X) : ∀ (tg : Tg) (e : Expr), chkG cc S tg e = true → PG X e (tG X.K tg)
  | .n i, e, h => by
    cases e with
    | Name x pos =>
      simp only [chkG, Bool.and_eq_true] at h
      obtain ⟨l1, l2⟩ := c.loc h.2
      refine (pg_name c.nd (c.slot h.1) l1 l2).imp fun v s H Q hw => ?_
      obtain ⟨G, F, ρ, μ, d, σ, σ', w, sr, rv, e, q⟩ := hw
      cases e
      exact q _ (sr.set rv) fun vs hv => wipe_set_in (hv i (by simp [Tg.sets]))
    | _ => simp [chkG] at h
  | .t ts, e, h => by
    cases e with
    | Tuple es x1 pos =>
      simp only [chkG] at h
      obtain ⟨h1, h2⟩ := chkGs_len cc S X.env ts es h
      have ih := sndGs c ts es h
      refine ((pg_tup c.calm ih h1 h2).or (pg_lst c.calm ih h1 h2)).imp fun v s H Q hw => ?_
      obtain ⟨G, F, ρ, μ, d, σ, σ', w, sr, rv, e, q⟩ := hw
      simp only [setT] at e
      split at e
      · rename_i xs e2
        obtain ⟨a, vs, rfl, hq, hr⟩ := seqOf_ rv w e2
        have hl : ∀ {ts : List Tg} {xs : List Vl} {σ σ' : Sl}, setTs ts xs σ μ = some σ' → xs.length = ts.length := by
          intro ts
          induction ts with
          | nil => intro xs σ σ' e; cases xs <;> first | rfl | (simp [setTs] at e)
          | cons t ts ih =>
            intro xs σ σ' e
            cases xs with
            | nil => simp [setTs] at e
            | cons x xs =>
              simp only [setTs] at e
              split at e
              · rw [List.length_cons, List.length_cons, ih e]
              · cases e
        have fin : tGs X.K ts vs s H Q := ⟨G, F, ρ, μ, xs, σ, σ', w, sr, hr, e, q⟩
        rcases hq with hq | hq
        · exact .inr ⟨a, vs, rfl, hq, by rw [Paired.len hr, hl e], fin⟩
        · exact .inl ⟨a, vs, rfl, hq, by rw [Paired.len hr, hl e], fin⟩
      · cases e
    | _ => simp [chkG] at h
theorem sndGs (c : CkX cc T P k W S X) : ∀ (ts : List Tg) (es : List Expr), chkGs cc S ts es = true → PGs X es (tGs X.K ts)
  | [], [], _ => pgs_nil.imp fun vs s H Q hw => by
    obtain ⟨G, F, ρ, μ, ds, σ, σ', w, sr, rv, e, q⟩ := hw
    cases ds with
    | nil =>
      cases e
      exact ⟨Paired.nilR rv, q s sr fun _ _ => rfl⟩
    | cons _ _ => simp [setTs] at e
  | t :: ts, e :: es, h => by
    simp only [chkGs, Bool.and_eq_true] at h
    refine (pgs_cons (sndG c t e h.1.2) (sndGs c ts es h.2) (by rw [assignEach_cons h.1.1]; rfl)).imp fun vs s H Q hw => ?_
    obtain ⟨G, F, ρ, μ, ds, σ, σ', w, sr, rv, e, q⟩ := hw
    cases ds with
    | nil => simp [setTs] at e
    | cons d ds =>
      simp only [setTs] at e
      split at e
      · rename_i σ1 e1
        cases rv with
        | cons r1 rr =>
          refine ⟨_, _, rfl, G, F, ρ, μ, d, σ, σ1, w, sr, r1, e1, fun s1 sr1 w1 => ?_⟩
          refine ⟨G, F, ρ, μ, ds, σ1, σ', w, sr1, rr, e, fun s2 sr2 w2 => q s2 sr2 fun us hu => ?_⟩
          rw [w2 us fun i hi => hu i (by simp [Tg.setss, hi]), w1 us fun i hi => hu i (by simp [Tg.setss, hi])]
      · cases e
  | [], _ :: _, h => by simp [chkGs] at h
  | _ :: _, [], h => by simp [chkGs] at h
end
end
end HP
end

section
set_option Elab.async false
set_option linter.all false
set_option maxRecDepth 100000
set_option maxHeartbeats 4000000
set_option autoImplicit false
/-! Soundness 8: what a loop walks. -/
namespace HP
open PySem PySem.Spec PyProof.Rows L2

/-- an iterator yields just these items, while ok holds -/
structure ItOk (K : PySem.W.Frag) (G : Hp) (J : It) (F0 : Hp) (ρ0 : List Addr) (xs : List Vl) (ok : Mem → Bool) : Prop where
  go : ∀ (G' F : Hp) (ρ : List Addr) (μ : Mem) (H : Hp) (i : Nat), Same F0 F → ρ0 <+: ρ → Wd K G' F ρ μ H → ok μ = true → i < xs.length → J.go i H
  yld : ∀ (G' F : Hp) (ρ : List Addr) (μ : Mem) (H : Hp) (i : Nat) (v : V) (H' : Hp), Same F0 F → ρ0 <+: ρ → Wd K G' F ρ μ H → ok μ = true → J.yld i H v H' → ∀ d, xs[i]? = some d → ∃ F', Same F F' ∧ Wd K G' F' ρ μ H' ∧ RpV K F' ρ v d
  stop : ∀ (G' F : Hp) (ρ : List Addr) (μ : Mem) (H : Hp) (i : Nat), Same F0 F → ρ0 <+: ρ → Wd K G' F ρ μ H → ok μ = true → xs.length ≤ i → J.stop i H
section
variable {K : PySem.W.Frag} {G F : Hp} {ρ : List Addr}
theorem itok_list {a : Addr} {vs : List V} {xs : List Vl} {ok : Mem → Bool} (h : F a = some (.lst vs)) (r : RpVs K F ρ vs xs) : ItOk K G (Itl K a) F ρ xs ok where
  go := fun G' F' ρ' μ H i s p w _ hi => by
    obtain ⟨v, hv, _⟩ := Paired.getR r (List.getElem?_eq_getElem hi)
    exact ⟨vs, v, SqL.of (w.sub _ _ (s _ _ h)), hv⟩
  yld := fun G' F' ρ' μ H i v H' s p w _ y d hd => by
    obtain ⟨rfl, y⟩ := y
    obtain ⟨v', hv, rv⟩ := Paired.getR r hd
    have e := y vs (SqL.of (w.sub _ _ (s _ _ h)))
    rw [hv] at e; cases e
    exact ⟨F', Same.refl _, w, rv.mono s p⟩
  stop := fun G' F' ρ' μ H i s p w _ hi => ⟨vs, SqL.of (w.sub _ _ (s _ _ h)), by rw [Paired.len r]; exact hi⟩
theorem itok_ref {n : Nat} {a : Addr} {xs : List Vl} (h : ρ[n]? = some a) : ItOk K G (Itl K a) F ρ xs (still (some n) xs) where
  go := fun G' F' ρ' μ H i s p w k hi => by
    obtain ⟨a', vs, e, h2, h3, r⟩ := RpV.ref_ (v := .ref a) ⟨a, rfl, pre_get p h⟩ w (of_decide_eq_true k)
    cases e
    obtain ⟨v, hv, _⟩ := Paired.getR r (List.getElem?_eq_getElem hi)
    exact ⟨vs, v, SqL.of h3, hv⟩
  yld := fun G' F' ρ' μ H i v H' s p w k y d hd => by
    obtain ⟨rfl, y⟩ := y
    obtain ⟨a', vs, e, h2, h3, r⟩ := RpV.ref_ (v := .ref a) ⟨a, rfl, pre_get p h⟩ w (of_decide_eq_true k)
    cases e
    obtain ⟨v', hv, rv⟩ := Paired.getR r hd
    have e := y vs (SqL.of h3)
    rw [hv] at e; cases e
    exact ⟨F', Same.refl _, w, rv⟩
  stop := fun G' F' ρ' μ H i s p w k hi => by
    obtain ⟨a', vs, e, h2, h3, r⟩ := RpV.ref_ (v := .ref a) ⟨a, rfl, pre_get p h⟩ w (of_decide_eq_true k)
    cases e
    exact ⟨vs, SqL.of h3, by rw [Paired.len r]; exact hi⟩
theorem itok_tup {a : Addr} {vs : List V} {xs : List Vl} {ok : Mem → Bool} (h : SqT K F a vs) (r : RpVs K F ρ vs xs) : ItOk K G (Itt K a) F ρ xs ok where
  go := fun G' F' ρ' μ H i s p w _ hi => by
    obtain ⟨v, hv, _⟩ := Paired.getR r (List.getElem?_eq_getElem hi)
    exact ⟨vs, v, SqT.mono w.sub (SqT.mono s h), hv⟩
  yld := fun G' F' ρ' μ H i v H' s p w _ y d hd => by
    obtain ⟨rfl, y⟩ := y
    obtain ⟨v', hv, rv⟩ := Paired.getR r hd
    have e := y vs (SqT.mono w.sub (SqT.mono s h))
    rw [hv] at e; cases e
    exact ⟨F', Same.refl _, w, rv.mono s p⟩
  stop := fun G' F' ρ' μ H i s p w _ hi => ⟨vs, SqT.mono w.sub (SqT.mono s h), by rw [Paired.len r]; exact hi⟩
theorem itok_str {t : List Char} {ok : Mem → Bool} : ItOk K G (Its (toS t)) F ρ (t.map fun c => Vl.d (.str [c])) ok where
  go := fun G' F' ρ' μ H i s p w _ hi => by
    show i < (toS t).cps.size
    simpa [toS] using hi
  yld := fun G' F' ρ' μ H i v H' s p w _ y d hd => by
    obtain ⟨rfl, c, hc, rfl⟩ := y
    rw [List.getElem?_map] at hd
    cases e : t[i]? with
    | none => rw [e] at hd; cases hd
    | some x =>
      rw [e] at hd
      cases hd
      have : (toS t).cps[i]? = some x.toNat := by simp [toS, e]
      rw [this] at hc
      cases hc
      exact ⟨F', Same.refl _, w, .str [x] (by rw [sizeLine_eq, List.length_singleton]; omega)⟩
  stop := fun G' F' ρ' μ H i s p w _ hi => by
    show (toS t).cps.size ≤ i
    simpa [toS] using hi
theorem itok_rng {lo : Int} {n : Nat} {ok : Mem → Bool} : ItOk K G (Itr lo n) F ρ ((List.range n).map fun (i : Nat) => Vl.d (.int (lo + (i : Int)))) ok where
  go := fun G' F' ρ' μ H i s p w _ hi => by
    show i < n
    simpa using hi
  yld := fun G' F' ρ' μ H i v H' s p w _ y d hd => by
    obtain ⟨rfl, rfl⟩ := y
    rw [List.getElem?_map] at hd
    cases e : (List.range n)[i]? with
    | none => rw [e] at hd; cases hd
    | some x =>
      rw [e] at hd
      cases hd
      have h1 : i < n := by have := (List.getElem?_eq_some_iff.mp e).1; simpa using this
      rw [List.getElem?_range h1] at e
      cases e
      exact ⟨F', Same.refl _, w, .int _⟩
  stop := fun G' F' ρ' μ H i s p w _ hi => by
    show n ≤ i
    simpa using hi
theorem itok_rng0 {n : Nat} {ok : Mem → Bool} : ItOk K G (Itr 0 n) F ρ ((List.range n).map fun (i : Nat) => Vl.d (.int (i : Int))) ok := by
  have := itok_rng (K := K) (G := G) (F := F) (ρ := ρ) (lo := 0) (n := n) (ok := ok)
  simp only [Int.zero_add] at this
  exact this
theorem itok_rev {a : Addr} {vs : List V} {xs : List Vl} {ok : Mem → Bool} (h : SqT K F a vs) (r : RpVs K F ρ vs xs) : ItOk K G (RT.ItvT K a vs.length) F ρ xs.reverse ok where
  go := fun G' F' ρ' μ H i s p w _ hi => by
    have hl := Paired.len r
    rw [List.length_reverse] at hi
    refine ⟨by omega, vs, vs[vs.length - 1 - i]'(by omega), SqT.mono w.sub (SqT.mono s h), List.getElem?_eq_getElem _⟩
  yld := fun G' F' ρ' μ H i v H' s p w _ y d hd => by
    obtain ⟨rfl, y⟩ := y
    have hl := Paired.len r
    have hi := (List.getElem?_eq_some_iff.mp hd).1
    rw [List.length_reverse] at hi
    rw [List.getElem?_reverse hi] at hd
    obtain ⟨v', hv, rv⟩ := Paired.getR r hd
    have e := y vs (SqT.mono w.sub (SqT.mono s h))
    rw [hl, hv] at e; cases e
    exact ⟨F', Same.refl _, w, rv.mono s p⟩
  stop := fun G' F' ρ' μ H i s p w _ hi => by
    show vs.length ≤ i
    rw [Paired.len r]
    simpa using hi
end

/-! ### readings by the evaluator -/
def cx (P : Prog) (k : Nat) : Ctx := ⟨sem P k, P.glob, 1000000000⟩
def tE (K : PySem.W.Frag) (T : XT) (P : Prog) (k : Nat) (W : WX) (e : E) : TE := fun s H Q => ∃ G F ρ μ σ, Wd K G F ρ μ H ∧ SlR K F ρ s σ ∧ Post K G (RpV K) F ρ (wxAt K G T W σ) (evE (cx P k) e σ μ) Q
def tEs (K : PySem.W.Frag) (T : XT) (P : Prog) (k : Nat) (W : WX) (es : Es) : TA := fun s H Q => ∃ G F ρ μ σ, Wd K G F ρ μ H ∧ SlR K F ρ s σ ∧ Post K G (RpVs K) F ρ (wxAt K G T W σ) (evEs (cx P k) es σ μ) Q
/-- a test's answer -/
def testR (r : R Vl) : R Bool := match r with
  | .ok v m => match truth v m with
    | some b => .ok b m
    | none => .st
  | .ex x m => .ex x m
  | .st => .st
def relB (_ : Hp) (_ : List Addr) (b d : Bool) : Prop := b = d
def tT (K : PySem.W.Frag) (T : XT) (P : Prog) (k : Nat) (W : WX) (e : E) : TT := fun s H Q => ∃ G F ρ μ σ, Wd K G F ρ μ H ∧ SlR K F ρ s σ ∧ Post K G relB F ρ (wxAt K G T W σ) (testR (evE (cx P k) e σ μ)) Q
/-- what is walked: the items are known when the iterator stands -/
def tI (K : PySem.W.Frag) (T : XT) (P : Prog) (k : Nat) (W : WX) (kd : Itk) (es : Es) : TI := fun s H R => ∃ G F ρ μ σ, Wd K G F ρ μ H ∧ SlR K F ρ s σ ∧ (match evEs (cx P k) es σ μ with
  | .ok vs m => match itemsOf kd vs m with
    | .ok xs m' => ∀ F' ρ' H' J, Same F F' → ρ <+: ρ' → Wd K G F' ρ' m' H' → ItOk K G J F' ρ' xs (still (srcOf kd vs) xs) → R J H'
    | _ => False
  | .ex x m => (wxAt K G T W σ).p F ρ x m
  | .st => False)
theorem _root_.L2.PE.imp {X : Cx} {e : Expr} {t t' : TE} (h : PE X e t) (hi : ∀ s H Q, t' s H Q → t s H Q) : PE X e t' := ⟨fun pins s σ H Q I hw => h.run pins s σ H Q I (hi _ _ _ hw)⟩
theorem _root_.L2.PT.imp {X : Cx} {e : Expr} {t t' : TT} (h : PT X e t) (hi : ∀ s H Q, t' s H Q → t s H Q) : PT X e t' := ⟨fun pins s σ H Q I hw => h.run pins s σ H Q I (hi _ _ _ hw)⟩
theorem _root_.L2.PA.imp {X : Cx} {e : List Expr} {t t' : TA} (h : PA X e t) (hi : ∀ s H Q, t' s H Q → t s H Q) : PA X e t' := ⟨fun pos pins s σ H Q I hw => h.run pos pins s σ H Q I (hi _ _ _ hw)⟩

theorem evEs_one {C : Ctx} {e : E} {σ : Sl} {μ m : Mem} {vs : List Vl} (h : evEs C (.cons e .nil) σ μ = .ok vs m) : ∃ d, vs = [d] := by
  simp only [evEs] at h
  cases q : evE C e σ μ with
  | ex x m => rw [q] at h; cases h
  | st => rw [q] at h; cases h
  | ok d m1 => rw [q] at h; cases h; exact ⟨d, rfl⟩
theorem evEs_two {C : Ctx} {e e' : E} {σ : Sl} {μ m : Mem} {vs : List Vl} (h : evEs C (.cons e (.cons e' .nil)) σ μ = .ok vs m) : ∃ d d', vs = [d, d'] := by
  simp only [evEs] at h
  cases q : evE C e σ μ with
  | ex x m => rw [q] at h; cases h
  | st => rw [q] at h; cases h
  | ok d m1 =>
    rw [q, then2_ok] at h
    cases q2 : evE C e' σ m1 with
    | ex x m => rw [q2] at h; cases h
    | st => rw [q2] at h; cases h
    | ok d2 m2 => rw [q2] at h; cases h; exact ⟨d, d2, rfl⟩
section
variable {X : Cx} {T : XT} {P : Prog} {k : Nat} {W : WX} {tg : Expr}
/-- one value is walked as it is -/
theorem pi_seq {l : Expr} {e : E} (he : PE X l (tE X.K T P k W e)) : PI X tg l (tI X.K T P k W .seq (.cons e .nil)) := by
  refine ⟨fun pins s σ0 H R I h => ?_⟩
  obtain ⟨G, F, ρ, μ, σ, w, sr, h⟩ := h
  simp only [evEs] at h
  cases q : evE (cx P k) e σ μ with
  | ex x m =>
    rw [q] at h
    exact (pi_list he).run pins s σ0 H R I ⟨G, F, ρ, μ, σ, w, sr, by rw [q]; exact h⟩
  | st => rw [q] at h; exact h.elim
  | ok d m =>
    rw [q] at h
    simp only [then2_ok, then1_ok, okCons, srcOf] at h
    have fin : ∀ {Z : VK}, (∀ F' ρ' v H', Same F F' → ρ <+: ρ' → Wd X.K G F' ρ' m H' → RpV X.K F' ρ' v d → Z v H') → tE X.K T P k W e σ0 H Z := fun {Z} hz => ⟨G, F, ρ, μ, σ, w, sr, by rw [q]; exact hz⟩
    cases d with
    | scr ns => simp only [itemsOf, seqOf, ofO] at h
    | ref n =>
      simp only [itemsOf, seqOf] at h
      cases e2 : m[n]? with
      | none => rw [e2] at h; simp only [ofO] at h
      | some o =>
        rw [e2] at h
        cases o with
        | dead => simp only [ofO] at h
        | dic _ => simp only [ofO] at h
        | lst xs =>
          simp only [ofO_some] at h
          refine (pi_list he).run pins s σ0 H R I (fin fun F' ρ' v H' s1 p1 w1 r1 => ?_)
          obtain ⟨a, vs, rfl, h2, h3, h4⟩ := r1.ref_ w1 e2
          exact ⟨a, rfl, ⟨vs, SqL.of h3⟩, h F' ρ' H' _ s1 p1 w1 (itok_ref h2)⟩
    | d x =>
      cases x with
      | non => simp only [itemsOf, seqOf, ofO] at h
      | bl _ => simp only [itemsOf, seqOf, ofO] at h
      | int _ => simp only [itemsOf, seqOf, ofO] at h
      | str t =>
        simp only [itemsOf] at h
        refine (pi_str he).run pins s σ0 H R I (fin fun F' ρ' v H' s1 p1 w1 r1 => ?_)
        obtain ⟨rfl, _⟩ := r1.str_
        exact ⟨_, rfl, h F' ρ' H' _ s1 p1 w1 itok_str⟩
      | tup xs =>
        simp only [itemsOf, seqOf, ofO_some] at h
        refine (pi_tup he).run pins s σ0 H R I (fin fun F' ρ' v H' s1 p1 w1 r1 => ?_)
        obtain ⟨a, vs, rfl, t1, t2⟩ := r1.tup_
        exact ⟨a, rfl, ⟨vs, SqT.mono w1.sub t1⟩, h F' ρ' H' _ s1 p1 w1 (itok_tup t1 t2.vs)⟩
      | lst xs =>
        simp only [itemsOf, seqOf, ofO_some] at h
        refine (pi_list he).run pins s σ0 H R I (fin fun F' ρ' v H' s1 p1 w1 r1 => ?_)
        obtain ⟨a, vs, rfl, t1, t2⟩ := r1.lst_
        exact ⟨a, rfl, ⟨vs, SqL.of (w1.sub _ _ t1)⟩, h F' ρ' H' _ s1 p1 w1 (itok_list t1 t2.vs)⟩
theorem pi_rng1 {a : Expr} {e : E} {p pos : Pos} (hg : Gl X "range") (hm : X.mg "range" = none) (ha : PA X [a] (tEs X.K T P k W (.cons e .nil))) (hs : notStar a = true) : PI X tg (.Call (.Name "range" p) [a] [] pos) (tI X.K T P k W .rng (.cons e .nil)) := by
  refine ⟨fun pins s σ0 H R I h => ?_⟩
  refine (pi_range1 hg hm ha (by cases a <;> first | rfl | cases hs)).run pins s σ0 H R I ?_
  obtain ⟨G, F, ρ, μ, σ, w, sr, h⟩ := h
  refine ⟨G, F, ρ, μ, σ, w, sr, ?_⟩
  cases q : evEs (cx P k) (.cons e .nil) σ μ with
  | ex x m => rw [q] at h; exact h
  | st => rw [q] at h; exact h.elim
  | ok vs m =>
    rw [q] at h
    intro F' ρ' us H' s1 p1 w1 r1
    dsimp only at h
    split at h
    · rename_i xs m' e2
      unfold itemsOf at e2
      split at e2 <;> rename_i q1 <;> first | (cases q1; done) | skip
      · unfold need at e2
        split at e2
        · rename_i hb
          have hb := of_decide_eq_true hb
          injection e2 with e3 e4
          subst e3 e4
          obtain ⟨v, rfl, r2⟩ := RpVs.one r1
          obtain rfl := r2.int_
          refine ⟨_, rfl, by omega, by omega, h F' ρ' H' _ s1 p1 w1 ?_⟩
          exact itok_rng0
        · cases e2
      · obtain ⟨_, z⟩ := evEs_one q
        cases z
      all_goals cases e2
    · exact h.elim
theorem pi_rng2 {a b : Expr} {e e' : E} {p pos : Pos} (hg : Gl X "range") (hm : X.mg "range" = none) (ha : PA X [a, b] (tEs X.K T P k W (.cons e (.cons e' .nil)))) (hs : notStar a = true) (hs2 : notStar b = true) :
    PI X tg (.Call (.Name "range" p) [a, b] [] pos) (tI X.K T P k W .rng (.cons e (.cons e' .nil))) := by
  refine ⟨fun pins s σ0 H R I h => ?_⟩
  have hb1 : starEach [b] X.env = [(false, eval b X.env)] := by cases b <;> first | rfl | cases hs2
  have ha1 : starEach [a, b] X.env = [(false, eval a X.env), (false, eval b X.env)] := by
    rw [← hb1]
    cases a <;> first | rfl | cases hs
  refine (pi_range2 hg hm ha ha1 hb1).run pins s σ0 H R I ?_
  obtain ⟨G, F, ρ, μ, σ, w, sr, h⟩ := h
  refine ⟨G, F, ρ, μ, σ, w, sr, ?_⟩
  cases q : evEs (cx P k) (.cons e (.cons e' .nil)) σ μ with
  | ex x m => rw [q] at h; exact h
  | st => rw [q] at h; exact h.elim
  | ok vs m =>
    rw [q] at h
    intro F' ρ' us H' s1 p1 w1 r1
    dsimp only at h
    split at h
    · rename_i xs m' e2
      unfold itemsOf at e2
      split at e2 <;> rename_i q1 <;> first | (cases q1; done) | skip
      · obtain ⟨_, _, z⟩ := evEs_two q
        cases z
      · unfold need at e2
        split at e2
        · rename_i hb
          have hb := of_decide_eq_true hb
          injection e2 with e3 e4
          subst e3 e4
          obtain ⟨v, u, rfl, r2, r3⟩ := RpVs.two r1
          obtain rfl := r2.int_; obtain rfl := r3.int_
          exact ⟨_, _, rfl, ⟨by omega, by omega, by omega, by omega⟩, h F' ρ' H' _ s1 p1 w1 itok_rng⟩
        · cases e2
      all_goals cases e2
    · exact h.elim
theorem pi_rev {a : Expr} {e : E} {p pos : Pos} (hg : Gl X "reversed") (hm : X.mg "reversed" = none) (he : PE X a (tE X.K T P k W e)) (hs : notStar a = true) : PI X tg (.Call (.Name "reversed" p) [a] [] pos) (tI X.K T P k W .rev (.cons e .nil)) := by
  refine ⟨fun pins s σ0 H R I h => ?_⟩
  refine (RT.pi_revA hg hm he (by cases a <;> first | rfl | cases hs)).run pins s σ0 H R I ?_
  obtain ⟨G, F, ρ, μ, σ, w, sr, h⟩ := h
  refine ⟨G, F, ρ, μ, σ, w, sr, ?_⟩
  simp only [evEs] at h
  cases q : evE (cx P k) e σ μ with
  | ex x m => rw [q] at h; exact h
  | st => rw [q] at h; exact h.elim
  | ok d m =>
    rw [q] at h
    simp only [then2_ok, then1_ok, okCons, srcOf] at h
    intro F' ρ' v H' s1 p1 w1 r1
    cases d with
    | scr ns => simp only [itemsOf] at h
    | ref n => simp only [itemsOf] at h
    | d x =>
      cases x with
      | tup xs =>
        simp only [itemsOf] at h
        obtain ⟨a', vs, rfl, t1, t2⟩ := r1.tup_
        refine ⟨a', vs, rfl, .inr ⟨SqT.mono w1.sub t1, h F' ρ' H' _ s1 p1 w1 ?_⟩⟩
        rw [List.map_reverse]
        exact itok_rev t1 t2.vs
      | _ => simp only [itemsOf] at h
end
end HP
end

section
set_option Elab.async false
set_option linter.all false
set_option maxRecDepth 100000
set_option maxHeartbeats 4000000
/-! zip of two sources, each a list, a tuple or a text. -/
namespace HP
open PySem PySem.Spec PyProof.Rows L2
open PySem.Sem (wp)

/-- the next item of an inner iterator, wherever its objects stand as in h -/
def NxItem (prog : Program) (w : PySem.World) (it : Addr) (dep : List Addr) (h : Heap) (Pv : Value → Prop) (St : Heap → Prop) : Prop :=
  ∀ (A : Around) (s : Shared) (Q : Value → Shared → Prop) (E : Value → Shared → Prop), (∀ b ∈ it :: dep, ∀ o, h.get? b = some o → s.heap.get? b = some o) →
    (∀ x h' tk, Pv x → St h' → Heap.SameBut it s.heap h' → Q x { s with heap := h', toks := tk }) → wpAny (model prog w) A (Builtin.SmallTypes.nextOf (.ref it)) Q E s
def NxEnd (prog : Program) (w : PySem.World) (it : Addr) (dep : List Addr) (h : Heap) : Prop :=
  ∀ (A : Around) (s : Shared) (Q : Value → Shared → Prop) (E : Value → Shared → Prop), A.handled = none → (∀ b ∈ it :: dep, ∀ o, h.get? b = some o → s.heap.get? b = some o) →
    (∀ h' e, Heap.ExtBut it s.heap h' → (∃ o, h'.get? e = some o ∧ o.cls = .type "StopIteration") → E (.ref e) { s with heap := h' }) → wpAny (model prog w) A (Builtin.SmallTypes.nextOf (.ref it)) Q E s
structure ZApart (z TI TO i1 i2 : Addr) (d1 d2 : List Addr) : Prop where
  TIz : TI ≠ z
  TOz : TO ≠ z
  i1z : i1 ≠ z
  i2z : i2 ≠ z
  TITO : TI ≠ TO
  TIi1 : TI ≠ i1
  TIi2 : TI ≠ i2
  TOi1 : TO ≠ i1
  TOi2 : TO ≠ i2
  i12 : i1 ≠ i2
  q1 : ∀ l ∈ d1, l ≠ z
  q2 : ∀ l ∈ d2, l ≠ z ∧ l ≠ TO ∧ l ≠ i1
section
variable {prog : Program} {w : PySem.World} {A : Around} {E : Value → Shared → Prop} {s : Shared}
theorem zipG_item {z TI TO i1 i2 : Addr} {d1 d2 : List Addr} {P1 P2 : Value → Prop} {S1 S2 : Heap → Prop} {a b : Value} {Q : Value → Shared → Prop} (D : ZApart z TI TO i1 i2 d1 d2)
    (hz : IsZip s.heap z TI TO .none) (hTI : IsPair s.heap TI (.ref i1) (.ref i2)) (hTO : IsPair s.heap TO a b)
    (n1 : NxItem prog w i1 d1 s.heap P1 S1) (n2 : NxItem prog w i2 d2 s.heap P2 S2)
    (k1 : ∀ h h', S1 h → (∀ o, h.get? i1 = some o → h'.get? i1 = some o) → S1 h') (k2 : ∀ h h', S2 h → (∀ o, h.get? i2 = some o → h'.get? i2 = some o) → S2 h')
    (l1 : ∀ h, S1 h → ∃ o, h.get? i1 = some o) (l2 : ∀ h, S2 h → ∃ o, h.get? i2 = some o)
    (hQ : ∀ x y h' tk, P1 x → P2 y → IsZip h' z TI TO (rawInt s.heap.objs.size) → IsPair h' TO x y → S1 h' → S2 h' → IsPair h' s.heap.objs.size x y → h'.objs.size = s.heap.objs.size + 1 →
      (∀ c o, c ≠ z → c ≠ TO → c ≠ i1 → c ≠ i2 → s.heap.get? c = some o → h'.get? c = some o) → Q (.ref s.heap.objs.size) { s with heap := h', toks := tk }) :
    wpAny (model prog w) A (Builtin.«zip.__next__» ⟨[.ref z], []⟩) (fun fin s' => ∃ v, fin = .done (.ret v) ∧ Q v s') E s := by
  obtain ⟨hp, g, d, tk₀, os⟩ := s
  show wpAny _ _ (field (.ref z) 2 >>= _) _ _ _
  refine wpAny_bind (wpAny_field hz rfl (x := .bool false) rfl ?_)
  show wpAny _ _ (field (.ref z) 3 >>= _) _ _ _
  refine wpAny_bind (wpAny_field hz rfl (x := .ref TI) rfl ?_)
  refine wpAny_bind (wpAny_seqItems hTI rfl ?_)
  show wpAny _ _ (Builtin.SmallTypes.ownedTupleIsFree (.ref z) >>= _) _ _ _
  refine wpAny_bind ?_
  unfold Builtin.SmallTypes.ownedTupleIsFree
  refine wpAny_bind (wpAny_field hz rfl (x := .none) rfl (wpAny_pure ?_))
  simp only [if_true]
  refine wpAny_bind (wpAny_rule ?_)
  refine wpAny_bind (wpAny_field hz rfl (x := .ref TO) rfl ?_)
  refine wpAny_bind (wpAny_setField_rec hz (by simp) fun h₁ hz₁ hs₁ => ?_)
  replace hz₁ : IsZip h₁ z TI TO .ellipsis := hz₁
  replace hs₁ : Heap.SameBut z hp h₁ := hs₁
  refine wpAny_bind ?_
  simp only [List.zipIdx_cons, List.zipIdx_nil, List.forIn_cons, List.forIn_nil]
  refine wpAny_bind (wpAny_bind (wpAny_onRaise ?_))
  show wpAny _ _ (Builtin.SmallTypes.nextOf (.ref i1) >>= _) _ _ _
  refine wpAny_bind (n1 _ _ _ _ (fun b hb o e => hs₁.extBut _ _ (by rcases List.mem_cons.mp hb with q | q; exact q ▸ D.i1z; exact D.q1 b q) e) fun x h₂ tk₂ px st1 hs₂ => wpAny_pure ?_)
  replace hs₂ : Heap.SameBut i1 h₁ h₂ := hs₂
  have hTO₂ : IsPair h₂ TO a b := hs₂.extBut _ _ D.TOi1 (hs₁.extBut _ _ D.TOz hTO)
  refine wpAny_bind (wpAny_seqItems hTO₂ rfl ?_)
  refine wpAny_bind (wpAny_updateSeq_pair hTO₂ fun h₃ hTO₃ hs₃ => ?_)
  replace hTO₃ : IsPair h₃ TO x b := hTO₃
  replace hs₃ : Heap.SameBut TO h₂ h₃ := hs₃
  refine wpAny_bind (wpAny_letGo (wpAny_pure ?_))
  refine wpAny_bind (wpAny_bind (wpAny_onRaise ?_))
  show wpAny _ _ (Builtin.SmallTypes.nextOf (.ref i2) >>= _) _ _ _
  have away2 : ∀ b ∈ i2 :: d2, b ≠ z ∧ b ≠ TO ∧ b ≠ i1 := fun b hb => by
    rcases List.mem_cons.mp hb with q | q
    · subst q; exact ⟨D.i2z, D.TOi2.symm, D.i12.symm⟩
    · exact D.q2 b q
  refine wpAny_bind (n2 _ _ _ _ (fun b hb o e => hs₃.extBut _ _ (away2 b hb).2.1 (hs₂.extBut _ _ (away2 b hb).2.2 (hs₁.extBut _ _ (away2 b hb).1 e))) fun y h₄ tk₄ py st2 hs₄ => wpAny_pure ?_)
  replace hs₄ : Heap.SameBut i2 h₃ h₄ := hs₄
  have hTO₄ : IsPair h₄ TO x b := hs₄.extBut _ _ D.TOi2 hTO₃
  refine wpAny_bind (wpAny_seqItems hTO₄ rfl ?_)
  refine wpAny_bind (wpAny_updateSeq_pair hTO₄ fun h₅ hTO₅ hs₅ => ?_)
  replace hTO₅ : IsPair h₅ TO x y := hTO₅
  replace hs₅ : Heap.SameBut TO h₄ h₅ := hs₅
  refine wpAny_bind (wpAny_letGo (wpAny_pure (wpAny_pure ?_)))
  refine wpAny_bind (wpAny_seqItems hTO₅ rfl ?_)
  refine wpAny_bind (wpAny_newTuple ?_)
  have hsz : h₅.objs.size = hp.objs.size := by rw [hs₅.1, hs₄.1, hs₃.1, hs₂.1, hs₁.1]
  have hz₅ : IsZip h₅ z TI TO .ellipsis := hs₅.extBut _ _ D.TOz.symm (hs₄.extBut _ _ D.i2z.symm (hs₃.extBut _ _ D.TOz.symm (hs₂.extBut _ _ D.i1z.symm hz₁)))
  have hk₅ : ∀ c o, c ≠ z → c ≠ TO → c ≠ i1 → c ≠ i2 → hp.get? c = some o → h₅.get? c = some o := fun c o c1 c2 c3 c4 e =>
    hs₅.extBut _ _ c2 (hs₄.extBut _ _ c4 (hs₃.extBut _ _ c2 (hs₂.extBut _ _ c3 (hs₁.extBut _ _ c1 e))))
  have st1₅ : S1 h₅ := k1 _ _ st1 fun o e => hs₅.extBut _ _ D.TOi1.symm (hs₄.extBut _ _ D.i12 (hs₃.extBut _ _ D.TOi1.symm e))
  have st2₅ : S2 h₅ := k2 _ _ st2 fun o e => hs₅.extBut _ _ D.TOi2.symm e
  have hzlt : z < h₅.objs.size := Heap.lt_size hz₅
  have hTOlt : TO < h₅.objs.size := Heap.lt_size hTO₅
  have hi1lt : i1 < h₅.objs.size := by obtain ⟨_, e⟩ := l1 _ st1₅; exact Heap.lt_size e
  have hi2lt : i2 < h₅.objs.size := by obtain ⟨_, e⟩ := l2 _ st2₅; exact Heap.lt_size e
  show wpAny _ _ (Builtin.SmallTypes.ownedTupleHandOut (.ref z) (.ref h₅.objs.size) >>= _) _ _ _
  refine wpAny_bind ?_
  unfold Builtin.SmallTypes.ownedTupleHandOut
  have hz₆ : IsZip (h₅.push { cls := .type "tuple", data := .seq #[x, y] }) z TI TO .ellipsis := Heap.get?_push_of_some _ hz₅
  refine wpAny_bind (wpAny_setField_rec hz₆ (by simp) fun h₇ hz₇ hs₇ => ?_)
  replace hz₇ : IsZip h₇ z TI TO (rawInt h₅.objs.size) := hz₇
  refine wpAny_setField_rec hz₇ (by simp) fun h₈ hz₈ hs₈ => ?_
  replace hz₈ : IsZip h₈ z TI TO (rawInt h₅.objs.size) := hz₈
  have up : ∀ c o, c ≠ z → h₅.get? c = some o → h₈.get? c = some o := fun c o c1 e => hs₈.extBut _ _ c1 (hs₇.extBut _ _ c1 (Heap.get?_push_of_some _ e))
  have hT₈ : IsPair h₈ h₅.objs.size x y := hs₈.extBut _ _ (Nat.ne_of_gt hzlt) (hs₇.extBut _ _ (Nat.ne_of_gt hzlt) (Heap.get?_push_size _ rfl))
  have hz8 : h₈.objs.size = h₅.objs.size + 1 := by rw [hs₈.1, hs₇.1, Heap.size_push]
  rw [hsz] at hz₈ hT₈ hz8
  refine wpAny_pure ⟨_, rfl, ?_⟩
  show Q (.ref h₅.objs.size) _
  rw [hsz]
  exact hQ x y h₈ _ px py hz₈ (up _ _ D.TOz hTO₅) (k1 _ _ st1₅ fun o e => up _ o D.i1z e) (k2 _ _ st2₅ fun o e => up _ o D.i2z e) hT₈ hz8 fun c o c1 c2 c3 c4 e => up c o c1 (hk₅ c o c1 c2 c3 c4 e)
theorem zipG_end {z TI TO i1 i2 : Addr} {d1 d2 : List Addr} {P1 : Value → Prop} {S1 : Heap → Prop} {a b : Value} {Q : Fin → Shared → Prop} (hh : A.handled = none) (D : ZApart z TI TO i1 i2 d1 d2)
    (hz : IsZip s.heap z TI TO .none) (hTI : IsPair s.heap TI (.ref i1) (.ref i2)) (hTO : IsPair s.heap TO a b)
    (hend : NxEnd prog w i1 d1 s.heap ∨ (NxItem prog w i1 d1 s.heap P1 S1 ∧ NxEnd prog w i2 d2 s.heap))
    (hE : ∀ h' e tk, (∀ c o, c ≠ z → c ≠ TO → c ≠ i1 → c ≠ i2 → s.heap.get? c = some o → h'.get? c = some o) → (∃ o, h'.get? e = some o ∧ o.cls = .type "StopIteration") → E (.ref e) { s with heap := h', toks := tk }) :
    wpAny (model prog w) A (Builtin.«zip.__next__» ⟨[.ref z], []⟩) Q E s := by
  obtain ⟨hp, g, d, tk₀, os⟩ := s
  show wpAny _ _ (field (.ref z) 2 >>= _) _ _ _
  refine wpAny_bind (wpAny_field hz rfl (x := .bool false) rfl ?_)
  show wpAny _ _ (field (.ref z) 3 >>= _) _ _ _
  refine wpAny_bind (wpAny_field hz rfl (x := .ref TI) rfl ?_)
  refine wpAny_bind (wpAny_seqItems hTI rfl ?_)
  show wpAny _ _ (Builtin.SmallTypes.ownedTupleIsFree (.ref z) >>= _) _ _ _
  refine wpAny_bind ?_
  unfold Builtin.SmallTypes.ownedTupleIsFree
  refine wpAny_bind (wpAny_field hz rfl (x := .none) rfl (wpAny_pure ?_))
  simp only [if_true]
  refine wpAny_bind (wpAny_rule ?_)
  refine wpAny_bind (wpAny_field hz rfl (x := .ref TO) rfl ?_)
  refine wpAny_bind (wpAny_setField_rec hz (by simp) fun h₁ hz₁ hs₁ => ?_)
  replace hz₁ : IsZip h₁ z TI TO .ellipsis := hz₁
  replace hs₁ : Heap.SameBut z hp h₁ := hs₁
  refine wpAny_bind ?_
  simp only [List.zipIdx_cons, List.zipIdx_nil, List.forIn_cons, List.forIn_nil]
  refine wpAny_bind (wpAny_bind (wpAny_onRaise ?_))
  show wpAny _ _ (Builtin.SmallTypes.nextOf (.ref i1) >>= _) _ _ _
  have away1 : ∀ b ∈ i1 :: d1, b ≠ z := fun b hb => by
    rcases List.mem_cons.mp hb with q | q
    · subst q; exact D.i1z
    · exact D.q1 b q
  have away2 : ∀ b ∈ i2 :: d2, b ≠ z ∧ b ≠ TO ∧ b ≠ i1 := fun b hb => by
    rcases List.mem_cons.mp hb with q | q
    · subst q; exact ⟨D.i2z, D.TOi2.symm, D.i12.symm⟩
    · exact D.q2 b q
  rcases hend with n1 | ⟨n1, n2⟩
  · refine wpAny_bind (n1 _ _ _ _ hh (fun b hb o e => hs₁.extBut _ _ (away1 b hb) e) fun h₂ e hs₂ he => ?_)
    replace hs₂ : Heap.ExtBut i1 h₁ h₂ := hs₂
    obtain ⟨oe, hoe, hce⟩ := he
    have hz₂ : IsZip h₂ z TI TO .ellipsis := hs₂ _ _ D.i1z.symm hz₁
    have hez : e ≠ z := fun x => by subst x; rw [hz₂] at hoe; cases hoe; simp at hce
    refine wpAny_setField_rec hz₂ (by simp) fun h₃ _ hs₃ => hE h₃ e _ (fun c o c1 _ c3 _ x => hs₃.extBut _ _ c1 (hs₂ _ _ c3 (hs₁.extBut _ _ c1 x))) ⟨oe, hs₃.extBut _ _ hez hoe, hce⟩
  · refine wpAny_bind (n1 _ _ _ _ (fun b hb o e => hs₁.extBut _ _ (away1 b hb) e) fun x h₂ tk₂ px st1 hs₂ => wpAny_pure ?_)
    replace hs₂ : Heap.SameBut i1 h₁ h₂ := hs₂
    have hTO₂ : IsPair h₂ TO a b := hs₂.extBut _ _ D.TOi1 (hs₁.extBut _ _ D.TOz hTO)
    refine wpAny_bind (wpAny_seqItems hTO₂ rfl ?_)
    refine wpAny_bind (wpAny_updateSeq_pair hTO₂ fun h₃ hTO₃ hs₃ => ?_)
    replace hs₃ : Heap.SameBut TO h₂ h₃ := hs₃
    refine wpAny_bind (wpAny_letGo (wpAny_pure ?_))
    refine wpAny_bind (wpAny_bind (wpAny_onRaise ?_))
    show wpAny _ _ (Builtin.SmallTypes.nextOf (.ref i2) >>= _) _ _ _
    refine wpAny_bind (n2 _ _ _ _ hh (fun b hb o e => hs₃.extBut _ _ (away2 b hb).2.1 (hs₂.extBut _ _ (away2 b hb).2.2 (hs₁.extBut _ _ (away2 b hb).1 e))) fun h₄ e hs₄ he => ?_)
    replace hs₄ : Heap.ExtBut i2 h₃ h₄ := hs₄
    obtain ⟨oe, hoe, hce⟩ := he
    have hz₄ : IsZip h₄ z TI TO .ellipsis := hs₄ _ _ D.i2z.symm (hs₃.extBut _ _ D.TOz.symm (hs₂.extBut _ _ D.i1z.symm hz₁))
    have hez : e ≠ z := fun x => by subst x; rw [hz₄] at hoe; cases hoe; simp at hce
    refine wpAny_setField_rec hz₄ (by simp) fun h₅ _ hs₅ => hE h₅ e _ (fun c o c1 c2 c3 c4 x => hs₅.extBut _ _ c1 (hs₄ _ _ c4 (hs₃.extBut _ _ c2 (hs₂.extBut _ _ c3 (hs₁.extBut _ _ c1 x))))) ⟨oe, hs₅.extBut _ _ hez hoe, hce⟩
theorem pyNext_zipG {z TI TO i1 i2 : Addr} {d1 d2 : List Addr} {P1 P2 : Value → Prop} {S1 S2 : Heap → Prop} {a b : Value} {Q : Option Value → Shared → Prop} (D : ZApart z TI TO i1 i2 d1 d2)
    (hz : IsZip s.heap z TI TO .none) (hTI : IsPair s.heap TI (.ref i1) (.ref i2)) (hTO : IsPair s.heap TO a b)
    (n1 : NxItem prog w i1 d1 s.heap P1 S1) (n2 : NxItem prog w i2 d2 s.heap P2 S2)
    (k1 : ∀ h h', S1 h → (∀ o, h.get? i1 = some o → h'.get? i1 = some o) → S1 h') (k2 : ∀ h h', S2 h → (∀ o, h.get? i2 = some o → h'.get? i2 = some o) → S2 h')
    (l1 : ∀ h, S1 h → ∃ o, h.get? i1 = some o) (l2 : ∀ h, S2 h → ∃ o, h.get? i2 = some o)
    (hQ : ∀ x y h' tk, P1 x → P2 y → IsZip h' z TI TO (rawInt s.heap.objs.size) → IsPair h' TO x y → S1 h' → S2 h' → IsPair h' s.heap.objs.size x y → h'.objs.size = s.heap.objs.size + 1 →
      (∀ c o, c ≠ z → c ≠ TO → c ≠ i1 → c ≠ i2 → s.heap.get? c = some o → h'.get? c = some o) → Q (some (.ref s.heap.objs.size)) { s with heap := h', toks := tk }) :
    wpAny (model prog w) A (pyNext (.ref z)) Q E s := by
  have hT : s.TypeIs (.ref z) "zip" := ⟨_, hz, rfl⟩
  unfold pyNext
  exact wpAny_bind (wpAny_attempt (wpAny_callSpecial?_slot (name := Str.ofString "__next__") hT F.slot_zip_next
    (wpAny_call_entry F.slot_zip_next hT F.entry_zip_next
      (zipG_item D hz hTI hTO n1 n2 k1 k2 l1 l2 fun x y h' tk a1 a2 a3 a4 a5 a6 a7 a8 a9 => wpAny_pure (hQ x y h' tk a1 a2 a3 a4 a5 a6 a7 a8 a9)) (F.args_zip_next_1 _))))
theorem pyNext_zipG_end {z TI TO i1 i2 : Addr} {d1 d2 : List Addr} {P1 : Value → Prop} {S1 : Heap → Prop} {a b : Value} {Q : Option Value → Shared → Prop} (hh : A.handled = none) (D : ZApart z TI TO i1 i2 d1 d2)
    (hz : IsZip s.heap z TI TO .none) (hTI : IsPair s.heap TI (.ref i1) (.ref i2)) (hTO : IsPair s.heap TO a b)
    (hend : NxEnd prog w i1 d1 s.heap ∨ (NxItem prog w i1 d1 s.heap P1 S1 ∧ NxEnd prog w i2 d2 s.heap))
    (hQ : ∀ h' tk, (∀ c o, c ≠ z → c ≠ TO → c ≠ i1 → c ≠ i2 → s.heap.get? c = some o → h'.get? c = some o) → Q none { s with heap := h', toks := tk }) : wpAny (model prog w) A (pyNext (.ref z)) Q E s := by
  have hT : s.TypeIs (.ref z) "zip" := ⟨_, hz, rfl⟩
  unfold pyNext
  refine wpAny_bind (wpAny_attempt (wpAny_callSpecial?_slot (name := Str.ofString "__next__") hT F.slot_zip_next
    (wpAny_call_entry F.slot_zip_next hT F.entry_zip_next (zipG_end hh D hz hTI hTO hend fun h' e tk hk he => ?_) (F.args_zip_next_1 _))))
  obtain ⟨o, ho, hc⟩ := he
  refine wpAny_bind (wpAny_isInstance (T := "StopIteration") (b := true) ⟨o, ho, hc⟩ isSubtype_stop ?_)
  exact wpAny_pure (hQ _ _ hk)
end

/-! ### making it -/
abbrev zH1 (h : Heap) (o1 : Obj) : Heap := h.push o1
abbrev zH2 (h : Heap) (o1 o2 : Obj) : Heap := (zH1 h o1).push o2
abbrev zH3 (h : Heap) (o1 o2 : Obj) : Heap := (zH2 h o1 o2).push { cls := .type "tuple", data := .seq #[.ref h.objs.size, .ref (zH1 h o1).objs.size] }
abbrev zH4 (h : Heap) (o1 o2 : Obj) : Heap := (zH3 h o1 o2).push { cls := .type "tuple", data := .seq #[.none, .none] }
abbrev zH5 (h : Heap) (o1 o2 : Obj) : Heap := (zH4 h o1 o2).push { cls := .type "zip", data := .fields #[.none, .bool false, .bool false, .ref (zH2 h o1 o2).objs.size, .ref (zH3 h o1 o2).objs.size] }
/-- a value's iterator is made -/
def MkIt (v : Value) (o : Obj) (C : Heap → Prop) : Prop := ∀ (prog : Program) (w : PySem.World) (A : Around) (E : Value → Shared → Prop) (s : Shared) (Q : Value → Shared → Prop), C s.heap →
  Q (.ref s.heap.objs.size) { s with heap := s.heap.push o } → wpAny (model prog w) A (pyIter v) Q E s
theorem meets_zipG (v1 v2 : Value) (o1 o2 : Obj) (C1 C2 : Heap → Prop) (m1 : MkIt v1 o1 C1) (m2 : MkIt v2 o2 C2) (c2 : ∀ h, C2 h → C2 (h.push o1)) :
    Meets (Builtin.«zip.__new__» ⟨[.type "zip", v1, v2], []⟩) (fun _ R s => C1 s.heap ∧ C2 s.heap ∧
      R (.ok (.ret (.ref (zH4 s.heap o1 o2).objs.size))) { s with heap := zH5 s.heap o1 o2 }) :=
  .of_wp fun prog w A R s h => by
    obtain ⟨hp, g, d, tk, os⟩ := s; obtain ⟨hl1, hl2, h⟩ := h
    have hsub := sub_zip
    have hL1 : ∀ {A : Around} {E : Value → Shared → Prop} {Q : Value → Shared → Prop}, Q (.ref hp.objs.size) ⟨hp.push o1, g, d, tk, os⟩ → wpAny (model prog w) A (pyIter v1) Q E ⟨hp, g, d, tk, os⟩ := fun {A E Q} q => m1 prog w A E _ Q hl1 q
    have hL2 : ∀ {A : Around} {E : Value → Shared → Prop} {Q : Value → Shared → Prop}, Q (.ref (hp.push o1).objs.size) ⟨(hp.push o1).push o2, g, d, tk, os⟩ → wpAny (model prog w) A (pyIter v2) Q E ⟨hp.push o1, g, d, tk, os⟩ := fun {A E Q} q => m2 prog w A E ⟨hp.push o1, g, d, tk, os⟩ Q (c2 hp hl2) q
    wp_walk using hL1, hL2
    exact ⟨_, rfl, h⟩
section
variable {prog : Program} {w : PySem.World} {A : Around} {E : Value → Shared → Prop} {s : Shared}
theorem call_zipG {v1 v2 : Value} {o1 o2 : Obj} {C1 C2 : Heap → Prop} {Q : Value → Shared → Prop} (m1 : MkIt v1 o1 C1) (m2 : MkIt v2 o2 C2) (c2 : ∀ h, C2 h → C2 (h.push o1)) (hl1 : C1 s.heap) (hl2 : C2 s.heap) (f1 : o1.isFreed = false) (f2 : o2.isFreed = false)
    (h : ∀ h', IsZip h' (s.heap.objs.size + 4) (s.heap.objs.size + 2) (s.heap.objs.size + 3) .none → IsPair h' (s.heap.objs.size + 2) (.ref s.heap.objs.size) (.ref (s.heap.objs.size + 1)) →
      IsPair h' (s.heap.objs.size + 3) .none .none → h'.get? s.heap.objs.size = some o1 → h'.get? (s.heap.objs.size + 1) = some o2 → h'.objs.size = s.heap.objs.size + 5 →
      (∀ c o, s.heap.get? c = some o → h'.get? c = some o) → Q (.ref (s.heap.objs.size + 4)) { s with heap := h' }) :
    wpAny (model prog w) A (call (.type "zip") [v1, v2]) Q E s := by
  refine callType_new F.called_zip (by decide) (F.typeCall_zip_2 _ _) (F.newCall_zip_2 _ _) (fun obj => F.args_object_init_3 obj _ _) F.entry_zip_new
    (meets_zipG v1 v2 o1 o2 C1 C2 m1 m2 c2) ⟨hl1, hl2, ?_⟩
  have z1 : (zH1 s.heap o1).objs.size = s.heap.objs.size + 1 := Heap.size_push ..
  have z2 : (zH2 s.heap o1 o2).objs.size = s.heap.objs.size + 2 := by rw [Heap.size_push, z1]
  have z3 : (zH3 s.heap o1 o2).objs.size = s.heap.objs.size + 3 := by rw [Heap.size_push, z2]
  have z4 : (zH4 s.heap o1 o2).objs.size = s.heap.objs.size + 4 := by rw [Heap.size_push, z3]
  have z5 : (zH5 s.heap o1 o2).objs.size = s.heap.objs.size + 5 := by rw [Heap.size_push, z4]
  have g5 : (zH5 s.heap o1 o2).get? (zH4 s.heap o1 o2).objs.size = some _ := Heap.get?_push_size _ rfl
  have g4 : (zH5 s.heap o1 o2).get? (zH3 s.heap o1 o2).objs.size = some _ := Heap.get?_push_of_some _ (Heap.get?_push_size _ rfl)
  have g3 : (zH5 s.heap o1 o2).get? (zH2 s.heap o1 o2).objs.size = some _ := Heap.get?_push_of_some _ (Heap.get?_push_of_some _ (Heap.get?_push_size _ rfl))
  have g2 : (zH5 s.heap o1 o2).get? (zH1 s.heap o1).objs.size = some _ := Heap.get?_push_of_some _ (Heap.get?_push_of_some _ (Heap.get?_push_of_some _ (Heap.get?_push_size _ f2)))
  have g1 : (zH5 s.heap o1 o2).get? s.heap.objs.size = some _ := Heap.get?_push_of_some _ (Heap.get?_push_of_some _ (Heap.get?_push_of_some _ (Heap.get?_push_of_some _ (Heap.get?_push_size _ f1))))
  show _ ∧ _
  rw [z2, z3, z4] at g5
  rw [z1, z2] at g3
  rw [z3] at g4
  rw [z1] at g2
  rw [z4]
  exact ⟨⟨_, g5, rfl⟩, h _ g5 g3 g4 g1 g2 z5 fun c o x =>
    Heap.get?_push_of_some _ (Heap.get?_push_of_some _ (Heap.get?_push_of_some _ (Heap.get?_push_of_some _ (Heap.get?_push_of_some _ x))))⟩
end
end HP
end

section
set_option Elab.async false
set_option linter.all false
set_option maxRecDepth 100000
set_option maxHeartbeats 4000000
/-! zip, its turns. -/
namespace HP
open PySem PySem.Spec PyProof.Rows L2

structure Src (K : PySem.W.Frag) (it : Addr) (J : It) (dep : List Addr) (St : Nat → Heap → Prop) : Prop where
  keep : ∀ i h h', St i h → (∀ o, h.get? it = some o → h'.get? it = some o) → St i h'
  obj : ∀ i h, St i h → ∃ o, h.get? it = some o ∧ ∀ v, o.data ≠ .cell v
  item : ∀ (X : Cx), X.K = K → ∀ (pins : List (Addr × Obj)) (s : Shared) (σ : L2.St) (H : Hp), L2.Inv X pins σ H s → ∀ i, St i s.heap → J.go i H → ∃ x : V, J.yld i H x H ∧ NxItem X.prog X.w it dep s.heap (fun u => RelV x u) (St (i + 1))
  done : ∀ (X : Cx), X.K = K → ∀ (pins : List (Addr × Obj)) (s : Shared) (σ : L2.St) (H : Hp), L2.Inv X pins σ H s → ∀ i, St i s.heap → J.stop i H → NxEnd X.prog X.w it dep s.heap
theorem src_list {K : PySem.W.Frag} {a it : Addr} : Src K it (Itl K a) [a] (fun i h => h.IsListIter it a i) where
  keep := fun i h h' st k => st.at k
  obj := fun i h ⟨o, e, _, d⟩ => ⟨o, e, fun v q => by rw [d] at q; cases q⟩
  item := fun X hK pins s σ H I i st hg => by
    subst hK
    obtain ⟨xs, x, hq, hx⟩ := hg
    obtain ⟨its, rv, p, _⟩ := I.list hq
    obtain ⟨u, hu, ru⟩ := rv.get hx
    refine ⟨x, ⟨rfl, fun l hl => by rw [I.list_inj hl hq]; exact hx⟩, fun A s' Q E hk hQ => ?_⟩
    refine wpAny_nextOf_list_item (st.at fun o e => hk it (by simp) o e) (p.isList.at fun o e => hk a (by simp) o e) (x := u) (by simpa using hu) fun h' h1 h2 => hQ u h' s'.toks ru h1 h2
  done := fun X hK pins s σ H I i st hg => by
    subst hK
    obtain ⟨xs, hq, hi⟩ := hg
    obtain ⟨its, rv, p, _⟩ := I.list hq
    have hl := rv.length
    exact fun A s' Q E hh hk hE => wpAny_nextOf_list_end hh (st.at fun o e => hk it (by simp) o e) (p.isList.at fun o e => hk a (by simp) o e) (by simp; omega) hE
theorem src_tup {K : PySem.W.Frag} {a it : Addr} : Src K it (Itt K a) [a] (fun i h => h.IsTupleIter it a i) where
  keep := fun i h h' st k => st.at k
  obj := fun i h ⟨o, e, _, d⟩ => ⟨o, e, fun v q => by rw [d] at q; cases q⟩
  item := fun X hK pins s σ H I i st hg => by
    subst hK
    obtain ⟨xs, x, hq, hx⟩ := hg
    obtain ⟨its, rv, ⟨o1, e1, c1, d1⟩, _⟩ := I.tuple hq
    obtain ⟨u, hu, ru⟩ := rv.get hx
    refine ⟨x, ⟨rfl, fun l hl => by rw [I.tuple_inj hl hq]; exact hx⟩, fun A s' Q E hk hQ => ?_⟩
    refine RZ.nextOf_tuple_item (st.at fun o e => hk it (by simp) o e) ⟨o1, hk a (by simp) _ e1, c1, d1⟩ (x := u) (by simpa using hu) fun h' h1 h2 => hQ u h' s'.toks ru h1 h2
  done := fun X hK pins s σ H I i st hg => by
    subst hK
    obtain ⟨xs, hq, hi⟩ := hg
    obtain ⟨its, rv, ⟨o1, e1, c1, d1⟩, _⟩ := I.tuple hq
    have hl := rv.length
    exact fun A s' Q E hh hk hE => RZ.nextOf_tuple_end hh (st.at fun o e => hk it (by simp) o e) ⟨o1, hk a (by simp) _ e1, c1, d1⟩ (by simp; omega) hE
theorem src_str {K : PySem.W.Frag} {x : Str} {t : Tok} {it : Addr} : Src K it (Its x) [] (fun i h => h.IsStrIter it (strIterType x) x t i) where
  keep := fun i h h' ⟨o, e, r⟩ k => ⟨o, k _ e, r⟩
  obj := fun i h ⟨o, e, _, d⟩ => ⟨o, e, fun v q => by rw [d] at q; cases q⟩
  item := fun X hK pins s σ H I i st hg => by
    have hlt : i < x.cps.size := hg
    refine ⟨.str ⟨#[x.cps[i]]⟩, ⟨rfl, _, Array.getElem?_eq_getElem hlt, rfl⟩, fun A s' Q E hk hQ => ?_⟩
    obtain ⟨o, e, r⟩ := st
    have st' : s'.heap.IsStrIter it (strIterType x) x t i := ⟨o, hk it (by simp) _ e, r⟩
    by_cases h : (x.cps.all (· < 128)) = true
    · have e2 : strIterType x = "str_ascii_iterator" := by unfold strIterType; rw [if_pos h]
      rw [e2] at st'
      exact wpAny_nextOf_ascii_item st' (Array.getElem?_eq_getElem hlt) fun h' h1 h2 => hQ _ h' _ ⟨_, rfl⟩ (by rw [e2]; exact h1) h2
    · have e2 : strIterType x = "str_iterator" := by unfold strIterType; rw [if_neg h]
      rw [e2] at st'
      exact wpAny_nextOf_wide_item st' (Array.getElem?_eq_getElem hlt) fun h' h1 h2 => hQ _ h' _ ⟨_, rfl⟩ (by rw [e2]; exact h1) h2
  done := fun X hK pins s σ H I i st hg => by
    have hle : x.cps.size ≤ i := hg
    refine fun A s' Q E hh hk hE => ?_
    obtain ⟨o, e, r⟩ := st
    have st' : s'.heap.IsStrIter it (strIterType x) x t i := ⟨o, hk it (by simp) _ e, r⟩
    unfold strIterType at st'
    split at st'
    · exact wpAny_nextOf_ascii_end hh st' (Array.getElem?_eq_none hle) hE
    · exact wpAny_nextOf_wide_end hh st' (Array.getElem?_eq_none hle) hE
def ItZ (J1 J2 : It) : It :=
  ⟨fun i H => J1.go i H ∧ J2.go i H,
    fun i H v H' => ∃ T x y, v = .ref T ∧ H T = none ∧ H' = upd H T (.tup [x, y]) ∧ J1.yld i H x H ∧ J2.yld i H y H,
    fun i H => J1.stop i H ∨ (J1.go i H ∧ J2.stop i H)⟩
theorem turn_zipG {P : Program} {w : PySem.World} {K : PySem.W.Frag} {elts : List Expr} {kk : Nat} {tpos : Pos} {z TI TO i1 i2 : Addr} {J1 J2 : It} {d1 d2 : List Addr} {S1 S2 : Nat → Heap → Prop} (D : ZApart z TI TO i1 i2 d1 d2) (Z1 : Src K i1 J1 d1 S1) (Z2 : Src K i2 J2 d2 S2) :
    Turn P w K (.Tuple elts kk tpos) (ItZ J1 J2) [z, TI, TO, i1, i2] z (fun i h => IsZip h z TI TO .none ∧ IsPair h TI (.ref i1) (.ref i2) ∧ (∃ x y, IsPair h TO x y) ∧ S1 i h ∧ S2 i h) where
  mem := by simp
  obj := fun i h st c hc => by
    obtain ⟨hz, hTI, ⟨x, y, hTO⟩, h1, h2⟩ := st
    have e' : c = z ∨ c = TI ∨ c = TO ∨ c = i1 ∨ c = i2 := by simpa using hc
    rcases e' with q | q | q | q | q
    · rw [q]; exact ⟨_, hz, fun v q => nomatch q⟩
    · rw [q]; exact ⟨_, hTI, fun v q => nomatch q⟩
    · rw [q]; exact ⟨_, hTO, fun v q => nomatch q⟩
    · rw [q]; exact Z1.obj _ _ h1
    · rw [q]; exact Z2.obj _ _ h2
  keep := fun i h h' st k => by
    obtain ⟨hz, hTI, ⟨x, y, hTO⟩, h1, h2⟩ := st
    exact ⟨k z (by simp) _ hz, k TI (by simp) _ hTI, ⟨x, y, k TO (by simp) _ hTO⟩, Z1.keep _ _ _ h1 fun o q => k i1 (by simp) o q, Z2.keep _ _ _ h2 fun o q => k i2 (by simp) o q⟩
  item := by
    intro X hP hw hK hc i pins s σ H E I hf st hg
    subst hP hw
    obtain ⟨hz, hTI, ⟨x0, y0, hTO⟩, h1, h2⟩ := st
    obtain ⟨x, yx, n1⟩ := Z1.item X hK pins s σ H I i h1 hg.1
    obtain ⟨y, yy, n2⟩ := Z2.item X hK pins s σ H I i h2 hg.2
    have hzl : z < s.heap.objs.size := Heap.lt_size hz
    refine pyNext_zipG D hz hTI hTO n1 n2 (fun h h' => Z1.keep _ h h') (fun h h' => Z2.keep _ h h') (fun h q => let ⟨o, e, _⟩ := Z1.obj _ h q; ⟨o, e⟩) (fun h q => let ⟨o, e, _⟩ := Z2.obj _ h q; ⟨o, e⟩) fun u u2 h' tk ru ru2 z' TO' h1' h2' hT hsz hk => ?_
    refine ⟨_, rfl, wpAny_letOwnedTupleGo_zip (s := { s with heap := h', toks := tk }) z' fun h'' z'' sb => ?_⟩
    have hT2 : h''.get? s.heap.objs.size = some { cls := .type "tuple", data := .seq #[u, u2] } := (sb.2 _ (Nat.ne_of_gt hzl)).trans hT
    have new : ObjOk X.prog X.w (upd H s.heap.objs.size (.tup [x, y])) h'' s.heap.objs.size (.tup [x, y]) :=
      ⟨by show 2 ≤ sizeLine; decide, [u, u2], .cons ru (.cons ru2 .nil), ⟨_, hT2, rfl, _, rfl⟩⟩
    have I1 : L2.Inv X pins σ (upd H s.heap.objs.size (.tup [x, y])) { s with heap := h'', toks := tk } :=
      I.turnedNew (t' := tk) (ch := [z, TI, TO, i1, i2]) (fun c o hb q => (sb.2 c (fun q' => hb (by simp [q']))).trans (hk c o (fun q' => hb (by simp [q'])) (fun q' => hb (by simp [q'])) (fun q' => hb (by simp [q'])) (fun q' => hb (by simp [q'])) q)) hf (Nat.le_refl _) new
    refine ⟨.ref s.heap.objs.size, _, I1, rfl, ⟨_, x, y, rfl, I.hok.fresh (Nat.le_refl _), rfl, yx, yy⟩, ⟨z'', ?_, ⟨u, u2, ?_⟩, ?_, ?_⟩, fun c hcm => ?_⟩
    · exact (sb.2 _ D.TIz).trans (hk _ _ D.TIz D.TITO D.TIi1 D.TIi2 hTI)
    · exact (sb.2 _ D.TOz).trans TO'
    · exact Z1.keep _ _ _ h1' fun o q => (sb.2 _ D.i1z).trans q
    · exact Z2.keep _ _ _ h2' fun o q => (sb.2 _ D.i2z).trans q
    · have hlt : c < s.heap.objs.size := by
        have e' : c = z ∨ c = TI ∨ c = TO ∨ c = i1 ∨ c = i2 := by simpa using hcm
        rcases e' with q | q | q | q | q
        · rw [q]; exact hzl
        · rw [q]; exact Heap.lt_size hTI
        · rw [q]; exact Heap.lt_size hTO
        · rw [q]; obtain ⟨_, e1, _⟩ := Z1.obj _ _ h1; exact Heap.lt_size e1
        · rw [q]; obtain ⟨_, e2, _⟩ := Z2.obj _ _ h2; exact Heap.lt_size e2
      rw [upd_ne (Nat.ne_of_lt hlt)]
      exact (hf c hcm).1
  done := by
    intro X hP hw hK hc i pins s σ H E I hf st hg
    subst hP hw
    obtain ⟨hz, hTI, ⟨x0, y0, hTO⟩, h1, h2⟩ := st
    have fin : ∀ h' tk, (∀ c o, c ≠ z → c ≠ TO → c ≠ i1 → c ≠ i2 → s.heap.get? c = some o → h'.get? c = some o) → L2.Inv X pins σ H { s with heap := h', toks := tk } := fun h' tk hk =>
      I.turnedL (t' := tk) (ch := [z, TI, TO, i1, i2]) (fun c o hb q =>
        hk c o (fun q' => hb (by simp [q'])) (fun q' => hb (by simp [q'])) (fun q' => hb (by simp [q'])) (fun q' => hb (by simp [q'])) q) hf
    rcases hg with hg | ⟨hg, hg2⟩
    · exact pyNext_zipG_end (P1 := fun _ => False) (S1 := fun _ => False) (I.ok.hd hc) D hz hTI hTO (.inl (Z1.done X hK pins s σ H I i h1 hg)) fun h' tk hk => ⟨rfl, fin h' tk hk⟩
    · obtain ⟨x, yx, n1⟩ := Z1.item X hK pins s σ H I i h1 hg
      exact pyNext_zipG_end (I.ok.hd hc) D hz hTI hTO (.inr ⟨n1, Z2.done X hK pins s σ H I i h2 hg2⟩) fun h' tk hk => ⟨rfl, fin h' tk hk⟩
  self := fun A i s Q E st h => wpAny_pyIter_zip st.1 h
def IsSrc (K : PySem.W.Frag) (H : Hp) (x : V) (J : It) : Prop := (∃ a xs, x = .ref a ∧ SqL K H a xs ∧ J = Itl K a) ∨ (∃ a xs, x = .ref a ∧ SqT K H a xs ∧ J = Itt K a) ∨ (∃ t, x = .str t ∧ J = Its t)
theorem src_of {X : Cx} {pins : List (Addr × Obj)} {s : Shared} {σ : L2.St} {H : Hp} {x : V} {v : Value} {J : It} (I : L2.Inv X pins σ H s) (r : RelV x v) (h : IsSrc X.K H x J) :
    ∃ (o : Obj) (C : Heap → Prop) (dep : List Addr) (S : Addr → Nat → Heap → Prop), MkIt v o C ∧ C s.heap ∧ (∀ h o', C h → C (h.push o')) ∧ o.isFreed = false ∧ (∀ l ∈ dep, l < s.heap.objs.size) ∧ ∀ it, Src X.K it J dep (S it) ∧ ∀ h, h.get? it = some o → S it 0 h := by
  rcases h with ⟨a, xs, rfl, hq, rfl⟩ | ⟨a, xs, rfl, hq, rfl⟩ | ⟨t, rfl, rfl⟩
  · cases r
    obtain ⟨its, rv, p, _⟩ := I.list hq
    refine ⟨{ cls := .type "list_iterator", data := .fields #[.ref a, .int 0 0] }, fun h => h.IsList a its.toArray, [a], fun it i h => h.IsListIter it a i, fun prog w A E s Q c q => wpAny_pyIter_list c q, p.isList, fun h o' c => c.push o', rfl, fun l hl => by simp at hl; subst hl; exact p.lt, fun it => ⟨src_list, fun h e => ⟨_, e, rfl, rfl⟩⟩⟩
  · cases r
    obtain ⟨its, rv, p, _⟩ := I.tuple hq
    obtain ⟨o1, e1, c1, d1⟩ := id p
    refine ⟨{ cls := .type "tuple_iterator", data := .fields #[.ref a, .int 0 0] }, fun h => h.IsTuple a its.toArray, [a], fun it i h => h.IsTupleIter it a i, fun prog w A E s Q c q => wpAny_pyIter_tuple c q, ⟨o1, e1, c1, d1⟩, fun h o' c => c.push o', rfl, fun l hl => by simp at hl; subst hl; exact Heap.lt_size e1, fun it => ⟨src_tup, fun h e => ⟨_, e, rfl, rfl⟩⟩⟩
  · obtain ⟨tk, rfl⟩ := r
    exact ⟨{ cls := .type (strIterType t), data := .fields #[.str t tk, .int 0 0] }, fun _ => True, [], fun it i h => h.IsStrIter it (strIterType t) t tk i, fun prog w A E s Q c q => wpAny_pyIter_strU q, trivial, fun _ _ _ => trivial, rfl, fun l hl => by simp at hl, fun it => ⟨src_str, fun h e => ⟨_, e, rfl, rfl⟩⟩⟩
def iZipG (K : PySem.W.Frag) (ta : TA) : TI := fun σ H R => ta σ H fun vs H1 => ∃ x y J1 J2, vs = [x, y] ∧ IsSrc K H1 x J1 ∧ IsSrc K H1 y J2 ∧ R (ItZ J1 J2) H1
theorem pi_zipG {X : Cx} {e e2 : Expr} {ta : TA} {p pos tpos : Pos} {elts : List Expr} {kk : Nat} (hg : Gl X "zip") (hm : X.mg "zip" = none) (ha : PA X [e, e2] ta)
    (hs : starEach [e, e2] X.env = (false, eval e X.env) :: starEach [e2] X.env) (hpl : (backTo pos (starEach [e2] X.env)).any (·.1) = false) :
    PI X (.Tuple elts kk tpos) (.Call (.Name "zip" p) [e, e2] [] pos) (iZipG X.K ta) := by
  refine ⟨fun pins s σ H R I h => ?_⟩
  refine Call_ (ld_blt I hg hm PyProof.Rows.boot_zip (PyProof.Rows.callWith_type1 (thn (ha.run pos pins s σ H _ I h) fun us s1 ⟨vs, H1, I1, r1, q1⟩ => ?_) hs hpl))
  obtain ⟨x, y, J1, J2, ex, hq1, hq2, q⟩ := q1
  subst ex
  cases r1 with
  | cons r rr =>
    cases rr with
    | cons r' rr =>
      cases rr
      obtain ⟨o1, C1, d1, S1, m1, c1, p1, f1, l1, z1⟩ := src_of I1 r hq1
      obtain ⟨o2, C2, d2, S2, m2, c2, p2, f2, l2, z2⟩ := src_of I1 r' hq2
      refine call_zipG m1 m2 (fun h => p2 h o1) c1 c2 f1 f2 fun h' hz hTI hTO h1 h2 hsz hk => wpAny_pyIter_zip hz ?_
      have I2 : L2.Inv X pins σ H1 { s1 with heap := h' } := I1.kept (t' := s1.toks) hk
      have D : ZApart (s1.heap.objs.size + 4) (s1.heap.objs.size + 2) (s1.heap.objs.size + 3) s1.heap.objs.size (s1.heap.objs.size + 1) d1 d2 := by
        generalize s1.heap.objs.size = n at l1 l2
        refine ⟨by simp, by simp, Nat.ne_of_lt (Nat.lt_add_of_pos_right (by decide)), by simp, by simp, (Nat.ne_of_lt (Nat.lt_add_of_pos_right (by decide))).symm, by simp, (Nat.ne_of_lt (Nat.lt_add_of_pos_right (by decide))).symm, by simp, Nat.ne_of_lt (Nat.lt_succ_self n), fun l hl => ?_, fun l hl => ?_⟩
        · exact Nat.ne_of_lt (Nat.lt_of_lt_of_le (l1 l hl) (Nat.le_add_right _ _))
        · exact ⟨Nat.ne_of_lt (Nat.lt_of_lt_of_le (l2 l hl) (Nat.le_add_right _ _)), Nat.ne_of_lt (Nat.lt_of_lt_of_le (l2 l hl) (Nat.le_add_right _ _)), Nat.ne_of_lt (l2 l hl)⟩
      refine ⟨s1.heap.objs.size + 4, [s1.heap.objs.size + 4, s1.heap.objs.size + 2, s1.heap.objs.size + 3, s1.heap.objs.size, s1.heap.objs.size + 1], _, _, H1, rfl, I2, turn_zipG D (z1 _).1 (z2 _).1, ⟨hz, hTI, ⟨_, _, hTO⟩, (z1 _).2 _ h1, (z2 _).2 _ h2⟩, fun c hcm => ?_, q⟩
      have e' : c = s1.heap.objs.size + 4 ∨ c = s1.heap.objs.size + 2 ∨ c = s1.heap.objs.size + 3 ∨ c = s1.heap.objs.size ∨ c = s1.heap.objs.size + 1 := by simpa using hcm
      have hle : s1.heap.objs.size ≤ c := by
        rcases e' with z | z | z | z | z
        · rw [z]; exact Nat.le_add_right _ _
        · rw [z]; exact Nat.le_add_right _ _
        · rw [z]; exact Nat.le_add_right _ _
        · rw [z]; exact Nat.le_refl _
        · rw [z]; exact Nat.le_add_right _ _
      exact I1.fpOk hle (I1.hok.fresh hle)
end HP
end

section
set_option Elab.async false
set_option linter.all false
set_option maxRecDepth 100000
set_option maxHeartbeats 4000000
set_option autoImplicit false
/-! zip by the evaluator. -/
namespace HP
open PySem PySem.Spec PyProof.Rows L2

theorem itok_zip {K : PySem.W.Frag} {G F0 : Hp} {ρ0 : List Addr} {J1 J2 : It} {xs ys : List D} {ok : Mem → Bool} (Z1 : ItOk K G J1 F0 ρ0 (xs.map Vl.d) fun _ => true) (Z2 : ItOk K G J2 F0 ρ0 (ys.map Vl.d) fun _ => true) : ItOk K G (ItZ J1 J2) F0 ρ0 ((xs.zip ys).map fun p => Vl.d (.tup [p.1, p.2])) ok where
  go := fun G' F ρ μ H i s p w _ hi => by
    rw [List.length_map, List.length_zip] at hi
    exact ⟨Z1.go G' F ρ μ H i s p w rfl (by rw [List.length_map]; omega), Z2.go G' F ρ μ H i s p w rfl (by rw [List.length_map]; omega)⟩
  yld := fun G' F ρ μ H i v H' s p w _ y d hd => by
    obtain ⟨T, x, z, rfl, hT, rfl, y1, y2⟩ := y
    have hi := (List.getElem?_eq_some_iff.mp hd).1
    rw [List.length_map, List.length_zip] at hi
    have h1 : i < xs.length := by omega
    have h2 : i < ys.length := by omega
    have hd2 : d = Vl.d (.tup [xs[i], ys[i]]) := by
      rw [List.getElem?_map, List.getElem?_eq_getElem (by rw [List.length_zip]; omega)] at hd
      simp only [List.getElem_zip, Option.map_some, Option.some.injEq] at hd
      exact hd.symm
    subst hd2
    obtain ⟨F1, s1, w1, r1⟩ := Z1.yld G' F ρ μ H i x H s p w rfl y1 (.d xs[i]) (by rw [List.getElem?_map, List.getElem?_eq_getElem h1]; rfl)
    obtain ⟨F2, s2, w2, r2⟩ := Z2.yld G' F1 ρ μ H i z H (s.trans s1) p w1 rfl y2 (.d ys[i]) (by rw [List.getElem?_map, List.getElem?_eq_getElem h2]; rfl)
    have sn := same_new (o := HO.tup [x, z]) (w2.fnone hT)
    exact ⟨_, (s1.trans s2).trans sn, w2.newF hT _, .tup (SqT.of upd_same) (.cons (Rp.mono (s2.trans sn) r1) (.cons (Rp.mono sn r2) .nil))⟩
  stop := fun G' F ρ μ H i s p w _ hi => by
    rw [List.length_map, List.length_zip] at hi
    by_cases h1 : xs.length ≤ i
    · exact .inl (Z1.stop G' F ρ μ H i s p w rfl (by rw [List.length_map]; exact h1))
    · exact .inr ⟨Z1.go G' F ρ μ H i s p w rfl (by rw [List.length_map]; omega), Z2.stop G' F ρ μ H i s p w rfl (by rw [List.length_map]; omega)⟩
theorem zip_src {K : PySem.W.Frag} {G F : Hp} {ρ : List Addr} {μ : Mem} {H : Hp} {x : V} {d : Vl} {xs : List D} (w : Wd K G F ρ μ H) (r : RpV K F ρ x d) (h : zipSrc d = some xs) : ∃ J, IsSrc K H x J ∧ ItOk K G J F ρ (xs.map Vl.d) fun _ => true := by
  unfold zipSrc at h
  split at h
  · cases h
    obtain ⟨a, vs, rfl, t1, t2⟩ := r.tup_
    exact ⟨_, .inr (.inl ⟨a, vs, rfl, SqT.mono w.sub t1, rfl⟩), itok_tup t1 t2.vs⟩
  · cases h
    obtain ⟨a, vs, rfl, t1, t2⟩ := r.lst_
    exact ⟨_, .inl ⟨a, vs, rfl, SqL.of (w.sub _ _ t1), rfl⟩, itok_list t1 t2.vs⟩
  · cases h
    obtain ⟨rfl, _⟩ := r.str_
    refine ⟨_, .inr (.inr ⟨_, rfl, rfl⟩), ?_⟩
    rw [List.map_map]
    exact itok_str
  · cases h
section
variable {X : Cx} {T : XT} {P : Prog} {k : Nat} {W : WX}
theorem pi_zipE {a b : Expr} {elts : List Expr} {kk : Nat} {e e' : E} {p pos tpos : Pos} (hg : Gl X "zip") (hm : X.mg "zip" = none) (ha : PA X [a, b] (tEs X.K T P k W (.cons e (.cons e' .nil)))) (hs : starEach [a, b] X.env = (false, eval a X.env) :: starEach [b] X.env) (hpl : (backTo pos (starEach [b] X.env)).any (·.1) = false) :
    PI X (.Tuple elts kk tpos) (.Call (.Name "zip" p) [a, b] [] pos) (tI X.K T P k W .zip (.cons e (.cons e' .nil))) := by
  refine ⟨fun pins s σ0 H R I h => ?_⟩
  refine (pi_zipG hg hm ha hs hpl).run pins s σ0 H R I ?_
  obtain ⟨G, F, ρ, μ, σ, w, sr, h⟩ := h
  refine ⟨G, F, ρ, μ, σ, w, sr, ?_⟩
  cases q : evEs (cx P k) (.cons e (.cons e' .nil)) σ μ with
  | ex x m => rw [q] at h; exact h
  | st => rw [q] at h; exact h.elim
  | ok vs m =>
    rw [q] at h
    intro F' ρ' us H' s1 p1 w1 r1
    dsimp only at h
    obtain ⟨d, d', rfl⟩ := evEs_two q
    obtain ⟨x, y, rfl, r2, r3⟩ := RpVs.two r1
    simp only [itemsOf] at h
    cases z1 : zipSrc d with
    | none => rw [z1] at h; exact h.elim
    | some xs =>
      cases z2 : zipSrc d' with
      | none => rw [z1, z2] at h; exact h.elim
      | some ys =>
        rw [z1, z2] at h
        obtain ⟨J1, g1, i1⟩ := zip_src w1 r2 z1
        obtain ⟨J2, g2, i2⟩ := zip_src w1 r3 z2
        exact ⟨x, y, J1, J2, rfl, g1, g2, h F' ρ' H' _ s1 p1 w1 (itok_zip i1 i2)⟩
end
end HP
end

section
set_option Elab.async false
set_option linter.all false
set_option maxRecDepth 100000
set_option maxHeartbeats 8000000
set_option autoImplicit false
/-! Soundness 9: expressions. -/
namespace HP
open PySem PySem.Spec PyProof.Rows L2

/-! ### the checker of expressions -/
def noFrz : E → Bool
  | .frz _ => false
  | .prt _ => false
  | _ => true
def constB : D → Expr → Bool
  | .int i, .Constant (.int j) _ _ => decide (i = j)
  | .str s, .Constant (.str t) _ _ => decide (toS s = t) && decide (s.length ≤ 16777216)
  | .bl b, .Constant (.bool c) _ _ => decide (b = c)
  | .non, .Constant .none _ _ => true
  | _, _ => false
def opEq : Operator → Operator → Bool
  | .Add, .Add | .Sub, .Sub | .Mult, .Mult | .FloorDiv, .FloorDiv | .Mod, .Mod | .LShift, .LShift | .BitAnd, .BitAnd | .Pow, .Pow => true
  | _, _ => false
theorem opEq_ {a b : Operator} (h : opEq a b = true) : a = b := by
  cases a <;> cases b <;> first | rfl | cases h
def cmEq : CmpOp → CmpOp → Bool
  | .Eq, .Eq | .NotEq, .NotEq | .Lt, .Lt | .LtE, .LtE | .Gt, .Gt | .GtE, .GtE | .In, .In | .NotIn, .NotIn | .Is, .Is | .IsNot, .IsNot => true
  | _, _ => false
theorem cmEq_ {a b : CmpOp} (h : cmEq a b = true) : a = b := by
  cases a <;> cases b <;> first | rfl | cases h
def notSet : Expr → Bool
  | .Set _ _ _ => false
  | _ => true
theorem notSet_marks {op : CmpOp} {b : Expr} (h : notSet b = true) : behindInMarks op b = false := by
  cases b <;> first | rfl | cases h
theorem notSet_fold {e : Expr} {env : Env} (h : notSet e = true) : ∀ x, foldedSetIterable e env x = pure x := by
  intro x
  cases e <;> first | rfl | cases h
def notSlice : Expr → Bool
  | .Slice _ _ _ _ => false
  | _ => true
def okBase : Expr → Bool
  | .Call _ _ _ _ => false
  | _ => true
theorem okBase_ {o : Expr} {n : Str} {env : Env} {w : Sem Value} (h : okBase o = true) : attributeBase o n env w = w := by
  cases o <;> first | rfl | cases h
/-- what an iterator's expression walks -/
def itArgs (cc : Ck) (S : Sc) : Itk → Expr → Expr → Option (List Expr)
  | .seq, _, e => if notSet e = true then some [e] else none
  | .rng, _, .Call (.Name x _) es [] _ => if x = "range" ∧ bltB cc S x = true ∧ (es.length = 1 ∨ es.length = 2) then some es else none
  | .rev, _, .Call (.Name x _) es [] _ => if x = "reversed" ∧ bltB cc S x = true ∧ es.length = 1 then some es else none
  | .zip, .Tuple _ _ _, .Call (.Name x _) es [] _ => if x = "zip" ∧ bltB cc S x = true ∧ es.length = 2 then some es else none
  | _, _, _ => none
/-- a built-in's name; whether it is a type -/
def prName : Pr → Option (Str × Bool)
  | .len => some ("len", false)
  | .tuple => some ("tuple", true)
  | .list _ => some ("list", true)
  | .int => some ("int", true)
  | .max => some ("max", false)
  | .min => some ("min", false)
  | .sum => some ("sum", false)
  | .divmod => some ("divmod", false)
  | _ => none
def mtName : Mt → Option Str
  | .append => some "append"
  | .reverse => some "reverse"
  | .pop => some "pop"
  | .extend => some "extend"
  | .join => some "join"
  | .find => some "find"
  | .index => some "index"
  | _ => none
def tyName (t : Ty) : Str := PySem.Str.ofString (tyStr t)
def ownOf (cc : Ck) (tg : Tg) : List (Str × Nat) := tg.sets.map fun i => (cc.N.getD i "", i)
def isNonE : E → Bool
  | .c .non => true
  | _ => false
def isTrueE : E → Bool
  | .c (.bl true) => true
  | _ => false
def isPrt : E → Bool
  | .prt _ => true
  | _ => false
def isiArgs (cc : Ck) (S : Sc) (t : Ty) : Expr → Option (List Expr)
  | .Call (.Name n _) [y, .Name n2 _] [] _ => if n = "isinstance" ∧ bltB cc S n = true ∧ n2 = tyName t ∧ bltB cc S n2 = true ∧ notStar y = true ∧ t ≠ .none then some [y] else none
  | _ => none
def blArgs (cc : Ck) (S : Sc) (p : Pr) : Expr → Option (List Expr)
  | .Call (.Name n _) (y :: xs) [] _ => match prName p with
    | some (n', _) => if n = n' ∧ bltB cc S n = true then some (y :: xs) else none
    | none => none
  | _ => none
def prArgs (cc : Ck) (S : Sc) (p : Pr) (x : Expr) : Option (List Expr) := match p with
  | .isinst [t] => isiArgs cc S t x
  | p => blArgs cc S p x
mutual
def chkE (cc : Ck) : E → Sc → Expr → Bool
  | .c d, _, x => constB d x
  | .v i, S, x => match x with
    | .Name n _ => slotB cc i n && visB S n && dbgB n
    | _ => false
  | .g i, S, x => match x with
    | .Name n _ => decide (cc.gl i = some n) && glB S n && dbgB n
    | _ => false
  | .bin op a b, S, x => match x with
    | .BinOp l o r _ => opEq (opOf op) o && chkE cc a S l && chkE cc b S r
    | _ => false
  | .neg a, S, x => match x with
    | .UnaryOp .USub y _ => chkE cc a S y
    | _ => false
  | .not a, S, x => match x with
    | .UnaryOp .Not y _ => chkE cc a S y && noFrz a
    | _ => false
  | .and a b, S, x => match x with
    | .BoolOp .And (y :: z :: []) _ => chkE cc a S y && noFrz a && (chkE cc b S z && noFrz b)
    | .BoolOp .And (y :: z :: z2 :: r) pos => chkE cc a S y && noFrz a && (chkE cc b S (.BoolOp .And (z :: z2 :: r) pos) && noFrz b)
    | _ => false
  | .or a b, S, x => match x with
    | .BoolOp .Or (y :: z :: []) _ => chkE cc a S y && noFrz a && (chkE cc b S z && noFrz b)
    | .BoolOp .Or (y :: z :: z2 :: r) pos => chkE cc a S y && noFrz a && (chkE cc b S (.BoolOp .Or (z :: z2 :: r) pos) && noFrz b)
    | _ => false
  | .cmp op a b, S, x => match x with
    | .Compare l [o] [r] _ => cmEq (copOf op) o && notSet r && chkE cc a S l && chkE cc b S r
    | _ => false
  | .chain o p a b c, S, x => match x with
    | .Compare l [o', p'] [m, r] _ => cmEq (copOf o) o' && cmEq (copOf p) p' && notSet r && chkE cc a S l && chkE cc b S m && chkE cc c S r
    | _ => false
  | .ite c a b, S, x => match x with
    | .IfExp t y z _ => chkE cc c S t && noFrz c && (chkE cc a S y && noFrz a) && (chkE cc b S z && noFrz b)
    | _ => false
  | .tup es, S, x => match x with
    | .Tuple xs _ _ => chkEs cc es S xs
    | _ => false
  | .lst _ es, S, x => match x with
    | .List xs _ => chkEs cc es S xs
    | _ => false
  | .ix a i, S, x => match x with
    | .Subscript l r _ => notSlice r && chkE cc a S l && chkE cc i S r
    | _ => false
  | .sl a lo hi, S, x => match x with
    | .Subscript l (.Slice none none none _) _ => chkE cc a S l && isNonE lo && isNonE hi
    | .Subscript l (.Slice (some y) none none _) _ => chkE cc a S l && isPrt lo && chkE cc lo S y && isNonE hi
    | .Subscript l (.Slice none (some z) none _) _ => chkE cc a S l && isNonE lo && isPrt hi && chkE cc hi S z
    | .Subscript l (.Slice (some y) (some z) none _) _ => chkE cc a S l && isPrt lo && chkE cc lo S y && isPrt hi && chkE cc hi S z
    | _ => false
  | .sls a lo hi st, S, x => match x with
    | .Subscript l (.Slice none none (some w) _) _ => chkE cc a S l && isNonE lo && isNonE hi && isPrt st && chkE cc st S w
    | .Subscript l (.Slice (some y) none (some w) _) _ => chkE cc a S l && isPrt lo && chkE cc lo S y && isNonE hi && isPrt st && chkE cc st S w
    | _ => false
  | .prt e, S, x => chkE cc e S x
  | .call f es, S, x => match x with
    | .Call (.Name n _) xs [] _ => decide (cc.fn f = some n) && glB S n && dbgB n && chkEs cc es S xs
    | _ => false
  | .pr p es, S, x => match prArgs cc S p x with
    | some xs => chkEs cc es S xs
    | none => false
  | .mt m a es, S, x => match x with
    | .Call (.Attribute o n apos) xs [] cpos => decide (mtName m = some n) && okBase o && decide (apos.endLine = cpos.line) && decide (xs.length < 28) && chkE cc a S o && chkEs cc es S xs
    | _ => false
  | .comp _ tg k es c e, S, x => match x with
    | .ListComp elt [⟨t', iter, ifs, ias⟩] scope _ => decide (ias = 0) && blkC cc.N S.sc scope (ownOf cc tg) && chkG cc ⟨relS scope S.sc, some scope⟩ tg t' && notSet iter &&
        (match itArgs cc S k t' iter with
          | some xs => chkEs cc es S xs
          | none => false) &&
        (match ifs with
          | [] => isTrueE c
          | [t] => chkE cc c ⟨relS scope S.sc, some scope⟩ t && noFrz c
          | _ => false) && chkE cc e ⟨relS scope S.sc, some scope⟩ elt
    | _ => false
  | .frz e, S, x => chkE cc e S x
  | _, _, _ => false
def chkEs (cc : Ck) : Es → Sc → List Expr → Bool
  | .nil, _, [] => true
  | .cons e es, S, x :: xs => notStar x && chkE cc e S x && chkEs cc es S xs
  | _, _, _ => false
end
end HP
end

section
set_option Elab.async false
set_option linter.all false
set_option maxRecDepth 100000
set_option maxHeartbeats 8000000
set_option autoImplicit false
/-! Soundness 10: expressions keep what the evaluator says. -/
namespace HP
open PySem PySem.Spec PyProof.Rows L2

section
variable {α β γ δ α' β' γ' δ' : Type} {K : PySem.W.Frag} {G F : Hp} {ρ : List Addr} {wx : XP} {σ : Sl}
  {ra : Hp → List Addr → α' → α → Prop} {rb : Hp → List Addr → β' → β → Prop} {rc : Hp → List Addr → γ' → γ → Prop} {rd : Hp → List Addr → δ' → δ → Prop}
/-- one value, then g -/
theorem Post.th1 {r : R α} {g : α → Mem → R γ} {Q : γ' → Hp → Prop} (h : Post K G rc F ρ wx (then1 g r) Q) : Post K G ra F ρ wx r (Mid K G ra rc F ρ wx g Q) :=
  h.bind (fun _ _ => rfl) (fun _ _ => rfl) rfl
theorem Post.th2 {τ : Type} {s : τ} {r : R α} {f : τ → Mem → R β} {g : α → β → Mem → R γ} {Q : γ' → Hp → Prop} (h : Post K G rc F ρ wx (then2 g f s r) Q) : Post K G ra F ρ wx r (Mid K G ra rc F ρ wx (fun a m => then1 (g a) (f s m)) Q) :=
  h.bind (fun _ _ => rfl) (fun _ _ => rfl) rfl
end
theorem starEach_cons {e : Expr} {es : List Expr} {env : Env} (h : notStar e = true) : starEach (e :: es) env = (false, eval e env) :: starEach es env := by
  cases e <;> first | rfl | cases h
theorem chkEs_star (cc : Ck) (S : Sc) (env : Env) (pos : Pos) : ∀ (es : Es) (xs : List Expr), chkEs cc es S xs = true → (backTo pos (starEach xs env)).any (·.1) = false ∧ (backTo pos (starEach xs env)).all (fun x => !x.1) = true
  | .nil, [], _ => ⟨rfl, rfl⟩
  | .cons e es, x :: xs, h => by
    simp only [chkEs, Bool.and_eq_true] at h
    obtain ⟨h1, h2⟩ := chkEs_star cc S env pos es xs h.2
    rw [starEach_cons h.1.1]
    unfold backTo at h1 h2 ⊢
    rw [List.map_cons, List.any_cons, List.all_cons, h1, h2]
    exact ⟨rfl, rfl⟩
  | .nil, _ :: _, h => by simp [chkEs] at h
  | .cons _ _, [], h => by simp [chkEs] at h
theorem testR_bl (b : Bool) (m : Mem) : testR (.ok (.d (.bl b)) m) = .ok b m := rfl
/-- x is no expression whose test is its own -/
def plainX : Expr → Bool
  | .UnaryOp .Not _ _ => false
  | .BoolOp _ _ _ => false
  | .IfExp _ _ _ _ => false
  | .Compare _ _ _ _ => false
  | _ => true
section
variable {cc : Ck} {T : XT} {P : Prog} {k : Nat} {W : WX} {S : Sc} {X : Cx}
theorem pt_of {x : Expr} {e : E} (he : PE X x (tE X.K T P k W e)) (hp : plainX x = true) : PT X x (tT X.K T P k W e) := by
  refine (pt_truth he ?_).imp fun s H Q h => ?_
  · intro whole
    cases x <;> first | rfl | (cases hp; done) | skip
    rename_i op y pos
    cases op <;> first | rfl | cases hp
  · obtain ⟨G, F, ρ, μ, σ, w, sr, h⟩ := h
    refine ⟨G, F, ρ, μ, σ, w, sr, ?_⟩
    cases q : evE (cx P k) e σ μ with
    | ex x m => rw [q] at h; exact h
    | st => rw [q] at h; exact h.elim
    | ok v m =>
      rw [q] at h
      simp only [testR] at h
      cases q2 : truth v m with
      | none => rw [q2] at h; exact h.elim
      | some b =>
        rw [q2] at h
        exact fun F' ρ' x' H' s1 p1 w1 r1 => ⟨b, truth_ r1 w1 q2, h F' ρ' b H' s1 p1 w1 rfl⟩
/-- a name -/
theorem snd_v (c : CkX cc T P k W S X) {i : Nat} {n : Str} {pos : Pos} (h1 : slotB cc i n = true) (h2 : visB S n = true) (h3 : dbgB n = true) : PE X (.Name n pos) (tE X.K T P k W (.v i)) := by
  obtain ⟨d1, d2, d3⟩ := dbg_ h3
  refine (pe_var (c.slot h1) (c.vis h2) d1 d2).imp fun s H Q h => ?_
  obtain ⟨G, F, ρ, μ, σ, w, sr, h⟩ := h
  simp only [evE] at h
  cases q : getS σ i with
  | none => rw [q] at h; exact h.elim
  | some d =>
    rw [q] at h
    obtain ⟨v, e, r⟩ := sr.get q
    exact ⟨v, e, Post.same h w r⟩
theorem snd_g (c : CkX cc T P k W S X) {i : Nat} {n : Str} {pos : Pos} (h1 : cc.gl i = some n) (h2 : glB S n = true) (h3 : dbgB n = true) : PE X (.Name n pos) (tE X.K T P k W (.g i)) := by
  obtain ⟨d1, d2, d3⟩ := dbg_ h3
  cases q : P.glob i with
  | none =>
    refine ⟨fun pins s σ0 H Q I h => ?_⟩
    obtain ⟨G, F, ρ, μ, σ, w, sr, h⟩ := h
    simp only [evE, cx, q] at h
    exact h.elim
  | some d =>
    obtain ⟨v, u, g1, g2, g3⟩ := c.gl i n d h1 q
    refine (pe_glob (v := v) (c.glb h2) g1 g2 d1).imp fun s H Q h => ?_
    obtain ⟨G, F, ρ, μ, σ, w, sr, h⟩ := h
    simp only [evE, cx, q] at h
    exact Post.same h w (Rp.mono (fun b o e => by cases (show (none : Option HO) = some o from e)) g3)
theorem room_u (r : Room k X.A) : X.A.units + 64 < cLine := r.units
theorem bin_imp {a b : E} {g : Vl → Vl → Mem → R Vl} {e : E} (he : ∀ σ m, evE (cx P k) e σ m = then2 g (evE (cx P k) b) σ (evE (cx P k) a σ m)) (hn : ∀ x y m, NoEx (g x y m)) : ∀ s H Q, tE X.K T P k W e s H Q → tOp (rBin X.K g) (tE X.K T P k W a) (tE X.K T P k W b) s H Q := by
  intro s H Q h
  obtain ⟨G, F, ρ, μ, σ, w, sr, h⟩ := h
  rw [he] at h
  refine ⟨G, F, ρ, μ, σ, w, sr, (Post.th2 (ra := RpV X.K) h).imp fun x H1 ⟨F1, ρ1, va, m1, w1, r1, s1, p1, h1⟩ => ?_⟩
  refine ⟨G, F1, ρ1, m1, σ, w1, sr.mono s1 p1, (Post.th1 (ra := RpV X.K) h1).imp fun y H2 ⟨F2, ρ2, vb, m2, w2, r2, s2, p2, h2⟩ => ?_⟩
  exact ⟨G, F2, ρ2, m2, va, vb, _, w2, r1.mono s2 p2, r2, h2⟩
/-- arguments in a row -/
theorem snd_args {xs : List Expr} {es : Es} {e : E} {x : Expr} (he : PE X x (tE X.K T P k W e)) (hs : PA X xs (tEs X.K T P k W es)) (hx : notStar x = true) : PA X (x :: xs) (tEs X.K T P k W (.cons e es)) := by
  refine (pa_cons he hs (starEach_cons hx)).imp fun s H Q h => ?_
  obtain ⟨G, F, ρ, μ, σ, w, sr, h⟩ := h
  simp only [evEs] at h
  refine ⟨G, F, ρ, μ, σ, w, sr, (Post.th2 (ra := RpV X.K) h).imp fun x H1 ⟨F1, ρ1, va, m1, w1, r1, s1, p1, h1⟩ => ?_⟩
  refine ⟨G, F1, ρ1, m1, σ, w1, sr.mono s1 p1, (Post.th1 (ra := RpVs X.K) h1).imp fun ys H2 ⟨F2, ρ2, vb, m2, w2, r2, s2, p2, h2⟩ => ?_⟩
  exact h2 F2 ρ2 (x :: ys) H2 (Same.refl _) (List.prefix_refl _) w2 (.cons (r1.mono s2 p2) r2)
theorem snd_noargs : PA X [] (tEs X.K T P k W .nil) := by
  refine pa_nil.imp fun s H Q h => ?_
  obtain ⟨G, F, ρ, μ, σ, w, sr, h⟩ := h
  exact h F ρ [] H (Same.refl _) (List.prefix_refl _) w .nil
theorem args_imp {es : Es} {g : List Vl → Mem → R Vl} {e : E} (he : ∀ σ m, evE (cx P k) e σ m = then1 g (evEs (cx P k) es σ m)) : ∀ s H Q, tE X.K T P k W e s H Q → tEs X.K T P k W es s H fun vs H1 => rArgs X.K g vs H1 Q := by
  intro s H Q h
  obtain ⟨G, F, ρ, μ, σ, w, sr, h⟩ := h
  rw [he] at h
  refine ⟨G, F, ρ, μ, σ, w, sr, (Post.th1 (ra := RpVs X.K) h).imp fun x H1 ⟨F1, ρ1, va, m1, w1, r1, s1, p1, h1⟩ => ?_⟩
  exact ⟨G, F1, ρ1, m1, va, _, w1, r1, h1⟩
theorem snd_tup {xs : List Expr} {es : Es} {n : Nat} {pos : Pos} (hs : PA X xs (tEs X.K T P k W es)) : PE X (.Tuple xs n pos) (tE X.K T P k W (.tup es)) := by
  refine (pe_tup hs).imp fun s H Q h => ?_
  obtain ⟨G, F, ρ, μ, σ, w, sr, h⟩ := h
  simp only [evE] at h
  refine ⟨G, F, ρ, μ, σ, w, sr, (Post.th1 (ra := RpVs X.K) h).imp fun x H1 ⟨F1, ρ1, va, m1, w1, r1, s1, p1, h1⟩ => ?_⟩
  exact mkTup_ w1 r1 h1
theorem snd_lst {xs : List Expr} {es : Es} {mu : Bool} {pos : Pos} (hs : PA X xs (tEs X.K T P k W es)) : PE X (.List xs pos) (tE X.K T P k W (.lst mu es)) := by
  refine (pe_lst hs).imp fun s H Q h => ?_
  obtain ⟨G, F, ρ, μ, σ, w, sr, h⟩ := h
  simp only [evE] at h
  refine ⟨G, F, ρ, μ, σ, w, sr, (Post.th1 (ra := RpVs X.K) h).imp fun x H1 ⟨F1, ρ1, va, m1, w1, r1, s1, p1, h1⟩ => ?_⟩
  exact mkLst_ w1 r1 h1
theorem snd_frz {x : Expr} {e : E} (he : PE X x (tE X.K T P k W e)) : PE X x (tE X.K T P k W (.frz e)) := by
  refine he.imp fun s H Q h => ?_
  obtain ⟨G, F, ρ, μ, σ, w, sr, h⟩ := h
  simp only [evE] at h
  refine ⟨G, F, ρ, μ, σ, w, sr, (Post.th1 (ra := RpV X.K) h).imp fun x H1 ⟨F1, ρ1, va, m1, w1, r1, s1, p1, h1⟩ => ?_⟩
  unfold freeze at h1
  split at h1
  · exact Post.same h1 w1 r1
  · split at h1
    · rename_i n _ ys e2
      split at h1
      · rename_i zs e3
        obtain ⟨a, vs, rfl, h2, h3, h4⟩ := r1.ref_ w1 e2
        obtain ⟨wf, sf⟩ := w1.freeze e2 h2 h3
        have := pures_some e3
        subst this
        exact h1 _ ρ1 _ H1 sf (List.prefix_refl _) wf (.lst upd_same (h4.rps.mono sf))
      · exact h1.elim
    · exact h1.elim
  · exact h1.elim
theorem snd_prt {x : Expr} {e : E} (he : PE X x (tE X.K T P k W e)) : PE X x (tE X.K T P k W (.prt e)) := by
  refine he.imp fun s H Q h => ?_
  obtain ⟨G, F, ρ, μ, σ, w, sr, h⟩ := h
  simp only [evE] at h
  refine ⟨G, F, ρ, μ, σ, w, sr, (Post.th1 (ra := RpV X.K) h).imp fun x H1 ⟨F1, ρ1, va, m1, w1, r1, s1, p1, h1⟩ => ?_⟩
  unfold intOnly at h1
  split at h1
  · exact Post.same h1 w1 r1
  · exact h1.elim
theorem snd_not {x : Expr} {e : E} {pos : Pos} (he : PE X x (tE X.K T P k W e)) : PE X (.UnaryOp .Not x pos) (tE X.K T P k W (.not e)) := by
  refine (pe_notT he).imp fun s H Q h => ?_
  obtain ⟨G, F, ρ, μ, σ, w, sr, h⟩ := h
  simp only [evE] at h
  refine ⟨G, F, ρ, μ, σ, w, sr, (Post.th1 (ra := RpV X.K) h).imp fun x H1 ⟨F1, ρ1, va, m1, w1, r1, s1, p1, h1⟩ => ?_⟩
  unfold notop at h1
  split at h1
  · rename_i b e2
    exact ⟨b, truth_ r1 w1 e2, Post.same h1 w1 (.bl _)⟩
  · exact h1.elim
theorem snd_notT {x : Expr} {e : E} {pos : Pos} (he : PT X x (tT X.K T P k W e)) : PT X (.UnaryOp .Not x pos) (tT X.K T P k W (.not e)) := by
  refine (pt_not he).imp fun s H Q h => ?_
  obtain ⟨G, F, ρ, μ, σ, w, sr, h⟩ := h
  simp only [evE] at h
  refine ⟨G, F, ρ, μ, σ, w, sr, ?_⟩
  cases q : evE (cx P k) e σ μ with
  | ex x m => rw [q] at h; exact h
  | st => rw [q] at h; exact h.elim
  | ok v m =>
    rw [q, then1_ok] at h
    simp only [testR]
    unfold notop at h
    cases q2 : truth v m with
    | none => rw [q2] at h; exact h.elim
    | some b =>
      rw [q2] at h
      exact fun F' ρ' c H' s1 p1 w1 r1 => by
        have e : c = b := r1
        subst e
        exact h F' ρ' _ H' s1 p1 w1 rfl
theorem and_cases {f : Sl → Mem → R Vl} {σ : Sl} {r : R Vl} {Q : VK} {G F : Hp} {ρ : List Addr} {wx : XP} (h : Post X.K G (RpV X.K) F ρ wx (andK f σ r) Q) :
    Post X.K G (RpV X.K) F ρ wx r fun v H => ∃ F1 ρ1 d m, Wd X.K G F1 ρ1 m H ∧ RpV X.K F1 ρ1 v d ∧ Same F F1 ∧ ρ <+: ρ1 ∧ Post X.K G (RpV X.K) F1 ρ1 wx (and2 f σ d m (truth d m)) Q :=
  h.bind (fun _ _ => rfl) (fun _ _ => rfl) rfl
theorem or_cases {f : Sl → Mem → R Vl} {σ : Sl} {r : R Vl} {Q : VK} {G F : Hp} {ρ : List Addr} {wx : XP} (h : Post X.K G (RpV X.K) F ρ wx (orK f σ r) Q) :
    Post X.K G (RpV X.K) F ρ wx r fun v H => ∃ F1 ρ1 d m, Wd X.K G F1 ρ1 m H ∧ RpV X.K F1 ρ1 v d ∧ Same F F1 ∧ ρ <+: ρ1 ∧ Post X.K G (RpV X.K) F1 ρ1 wx (or2 f σ d m (truth d m)) Q :=
  h.bind (fun _ _ => rfl) (fun _ _ => rfl) rfl
theorem snd_and {x y : Expr} {r : List Expr} {a b : E} {pos : Pos} (ha : PE X x (tE X.K T P k W a)) (hb : PE X (.BoolOp .And (y :: r) pos) (tE X.K T P k W b)) : PE X (.BoolOp .And (x :: y :: r) pos) (tE X.K T P k W (.and a b)) := by
  refine (pe_andT ha hb).imp fun s H Q h => ?_
  obtain ⟨G, F, ρ, μ, σ, w, sr, h⟩ := h
  simp only [evE] at h
  refine ⟨G, F, ρ, μ, σ, w, sr, (and_cases h).imp fun x H1 ⟨F1, ρ1, va, m1, w1, r1, s1, p1, h1⟩ => ?_⟩
  cases q : truth va m1 with
  | none => rw [q] at h1; exact h1.elim
  | some c =>
    rw [q] at h1
    refine ⟨c, truth_ r1 w1 q, ?_⟩
    cases c with
    | true =>
      rw [if_pos rfl]
      exact ⟨G, F1, ρ1, m1, σ, w1, sr.mono s1 p1, h1⟩
    | false =>
      rw [if_neg Bool.false_ne_true]
      exact Post.same h1 w1 r1
theorem snd_or {x y : Expr} {r : List Expr} {a b : E} {pos : Pos} (ha : PE X x (tE X.K T P k W a)) (hb : PE X (.BoolOp .Or (y :: r) pos) (tE X.K T P k W b)) : PE X (.BoolOp .Or (x :: y :: r) pos) (tE X.K T P k W (.or a b)) := by
  refine (pe_orT ha hb).imp fun s H Q h => ?_
  obtain ⟨G, F, ρ, μ, σ, w, sr, h⟩ := h
  simp only [evE] at h
  refine ⟨G, F, ρ, μ, σ, w, sr, (or_cases h).imp fun x H1 ⟨F1, ρ1, va, m1, w1, r1, s1, p1, h1⟩ => ?_⟩
  cases q : truth va m1 with
  | none => rw [q] at h1; exact h1.elim
  | some c =>
    rw [q] at h1
    refine ⟨c, truth_ r1 w1 q, ?_⟩
    cases c with
    | true =>
      rw [if_pos rfl]
      exact Post.same h1 w1 r1
    | false =>
      rw [if_neg Bool.false_ne_true]
      exact ⟨G, F1, ρ1, m1, σ, w1, sr.mono s1 p1, h1⟩
/-- a test behind a value -/
theorem test_cases {e : E} {σ : Sl} {μ : Mem} {Q : Bool → Hp → Prop} {G F : Hp} {ρ : List Addr} {wx : XP} {β : Type} {rel : Hp → List Addr → β → Vl → Prop} {Z : R Vl → R Vl} {V0 : β → Hp → Prop} (h : Post X.K G rel F ρ wx (Z (evE (cx P k) e σ μ)) V0)
    (hex : ∀ x m, Z (.ex x m) = .ex x m) (hst : Z .st = .st)
    (hok : ∀ v m, evE (cx P k) e σ μ = .ok v m → Post X.K G rel F ρ wx (Z (.ok v m)) V0 → ∃ b, truth v m = some b ∧ ∀ F1 ρ1 H1, Wd X.K G F1 ρ1 m H1 → Same F F1 → ρ <+: ρ1 → Q b H1) :
    Post X.K G relB F ρ wx (testR (evE (cx P k) e σ μ)) Q := by
  cases q : evE (cx P k) e σ μ with
  | ex x m => rw [q, hex] at h; exact h
  | st => rw [q, hst] at h; exact h.elim
  | ok v m =>
    rw [q] at h
    obtain ⟨b, e1, h1⟩ := hok v m q h
    simp only [testR, e1]
    exact fun F1 ρ1 c H1 s1 p1 w1 r1 => by
      have e : c = b := r1
      subst e
      exact h1 F1 ρ1 H1 w1 s1 p1
theorem pw_of_pt {op : BoolOp} {vs : List Expr} {pos : Pos} {t : TT} (h : PT X (.BoolOp op vs pos) t) : PW X (.BoolOp op vs pos) t := ⟨fun wh pins s σ H Q I hw => h.run pins s σ H Q I hw⟩
theorem snd_andT {x y : Expr} {r : List Expr} {a b : E} {pos : Pos} (ha : PT X x (tT X.K T P k W a)) (hb : PW X (.BoolOp .And (y :: r) pos) (tT X.K T P k W b)) : PT X (.BoolOp .And (x :: y :: r) pos) (tT X.K T P k W (.and a b)) := by
  refine (pw_and ha hb).pt.imp fun s H Q h => ?_
  obtain ⟨G, F, ρ, μ, σ, w, sr, h⟩ := h
  refine ⟨G, F, ρ, μ, σ, w, sr, ?_⟩
  cases q : evE (cx P k) a σ μ with
  | ex x m => simp only [evE, q, andK, testR] at h; exact h
  | st => simp only [evE, q, andK, testR] at h; exact h.elim
  | ok v m =>
    simp only [evE, q, andK] at h
    simp only [testR]
    cases q2 : truth v m with
    | none => rw [q2] at h; exact h.elim
    | some c =>
      rw [q2] at h
      intro F1 ρ1 c' H1 s1 p1 w1 r1
      have e : c' = c := r1
      subst e
      cases c' with
      | true =>
        rw [if_pos rfl]
        exact ⟨G, F1, ρ1, m, σ, w1, sr.mono s1 p1, h.mono s1 p1⟩
      | false =>
        rw [if_neg Bool.false_ne_true]
        simp only [and2, testR, q2] at h
        exact h F1 ρ1 false H1 s1 p1 w1 rfl
theorem snd_orT {x y : Expr} {r : List Expr} {a b : E} {pos : Pos} (ha : PT X x (tT X.K T P k W a)) (hb : PW X (.BoolOp .Or (y :: r) pos) (tT X.K T P k W b)) : PT X (.BoolOp .Or (x :: y :: r) pos) (tT X.K T P k W (.or a b)) := by
  refine (pw_or ha hb).pt.imp fun s H Q h => ?_
  obtain ⟨G, F, ρ, μ, σ, w, sr, h⟩ := h
  refine ⟨G, F, ρ, μ, σ, w, sr, ?_⟩
  cases q : evE (cx P k) a σ μ with
  | ex x m => simp only [evE, q, orK, testR] at h; exact h
  | st => simp only [evE, q, orK, testR] at h; exact h.elim
  | ok v m =>
    simp only [evE, q, orK] at h
    simp only [testR]
    cases q2 : truth v m with
    | none => rw [q2] at h; exact h.elim
    | some c =>
      rw [q2] at h
      intro F1 ρ1 c' H1 s1 p1 w1 r1
      have e : c' = c := r1
      subst e
      cases c' with
      | true =>
        rw [if_pos rfl]
        simp only [or2, testR, q2] at h
        exact h F1 ρ1 true H1 s1 p1 w1 rfl
      | false =>
        rw [if_neg Bool.false_ne_true]
        exact ⟨G, F1, ρ1, m, σ, w1, sr.mono s1 p1, h.mono s1 p1⟩
theorem snd_ite {x y z : Expr} {c a b : E} {pos : Pos} (hc : PT X x (tT X.K T P k W c)) (ha : PE X y (tE X.K T P k W a)) (hb : PE X z (tE X.K T P k W b)) : PE X (.IfExp x y z pos) (tE X.K T P k W (.ite c a b)) := by
  refine (pe_ifExp hc ha hb).imp fun s H Q h => ?_
  obtain ⟨G, F, ρ, μ, σ, w, sr, h⟩ := h
  refine ⟨G, F, ρ, μ, σ, w, sr, ?_⟩
  cases q : evE (cx P k) c σ μ with
  | ex x m => simp only [evE, q, iteK] at h; exact h
  | st => simp only [evE, q, iteK] at h; exact h.elim
  | ok v m =>
    simp only [evE, q, iteK] at h
    simp only [testR]
    cases q2 : truth v m with
    | none => rw [q2] at h; exact h.elim
    | some t =>
      rw [q2] at h
      intro F1 ρ1 t' H1 s1 p1 w1 r1
      have e : t' = t := r1
      subst e
      cases t' with
      | true =>
        rw [if_pos rfl]
        exact ⟨G, F1, ρ1, m, σ, w1, sr.mono s1 p1, Post.mono h s1 p1⟩
      | false =>
        rw [if_neg Bool.false_ne_true]
        exact ⟨G, F1, ρ1, m, σ, w1, sr.mono s1 p1, Post.mono h s1 p1⟩
theorem snd_iteT {x y z : Expr} {c a b : E} {pos : Pos} (hc : PT X x (tT X.K T P k W c)) (ha : PT X y (tT X.K T P k W a)) (hb : PT X z (tT X.K T P k W b)) : PT X (.IfExp x y z pos) (tT X.K T P k W (.ite c a b)) := by
  refine ⟨fun pins s σ0 H Q I h => ?_⟩
  obtain ⟨G, F, ρ, μ, σ, w, sr, h⟩ := h
  have hh : tT X.K T P k W c σ0 H fun t H1 => if t = true then tT X.K T P k W a σ0 H1 Q else tT X.K T P k W b σ0 H1 Q := by
    refine ⟨G, F, ρ, μ, σ, w, sr, ?_⟩
    cases q : evE (cx P k) c σ μ with
    | ex x m => simp only [evE, q, iteK, testR] at h; exact h
    | st => simp only [evE, q, iteK, testR] at h; exact h.elim
    | ok v m =>
      simp only [evE, q, iteK] at h
      simp only [testR]
      cases q2 : truth v m with
      | none => rw [q2] at h; exact h.elim
      | some t =>
        rw [q2] at h
        intro F1 ρ1 t' H1 s1 p1 w1 r1
        have e : t' = t := r1
        subst e
        cases t' with
        | true =>
          rw [if_pos rfl]
          exact ⟨G, F1, ρ1, m, σ, w1, sr.mono s1 p1, Post.mono h s1 p1⟩
        | false =>
          rw [if_neg Bool.false_ne_true]
          exact ⟨G, F1, ρ1, m, σ, w1, sr.mono s1 p1, Post.mono h s1 p1⟩
  refine isTrue_IfExp (thn (hc.run pins s σ0 H _ I hh) fun d s1 ⟨H1, I1, q1⟩ => ?_)
  cases d with
  | true => exact ha.run pins s1 σ0 H1 Q I1 q1
  | false => exact hb.run pins s1 σ0 H1 Q I1 q1
end
end HP
end

section
set_option Elab.async false
set_option linter.all false
set_option maxRecDepth 100000
set_option maxHeartbeats 8000000
set_option autoImplicit false
/-! Soundness 11: comparisons, subscripts, calls, methods, comprehensions. -/
namespace HP
open PySem PySem.Spec PyProof.Rows L2

theorem noex_need {α : Type} {b : Bool} {r : R α} (h : NoEx r) : NoEx (need b r) := by
  cases b
  · trivial
  · exact h
theorem noex_ofO {α : Type} {o : Option α} {m : Mem} : NoEx (ofO o m) := by cases o <;> trivial
theorem cmpop_bl (op : Cop) (x y : Vl) (m m' : Mem) (v : Vl) (h : cmpop op x y m = .ok v m') : ∃ b, v = .d (.bl b) := by
  have kb : ∀ {b c : Bool} {m : Mem}, need b (R.ok (Vl.d (.bl c)) m) = .ok v m' → ∃ b, v = .d (.bl b) := fun {b c m} e => by
    cases b
    · cases e
    · cases e; exact ⟨_, rfl⟩
  cases op <;> simp only [cmpop] at h
  case eq => split at h <;> first | exact kb h | cases h
  case ne => split at h <;> first | exact kb h | cases h
  case lt => split at h <;> first | (cases h; exact ⟨_, rfl⟩) | cases h
  case le => split at h <;> first | (cases h; exact ⟨_, rfl⟩) | cases h
  case gt => split at h <;> first | (cases h; exact ⟨_, rfl⟩) | cases h
  case ge => split at h <;> first | (cases h; exact ⟨_, rfl⟩) | cases h
  case isin =>
    cases q : inOp x y m with
    | ok c m1 => rw [q] at h; cases h; exact ⟨_, rfl⟩
    | ex _ _ => rw [q] at h; cases h
    | st => rw [q] at h; cases h
  case notin =>
    cases q : inOp x y m with
    | ok c m1 => rw [q] at h; cases h; exact ⟨_, rfl⟩
    | ex _ _ => rw [q] at h; cases h
    | st => rw [q] at h; cases h
  case is_ => split at h <;> first | (cases h; exact ⟨_, rfl⟩) | cases h
  case isnot => split at h <;> first | (cases h; exact ⟨_, rfl⟩) | cases h
/-- a test of a value that is a bool -/
theorem Post.test {K : PySem.W.Frag} {G F : Hp} {ρ : List Addr} {wx : XP} {r : R Vl} {Q : Bool → Hp → Prop} (h : Post K G relB F ρ wx (testR r) Q) (hb : ∀ v m, r = .ok v m → ∃ b, v = .d (.bl b)) :
    Post K G (RpV K) F ρ wx r fun x H => ∃ c, x = .bl c ∧ Q c H := by
  cases r with
  | ex x m => exact h
  | st => exact h
  | ok v m =>
    obtain ⟨b, rfl⟩ := hb v m rfl
    intro F1 ρ1 x H1 s1 p1 w1 r1
    exact ⟨b, r1.bl_, h F1 ρ1 b H1 s1 p1 w1 rfl⟩
section
variable {cc : Ck} {T : XT} {P : Prog} {k : Nat} {W : WX} {S : Sc} {X : Cx}
theorem snd_cmpT (hu : X.A.units + 64 < cLine) {op : Cop} {o : CmpOp} {l r : Expr} {a b : E} {pos : Pos} (ho : copOf op = o) (hr : notSet r = true) (ha : PE X l (tE X.K T P k W a)) (hb : PE X r (tE X.K T P k W b)) :
    PT X (.Compare l [o] [r] pos) (tT X.K T P k W (.cmp op a b)) := by
  subst ho
  refine (pt_cmpR (snd_cmp hu op) ha hb (notSet_marks hr)).imp fun s H Q h => ?_
  obtain ⟨G, F, ρ, μ, σ, w, sr, h⟩ := h
  have hh : tE X.K T P k W (.cmp op a b) s H fun x H' => ∃ c, x = .bl c ∧ Q c H' := by
    refine ⟨G, F, ρ, μ, σ, w, sr, Post.test h fun v m e => ?_⟩
    simp only [evE] at e
    cases q : evE (cx P k) a σ μ with
    | ex x m => rw [q] at e; cases e
    | st => rw [q] at e; cases e
    | ok va m1 =>
      rw [q, then2_ok] at e
      cases q2 : evE (cx P k) b σ m1 with
      | ex x m => rw [q2] at e; cases e
      | st => rw [q2] at e; cases e
      | ok vb m2 =>
        rw [q2, then1_ok] at e
        exact cmpop_bl op va vb m2 _ _ e
  exact bin_imp (fun _ _ => rfl) s H _ hh
where
  bin_imp {a b : E} {g : Vl → Vl → Mem → HP.R Vl} {e : E} (he : ∀ σ m, evE (cx P k) e σ m = then2 g (evE (cx P k) b) σ (evE (cx P k) a σ m)) : ∀ s H Q, tE X.K T P k W e s H Q → tOp (rBin X.K g) (tE X.K T P k W a) (tE X.K T P k W b) s H Q := by
    intro s H Q h
    obtain ⟨G, F, ρ, μ, σ, w, sr, h⟩ := h
    rw [he] at h
    refine ⟨G, F, ρ, μ, σ, w, sr, (Post.th2 (ra := RpV X.K) h).imp fun x H1 ⟨F1, ρ1, va, m1, w1, r1, s1, p1, h1⟩ => ?_⟩
    refine ⟨G, F1, ρ1, m1, σ, w1, sr.mono s1 p1, (Post.th1 (ra := RpV X.K) h1).imp fun y H2 ⟨F2, ρ2, vb, m2, w2, r2, s2, p2, h2⟩ => ?_⟩
    exact ⟨G, F2, ρ2, m2, va, vb, _, w2, r1.mono s2 p2, r2, h2⟩
theorem bin_imp' {a b : E} {g : Vl → Vl → Mem → HP.R Vl} {e : E} (he : ∀ σ m, evE (cx P k) e σ m = then2 g (evE (cx P k) b) σ (evE (cx P k) a σ m)) : ∀ s H Q, tE X.K T P k W e s H Q → tOp (rBin X.K g) (tE X.K T P k W a) (tE X.K T P k W b) s H Q :=
  snd_cmpT.bin_imp he
theorem lastMarks_two {op op' : CmpOp} {b c : Expr} (h : notSet c = true) : lastMarks [op, op'] [b, c] = false := by
  show behindInMarks op' c = false
  exact notSet_marks h
/-- the reading of a chain, the answer a bool -/
theorem chain_imp {o p : Cop} {a b c : E} : ∀ (s : L2.St) (H : Hp) (Q : VK), tE X.K T P k W (.chain o p a b c) s H Q → tChain (rBin X.K (cmpop o)) (rBin X.K (cmpop p)) (tE X.K T P k W a) (tE X.K T P k W b) (tE X.K T P k W c) s H Q := by
  intro s H Q h
  obtain ⟨G, F, ρ, μ, σ, w, sr, h⟩ := h
  simp only [evE] at h
  refine ⟨G, F, ρ, μ, σ, w, sr, (Post.th2 (ra := RpV X.K) h).imp fun x H1 ⟨F1, ρ1, va, m1, w1, r1, s1, p1, h1⟩ => ?_⟩
  refine ⟨G, F1, ρ1, m1, σ, w1, sr.mono s1 p1, (Post.th1 (ra := RpV X.K) h1).imp fun y H2 ⟨F2, ρ2, vb, m2, w2, r2, s2, p2, h2⟩ => ?_⟩
  refine ⟨G, F2, ρ2, m2, va, vb, wxAt X.K G T W σ, w2, r1.mono s2 p2, r2, ?_⟩
  unfold chainop at h2
  have nb := cmpop_bl o va vb m2
  cases q : cmpop o va vb m2 with
  | ex x m => rw [q] at h2; exact h2
  | st => rw [q] at h2; exact h2.elim
  | ok v m =>
    obtain ⟨t, rfl⟩ := nb m v q
    rw [q, chain1_ok] at h2
    intro F3 ρ3 z H3 s3 p3 w3 r3
    refine ⟨t, r3.bl_, ?_⟩
    have h3 := h2.mono s3 p3
    cases t with
    | true =>
      rw [if_pos rfl]
      refine ⟨G, F3, ρ3, m, σ, w3, ((sr.mono s1 p1).mono s2 p2).mono s3 p3, (Post.th1 (ra := RpV X.K) h3).imp fun z2 H4 ⟨F4, ρ4, vc, m4, w4, r4, s4, p4, h4⟩ => ?_⟩
      exact ⟨G, F4, ρ4, m4, vb, vc, _, w4, (r2.mono s3 p3).mono s4 p4, r4, h4⟩
    | false =>
      rw [if_neg Bool.false_ne_true]
      exact Post.same h3 w3 (.bl false)
theorem chain_bl {o p : Cop} {a b c : E} {σ : Sl} {μ m : Mem} {v : Vl} (e : evE (cx P k) (.chain o p a b c) σ μ = .ok v m) : ∃ b, v = .d (.bl b) := by
  simp only [evE] at e
  cases q : evE (cx P k) a σ μ with
  | ex x m => rw [q] at e; cases e
  | st => rw [q] at e; cases e
  | ok va m1 =>
    rw [q, then2_ok] at e
    cases q2 : evE (cx P k) b σ m1 with
    | ex x m => rw [q2] at e; cases e
    | st => rw [q2] at e; cases e
    | ok vb m2 =>
      rw [q2, then1_ok, chainop] at e
      cases q3 : cmpop o va vb m2 with
      | ex x m => rw [q3] at e; cases e
      | st => rw [q3] at e; cases e
      | ok vt m3 =>
        rw [q3, chain1_ok] at e
        obtain ⟨t, rfl⟩ := cmpop_bl o va vb m2 _ _ q3
        cases t with
        | false => cases e; exact ⟨false, rfl⟩
        | true =>
          simp only [truth, chain2_true] at e
          cases q4 : evE (cx P k) c σ m3 with
          | ex x m => rw [q4] at e; cases e
          | st => rw [q4] at e; cases e
          | ok vc m4 =>
            rw [q4, then1_ok] at e
            exact cmpop_bl p vb vc m4 _ _ e
theorem snd_chain (hu : X.A.units + 64 < cLine) {o p : Cop} {o' p' : CmpOp} {l m r : Expr} {a b c : E} {pos : Pos} (ho : copOf o = o') (hp : copOf p = p') (hr : notSet r = true) (ha : PE X l (tE X.K T P k W a)) (hb : PE X m (tE X.K T P k W b)) (hc : PE X r (tE X.K T P k W c)) :
    PE X (.Compare l [o', p'] [m, r] pos) (tE X.K T P k W (.chain o p a b c)) := by
  subst ho hp
  exact (pe_chain (snd_cmp hu o) (snd_cmp hu p) ha hb hc (lastMarks_two hr)).imp chain_imp
theorem snd_chainT (hu : X.A.units + 64 < cLine) {o p : Cop} {o' p' : CmpOp} {l m r : Expr} {a b c : E} {pos : Pos} (ho : copOf o = o') (hp : copOf p = p') (hr : notSet r = true) (ha : PE X l (tE X.K T P k W a)) (hb : PE X m (tE X.K T P k W b)) (hc : PE X r (tE X.K T P k W c)) :
    PT X (.Compare l [o', p'] [m, r] pos) (tT X.K T P k W (.chain o p a b c)) := by
  subst ho hp
  refine (pt_chain (snd_cmp hu o) (snd_cmp hu p) ha hb hc (lastMarks_two hr)).imp fun s H Q h => ?_
  obtain ⟨G, F, ρ, μ, σ, w, sr, h⟩ := h
  have hh : tE X.K T P k W (.chain o p a b c) s H fun x H' => ∃ c, x = .bl c ∧ Q c H' := ⟨G, F, ρ, μ, σ, w, sr, Post.test h fun v m e => chain_bl e⟩
  exact chain_imp s H _ hh

/-! ### subscripts -/
theorem snd_ixE {l r : Expr} {a i : E} {pos : Pos} (hs : notSlice r = true) (ha : PE X l (tE X.K T P k W a)) (hi : PE X r (tE X.K T P k W i)) : PE X (.Subscript l r pos) (tE X.K T P k W (.ix a i)) := by
  refine (pe_ix snd_ix ha hi ?_).imp (bin_imp' fun _ _ => rfl)
  intro o i
  cases r <;> first | rfl | cases hs
/-- a slice's part by the evaluator: left out, or an int -/
def tPO (K : PySem.W.Frag) (T : XT) (P : Prog) (k : Nat) (W : WX) (e : E) : TO := fun s H Q => ∃ G F ρ μ σ, Wd K G F ρ μ H ∧ SlR K F ρ s σ ∧ Post K G (fun F ρ o d => boundOf d = some o) F ρ (wxAt K G T W σ) (evE (cx P k) e σ μ) Q
theorem _root_.L2.PO.imp {X : Cx} {e : Option Expr} {t t' : TO} (h : PO X e t) (hi : ∀ s H Q, t' s H Q → t s H Q) : PO X e t' := ⟨fun pins s σ H Q I hw => h.run pins s σ H Q I (hi _ _ _ hw)⟩
theorem po_no {e : E} (h : isNonE e = true) : PO X none (tPO X.K T P k W e) := by
  have e1 : e = .c .non := by
    unfold isNonE at h
    split at h
    · rfl
    · cases h
  subst e1
  refine po_none.imp fun s H Q h => ?_
  obtain ⟨G, F, ρ, μ, σ, w, sr, h⟩ := h
  exact h F ρ none H (Same.refl _) (List.prefix_refl _) w rfl
theorem po_yes {e : E} {y : Expr} (h : isPrt e = true) (he : PE X y (tE X.K T P k W e)) : PO X (some y) (tPO X.K T P k W e) := by
  refine (po_some he).imp fun s H Q h2 => ?_
  obtain ⟨G, F, ρ, μ, σ, w, sr, h2⟩ := h2
  refine ⟨G, F, ρ, μ, σ, w, sr, ?_⟩
  have key : ∀ v m, evE (cx P k) e σ μ = .ok v m → ∃ i, v = .d (.int i) := fun v m q => by
    cases e <;> first | (cases h; done) | skip
    simp only [evE] at q
    rename_i e'
    cases q2 : evE (cx P k) e' σ μ with
    | ex x m => rw [q2] at q; cases q
    | st => rw [q2] at q; cases q
    | ok va m1 =>
      rw [q2, then1_ok] at q
      unfold intOnly at q
      split at q
      · cases q; exact ⟨_, rfl⟩
      · cases q
  cases q : evE (cx P k) e σ μ with
  | ex x m => rw [q] at h2; exact h2
  | st => rw [q] at h2; exact h2.elim
  | ok v m =>
    obtain ⟨i, rfl⟩ := key v m q
    rw [q] at h2
    intro F1 ρ1 x H1 s1 p1 w1 r1
    exact ⟨i, r1.int_, h2 F1 ρ1 (some i) H1 s1 p1 w1 rfl⟩
theorem snd_sl {l : Expr} {lo' hi' : Option Expr} {a lo hi : E} {pos p2 : Pos} (ha : PE X l (tE X.K T P k W a)) (hl : PO X lo' (tPO X.K T P k W lo)) (hh : PO X hi' (tPO X.K T P k W hi)) :
    PE X (.Subscript l (.Slice lo' hi' none p2) pos) (tE X.K T P k W (.sl a lo hi)) := by
  refine (pe_slice snd_cut ha hl hh).imp fun s H Q h => ?_
  obtain ⟨G, F, ρ, μ, σ, w, sr, h⟩ := h
  simp only [evE] at h
  refine ⟨G, F, ρ, μ, σ, w, sr, ?_⟩
  have h0 : Post X.K G (RpV X.K) F ρ (wxAt X.K G T W σ) (evE (cx P k) a σ μ) (Mid X.K G (RpV X.K) (RpV X.K) F ρ (wxAt X.K G T W σ) (fun x m => then2 (slop x) (evE (cx P k) hi) σ (evE (cx P k) lo σ m)) Q) :=
    Post.bind h (fun _ _ => rfl) (fun _ _ => rfl) rfl
  refine h0.imp fun x H1 ⟨F1, ρ1, va, m1, w1, r1, s1, p1, h1⟩ => ?_
  refine ⟨G, F1, ρ1, m1, σ, w1, sr.mono s1 p1, (Post.th2 (ra := fun F ρ o d => boundOf d = some o) h1).imp fun ol H2 ⟨F2, ρ2, vl, m2, w2, r2, s2, p2, h2⟩ => ?_⟩
  refine ⟨G, F2, ρ2, m2, σ, w2, (sr.mono s1 p1).mono s2 p2, (Post.th1 (ra := fun F ρ o d => boundOf d = some o) h2).imp fun oh H3 ⟨F3, ρ3, vh, m3, w3, r3, s3, p3, h3⟩ => ?_⟩
  refine ⟨G, F3, ρ3, m3, va, wxAt X.K G T W σ, w3, (r1.mono s2 p2).mono s3 p3, ?_⟩
  have r2' : boundOf vl = some ol := r2
  have r3' : boundOf vh = some oh := r3
  have e : slop va vl vh m3 = cutop va ol oh m3 := by
    unfold slop cutop
    simp only [r2', r3']
  rw [← e]
  exact h3
end
end HP
end

section
set_option Elab.async false
set_option linter.all false
set_option maxRecDepth 100000
set_option maxHeartbeats 8000000
set_option autoImplicit false
/-! Soundness 12: calls, built-ins, methods. -/
namespace HP
open PySem PySem.Spec PyProof.Rows L2

theorem Post.wx {α β : Type} {K : PySem.W.Frag} {G F : Hp} {ρ : List Addr} {wx wx' : XP} {rel : Hp → List Addr → β → α → Prop} {r : R α} {Q : β → Hp → Prop} (h : Post K G rel F ρ wx r Q) (hx : ∀ x m, wx.p F ρ x m → wx'.p F ρ x m) : Post K G rel F ρ wx' r Q := by
  cases r with
  | ok _ _ => exact h
  | ex x m => exact hx x m h
  | st => exact h
section
variable {cc : Ck} {T : XT} {P : Prog} {k : Nat} {W : WX} {S : Sc} {X : Cx}
/-- f() with what is raised wished for at the caller's slots -/
theorem pe_call0SD {CX : CXT} {f : Addr} {fd : FuncData} {ps : List Str} {sp : Sp} {E : L2.St → XK} {x : Str} {p pos : Pos} (F : FnOk X.prog X.w X.K X.mg X.base CX k f fd ps sp) (hr : Room k X.A) (hg : Gl X x) (hm : X.mg x = some (.ref f)) (hk : PySem.W.keepIn X.K (.ref f) = true) (hb : Binds X.K fd ps [])
    (hx : ∀ σ, PassesAt CX X σ (E σ)) (hdb : (x == ("__debug__" : Str)) = false := by decide) : PE X (.Call (.Name x p) [] [] pos) (tCallSD sp [] E tNil) := by
  refine ⟨fun pins s σ H Q I h => ?_⟩
  refine wpAny_Call_Name_kw (ld_glob I hg hm ?_ hdb)
  exact PySem.W.callWith_K0 I.kIn hk (run_fnSD (us := []) F hr hb .nil (hx σ) I .nil h)
theorem snd_call (c : CkX cc T P k W S X) {f : Nat} {n : Str} {es : Es} {xs : List Expr} {p pos : Pos} (h1 : cc.fn f = some n) (h2 : glB S n = true) (h3 : dbgB n = true) (hs : chkEs cc es S xs = true) (ha : PA X xs (tEs X.K T P k W es)) :
    PE X (.Call (.Name n p) xs [] pos) (tE X.K T P k W (.call f es)) := by
  obtain ⟨a, fd, ps, F, m1, m2, m3⟩ := c.calls f n h1
  obtain ⟨d1, d2, d3⟩ := dbg_ h3
  have hi : ∀ s H Q, tE X.K T P k W (.call f es) s H Q → tCallSD (spOf X.K T P k f) [] (fun σ => WE W σ) (tEs X.K T P k W es) s H Q := fun s H Q h => by
    obtain ⟨G, F, ρ, μ, σ, w, sr, h⟩ := h
    simp only [evE] at h
    refine ⟨G, F, ρ, μ, σ, w, sr, (Post.th1 (ra := RpVs X.K) h).imp fun x H1 ⟨F1, ρ1, va, m1, w1, r1, s1, p1, h1⟩ => ?_⟩
    rw [List.append_nil]
    exact ⟨G, F1, ρ1, m1, va, w1, r1, h1.wx fun x m q F' ρ' cls dd H' s2 p2 w2 xr => q F' ρ' s cls dd H' s2 p2 w2 ((sr.mono s1 p1).mono s2 p2) xr⟩
  cases xs with
  | nil =>
    cases es with
    | nil =>
      refine (pe_call0SD (E := fun σ => WE W σ) F c.room (c.glb h2) m1 m2 m3 (fun σ => passAt c.tk σ) d1).imp fun s H Q h => ?_
      obtain ⟨G, F, ρ, μ, σ, w, sr, q⟩ := hi s H Q h
      exact q F ρ [] H (Same.refl _) (List.prefix_refl _) w .nil
    | cons _ _ => simp [chkEs] at hs
  | cons y ys =>
    cases es with
    | nil => simp [chkEs] at hs
    | cons e es =>
      have hs' := hs
      simp only [chkEs, Bool.and_eq_true] at hs
      exact (pe_callSD (E := fun σ => WE W σ) F c.room (c.glb h2) m1 m2 m3 .nil (fun σ => passAt c.tk σ) ha d1 (starEach_cons hs.1.1) (chkEs_star cc S X.env pos es ys hs.2).1).imp hi

/-! ### built-ins -/
theorem snd_prB {n : Str} {id : String} {pr : Pr} {es : Es} {y : Expr} {xs : List Expr} {p pos : Pos} (hc : CallR X (.builtin id) (rArgs X.K (prim pr))) (hg : Gl X n) (hm : X.mg n = none) (hv : bootBuiltins n = some (.builtin id))
    (hn : n ≠ ("__name__" : Str)) (hd : (n == ("__debug__" : Str)) = false) (hs : chkEs cc es S (y :: xs) = true) (ha : PA X (y :: xs) (tEs X.K T P k W es)) : PE X (.Call (.Name n p) (y :: xs) [] pos) (tE X.K T P k W (.pr pr es)) := by
  cases es with
  | nil => simp [chkEs] at hs
  | cons e es =>
    simp only [chkEs, Bool.and_eq_true] at hs
    exact (pe_callB hc hg hm hv ha hn hd (starEach_cons hs.1.1) (chkEs_star cc S X.env pos es xs hs.2).1).imp (args_imp fun _ _ => rfl)
theorem snd_prT {n : Str} {id : String} {pr : Pr} {es : Es} {y : Expr} {xs : List Expr} {p pos : Pos} (hc : CallR X (.type id) (rArgs X.K (prim pr))) (hg : Gl X n) (hm : X.mg n = none) (hv : bootBuiltins n = some (.type id))
    (hn : n ≠ ("__name__" : Str)) (hd : (n == ("__debug__" : Str)) = false) (hs : chkEs cc es S (y :: xs) = true) (ha : PA X (y :: xs) (tEs X.K T P k W es)) : PE X (.Call (.Name n p) (y :: xs) [] pos) (tE X.K T P k W (.pr pr es)) := by
  cases es with
  | nil => simp [chkEs] at hs
  | cons e es =>
    simp only [chkEs, Bool.and_eq_true] at hs
    exact (pe_callTy hc hg hm hv ha hn hd (starEach_cons hs.1.1) (chkEs_star cc S X.env pos es xs hs.2).1).imp (args_imp fun _ _ => rfl)
theorem snd_pr (c : CkX cc T P k W S X) {n : Str} {b : Bool} {pr : Pr} {es : Es} {y : Expr} {xs : List Expr} {p pos : Pos} (hp : prName pr = some (n, b)) (h2 : bltB cc S n = true) (hs : chkEs cc es S (y :: xs) = true) (ha : PA X (y :: xs) (tEs X.K T P k W es)) :
    PE X (.Call (.Name n p) (y :: xs) [] pos) (tE X.K T P k W (.pr pr es)) := by
  obtain ⟨hg, hm⟩ := c.bltn h2
  cases pr <;> simp only [prName] at hp <;> first | (cases hp; done) | (injection hp with hp; injection hp with h3 h4; subst h3)
  · exact snd_prB snd_len hg hm PySem.boot_len (by decide) (by decide) hs ha
  · exact snd_prT snd_tuple hg hm (by decide +kernel) (by decide) (by decide) hs ha
  · exact snd_prT (snd_list _) hg hm (by decide +kernel) (by decide) (by decide) hs ha
  · exact snd_prT snd_int hg hm (by decide +kernel) (by decide) (by decide) hs ha
  · exact snd_prB (snd_max c.calm) hg hm (by decide +kernel) (by decide) (by decide) hs ha
  · exact snd_prB (snd_min c.calm) hg hm (by decide +kernel) (by decide) (by decide) hs ha
  · exact snd_prB (snd_sum c.calm) hg hm (by decide +kernel) (by decide) (by decide) hs ha
  · exact snd_prB snd_divmod hg hm (by decide +kernel) (by decide) (by decide) hs ha
theorem snd_isi (c : CkX cc T P k W S X) {t : Ty} {n2 : Str} {e : E} {es : Es} {y : Expr} {p p2 pos : Pos} (hes : es = .cons e .nil) (h2 : bltB cc S "isinstance" = true) (hn2 : n2 = tyName t) (h3 : bltB cc S n2 = true) (ht : t ≠ .none) (hy : notStar y = true) (he : PE X y (tE X.K T P k W e)) :
    PE X (.Call (.Name "isinstance" p) [y, .Name n2 p2] [] pos) (tE X.K T P k W (.pr (.isinst [t]) es)) := by
  subst hes
  obtain ⟨hg, hm⟩ := c.bltn h2
  obtain ⟨hg2, hm2⟩ := c.bltn h3
  have hT : PE X (.Name n2 p2) (tC (.ty (tyStr t))) := by
    subst hn2
    cases t <;> first
      | exact pe_bltn hg2 hm2 (by decide +kernel) rfl (by decide) (by decide)
      | exact absurd rfl ht
  refine (pe_callB call_isi hg hm (by decide +kernel) (pa_cons he (pa_cons hT pa_nil) (starEach_cons hy)) (by decide) (by decide) (starEach_cons hy) rfl).imp fun s H Q h => ?_
  obtain ⟨G, F, ρ, μ, σ, w, sr, h⟩ := h
  simp only [evE, evEs] at h
  cases q : evE (cx P k) e σ μ with
  | ex x m => rw [q] at h; exact ⟨G, F, ρ, μ, σ, w, sr, by rw [q]; exact h⟩
  | st => rw [q] at h; exact h.elim
  | ok d m =>
    rw [q] at h
    simp only [then2_ok, then1_ok, okCons, prim] at h
    refine ⟨G, F, ρ, μ, σ, w, sr, ?_⟩
    rw [q]
    intro F1 ρ1 x H1 s1 p1 w1 r1
    cases q2 : isTys d m [t] with
    | none => rw [q2] at h; exact h.elim
    | some b =>
      rw [q2] at h
      have q3 : isTy d m t = some b := by
        simp only [isTys] at q2
        cases q4 : isTy d m t with
        | none => rw [q4] at q2; cases q2
        | some c =>
          rw [q4] at q2
          cases c
          · exact q2
          · exact q2
      obtain ⟨tv, h5, h6⟩ := isTy_ r1 w1 q3
      exact ⟨x, _, tv, _, b, rfl, .ty _, h5, h6, Post.same (h.mono s1 p1) w1 (.bl b)⟩

/-! ### methods -/
theorem recv_lst {m : Mt} (hm : m = .append ∨ m = .extend ∨ m = .reverse ∨ m = .pop ∨ m = .insert ∨ m = .sort ∨ m = .lcount ∨ m = .lindex) (x : Vl) (μ : Mem) : recv m x μ = need (isLstB x μ) (.ok x μ) := by
  rcases hm with rfl | rfl | rfl | rfl | rfl | rfl | rfl | rfl <;> rfl
theorem isLst_ty {K : PySem.W.Frag} {G F : Hp} {ρ : List Addr} {μ : Mem} {H : Hp} {x : V} {d : Vl} (w : Wd K G F ρ μ H) (r : RpV K F ρ x d) (h : isLstB d μ = true) : tyV K "list" x H := by
  unfold isLstB at h
  split at h
  · split at h
    · rename_i q
      obtain ⟨a, vs, rfl, _, h3, _⟩ := r.ref_ w q
      exact .inl ⟨rfl, _, SqL.of h3⟩
    · cases h
  · obtain ⟨a, vs, rfl, h3, _⟩ := r.lst_
    exact .inl ⟨rfl, _, SqL.of (w.sub _ _ h3)⟩
  · cases h
theorem isStr_ty {K : PySem.W.Frag} {F : Hp} {ρ : List Addr} {H : Hp} {x : V} {d : Vl} (r : RpV K F ρ x d) (h : isStrB d = true) : tyV K "str" x H := by
  unfold isStrB at h
  split at h
  · obtain ⟨rfl, _⟩ := r.str_
    exact (show "str" = "str" from rfl)
  · cases h
/-- the reading of a method's call -/
theorem mt_imp {m : Mt} {Ty : String} {a : E} {es : Es} (ht : ∀ (G F : Hp) (ρ : List Addr) (μ : Mem) (H : Hp) (x : V) (d : Vl) (wx : XP) (α : Type) (f : Vl → Mem → HP.R Vl) (Q : VK), Wd X.K G F ρ μ H → RpV X.K F ρ x d → Post X.K G (RpV X.K) F ρ wx (then1 f (recv m d μ)) Q →
      tyV X.K Ty x H ∧ recv m d μ = .ok d μ) :
    ∀ s H Q, tE X.K T P k W (.mt m a es) s H Q → tE X.K T P k W a s H fun x H1 => tyV X.K Ty x H1 ∧ tEs X.K T P k W es s H1 fun xs H2 => rMeth X.K (meth m) x xs H2 Q := by
  intro s H Q h
  obtain ⟨G, F, ρ, μ, σ, w, sr, h⟩ := h
  simp only [evE] at h
  have h0 : Post X.K G (RpV X.K) F ρ (wxAt X.K G T W σ) (evE (cx P k) a σ μ) (Mid X.K G (RpV X.K) (RpV X.K) F ρ (wxAt X.K G T W σ) (fun x m' => then2 (meth m) (evEs (cx P k) es) σ (recv m x m')) Q) :=
    Post.bind (Z := fun r => then2 (meth m) (evEs (cx P k) es) σ (then1 (recv m) r)) h (fun _ _ => rfl) (fun _ _ => rfl) rfl
  refine ⟨G, F, ρ, μ, σ, w, sr, h0.imp fun x H1 ⟨F1, ρ1, va, m1, w1, r1, s1, p1, h1⟩ => ?_⟩
  obtain ⟨ty, er⟩ := ht G F1 ρ1 m1 H1 x va _ Unit (fun d m' => then1 (meth m d) (evEs (cx P k) es σ m')) Q w1 r1 h1
  simp only [er, then2_ok] at h1
  refine ⟨ty, G, F1, ρ1, m1, σ, w1, sr.mono s1 p1, (Post.th1 (ra := RpVs X.K) h1).imp fun xs H2 ⟨F2, ρ2, vb, m2, w2, r2, s2, p2, h2⟩ => ?_⟩
  exact ⟨G, F2, ρ2, m2, va, vb, _, w2, r1.mono s2 p2, r2, h2⟩
theorem ht_lst {m : Mt} (hm : m = .append ∨ m = .extend ∨ m = .reverse ∨ m = .pop ∨ m = .insert ∨ m = .sort ∨ m = .lcount ∨ m = .lindex) : ∀ (G F : Hp) (ρ : List Addr) (μ : Mem) (H : Hp) (x : V) (d : Vl) (wx : XP) (α : Type) (f : Vl → Mem → HP.R Vl) (Q : VK), Wd X.K G F ρ μ H → RpV X.K F ρ x d →
    Post X.K G (RpV X.K) F ρ wx (then1 f (recv m d μ)) Q → tyV X.K "list" x H ∧ recv m d μ = .ok d μ := by
  intro G F ρ μ H x d wx _ f Q w r h
  rw [recv_lst hm] at h ⊢
  cases q : isLstB d μ with
  | false => rw [q] at h; exact h.elim
  | true => exact ⟨isLst_ty w r q, rfl⟩
theorem ht_str {m : Mt} (hm : ∀ x μ, recv m x μ = need (isStrB x) (.ok x μ)) : ∀ (G F : Hp) (ρ : List Addr) (μ : Mem) (H : Hp) (x : V) (d : Vl) (wx : XP) (α : Type) (f : Vl → Mem → HP.R Vl) (Q : VK), Wd X.K G F ρ μ H → RpV X.K F ρ x d →
    Post X.K G (RpV X.K) F ρ wx (then1 f (recv m d μ)) Q → tyV X.K "str" x H ∧ recv m d μ = .ok d μ := by
  intro G F ρ μ H x d wx _ f Q w r h
  rw [hm] at h ⊢
  cases q : isStrB d with
  | false => rw [q] at h; exact h.elim
  | true => exact ⟨isStr_ty r q, rfl⟩
theorem snd_mt1 {m : Mt} {Ty id : String} {n : Str} {o y : Expr} {xs : List Expr} {a : E} {es : Es} {apos cpos : Pos} (pa : PlainAttrs Ty) (slot : Slot Ty n id) (hty : typeOf (.builtin id) = pure (.type "method_descriptor")) (hm : MtR X id (rMeth X.K (meth m)))
    (ht : ∀ (G F : Hp) (ρ : List Addr) (μ : Mem) (H : Hp) (x : V) (d : Vl) (wx : XP) (α : Type) (f : Vl → Mem → HP.R Vl) (Q : VK), Wd X.K G F ρ μ H → RpV X.K F ρ x d → Post X.K G (RpV X.K) F ρ wx (then1 f (recv m d μ)) Q → tyV X.K Ty x H ∧ recv m d μ = .ok d μ)
    (ho : PE X o (tE X.K T P k W a)) (hs : chkEs cc es S (y :: xs) = true) (ha : PA X (y :: xs) (tEs X.K T P k W es)) (hb : okBase o = true) (hl : apos.endLine = cpos.line) (hf : (y :: xs).length < 28) :
    PE X (.Call (.Attribute o n apos) (y :: xs) [] cpos) (tE X.K T P k W (.mt m a es)) := by
  have h1 := chkEs_star cc S X.env cpos es (y :: xs) hs
  cases es with
  | nil => simp [chkEs] at hs
  | cons e es =>
    simp only [chkEs, Bool.and_eq_true] at hs
    refine (pe_bm pa slot hty hm ho ha (okBase_ hb) ?_ (by rw [hl]; simp) (starEach_cons hs.1.1) (chkEs_star cc S X.env cpos es xs hs.2).1).imp (mt_imp ht)
    rw [h1.2]
    simp only [keywordEach, backToKw, List.map_nil, List.all_nil, Bool.true_and, decide_eq_true_eq, List.length_nil, List.isEmpty_nil, if_true, Nat.add_zero]
    omega
theorem snd_mt0 {m : Mt} {Ty id : String} {n : Str} {o : Expr} {a : E} {apos cpos : Pos} (pa : PlainAttrs Ty) (slot : Slot Ty n id) (hty : typeOf (.builtin id) = pure (.type "method_descriptor")) (hm : MtR X id (rMeth X.K (meth m)))
    (ht : ∀ (G F : Hp) (ρ : List Addr) (μ : Mem) (H : Hp) (x : V) (d : Vl) (wx : XP) (α : Type) (f : Vl → Mem → HP.R Vl) (Q : VK), Wd X.K G F ρ μ H → RpV X.K F ρ x d → Post X.K G (RpV X.K) F ρ wx (then1 f (recv m d μ)) Q → tyV X.K Ty x H ∧ recv m d μ = .ok d μ)
    (ho : PE X o (tE X.K T P k W a)) (hb : okBase o = true) (hl : apos.endLine = cpos.line) :
    PE X (.Call (.Attribute o n apos) [] [] cpos) (tE X.K T P k W (.mt m a .nil)) := by
  refine (pe_bm0 pa slot hty hm ho (okBase_ hb) (by rw [hl]; simp)).imp fun s H Q h => ?_
  obtain ⟨G, F, ρ, μ, σ, w, sr, h2⟩ := mt_imp (P := P) (k := k) ht s H Q h
  refine ⟨G, F, ρ, μ, σ, w, sr, h2.imp fun x H1 q => ⟨q.1, ?_⟩⟩
  obtain ⟨G2, F2, ρ2, μ2, σ2, w2, sr2, q2⟩ := q.2
  exact q2 F2 ρ2 [] H1 (Same.refl _) (List.prefix_refl _) w2 .nil
theorem snd_mt (hix : MtR X "str.index" (rMeth X.K (meth .index))) {m : Mt} {n : Str} {o : Expr} {xs : List Expr} {a : E} {es : Es} {apos cpos : Pos} (hn : mtName m = some n) (ho : PE X o (tE X.K T P k W a)) (hs : chkEs cc es S xs = true) (ha : PA X xs (tEs X.K T P k W es)) (hb : okBase o = true) (hl : apos.endLine = cpos.line) (hf : xs.length < 28) :
    PE X (.Call (.Attribute o n apos) xs [] cpos) (tE X.K T P k W (.mt m a es)) := by
  have nil_es : xs = [] → es = .nil := fun e => by
    subst e
    cases es with
    | nil => rfl
    | cons _ _ => simp [chkEs] at hs
  have go : ∀ {Ty id : String}, PlainAttrs Ty → Slot Ty n id → typeOf (.builtin id) = pure (.type "method_descriptor") → MtR X id (rMeth X.K (meth m)) →
      (∀ (G F : Hp) (ρ : List Addr) (μ : Mem) (H : Hp) (x : V) (d : Vl) (wx : XP) (α : Type) (f : Vl → Mem → HP.R Vl) (Q : VK), Wd X.K G F ρ μ H → RpV X.K F ρ x d → Post X.K G (RpV X.K) F ρ wx (then1 f (recv m d μ)) Q → tyV X.K Ty x H ∧ recv m d μ = .ok d μ) →
      PE X (.Call (.Attribute o n apos) xs [] cpos) (tE X.K T P k W (.mt m a es)) := fun pa slot hty hm ht => by
    cases xs with
    | nil =>
      have e := nil_es rfl
      subst e
      exact snd_mt0 pa slot hty hm ht ho hb hl
    | cons y ys => exact snd_mt1 pa slot hty hm ht ho hs ha hb hl hf
  cases m <;> simp only [mtName] at hn <;> first | (cases hn; done) | (injection hn with hn; subst hn)
  · exact go PySem.F.plainAttrs_list PySem.F.slot_list_append PySem.F.type_list_append snd_append (ht_lst (by simp))
  · exact go PySem.F.plainAttrs_list PySem.F.slot_list_extend PySem.F.type_list_extend snd_extend (ht_lst (by simp))
  · exact go PySem.F.plainAttrs_list PySem.F.slot_list_reverse PySem.F.type_list_reverse snd_reverse (ht_lst (by simp))
  · exact go PySem.F.plainAttrs_list PySem.F.slot_list_pop PySem.F.type_list_pop snd_pop (ht_lst (by simp))
  · exact go PySem.F.plainAttrs_str PySem.F.slot_str_join PySem.F.type_str_join snd_join (ht_str fun _ _ => rfl)
  · exact go PySem.F.plainAttrs_str PySem.F.slot_str_find PySem.F.type_str_find snd_find (ht_str fun _ _ => rfl)
  · exact go PySem.F.plainAttrs_str PySem.F.slot_str_index PySem.F.type_str_index hix (ht_str fun _ _ => rfl)
end
end HP
end

section
set_option Elab.async false
set_option linter.all false
set_option maxRecDepth 100000
set_option maxHeartbeats 8000000
set_option autoImplicit false
/-! Soundness 13: comprehensions. -/
namespace HP
open PySem PySem.Spec PyProof.Rows L2

section
variable {K : PySem.W.Frag} {G F : Hp} {ρ : List Addr} {μ : Mem} {H : Hp} {D : Addr} {o : HO}
theorem Wd.openG (w : Wd K G F ρ μ H) (h : H D = none) (o : HO) : Wd K (upd G D o) F ρ μ (upd H D o) := by
  have hf := w.fnone h
  have hg := w.gsub.free h
  refine ⟨fun b x e => ?_, w.len, fun n u a h1 h2 h3 => ?_, w.inj, fun b x e => ?_, fun b x e => ?_, fun n u a h1 h2 h3 => ?_⟩
  · rw [upd_ne (ne_of_none e hf)]; exact w.sub _ _ e
  · obtain ⟨x, hx⟩ := w.alive h1 h2 h3
    obtain ⟨q1, q2⟩ := w.obj n u a h1 h2 h3
    exact ⟨q1, q2.mono (Same.refl _) (List.prefix_refl _) (upd_ne (ne_of_none hx h))⟩
  · by_cases hb : b = D
    · subst hb; rw [upd_same] at e ⊢; exact e
    · rw [upd_ne hb] at e ⊢; exact w.gsub _ _ e
  · by_cases hb : b = D
    · subst hb; exact hf
    · rw [upd_ne hb] at e; exact w.gf _ _ e
  · obtain ⟨x, hx⟩ := w.alive h1 h2 h3
    rw [upd_ne (ne_of_none hx h)]; exact w.gl n u a h1 h2 h3
theorem Wd.stepG (w : Wd K (upd G D o) F ρ μ H) (o' : HO) : Wd K (upd G D o') F ρ μ (upd H D o') := by
  have hf : F D = none := w.gf D o upd_same
  have nd : ∀ {n : Nat} {u : O} {a : Addr}, μ[n]? = some u → u ≠ O.dead → ρ[n]? = some a → a ≠ D := fun {n u a} h1 h2 h3 e => by
    subst e
    have := w.gl n u _ h1 h2 h3
    rw [upd_same] at this; cases this
  refine ⟨fun b x e => ?_, w.len, fun n u a h1 h2 h3 => ?_, w.inj, fun b x e => ?_, fun b x e => ?_, fun n u a h1 h2 h3 => ?_⟩
  · rw [upd_ne (ne_of_none e hf)]; exact w.sub _ _ e
  · obtain ⟨q1, q2⟩ := w.obj n u a h1 h2 h3
    exact ⟨q1, q2.mono (Same.refl _) (List.prefix_refl _) (upd_ne (nd h1 h2 h3))⟩
  · by_cases hb : b = D
    · subst hb; rw [upd_same] at e ⊢; exact e
    · rw [upd_ne hb] at e ⊢; exact w.gsub _ _ (by rw [upd_ne hb]; exact e)
  · by_cases hb : b = D
    · subst hb; exact hf
    · exact w.gf _ x (by rw [upd_ne hb] at e ⊢; exact e)
  · have := w.gl n u a h1 h2 h3
    rw [upd_ne (nd h1 h2 h3)] at this ⊢; exact this
theorem Wd.closeF (w : Wd K (upd G D o) F ρ μ H) (hG : G D = none) : Wd K G (upd F D o) ρ μ H ∧ Same F (upd F D o) := by
  have hf : F D = none := w.gf D o upd_same
  have hH : H D = some o := w.gsub _ _ upd_same
  have nd : ∀ {n : Nat} {u : O} {a : Addr}, μ[n]? = some u → u ≠ O.dead → ρ[n]? = some a → a ≠ D := fun {n u a} h1 h2 h3 e => by
    subst e
    have := w.gl n u _ h1 h2 h3
    rw [upd_same] at this; cases this
  refine ⟨⟨fun b x e => ?_, w.len, fun n u a h1 h2 h3 => ?_, w.inj, fun b x e => ?_, fun b x e => ?_, fun n u a h1 h2 h3 => ?_⟩, same_new hf⟩
  · by_cases hb : b = D
    · subst hb; rw [upd_same] at e; rw [hH]; exact e
    · rw [upd_ne hb] at e; exact w.sub _ _ e
  · obtain ⟨q1, q2⟩ := w.obj n u a h1 h2 h3
    exact ⟨by rw [upd_ne (nd h1 h2 h3)]; exact q1, q2.mono (same_new hf) (List.prefix_refl _) rfl⟩
  · have hb : b ≠ D := ne_of_none e hG
    exact w.gsub _ _ (by rw [upd_ne hb]; exact e)
  · have hb : b ≠ D := ne_of_none e hG
    rw [upd_ne hb]; exact w.gf b x (by rw [upd_ne hb]; exact e)
  · have := w.gl n u a h1 h2 h3
    rw [upd_ne (nd h1 h2 h3)] at this; exact this
theorem Wd.closeM {vs : List V} {xs : List Vl} (w : Wd K (upd G D (.lst vs)) F ρ μ H) (hG : G D = none) (r : RpVs K F ρ vs xs) : Wd K G F (ρ ++ [D]) (μ ++ [.lst xs]) H := by
  have hf : F D = none := w.gf D _ upd_same
  have hH : H D = some (.lst vs) := w.gsub _ _ upd_same
  have pre : ρ <+: ρ ++ [D] := List.prefix_append _ _
  have nd : ∀ {n : Nat} {u : O} {a : Addr}, μ[n]? = some u → u ≠ O.dead → ρ[n]? = some a → a ≠ D := fun {n u a} h1 h2 h3 e => by
    subst e
    have := w.gl n u _ h1 h2 h3
    rw [upd_same] at this; cases this
  have key : ∀ (n : Nat) (o : O) (a : Addr), (μ ++ [O.lst xs])[n]? = some o → o ≠ .dead → (ρ ++ [D])[n]? = some a → (μ[n]? = some o ∧ ρ[n]? = some a ∧ a ≠ D) ∨ (n = μ.length ∧ o = .lst xs ∧ a = D) := fun n o a h1 h2 h3 => by
    by_cases hn : n < μ.length
    · rw [List.getElem?_append_left hn] at h1
      rw [List.getElem?_append_left (by rw [w.len]; exact hn)] at h3
      exact .inl ⟨h1, h3, nd h1 h2 h3⟩
    · have e : n = μ.length := by
        have := (List.getElem?_eq_some_iff.mp h1).1
        rw [List.length_append, List.length_singleton] at this
        omega
      subst e
      rw [List.getElem?_concat_length] at h1
      rw [← w.len, List.getElem?_concat_length] at h3
      exact .inr ⟨rfl, (Option.some.inj h1).symm, (Option.some.inj h3).symm⟩
  refine ⟨w.sub, by rw [List.length_append, List.length_append, w.len]; rfl, fun n o a h1 h2 h3 => ?_, fun n m a o o' h1 h2 h3 h4 h5 h6 => ?_, fun b x e => ?_, fun b x e => ?_, fun n o a h1 h2 h3 => ?_⟩
  · rcases key n o a h1 h2 h3 with ⟨q1, q2, q3⟩ | ⟨rfl, rfl, rfl⟩
    · obtain ⟨r1, r2⟩ := w.obj n o a q1 h2 q2
      exact ⟨r1, r2.mono (Same.refl _) pre rfl⟩
    · exact ⟨hf, vs, hH, r.mono (Same.refl _) pre⟩
  · rcases key n o a h1 h2 h5 with ⟨q1, q2, q3⟩ | ⟨rfl, rfl, rfl⟩
    · rcases key m o' a h3 h4 h6 with ⟨s1, s2, s3⟩ | ⟨rfl, rfl, rfl⟩
      · exact w.inj n m a o o' q1 h2 s1 h4 q2 s2
      · exact absurd rfl q3
    · rcases key m o' a h3 h4 h6 with ⟨s1, s2, s3⟩ | ⟨e, _, _⟩
      · exact absurd rfl s3
      · exact e.symm
  · have hb : b ≠ D := ne_of_none e hG
    exact w.gsub _ _ (by rw [upd_ne hb]; exact e)
  · have hb : b ≠ D := ne_of_none e hG
    exact w.gf b x (by rw [upd_ne hb]; exact e)
  · rcases key n o a h1 h2 h3 with ⟨q1, q2, q3⟩ | ⟨rfl, rfl, rfl⟩
    · have := w.gl n o a q1 h2 q2
      rw [upd_ne q3] at this; exact this
    · exact hG
end

/-! ### slots that are forgotten -/
theorem wipe_get (s : L2.St) (i : Nat) : ∀ vs : List Nat, (wipe s vs)[i]? = if i ∈ vs then s[i]?.map (fun _ => none) else s[i]?
  | [] => by simp [wipe]
  | v :: vs => by
    unfold wipe
    rw [List.getElem?_set]
    by_cases h : v = i
    · subst h
      rw [if_pos rfl, wipe_length]
      by_cases h2 : v < s.length
      · rw [if_pos h2, if_pos (by simp), List.getElem?_eq_getElem h2]; rfl
      · rw [if_neg h2, if_pos (by simp), List.getElem?_eq_none (by omega)]; rfl
    · rw [if_neg h, wipe_get s i vs]
      by_cases h2 : i ∈ vs
      · rw [if_pos h2, if_pos (by simp [h2])]
      · rw [if_neg h2, if_neg (by simp [h2]; exact fun e => h e.symm)]
theorem wipe_wipe (s : L2.St) (vs : List Nat) : wipe (wipe s vs) vs = wipe s vs := by
  apply List.ext_getElem?
  intro i
  rw [wipe_get, wipe_get]
  by_cases h : i ∈ vs
  · rw [if_pos h, if_pos h]; cases s[i]? <;> rfl
  · rw [if_neg h, if_neg h]
theorem fgt_none : ∀ (vs : List Nat) (σ : Sl) (i : Nat) (d : Vl), (fgt σ vs)[i]? = some (some d) → σ[i]? = some (some d) ∧ i ∉ vs
  | [], σ, i, d, h => ⟨h, by simp⟩
  | v :: vs, σ, i, d, h => by
    obtain ⟨h1, h2⟩ := fgt_none vs (σ.set v none) i d h
    rw [List.getElem?_set] at h1
    by_cases e : v = i
    · rw [if_pos e] at h1
      split at h1 <;> cases h1
    · rw [if_neg e] at h1
      exact ⟨h1, by simp only [List.mem_cons, not_or]; exact ⟨fun z => e z.symm, h2⟩⟩
section
variable {K : PySem.W.Frag} {F : Hp} {ρ : List Addr}
theorem SlR.unR {v : Nat} : ∀ {s : L2.St} {σ : Sl}, SlR K F ρ s σ → SlR K F ρ s (σ.set v none)
  | _, _, .nil => .nil
  | _, _, .cons r t => by
    cases v with
    | zero => exact .cons trivial t
    | succ n => exact .cons r (SlR.unR t)
theorem SlR.fgt_ : ∀ (vs : List Nat) {s : L2.St} {σ : Sl}, SlR K F ρ s σ → SlR K F ρ s (fgt σ vs)
  | [], _, _, h => h
  | v :: vs, _, _, h => SlR.fgt_ vs (SlR.unR h)
theorem SlR.unL {s : L2.St} {σ : Sl} {v : Nat} (hn : ∀ d, σ[v]? ≠ some (some d)) (h : SlR K F ρ s σ) : SlR K F ρ (s.set v none) σ := by
  induction h generalizing v with
  | nil => exact .nil
  | @cons a b l1 l2 r t ih =>
    cases v with
    | zero =>
      cases b with
      | none => exact .cons trivial t
      | some d => exact absurd rfl (hn d)
    | succ n => exact .cons r (ih fun d e => hn d (by simpa using e))
theorem SlR.wipe_ : ∀ (vs : List Nat) {s : L2.St} {σ : Sl}, (∀ v ∈ vs, ∀ d, σ[v]? ≠ some (some d)) → SlR K F ρ s σ → SlR K F ρ (wipe s vs) σ
  | [], _, _, _, h => h
  | v :: vs, _, _, hn, h => SlR.unL (hn v (by simp)) (SlR.wipe_ vs (fun u hu => hn u (by simp [hu])) h)
theorem SlR.blk {s : L2.St} {σ : Sl} (vs : List Nat) (h : SlR K F ρ s σ) : SlR K F ρ (wipe s vs) (fgt σ vs) :=
  SlR.wipe_ vs (fun v hv d e => (fgt_none vs σ v d e).2 hv) (SlR.fgt_ vs h)
end
theorem own_sets (cc : Ck) (tg : Tg) : (ownOf cc tg).map (·.2) = tg.sets := by
  unfold ownOf
  rw [List.map_map]
  show tg.sets.map (fun i => i) = _
  simp
/-- no exception gets out of a comprehension -/
abbrev noW : WX := fun _ _ _ _ => False
section
variable {cc : Ck} {T : XT} {P : Prog} {k : Nat} {W : WX} {S : Sc} {X : Cx}
theorem CkX.blkX (c : CkX cc T P k W S X) (scope : Scope) (s : Shared) (H : Hp) (C : Addr) (cl : List (Str × Addr)) (fp : List Addr) :
    CkX cc T P k noW ⟨relS scope S.sc, some scope⟩ (X.blk s H scope (compEnvC scope cl C X.env) fp) where
  N := c.N
  nd := c.nd
  sc := by rw [← c.sc]; rfl
  fn := rfl
  calm := c.calm
  room := c.room
  blt := c.blt
  gl := c.gl
  calls := c.calls
  tk := fun _ _ ⟨_, _, _, _, _, _, _, _, _, _, _, _, _, _, _, _, w⟩ => w.elim
theorem _root_.L2.PTs.imp {X : Cx} {e : List Expr} {t t' : TT} (h : PTs X e t) (hi : ∀ s H Q, t' s H Q → t s H Q) : PTs X e t' := ⟨fun pins s σ H Q I hw => h.run pins s σ H Q I (hi _ _ _ hw)⟩
theorem pts_true {e : E} (h : isTrueE e = true) : PTs X [] (tT X.K T P k W e) := by
  have e1 : e = .c (.bl true) := by
    unfold isTrueE at h
    split at h
    · rfl
    · cases h
  subst e1
  refine pts_nil.imp fun s H Q h => ?_
  obtain ⟨G, F, ρ, μ, σ, w, sr, h⟩ := h
  exact h F ρ true H (Same.refl _) (List.prefix_refl _) w rfl
theorem comp_imp {mu : Bool} {tg : Tg} {kd : Itk} {es : Es} {c e : E} : ∀ (s : L2.St) (H : Hp) (Q : VK), tE X.K T P k W (.comp mu tg kd es c e) s H Q → tLc (tI X.K T P k W kd es) (tG X.K tg) (tT X.K T P k noW c) (tE X.K T P k noW e) tg.sets s H Q := by
  intro s H Q h
  obtain ⟨G, F, ρ, μ, σ, w, sr, h⟩ := h
  simp only [evE] at h
  refine ⟨G, F, ρ, μ, σ, w, sr, ?_⟩
  cases q : evEs (cx P k) es σ μ with
  | ex x m => rw [q] at h; exact h
  | st => rw [q] at h; exact h.elim
  | ok us m =>
    rw [q, then1_ok] at h
    unfold compop at h
    dsimp only
    cases q2 : itemsOf kd us m with
    | ex x m1 =>
      exfalso
      unfold itemsOf at q2
      revert q2
      repeat' split
      all_goals first
        | (intro z; cases z; done)
        | (unfold need; split <;> (intro z; cases z; done))
        | (unfold ofO; split <;> (intro z; cases z; done))
    | st => rw [q2] at h; exact h.elim
    | ok xs m' =>
      rw [q2] at h
      dsimp only at h ⊢
      intro F1 ρ1 H1 J s1 p1 w1 it D hD
      have hG : G D = none := w1.gsub.free hD
      generalize hok : still (srcOf kd us) xs = ok at h it
      have h := h.mono s1 p1
      have sr1 := (sr.mono s1 p1).blk tg.sets
      generalize fgt σ tg.sets = σ0 at h sr1
      refine ⟨fun i n H2 => n = xs.length - i ∧ i ≤ xs.length ∧ ∃ F2 ρ2 μ2 vs acc, Same F1 F2 ∧ ρ1 <+: ρ2 ∧ Wd X.K (upd G D (.lst vs)) F2 ρ2 μ2 H2 ∧ RpVs X.K F2 ρ2 vs acc ∧
        Post X.K G (RpV X.K) F2 ρ2 (wxAt X.K G T W σ) (then1 (mkLst mu) (compL (evE (cx P k) c) (evE (cx P k) e) tg ok σ0 (xs.drop i) μ2 acc)) Q,
        ⟨xs.length, rfl, Nat.zero_le _, F1, ρ1, m', [], [], Same.refl _, List.prefix_refl _, w1.openG hD _, .nil, h⟩, ?_⟩
      rintro i n H2 ⟨rfl, hi, F2, ρ2, μ2, vs, acc, s2, p2, w2, r2, h2⟩
      by_cases hlt : i < xs.length
      · rw [List.drop_eq_getElem_cons hlt] at h2
        have hx : xs[i]? = some xs[i] := List.getElem?_eq_getElem hlt
        generalize xs[i] = x at h2 hx
        unfold compL at h2
        split at h2
        · rename_i σ' e1 e2
          refine .inr ⟨it.go _ F2 ρ2 μ2 H2 i s2 p2 w2 e1 hlt, fun H' => (xs.length - (i + 1)) = xs.length - (i + 1) ∧ i + 1 ≤ xs.length ∧ _, fun H' q' => ⟨_, by omega, q'⟩, fun v H' y => ?_⟩
          obtain ⟨F3, s3, w3, r3⟩ := it.yld _ F2 ρ2 μ2 H2 i v H' s2 p2 w2 e1 y x hx
          refine ⟨_, F3, ρ2, μ2, x, σ0, σ', w3, (sr1.mono s2 p2).mono s3 (List.prefix_refl _), r3, e2, fun s4 sr4 wv => ⟨?_, ?_⟩⟩
          · rw [wv tg.sets fun _ hh => hh]
            exact wipe_wipe s tg.sets
          · refine ⟨_, F3, ρ2, μ2, σ', w3, sr4, ?_⟩
            cases qc : evE (cx P k) c σ' μ2 with
            | ex x m => rw [qc] at h2; exact h2.elim
            | st => rw [qc] at h2; exact h2.elim
            | ok vc mc =>
              rw [qc] at h2
              simp only [compK] at h2
              simp only [testR]
              cases qt : truth vc mc with
              | none => rw [qt] at h2; exact h2.elim
              | some b =>
                rw [qt] at h2
                intro F4 ρ4 b' H4 s4' p4 w4 r4
                have eb : b' = b := r4
                subst eb
                cases b' with
                | false =>
                  rw [if_neg Bool.false_ne_true]
                  exact ⟨trivial, hlt, F4, ρ4, mc, vs, acc, (s2.trans s3).trans s4', p2.trans p4, w4, (r2.mono s3 (List.prefix_refl _)).mono s4' p4, (h2.mono s3 (List.prefix_refl _)).mono s4' p4⟩
                | true =>
                  rw [if_pos rfl]
                  refine ⟨_, F4, ρ4, mc, σ', w4, sr4.mono s4' p4, ?_⟩
                  dsimp only at h2
                  cases qe : evE (cx P k) e σ' mc with
                  | ex x m => rw [qe] at h2; exact h2.elim
                  | st => rw [qe] at h2; exact h2.elim
                  | ok ye me =>
                    rw [qe] at h2
                    simp only [compK2] at h2
                    intro F5 ρ5 yv H5 s5 p5 w5 r5
                    have hz : szLt acc.length = true := by
                      cases qz : szLt acc.length with
                      | true => rfl
                      | false => rw [qz] at h2; exact h2.elim
                    rw [need_of _ hz] at h2
                    have r2' := ((r2.mono s3 (List.prefix_refl _)).mono s4' p4).mono s5 p5
                    exact ⟨vs, w5.gsub _ _ upd_same, by rw [Paired.len r2]; exact szLt_ hz, trivial, hlt, F5, ρ5, me, vs ++ [yv], acc ++ [ye], ((s2.trans s3).trans s4').trans s5, (p2.trans p4).trans p5, w5.stepG _, Paired.app r2' (.cons r5 .nil),
                      ((h2.mono s3 (List.prefix_refl _)).mono s4' p4).mono s5 p5⟩
        · exact h2.elim
      · have hd : xs.drop i = [] := List.drop_eq_nil_of_le (by omega)
        rw [hd] at h2
        unfold compL at h2
        cases e1 : ok μ2 with
        | false => rw [e1] at h2; exact h2.elim
        | true =>
          rw [e1, then1_ok] at h2
          refine .inl ⟨it.stop _ F2 ρ2 μ2 H2 i s2 p2 w2 e1 (by omega), ?_⟩
          unfold mkLst at h2
          cases mu with
          | true =>
            obtain ⟨_, h2⟩ := h2.need
            exact h2 F2 _ _ H2 (Same.refl _) (List.prefix_append _ _) (w2.closeM hG r2) ⟨D, rfl, by rw [← w2.len, List.getElem?_concat_length]⟩
          | false =>
            simp only at h2
            split at h2
            · rename_i ys e2
              obtain ⟨_, h2⟩ := h2.need
              have := pures_some e2
              subst this
              obtain ⟨wf, sf⟩ := w2.closeF hG
              exact h2 _ ρ2 _ H2 sf (List.prefix_refl _) wf (.lst upd_same (r2.rps.mono sf))
            · exact h2.elim
/-- a comprehension, its parts known -/
theorem snd_comp (c : CkX cc T P k W S X) {mu : Bool} {tg : Tg} {kd : Itk} {es : Es} {ce e : E} {elt t' iter : Expr} {ifs : List Expr} {scope : Scope} {pos : Pos} (hb : blkC cc.N S.sc scope (ownOf cc tg) = true) (hn : notSet iter = true)
    (hg : chkG cc ⟨relS scope S.sc, some scope⟩ tg t' = true) (hi : PI X t' iter (tI X.K T P k W kd es))
    (ht : ∀ X', CkX cc T P k noW ⟨relS scope S.sc, some scope⟩ X' → PTs X' ifs (tT X'.K T P k noW ce)) (he : ∀ X', CkX cc T P k noW ⟨relS scope S.sc, some scope⟩ X' → PE X' elt (tE X'.K T P k noW e)) :
    PE X (.ListComp elt [⟨t', iter, ifs, 0⟩] scope pos) (tE X.K T P k W (.comp mu tg kd es ce e)) := by
  have ok : BlkOk X.N X.env.scope scope (ownOf cc tg) := by
    rw [c.N, c.sc]
    exact blkOk_by hb
  refine (pe_lc (wi := tI X.K T P k W kd es) (g := tG X.K tg) (tt := tT X.K T P k noW ce) (te := tE X.K T P k noW e) c.calm c.nd hi ok (fun s H C cl fp => sndG (c.blkX scope s H C cl fp) tg t' hg) (fun s H C cl fp => ht _ (c.blkX scope s H C cl fp)) (fun s H C cl fp => he _ (c.blkX scope s H C cl fp)) (notSet_fold hn)).imp ?_
  rw [own_sets]
  exact comp_imp
end
end HP
end

section
set_option Elab.async false
set_option linter.all false
set_option maxRecDepth 100000
set_option maxHeartbeats 8000000
set_option autoImplicit false
/-! Soundness 13a: a text's slice with a step. -/
namespace HP
open PySem PySem.Spec PyProof.Rows L2

theorem sidxK (lo : Option Int) (k : Int) (n : Nat) (hk : 0 < k) : Builtin.Str.strSliceIndices lo none k n = stepIx (pyB n 0 lo) n k.toNat := by
  have h1 : (k > 0) = True := by simp; omega
  have e0 : Builtin.Str.strSliceIndices lo none k n = sliceRange (clipS n 0 lo) (n : Int) k := by
    cases lo with
    | none => simp only [Builtin.Str.strSliceIndices, clipS, h1, if_true]; rfl
    | some v => simp only [Builtin.Str.strSliceIndices, clipS, h1, if_true]
  rw [e0, clipS_eq, ← pyB_eq]
  generalize pyB n 0 lo = p
  unfold sliceRange stepIx
  simp only [h1, if_true]
  obtain ⟨q, rfl⟩ : ∃ q : Nat, k = (q : Int) := ⟨k.toNat, by omega⟩
  have hq : 0 < q := by omega
  rw [Int.toNat_natCast]
  by_cases hlt : (p : Int) < n
  · have e3 : (((n : Int) - p + q - 1) / (q : Int)).toNat = (n - p + q - 1) / q := by
      have e4 : ((n : Int) - p + q - 1) = ((n - p + q - 1 : Nat) : Int) := by omega
      rw [e4, ← Int.natCast_ediv, Int.toNat_natCast]
    simp only [hlt, if_true, e3]
    refine List.map_congr_left fun j _ => ?_
    have : (p : Int) + (q : Int) * (j : Int) = ((p + j * q : Nat) : Int) := by
      rw [Int.natCast_add, Int.natCast_mul, Int.mul_comm]
    rw [this, Int.toNat_natCast]
  · have e5 : n - p = 0 := by omega
    have e6 : (n - p + q - 1) / q = 0 := by
      rw [e5, Nat.zero_add]
      exact Nat.div_eq_of_lt (by omega)
    rw [e6]
    simp [hlt]
theorem step_len {α : Type} (xs : List α) (p k : Nat) (hk : 0 < k) : (pyStep xs p k).length ≤ xs.length := by
  unfold pyStep
  refine Nat.le_trans (List.length_filterMap_le _ _) ?_
  unfold stepIx
  rw [List.length_map, List.length_range]
  have h1 : xs.length - p ≤ xs.length := Nat.sub_le _ _
  generalize xs.length - p = m at h1
  refine Nat.le_trans ?_ h1
  cases m with
  | zero => rw [Nat.zero_add, Nat.div_eq_of_lt (by omega)]; exact Nat.le_refl _
  | succ m =>
    have : m + 1 + k - 1 = m + k := by omega
    rw [this, Nat.add_div_right _ hk]
    exact Nat.succ_le_succ (Nat.div_le_self _ _)
theorem step_toS (t : List Char) (p k : Nat) : (⟨((stepIx p t.length k).filterMap ((toS t).cps[·]?)).toArray⟩ : Str) = toS (pyStep t p k) := by
  unfold pyStep toS
  congr 2
  rw [List.map_filterMap]
  congr 1
  funext i
  simp
section
variable {X : Cx} {e y : Expr} {te : TE} {lo hi : Option Expr} {tl th ts : TO} {pos p2 : Pos}
theorem pe_sls (he : PE X e te) (hl : PO X lo tl) (hu : PO X hi th) (hs : PO X (some y) ts) : PE X (.Subscript e (.Slice lo hi (some y) p2) pos) (fun σ H Q => te σ H fun x H1 => tl σ H1 fun l H2 => th σ H2 fun u H3 => ts σ H3 fun k H4 =>
    ∃ (t : List Char) (j : Int), x = .str (toS t) ∧ u = none ∧ k = some j ∧ 0 < j ∧ t.length ≤ sizeLine ∧ Q (.str (toS (pyStep t (pyB t.length 0 l) j.toNat))) H4) := by
  refine ⟨fun pins s σ H Q I h => ?_⟩
  refine Subscript_ (thn (he.run pins s σ H _ I h) fun v s1 ⟨x, H1, I1, r1, q1⟩ => ?_)
  refine wpAny_Slice (thn (hl.run pins s1 σ H1 _ I1 q1) fun vl s2 ⟨l, H2, I2, pl, q2⟩ => thn (hu.run pins s2 σ H2 _ I2 q2) fun vu s3 ⟨u, H3, I3, pu, q3⟩ => thn (hs.run pins s3 σ H3 _ I3 q3) fun vk s4 ⟨k, H4, I4, pk, q4⟩ => ?_)
  obtain ⟨t, j, rfl, rfl, rfl, hj, hz, q⟩ := q4
  have I5 : Inv X pins σ H4 { s4 with heap := s4.heap.push { cls := .type "slice", data := .fields #[vl, vu, vk] } } := I4.kept (t' := s4.toks) fun b ob q => Heap.get?_push_of_some _ q
  obtain ⟨tk, rfl⟩ := r1
  obtain ⟨l', rfl, rfl⟩ := IsPart.raw pl
  obtain ⟨u', rfl, hu'⟩ := IsPart.raw pu
  obtain ⟨k', rfl, hk'⟩ := IsPart.raw pk
  have eu : u' = none := by cases u' <;> simp at hu' <;> first | rfl | cases hu'
  subst eu
  obtain ⟨tk2, rfl⟩ : ∃ tk2, k' = some (j, tk2) := by
    cases k' with
    | none => cases hk'
    | some z =>
      obtain ⟨a, b⟩ := z
      simp at hk'
      subst hk'
      exact ⟨b, rfl⟩
  have hs0 : ({ s4 with heap := s4.heap.push { cls := .type "slice", data := .fields #[partValue l', partValue none, partValue (some (j, tk2))] } } : Shared).heap.IsSlice s4.heap.objs.size l' none (some (j, tk2)) := ⟨_, Heap.get?_push_size _ rfl, rfl, rfl⟩
  have hg : wpAny (model X.prog X.w) X.A (getItem (.str (toS t) tk) (.ref s4.heap.objs.size)) (EP X pins σ Q) X.xe { s4 with heap := s4.heap.push { cls := .type "slice", data := .fields #[partValue l', partValue none, partValue (some (j, tk2))] } } := by
    refine wpAny_getItem_str_slice hs0 (by show (j == 0) = false; simp; omega) ?_
    have e1 : slicePicked (toS t) l' none (some (j, tk2)) = stepIx (pyB t.length 0 (l'.map (·.1))) t.length j.toNat := by
      unfold slicePicked
      rw [toS_len]
      exact sidxK _ _ _ hj
    unfold sliceMade
    rw [e1, step_toS]
    by_cases c : ((Option.map (fun x => x.1) (some (j, tk2))).getD 1 == 1 && (stepIx (pyB t.length 0 (l'.map (·.1))) t.length j.toNat).length == (toS t).length) = true
    · rw [if_pos c]
      rw [Bool.and_eq_true, toS_len] at c
      have c1 : j = 1 := eq_of_beq c.1
      have c2 : (stepIx (pyB t.length 0 (l'.map (·.1))) t.length j.toNat).length = t.length := eq_of_beq c.2
      subst c1
      have e2 : pyStep t (pyB t.length 0 (l'.map (·.1))) (1 : Int).toNat = t := by
        generalize pyB t.length 0 (l'.map (·.1)) = p at c2
        unfold stepIx at c2
        rw [List.length_map, List.length_range] at c2
        have e3 : (t.length - p + (1 : Int).toNat - 1) / (1 : Int).toNat = t.length - p := by
          show (t.length - p + 1 - 1) / 1 = _
          rw [Nat.div_one]; omega
        rw [e3] at c2
        unfold pyStep stepIx
        rw [e3, c2, List.filterMap_map]
        have e4 : ((fun i => t[i]?) ∘ fun i => p + i * (1 : Int).toNat) = fun i => t[p + i]? := by
          funext i
          show t[p + i * 1]? = _
          rw [Nat.mul_one]
        rw [e4]
        by_cases ht : t.length = 0
        · have : t = [] := List.eq_nil_of_length_eq_zero ht
          subst this
          rfl
        · have hp : p = 0 := by omega
          subst hp
          simp only [Nat.zero_add]
          exact range_get t
      rw [e2] at q
      exact ⟨.str (toS t), H4, I5, ⟨tk, rfl⟩, q⟩
    · rw [if_neg c]
      refine ⟨?_, .str _, H4, I5.tok _, ⟨_, rfl⟩, q⟩
      rw [toS_len]
      exact Nat.le_trans (step_len t _ _ (by omega)) hz
  show wpAny (model X.prog X.w) X.A (subscriptTail e (.Slice lo hi (some y) p2) (.str (toS t) tk) (.ref s4.heap.objs.size)) (EP X pins σ Q) X.xe _
  exact tail_any (ops := [.str (toS t) tk, .ref s4.heap.objs.size]) (typeIs_str _ _ _) PySem.F.slot_str_getitem.lookup hg (by with_unfolding_all rfl)
where
  range_get {α : Type} (t : List α) : (List.range t.length).filterMap (fun i => t[i]?) = t := by
    induction t with
    | nil => rfl
    | cons x r ih =>
      rw [List.length_cons, List.range_succ_eq_map, List.filterMap_cons]
      simp only [List.getElem?_cons_zero, List.filterMap_map]
      congr 1
end
section
variable {cc : Ck} {T : XT} {P : Prog} {k : Nat} {W : WX} {S : Sc} {X : Cx}
theorem slsop_ {G F : Hp} {ρ : List Addr} {wx : XP} {Q : VK} {x lo hi s : Vl} {m : Mem} (h : Post X.K G (RpV X.K) F ρ wx (slsop x lo hi s m) Q) : ∃ t l j, x = .d (.str t) ∧ boundOf lo = some l ∧ hi = .d .non ∧ s = .d (.int j) ∧
    Post X.K G (RpV X.K) F ρ wx (need (decide (0 < j ∧ j < 1000000)) (.ok (.d (.str (pyStep t (pyB t.length 0 l) j.toNat))) m)) Q := by
  unfold slsop at h
  split at h
  · exact ⟨_, _, _, rfl, by assumption, rfl, rfl, h⟩
  · exact h.elim
theorem snd_sls {l : Expr} {lo' hi' : Option Expr} {st' : Expr} {a lo hi st : E} {pos p2 : Pos} (ha : PE X l (tE X.K T P k W a)) (hl : PO X lo' (tPO X.K T P k W lo)) (hh : PO X hi' (tPO X.K T P k W hi)) (hs : PO X (some st') (tPO X.K T P k W st)) :
    PE X (.Subscript l (.Slice lo' hi' (some st') p2) pos) (tE X.K T P k W (.sls a lo hi st)) := by
  refine (pe_sls ha hl hh hs).imp fun s H Q h => ?_
  obtain ⟨G, F, ρ, μ, σ, w, sr, h⟩ := h
  simp only [evE] at h
  refine ⟨G, F, ρ, μ, σ, w, sr, ?_⟩
  have h0 : Post X.K G (RpV X.K) F ρ (wxAt X.K G T W σ) (evE (cx P k) a σ μ) (Mid X.K G (RpV X.K) (RpV X.K) F ρ (wxAt X.K G T W σ) (fun x m => then3 (slsop x) (evE (cx P k) hi) (evE (cx P k) st) σ (evE (cx P k) lo σ m)) Q) :=
    Post.bind h (fun _ _ => rfl) (fun _ _ => rfl) rfl
  refine h0.imp fun x H1 ⟨F1, ρ1, va, m1, w1, r1, s1, p1, h1⟩ => ?_
  have h1' : Post X.K G (fun F ρ o d => boundOf d = some o) F1 ρ1 (wxAt X.K G T W σ) (evE (cx P k) lo σ m1) (Mid X.K G (fun F ρ o d => boundOf d = some o) (RpV X.K) F1 ρ1 (wxAt X.K G T W σ) (fun y m => then2 (slsop va y) (evE (cx P k) st) σ (evE (cx P k) hi σ m)) Q) :=
    Post.bind h1 (fun _ _ => rfl) (fun _ _ => rfl) rfl
  refine ⟨G, F1, ρ1, m1, σ, w1, sr.mono s1 p1, h1'.imp fun ol H2 ⟨F2, ρ2, vl, m2, w2, r2, s2, p2, h2⟩ => ?_⟩
  refine ⟨G, F2, ρ2, m2, σ, w2, (sr.mono s1 p1).mono s2 p2, (Post.th2 (ra := fun F ρ o d => boundOf d = some o) h2).imp fun oh H3 ⟨F3, ρ3, vh, m3, w3, r3, s3, p3, h3⟩ => ?_⟩
  refine ⟨G, F3, ρ3, m3, σ, w3, ((sr.mono s1 p1).mono s2 p2).mono s3 p3, (Post.th1 (ra := fun F ρ o d => boundOf d = some o) h3).imp fun ok H4 ⟨F4, ρ4, vk, m4, w4, r4, s4, p4, h4⟩ => ?_⟩
  have r2' : boundOf vl = some ol := r2
  have r3' : boundOf vh = some oh := r3
  have r4' : boundOf vk = some ok := r4
  obtain ⟨t, l1, j, rfl, q, rfl, rfl, h4⟩ := slsop_ h4
  rw [r2'] at q
  cases q
  obtain ⟨hj, h4⟩ := h4.need
  have hj := of_decide_eq_true (p := 0 < j ∧ j < 1000000) hj
  obtain ⟨rfl, hz⟩ := (((r1.mono s2 p2).mono s3 p3).mono s4 p4).str_
  cases r3'; cases r4'
  refine ⟨t, j, rfl, rfl, rfl, hj.1, hz, ?_⟩
  exact Post.same h4 w4 (.str _ (Nat.le_trans (step_len t _ _ (by omega)) hz))
theorem snd_index : MtR X "str.index" (rMeth X.K (meth .index)) := by
  intro pins s σ H x xs v us Q I rx rs h
  obtain ⟨G, F, ρ, μ, a, as, wx, w, ra, ras, hp⟩ := h
  simp only [meth] at hp
  split at hp <;> first | (rename_i q; cases q) | skip
  · rename_i t y
    obtain ⟨y', rfl, ry⟩ := RpVs.one ras
    obtain ⟨rfl, _⟩ := ra.str_; obtain ⟨rfl, _⟩ := ry.str_
    split at hp
    · rename_i i e
      have eo := occ_find t y
      rw [e] at eo
      exact mt_sindex pins s σ H _ _ v us Q I rx rs ⟨_, _, i, [], rfl, rfl, eo, hp.same w (.int _)⟩
    · exact hp.elim
  · exact hp.elim
end
end HP
end

section
set_option Elab.async false
set_option linter.all false
set_option maxRecDepth 100000
set_option maxHeartbeats 16000000
set_option autoImplicit false
/-! Soundness 14: all expressions. -/
namespace HP
open PySem PySem.Spec PyProof.Rows L2

section
variable {cc : Ck} {T : XT} {P : Prog} {k : Nat} {W : WX} {S : Sc} {X : Cx}
theorem tc_imp {d : D} {v : V} (r : Rp X.K (fun _ => none) v d) : ∀ s H Q, tE X.K T P k W (.c d) s H Q → tC v s H Q := by
  intro s H Q h
  obtain ⟨G, F, ρ, μ, σ, w, sr, h⟩ := h
  exact Post.same h w (Rp.mono (fun b o e => by cases (show (none : Option HO) = some o from e)) r)
theorem snd_c {d : D} {x : Expr} (h : constB d x = true) : PE X x (tE X.K T P k W (.c d)) := by
  unfold constB at h
  split at h
  · have := of_decide_eq_true h
    subst this
    exact pe_int.imp (tc_imp (.int _))
  · simp only [Bool.and_eq_true, decide_eq_true_eq] at h
    obtain ⟨h1, h2⟩ := h
    subst h1
    exact pe_str.imp (tc_imp (.str _ (by rw [sizeLine_eq]; omega)))
  · have := of_decide_eq_true h
    subst this
    exact pe_bl.imp (tc_imp (.bl _))
  · exact pe_non.imp (tc_imp .non)
  · cases h
theorem const_plain {d : D} {x : Expr} (h : constB d x = true) : plainX x = true := by
  unfold constB at h
  split at h <;> first | rfl | cases h
theorem itArgs_pi (c : CkX cc T P k W S X) {kd : Itk} {iter tg : Expr} {xs : List Expr} {es : Es} (h : itArgs cc S kd tg iter = some xs) (hs : chkEs cc es S xs = true) (ha : PA X xs (tEs X.K T P k W es))
    (h1 : ∀ x e, xs = [x] → es = .cons e .nil → PE X x (tE X.K T P k W e)) : PI X tg iter (tI X.K T P k W kd es) := by
  unfold itArgs at h
  split at h
  · split at h
    · cases h
      cases es with
      | nil => simp [chkEs] at hs
      | cons e es =>
        cases es with
        | nil => exact pi_seq (h1 _ e rfl rfl)
        | cons _ _ => simp [chkEs] at hs
    · cases h
  · split at h
    · rename_i hh
      obtain ⟨rfl, h2, h3⟩ := hh
      cases h
      obtain ⟨hg, hm⟩ := c.bltn h2
      rcases h3 with h3 | h3
      · match xs, h3 with
        | [a], _ =>
          cases es with
          | nil => simp [chkEs] at hs
          | cons e es =>
            cases es with
            | nil =>
              simp only [chkEs, Bool.and_eq_true] at hs
              exact pi_rng1 hg hm ha hs.1.1
            | cons _ _ => simp [chkEs] at hs
      · match xs, h3 with
        | [a, b], _ =>
          cases es with
          | nil => simp [chkEs] at hs
          | cons e es =>
            cases es with
            | nil => simp [chkEs] at hs
            | cons e' es =>
              cases es with
              | nil =>
                simp only [chkEs, Bool.and_eq_true] at hs
                exact pi_rng2 hg hm ha hs.1.1 hs.2.1.1
              | cons _ _ => simp [chkEs] at hs
    · cases h
  · split at h
    · rename_i hh
      obtain ⟨rfl, h2, h3⟩ := hh
      cases h
      obtain ⟨hg, hm⟩ := c.bltn h2
      match xs, h3 with
      | [a], _ =>
        cases es with
        | nil => simp [chkEs] at hs
        | cons e es =>
          cases es with
          | nil =>
            simp only [chkEs, Bool.and_eq_true] at hs
            exact pi_rev hg hm (h1 _ e rfl rfl) hs.1.1
          | cons _ _ => simp [chkEs] at hs
    · cases h
  · split at h
    · rename_i hh
      obtain ⟨rfl, h2, h3⟩ := hh
      cases h
      obtain ⟨hg, hm⟩ := c.bltn h2
      match xs, h3 with
      | [a, b], _ =>
        cases es with
        | nil => simp [chkEs] at hs
        | cons e es =>
          cases es with
          | nil => simp [chkEs] at hs
          | cons e' es =>
            cases es with
            | nil =>
              simp only [chkEs, Bool.and_eq_true] at hs
              exact pi_zipE hg hm ha (starEach_cons hs.1.1) (by rw [starEach_cons hs.2.1.1]; rfl)
            | cons _ _ => simp [chkEs] at hs
    · cases h
  · cases h
end
section
variable {cc : Ck} {T : XT} {P : Prog} {k : Nat}
theorem isiArgs_ {S : Sc} {t : Ty} {x : Expr} {xs : List Expr} (h : isiArgs cc S t x = some xs) : ∃ p y n2 p2 pos, x = .Call (.Name "isinstance" p) [y, .Name n2 p2] [] pos ∧ xs = [y] ∧ bltB cc S "isinstance" = true ∧ n2 = tyName t ∧ bltB cc S n2 = true ∧ notStar y = true ∧ t ≠ .none := by
  unfold isiArgs at h
  split at h
  · split at h
    · rename_i hh
      obtain ⟨rfl, h2, h3, h4, h5, h6⟩ := hh
      cases h
      exact ⟨_, _, _, _, _, rfl, rfl, h2, h3, h4, h5, h6⟩
    · cases h
  · cases h
theorem blArgs_ {S : Sc} {pr : Pr} {x : Expr} {xs : List Expr} (h : blArgs cc S pr x = some xs) : ∃ n p y ys pos b, x = .Call (.Name n p) (y :: ys) [] pos ∧ xs = y :: ys ∧ prName pr = some (n, b) ∧ bltB cc S n = true := by
  unfold blArgs at h
  split at h
  · split at h
    · rename_i q
      split at h
      · rename_i hh
        obtain ⟨rfl, h2⟩ := hh
        cases h
        exact ⟨_, _, _, _, _, _, rfl, rfl, q, h2⟩
      · cases h
    · cases h
  · cases h
theorem snd_prAll {W : WX} {S : Sc} {X : Cx} {x : Expr} {p : Pr} {es : Es} (c : CkX cc T P k W S X) (h : chkE cc (.pr p es) S x = true) (hq : ∀ xs, chkEs cc es S xs = true → PA X xs (tEs X.K T P k W es) ∧ (∀ x e, xs = [x] → es = .cons e .nil → PE X x (tE X.K T P k W e))) :
    PE X x (tE X.K T P k W (.pr p es)) ∧ plainX x = true := by
  simp only [chkE] at h
  cases e1 : prArgs cc S p x with
  | none => rw [e1] at h; cases h
  | some xs =>
    rw [e1] at h
    dsimp only at h
    unfold prArgs at e1
    split at e1
    · obtain ⟨p1, y, n2, p2, pos, rfl, rfl, h2, h3, h4, h5, ht⟩ := isiArgs_ e1
      have qs := hq _ h
      cases es with
      | nil => simp [chkEs] at h
      | cons e es =>
        cases es with
        | cons _ _ => simp [chkEs] at h
        | nil => exact ⟨snd_isi (p := p1) (p2 := p2) (pos := pos) c rfl h2 h3 h4 ht h5 (qs.2 y e rfl rfl), rfl⟩
    · obtain ⟨n, p1, y, ys, pos, b, rfl, rfl, h2, h3⟩ := blArgs_ e1
      exact ⟨snd_pr c h2 h3 h (hq _ h).1, rfl⟩
theorem both {W : WX} {X : Cx} {x : Expr} {e : E} (q : PE X x (tE X.K T P k W e)) (h : plainX x = true) : PE X x (tE X.K T P k W e) ∧ (noFrz e = true → PT X x (tT X.K T P k W e)) := ⟨q, fun _ => pt_of q h⟩
mutual
theorem sndE : ∀ (e : E) (W : WX) (S : Sc) (X : Cx) (x : Expr), CkX cc T P k W S X → chkE cc e S x = true → PE X x (tE X.K T P k W e) ∧ (noFrz e = true → PT X x (tT X.K T P k W e))
  | .c d, W, S, X, x, c, h => by
    simp only [chkE] at h
    exact ⟨snd_c h, fun _ => pt_of (snd_c h) (const_plain h)⟩
  | .v i, W, S, X, x, c, h => by
    cases x <;> simp only [chkE] at h <;> first | (cases h; done) | skip
    simp only [Bool.and_eq_true] at h
    exact both (snd_v c h.1.1 h.1.2 h.2) rfl
  | .g i, W, S, X, x, c, h => by
    cases x <;> simp only [chkE] at h <;> first | (cases h; done) | skip
    simp only [Bool.and_eq_true] at h
    exact both (snd_g c (of_decide_eq_true h.1.1) h.1.2 h.2) rfl
  | .bin op a b, W, S, X, x, c, h => by
    cases x <;> simp only [chkE] at h <;> first | (cases h; done) | skip
    simp only [Bool.and_eq_true] at h
    obtain ⟨⟨h1, h2⟩, h3⟩ := h
    have e := opEq_ h1
    subst e
    exact both ((pe_op (snd_bin op) (sndE a W S X _ c h2).1 (sndE b W S X _ c h3).1).imp (bin_imp' (e := .bin op a b) (fun _ _ => rfl))) rfl
  | .neg a, W, S, X, x, c, h => by
    cases x <;> simp only [chkE] at h <;> first | (cases h; done) | skip
    rename_i op y pos
    cases op <;> first | (cases h; done) | skip
    have q : PE X (.UnaryOp .USub y pos) (tE X.K T P k W (.neg a)) := by
      refine (pe_un snd_neg (sndE a W S X _ c h).1).imp fun s H Q h => ?_
      obtain ⟨G, F, ρ, μ, σ, w, sr, h⟩ := h
      simp only [evE] at h
      refine ⟨G, F, ρ, μ, σ, w, sr, (Post.th1 (ra := RpV X.K) h).imp fun x H1 ⟨F1, ρ1, va, m1, w1, r1, s1, p1, h1⟩ => ?_⟩
      exact ⟨G, F1, ρ1, m1, va, _, w1, r1, h1⟩
    exact ⟨q, fun _ => pt_of q rfl⟩
  | .not a, W, S, X, x, c, h => by
    cases x <;> simp only [chkE] at h <;> first | (cases h; done) | skip
    rename_i op y pos
    cases op <;> first | (cases h; done) | skip
    simp only [Bool.and_eq_true] at h
    have q := sndE a W S X _ c h.1
    exact ⟨snd_not q.1, fun _ => snd_notT (q.2 h.2)⟩
  | .and a b, W, S, X, x, c, h => by
    simp only [chkE] at h
    split at h
    · simp only [Bool.and_eq_true] at h
      have q1 := sndE a W S X _ c h.1.1
      have q2 := sndE b W S X _ c h.2.1
      exact ⟨snd_and q1.1 (pe_one q2.1), fun _ => snd_andT (q1.2 h.1.2) (pw_and1 (q2.2 h.2.2))⟩
    · simp only [Bool.and_eq_true] at h
      have q1 := sndE a W S X _ c h.1.1
      have q2 := sndE b W S X _ c h.2.1
      exact ⟨snd_and q1.1 q2.1, fun _ => snd_andT (q1.2 h.1.2) (pw_of_pt (q2.2 h.2.2))⟩
    · cases h
  | .or a b, W, S, X, x, c, h => by
    simp only [chkE] at h
    split at h
    · simp only [Bool.and_eq_true] at h
      have q1 := sndE a W S X _ c h.1.1
      have q2 := sndE b W S X _ c h.2.1
      exact ⟨snd_or q1.1 (pe_one q2.1), fun _ => snd_orT (q1.2 h.1.2) (pw_or1 (q2.2 h.2.2))⟩
    · simp only [Bool.and_eq_true] at h
      have q1 := sndE a W S X _ c h.1.1
      have q2 := sndE b W S X _ c h.2.1
      exact ⟨snd_or q1.1 q2.1, fun _ => snd_orT (q1.2 h.1.2) (pw_of_pt (q2.2 h.2.2))⟩
    · cases h
  | .cmp op a b, W, S, X, x, c, h => by
    simp only [chkE] at h
    split at h
    · simp only [Bool.and_eq_true] at h
      obtain ⟨⟨⟨h1, h2⟩, h3⟩, h4⟩ := h
      have e := cmEq_ h1
      subst e
      have q1 := sndE a W S X _ c h3
      have q2 := sndE b W S X _ c h4
      have hu := room_u c.room
      exact ⟨(pe_cmpR (snd_cmp hu op) q1.1 q2.1 (notSet_marks h2)).imp (bin_imp' (e := .cmp op a b) (fun _ _ => rfl)), fun _ => snd_cmpT hu rfl h2 q1.1 q2.1⟩
    · cases h
  | .chain o p a b d, W, S, X, x, c, h => by
    simp only [chkE] at h
    split at h
    · simp only [Bool.and_eq_true] at h
      obtain ⟨⟨⟨⟨⟨h1, h2⟩, h3⟩, h4⟩, h5⟩, h6⟩ := h
      have q1 := (sndE a W S X _ c h4).1
      have q2 := (sndE b W S X _ c h5).1
      have q3 := (sndE d W S X _ c h6).1
      have hu := room_u c.room
      exact ⟨snd_chain hu (cmEq_ h1) (cmEq_ h2) h3 q1 q2 q3, fun _ => snd_chainT hu (cmEq_ h1) (cmEq_ h2) h3 q1 q2 q3⟩
    · cases h
  | .ite a b d, W, S, X, x, c, h => by
    cases x <;> simp only [chkE] at h <;> first | (cases h; done) | skip
    simp only [Bool.and_eq_true] at h
    obtain ⟨⟨⟨h1, h2⟩, ⟨h3, h4⟩⟩, ⟨h5, h6⟩⟩ := h
    have q1 := sndE a W S X _ c h1
    have q2 := sndE b W S X _ c h3
    have q3 := sndE d W S X _ c h5
    exact ⟨snd_ite (q1.2 h2) q2.1 q3.1, fun _ => snd_iteT (q1.2 h2) (q2.2 h4) (q3.2 h6)⟩
  | .tup es, W, S, X, x, c, h => by
    cases x <;> simp only [chkE] at h <;> first | (cases h; done) | skip
    exact both (snd_tup (n := _) (pos := _) (sndEs es W S X _ c h).1) rfl
  | .lst mu es, W, S, X, x, c, h => by
    cases x <;> simp only [chkE] at h <;> first | (cases h; done) | skip
    exact both (snd_lst (mu := mu) (pos := _) (sndEs es W S X _ c h).1) rfl
  | .dic _ _, W, S, X, x, c, h => by simp [chkE] at h
  | .ix a i, W, S, X, x, c, h => by
    cases x <;> simp only [chkE] at h <;> first | (cases h; done) | skip
    simp only [Bool.and_eq_true] at h
    exact both (snd_ixE (pos := _) h.1.1 (sndE a W S X _ c h.1.2).1 (sndE i W S X _ c h.2).1) rfl
  | .sl a lo hi, W, S, X, x, c, h => by
    simp only [chkE] at h
    split at h
    · simp only [Bool.and_eq_true] at h
      exact both (snd_sl (sndE a W S X _ c h.1.1).1 (po_no h.1.2) (po_no h.2)) rfl
    · simp only [Bool.and_eq_true] at h
      exact both (snd_sl (sndE a W S X _ c h.1.1.1).1 (po_yes h.1.1.2 (sndE lo W S X _ c h.1.2).1) (po_no h.2)) rfl
    · simp only [Bool.and_eq_true] at h
      exact both (snd_sl (sndE a W S X _ c h.1.1.1).1 (po_no h.1.1.2) (po_yes h.1.2 (sndE hi W S X _ c h.2).1)) rfl
    · simp only [Bool.and_eq_true] at h
      exact both (snd_sl (sndE a W S X _ c h.1.1.1.1).1 (po_yes h.1.1.1.2 (sndE lo W S X _ c h.1.1.2).1) (po_yes h.1.2 (sndE hi W S X _ c h.2).1)) rfl
    · cases h
  | .sls a lo hi st, W, S, X, x, c, h => by
    simp only [chkE] at h
    split at h
    · simp only [Bool.and_eq_true] at h
      exact both (snd_sls (sndE a W S X _ c h.1.1.1.1).1 (po_no h.1.1.1.2) (po_no h.1.1.2) (po_yes h.1.2 (sndE st W S X _ c h.2).1)) rfl
    · simp only [Bool.and_eq_true] at h
      exact both (snd_sls (sndE a W S X _ c h.1.1.1.1.1).1 (po_yes h.1.1.1.1.2 (sndE lo W S X _ c h.1.1.1.2).1) (po_no h.1.1.2) (po_yes h.1.2 (sndE st W S X _ c h.2).1)) rfl
    · cases h
  | .prt e, W, S, X, x, c, h => by
    simp only [chkE] at h
    exact ⟨snd_prt (sndE e W S X x c h).1, fun z => nomatch z⟩
  | .call f es, W, S, X, x, c, h => by
    simp only [chkE] at h
    split at h
    · simp only [Bool.and_eq_true] at h
      exact both (snd_call c (of_decide_eq_true h.1.1.1) h.1.1.2 h.1.2 h.2 (sndEs es W S X _ c h.2).1) rfl
    · cases h
  | .pr p es, W, S, X, x, c, h => by
    obtain ⟨q1, q2⟩ := snd_prAll c h fun xs h' => sndEs es W S X xs c h'
    exact both q1 q2
  | .mt m a es, W, S, X, x, c, h => by
    simp only [chkE] at h
    split at h
    · simp only [Bool.and_eq_true, decide_eq_true_eq] at h
      obtain ⟨⟨⟨⟨⟨h1, h2⟩, h3⟩, h4⟩, h5⟩, h6⟩ := h
      exact both (snd_mt snd_index (T := T) (P := P) (k := k) (W := W) (cc := cc) (S := S) h1 (sndE a W S X _ c h5).1 h6 (sndEs es W S X _ c h6).1 h2 h3 h4) rfl
    · cases h
  | .comp mu tg kd es ce e, W, S, X, x, c, h => by
    simp only [chkE] at h
    split at h
    · rename_i elt t' iter ifs ias scope pos
      simp only [Bool.and_eq_true, decide_eq_true_eq] at h
      obtain ⟨⟨⟨⟨⟨⟨h1, h2⟩, h3⟩, h4⟩, h5⟩, h6⟩, h7⟩ := h
      subst h1
      have hi : PI X t' iter (tI X.K T P k W kd es) := by
        split at h5
        · rename_i xs e1
          have q := sndEs es W S X _ c h5
          exact itArgs_pi c e1 h5 q.1 q.2
        · cases h5
      have ht : ∀ X', CkX cc T P k noW ⟨relS scope S.sc, some scope⟩ X' → PTs X' ifs (tT X'.K T P k noW ce) := fun X' c' => by
        split at h6
        · exact pts_true h6
        · simp only [Bool.and_eq_true] at h6
          exact pts_one ((sndE ce noW _ X' _ c' h6.1).2 h6.2)
        · cases h6
      exact both (snd_comp (mu := mu) (pos := pos) c h2 h4 h3 hi ht fun X' c' => (sndE e noW _ X' _ c' h7).1) rfl
    · cases h
  | .dcomp _ _ _ _ _ _, W, S, X, x, c, h => by simp [chkE] at h
  | .frz e, W, S, X, x, c, h => by
    simp only [chkE] at h
    exact ⟨snd_frz (sndE e W S X x c h).1, fun z => nomatch z⟩
  | .attr _ _, W, S, X, x, c, h => by simp [chkE] at h
theorem sndEs : ∀ (es : Es) (W : WX) (S : Sc) (X : Cx) (xs : List Expr), CkX cc T P k W S X → chkEs cc es S xs = true → PA X xs (tEs X.K T P k W es) ∧ (∀ x e, xs = [x] → es = .cons e .nil → PE X x (tE X.K T P k W e))
  | .nil, W, S, X, xs, c, h => by
    cases xs with
    | nil => exact ⟨snd_noargs, fun _ _ z => nomatch z⟩
    | cons _ _ => simp [chkEs] at h
  | .cons e es, W, S, X, xs, c, h => by
    cases xs with
    | nil => simp [chkEs] at h
    | cons x xs =>
      simp only [chkEs, Bool.and_eq_true] at h
      have q1 := (sndE e W S X x c h.1.2).1
      have q2 := (sndEs es W S X xs c h.2).1
      refine ⟨snd_args q1 q2 h.1.1, fun y e' z z' => ?_⟩
      cases z; cases z'
      exact q1
end
end
end HP
end

section
set_option Elab.async false
set_option linter.all false
set_option maxRecDepth 100000
set_option maxHeartbeats 16000000
set_option autoImplicit false
/-! Soundness 15: statements. -/
namespace HP
open PySem PySem.Spec PyProof.Rows L2

/-! ### the checker of statements -/
def noComp : Expr → Bool
  | .ListComp _ _ _ _ => false
  | .SetComp _ _ _ _ => false
  | .DictComp _ _ _ _ _ => false
  | _ => true
def isLc : Expr → Bool
  | .ListComp _ _ _ _ => true
  | _ => false
def noTup : Expr → Bool
  | .Tuple _ _ _ => false
  | _ => true
def isGhost : S → Bool
  | .frz _ => true
  | .fgt _ => true
  | _ => false
def isComp : E → Bool
  | .comp _ _ _ _ _ _ => true
  | _ => false
def isName : Expr → Bool
  | .Name _ _ => true
  | _ => false
mutual
def chkS (cc : Ck) : S → Sc → Stmt → Bool
  | .asg tg e, S, .Assign [t] v _ => chkG cc S tg t && chkE cc e S v && ((noComp v && noTup v) || (isLc v && isComp e && isName t && decide (S.sc.kind = .function)))
  | .setix a i e, S, .Assign [.Subscript o j _] v _ => notSlice j && noComp v && chkE cc a S o && chkE cc i S j && chkE cc e S v
  | .aug i op e, S, .AugAssign (.Name n _) o v _ => slotB cc i n && locB S n && opEq (opOf op) o && chkE cc e S v
  | .ex e, S, .Expr v _ => noComp v && chkE cc e S v
  | .pass, _, .Expr (.Constant (.str _) _ _) _ => true
  | .pass, _, .Pass _ => true
  | .brk, _, .Break _ => true
  | .cnt, _, .Continue _ => true
  | .ret e, S, .Return (some v) _ => chkE cc e S v
  | .retn, _, .Return none _ => true
  | .ite c a b, S, .If t p q _ => chkE cc c S t && noFrz c && chkSs cc a S p && chkSs cc b S q
  | .for_ tg k es body, S, .For t iter p [] _ => chkG cc S tg t && notSet iter && (match itArgs cc S k t iter with
      | some xs => chkEs cc es S xs
      | none => false) && chkSs cc body S p
  | .whl c body, S, .While t p [] _ => chkE cc c S t && noFrz c && chkSs cc body S p
  | _, _, _ => false
def chkSs (cc : Ck) : Ss → Sc → List Stmt → Bool
  | .nil, _, sts => sts.isEmpty
  | .cons s ss, S, sts => if isGhost s = true then chkSs cc ss S sts else match sts with
    | st :: r => chkS cc s S st && chkSs cc ss S r
    | [] => false
end

/-! ### readings -/
def PostF (K : PySem.W.Frag) (G : Hp) (T : XT) (W : WX) (F : Hp) (ρ : List Addr) (r : Fl) (D : Ends) : Prop := match r with
  | .nx σ m => ∀ F' ρ' s H', Same F F' → ρ <+: ρ' → Wd K G F' ρ' m H' → SlR K F' ρ' s σ → D.nx s H'
  | .bk σ m => ∀ F' ρ' s H', Same F F' → ρ <+: ρ' → Wd K G F' ρ' m H' → SlR K F' ρ' s σ → D.bk s H'
  | .ct σ m => ∀ F' ρ' s H', Same F F' → ρ <+: ρ' → Wd K G F' ρ' m H' → SlR K F' ρ' s σ → D.ct s H'
  | .rt v m => ∀ F' ρ' x H', Same F F' → ρ <+: ρ' → Wd K G F' ρ' m H' → RpV K F' ρ' x v → D.rt x H'
  | .ex x σ m => (wxAt K G T W σ).p F ρ x m
  | .st => False
section
variable {K : PySem.W.Frag} {G : Hp} {T : XT} {W : WX} {F F' : Hp} {ρ ρ' : List Addr} {r : Fl} {D D' : Ends}
theorem PostF.mono (h : PostF K G T W F ρ r D) (e : Same F F') (p : ρ <+: ρ') : PostF K G T W F' ρ' r D := by
  cases r with
  | nx σ m => exact fun F2 ρ2 s H2 s2 p2 w l => h F2 ρ2 s H2 (e.trans s2) (p.trans p2) w l
  | bk σ m => exact fun F2 ρ2 s H2 s2 p2 w l => h F2 ρ2 s H2 (e.trans s2) (p.trans p2) w l
  | ct σ m => exact fun F2 ρ2 s H2 s2 p2 w l => h F2 ρ2 s H2 (e.trans s2) (p.trans p2) w l
  | rt v m => exact fun F2 ρ2 s H2 s2 p2 w l => h F2 ρ2 s H2 (e.trans s2) (p.trans p2) w l
  | ex x σ m => exact (wxAt K G T W σ).mono e p h
  | st => exact h
/-- an expression, then the rest -/
theorem PostF.fl {α β : Type} {rel : Hp → List Addr → β → α → Prop} {g : α → Mem → Fl} {σ : Sl} {q : R α} (h : PostF K G T W F ρ (fl1 g σ q) D) :
    Post K G rel F ρ (wxAt K G T W σ) q fun v H => ∃ F1 ρ1 a m, Wd K G F1 ρ1 m H ∧ rel F1 ρ1 v a ∧ Same F F1 ∧ ρ <+: ρ1 ∧ PostF K G T W F1 ρ1 (g a m) D := by
  cases q with
  | ok a m => exact fun F1 ρ1 v H1 s1 p1 w1 r1 => ⟨F1, ρ1, a, m, w1, r1, s1, p1, PostF.mono h s1 p1⟩
  | ex x m => exact h
  | st => exact h
theorem PostF.fin {σ : Sl} {μ : Mem} {s : L2.St} {H : Hp} (h : PostF K G T W F ρ (.nx σ μ) D) (w : Wd K G F ρ μ H) (l : SlR K F ρ s σ) : D.nx s H := h F ρ s H (Same.refl _) (List.prefix_refl _) w l
end
def tS (K : PySem.W.Frag) (T : XT) (P : Prog) (k : Nat) (W : WX) (r : Sl → Mem → Fl) : TS := fun D s H => ∃ G F ρ μ σ, Wd K G F ρ μ H ∧ SlR K F ρ s σ ∧ PostF K G T W F ρ (r σ μ) D
theorem _root_.L2.PS.imp {X : Cx} {e : Stmt} {t t' : TS} (h : PS X e t) (hi : ∀ D s H, t' D s H → t D s H) : PS X e t' := ⟨fun pins s σ H D I hw => h.run pins s σ H D I (hi _ _ _ hw)⟩
theorem _root_.L2.PSs.imp {X : Cx} {e : List Stmt} {t t' : TS} (h : PSs X e t) (hi : ∀ D s H, t' D s H → t D s H) : PSs X e t' := ⟨fun pins s σ H D I hw => h.run pins s σ H D I (hi _ _ _ hw)⟩
theorem swaps_no {v t : Expr} {n : Nat} {env : Env} (h : noComp v = true) : swapsWithSole [t] v n env = pure false := by
  cases v <;> first | rfl | cases h
theorem swaps_no0 {v : Expr} {n : Nat} {env : Env} (h : noComp v = true) : swapsWith v none n env = pure false := by
  cases v <;> first | rfl | cases h
theorem swapped_no {v t : Expr} {env : Env} (h : noTup v = true) : swappedStores [t] v env = pure none := by
  cases v <;> first | (cases t <;> rfl) | cases h
theorem assignEach_one {cc : Ck} {S : Sc} {tg : Tg} {t : Expr} {env : Env} (h : chkG cc S tg t = true) : (assignEach [t] env).map (·.2) = [assign t env] := by
  cases t <;> first | rfl | (cases tg <;> simp [chkG] at h)
section
variable {cc : Ck} {T : XT} {P : Prog} {k : Nat} {W : WX} {S : Sc} {X : Cx}
/-- what statements lean on -/
structure CkS (cc : Ck) (T : XT) (P : Prog) (k : Nat) (W : WX) (S : Sc) (X : Cx) : Prop where
  x : CkX cc T P k W S X
  po : PassesOwn (model X.prog X.w) X.A X.env X.xe
theorem asg_imp {tg : Tg} {e : E} : ∀ D s H, tS X.K T P k W (evS (cx P k) (.asg tg e)) D s H → tAsg (tE X.K T P k W e) (tG X.K tg) D s H := by
  intro D s H h
  obtain ⟨G, F, ρ, μ, σ, w, sr, h⟩ := h
  simp only [evS] at h
  refine ⟨G, F, ρ, μ, σ, w, sr, (PostF.fl (rel := RpV X.K) h).imp fun x H1 ⟨F1, ρ1, va, m1, w1, r1, s1, p1, h1⟩ => ?_⟩
  unfold asgE at h1
  split at h1
  · rename_i σ' e1
    exact ⟨G, F1, ρ1, m1, va, σ, σ', w1, sr.mono s1 p1, r1, e1, fun s' l _ => PostF.fin h1 w1 l⟩
  · exact h1.elim
theorem tI_weak {kd : Itk} {es : Es} {s : L2.St} {H : Hp} {Z Z' : It → Hp → Prop} (h : tI X.K T P k W kd es s H Z) (hq : ∀ J H1, Z J H1 → Z' J H1) : tI X.K T P k W kd es s H Z' := by
  obtain ⟨G, F, ρ, μ, σ, w, sr, h⟩ := h
  refine ⟨G, F, ρ, μ, σ, w, sr, ?_⟩
  cases q : evEs (cx P k) es σ μ with
  | ex x m => rw [q] at h; exact h
  | st => rw [q] at h; exact h.elim
  | ok us m =>
    rw [q] at h
    dsimp only at h ⊢
    cases q2 : itemsOf kd us m with
    | ex x m1 => rw [q2] at h; exact h.elim
    | st => rw [q2] at h; exact h.elim
    | ok xs m' =>
      rw [q2] at h
      exact fun F' ρ' H' J s1 p1 w1 it => hq _ _ (h F' ρ' H' J s1 p1 w1 it)
theorem lc_weak {kd : Itk} {es : Es} {g : TG} {tt : TT} {te : TE} {vs : List Nat} {s : L2.St} {H : Hp} {Q Q' : VK} (h : tLc (tI X.K T P k W kd es) g tt te vs s H Q) (hq : ∀ x H1, Q x H1 → Q' x H1) : tLc (tI X.K T P k W kd es) g tt te vs s H Q' := by
  refine tI_weak h fun J H1 h D hD => ?_
  obtain ⟨W, w0, st⟩ := h D hD
  exact ⟨W, w0, fun i m H w => (st i m H w).elim (fun q => .inl ⟨q.1, hq _ _ q.2⟩) .inr⟩
theorem ps_asgC (c : CkX cc T P k W S X) {y : Str} {i : Nat} {mu : Bool} {tg : Tg} {kd : Itk} {es : Es} {ce e : E} {py pos spos : Pos} {elt t' iter : Expr} {ifs : List Expr} {scope : Scope} (hk : S.sc.kind = .function) (hs : slotB cc i y = true) (hl : locB S y = true)
    (hb : blkC cc.N S.sc scope (ownOf cc tg) = true) (hn : notSet iter = true)
    (hg : chkG cc ⟨relS scope S.sc, some scope⟩ tg t' = true) (hi : PI X t' iter (tI X.K T P k W kd es))
    (ht : ∀ X', CkX cc T P k noW ⟨relS scope S.sc, some scope⟩ X' → PTs X' ifs (tT X'.K T P k noW ce)) (he : ∀ X', CkX cc T P k noW ⟨relS scope S.sc, some scope⟩ X' → PE X' elt (tE X'.K T P k noW e)) :
    PS X (.Assign [.Name y py] (.ListComp elt [⟨t', iter, ifs, 0⟩] scope pos) spos) (tS X.K T P k W (evS (cx P k) (.asg (.n i) (.comp mu tg kd es ce e)))) := by
  have ok : BlkOk X.N X.env.scope scope (ownOf cc tg) := by
    rw [c.N, c.sc]
    exact blkOk_by hb
  have hsw : ∃ b : Bool, swapsWith (.ListComp elt [⟨t', iter, ifs, 0⟩] scope pos) (some (.Name y py)) spos.line X.env = pure b ∧ (b = true → X.env.scope.names.lookup y = some .local) := by
    refine ⟨_, rfl, fun h => ?_⟩
    simp only [Bool.and_eq_true] at h
    have := h.1.1.2
    exact of_decide_eq_true (by
      revert this
      show (X.env.scope.names.lookup y == some .local) = true → _
      intro q
      have := eq_of_beq q
      rw [this]; decide)
  obtain ⟨b, hsw, hloc⟩ := hsw
  cases b with
  | true =>
    refine (ps_setLc (i := i) (wi := tI X.K T P k W kd es) (g := tG X.K tg) (tt := tT X.K T P k noW ce) (te := tE X.K T P k noW e) c.calm c.nd (c.slot hs) (hloc rfl) hsw hi ok (fun s H C cl fp => sndG (c.blkX scope s H C cl fp) tg t' hg) (fun s H C cl fp => ht _ (c.blkX scope s H C cl fp)) (fun s H C cl fp => he _ (c.blkX scope s H C cl fp)) (notSet_fold hn)).imp fun D s H h => ?_
    rw [own_sets]
    have h2 := asg_imp D s H h
    have h3 := comp_imp s H _ h2
    refine lc_weak h3 fun x H1 q => ?_
    obtain ⟨G, F, ρ, μ, d, σ, σ', w, sr, rv, e1, q⟩ := q
    cases e1
    exact q _ (sr.set rv) fun vs hv => wipe_set_in (hv i (by simp [Tg.sets]))
  | false =>
    obtain ⟨l1, l2⟩ := c.loc hl
    have pe := snd_comp (mu := mu) (pos := pos) c hb hn hg hi ht he
    exact (ps_asg pe (sndG c (.n i) (.Name y py) (by simp only [chkG, Bool.and_eq_true]; exact ⟨hs, hl⟩)) hsw rfl rfl).imp asg_imp

theorem ghost_frz {i : Nat} {ss : Ss} : ∀ D s H, tS X.K T P k W (evSs (cx P k) (.cons (.frz i) ss)) D s H → tS X.K T P k W (evSs (cx P k) ss) D s H := by
  intro D s H h
  obtain ⟨G, F, ρ, μ, σ, w, sr, h⟩ := h
  simp only [evSs, evS] at h
  cases q : getS σ i with
  | none => rw [q] at h; exact h.elim
  | some d =>
    rw [q] at h
    simp only [ofO_some, then1_ok] at h
    obtain ⟨v, e1, r1⟩ := sr.get q
    have hi : s[i]? = some (some v) := e1
    have hset : s.set i (some v) = s := by
      apply List.ext_getElem?
      intro j
      rw [List.getElem?_set]
      by_cases hj : i = j
      · subst hj
        rw [if_pos rfl, hi]
        have := (List.getElem?_eq_some_iff.mp hi).1
        rw [if_pos this]
      · rw [if_neg hj]
    unfold freeze at h
    split at h
    · rename_i x
      have l := sr.set (i := i) r1
      rw [hset] at l
      exact ⟨G, F, ρ, μ, _, w, l, h⟩
    · split at h
      · rename_i n _ ys e2
        split at h
        · rename_i zs e3
          obtain ⟨a, vs, rfl, h2, h3, h4⟩ := r1.ref_ w e2
          obtain ⟨wf, sf⟩ := w.freeze e2 h2 h3
          have := pures_some e3
          subst this
          have l := (sr.mono sf (List.prefix_refl _)).set (i := i) (v := .ref a) (d := .d (.lst zs)) (.lst upd_same (h4.rps.mono sf))
          rw [hset] at l
          exact ⟨G, _, ρ, _, _, wf, l, PostF.mono h sf (List.prefix_refl _)⟩
        · exact h.elim
      · exact h.elim
    · exact h.elim
theorem ghost_fgt {is : List Nat} {ss : Ss} : ∀ D s H, tS X.K T P k W (evSs (cx P k) (.cons (.fgt is) ss)) D s H → tS X.K T P k W (evSs (cx P k) ss) D s H := by
  intro D s H h
  obtain ⟨G, F, ρ, μ, σ, w, sr, h⟩ := h
  exact ⟨G, F, ρ, μ, _, w, sr.fgt_ is, h⟩
theorem seq_imp {st : HP.S} {ss : Ss} : ∀ D s H, tS X.K T P k W (evSs (cx P k) (.cons st ss)) D s H → tSeq (tS X.K T P k W (evS (cx P k) st)) (tS X.K T P k W (evSs (cx P k) ss)) D s H := by
  intro D s H h
  obtain ⟨G, F, ρ, μ, σ, w, sr, h⟩ := h
  simp only [evSs] at h
  refine ⟨G, F, ρ, μ, σ, w, sr, ?_⟩
  cases q : evS (cx P k) st σ μ with
  | nx σ' m =>
    rw [q] at h
    exact fun F1 ρ1 s1 H1 e1 p1 w1 l1 => ⟨G, F1, ρ1, m, σ', w1, l1, PostF.mono h e1 p1⟩
  | bk σ' m => rw [q] at h; exact h
  | ct σ' m => rw [q] at h; exact h
  | rt v m => rw [q] at h; exact h
  | ex x σ' m => rw [q] at h; exact h
  | st => rw [q] at h; exact h.elim
theorem test_imp {α : Type} {e : E} {σ : Sl} {μ : Mem} {G F : Hp} {ρ : List Addr} {g : Vl → Mem → Fl} {D : Ends} {Q : Bool → Hp → Prop} (h : PostF X.K G T W F ρ (fl1 g σ (evE (cx P k) e σ μ)) D)
    (hg : ∀ v m, evE (cx P k) e σ μ = .ok v m → truth v m = none → g v m = .st) (hq : ∀ v m b F1 ρ1 H1, evE (cx P k) e σ μ = .ok v m → truth v m = some b → Wd X.K G F1 ρ1 m H1 → Same F F1 → ρ <+: ρ1 → PostF X.K G T W F1 ρ1 (g v m) D → Q b H1) :
    Post X.K G relB F ρ (wxAt X.K G T W σ) (testR (evE (cx P k) e σ μ)) Q := by
  cases q : evE (cx P k) e σ μ with
  | ex x m => rw [q] at h; exact h
  | st => rw [q] at h; exact h.elim
  | ok v m =>
    rw [q, fl1_ok] at h
    simp only [testR]
    cases q2 : truth v m with
    | none => rw [hg v m q q2] at h; exact h.elim
    | some b =>
      intro F1 ρ1 c H1 s1 p1 w1 r1
      have e : c = b := r1
      subst e
      exact hq v m c F1 ρ1 H1 q q2 w1 s1 p1 (h.mono s1 p1)
theorem ite_imp {c : E} {a b : Ss} : ∀ D s H, tS X.K T P k W (evS (cx P k) (.ite c a b)) D s H → tIfS (tT X.K T P k W c) (tS X.K T P k W (evSs (cx P k) a)) (tS X.K T P k W (evSs (cx P k) b)) D s H := by
  intro D s H h
  obtain ⟨G, F, ρ, μ, σ, w, sr, h⟩ := h
  simp only [evS] at h
  refine ⟨G, F, ρ, μ, σ, w, sr, test_imp (α := Unit) h (fun v m _ e => by simp only [ifK, e]; rfl) fun v m t F1 ρ1 H1 _ e w1 s1 p1 h1 => ?_⟩
  simp only [ifK, e] at h1
  cases t with
  | true =>
    rw [if_pos rfl]
    exact ⟨G, F1, ρ1, m, σ, w1, sr.mono s1 p1, h1⟩
  | false =>
    rw [if_neg Bool.false_ne_true]
    exact ⟨G, F1, ρ1, m, σ, w1, sr.mono s1 p1, h1⟩
theorem whl_imp {c : E} {body : Ss} : ∀ D s H, tS X.K T P k W (evS (cx P k) (.whl c body)) D s H → tWhile (tT X.K T P k W c) (tS X.K T P k W (evSs (cx P k) body)) D s H := by
  intro D s H h
  have h0 : ∃ n, tS X.K T P k W (whileL (evE (cx P k) c) (evSs (cx P k) body) n) D s H := by
    obtain ⟨G, F, ρ, μ, σ, w, sr, h⟩ := h
    simp only [evS] at h
    exact ⟨_, G, F, ρ, μ, σ, w, sr, h⟩
  refine ⟨fun n s H => tS X.K T P k W (whileL (evE (cx P k) c) (evSs (cx P k) body) n) D s H, h0, ?_⟩
  intro n s H h
  obtain ⟨G, F, ρ, μ, σ, w, sr, h⟩ := h
  cases n with
  | zero => exact h.elim
  | succ n =>
    simp only [whileL] at h
    refine ⟨G, F, ρ, μ, σ, w, sr, test_imp (α := Unit) h (fun v m _ e => by simp only [whileK, e]; rfl) fun v m t F1 ρ1 H1 _ e w1 s1 p1 h1 => ?_⟩
    simp only [whileK, e] at h1
    cases t with
    | false =>
      rw [if_neg Bool.false_ne_true]
      exact PostF.fin h1 w1 (sr.mono s1 p1)
    | true =>
      rw [if_pos rfl]
      refine ⟨fun s' H' => tS X.K T P k W (whileL (evE (cx P k) c) (evSs (cx P k) body) n) D s' H', fun s' H' q => ⟨n, Nat.lt_succ_self _, q⟩, G, F1, ρ1, m, σ, w1, sr.mono s1 p1, ?_⟩
      simp only [while2] at h1
      cases q : evSs (cx P k) body σ m with
      | nx σ' m' => rw [q] at h1; exact fun F2 ρ2 s2 H2 e2 p2 w2 l2 => ⟨G, F2, ρ2, m', σ', w2, l2, PostF.mono h1 e2 p2⟩
      | ct σ' m' => rw [q] at h1; exact fun F2 ρ2 s2 H2 e2 p2 w2 l2 => ⟨G, F2, ρ2, m', σ', w2, l2, PostF.mono h1 e2 p2⟩
      | bk σ' m' => rw [q] at h1; exact h1
      | rt v' m' => rw [q] at h1; exact h1
      | ex x' σ' m' => rw [q] at h1; exact h1
      | st => rw [q] at h1; exact h1.elim
theorem for_imp {tg : Tg} {kd : Itk} {es : Es} {body : Ss} : ∀ D s H, tS X.K T P k W (evS (cx P k) (.for_ tg kd es body)) D s H → tFor (tI X.K T P k W kd es) (tG X.K tg) (tS X.K T P k W (evSs (cx P k) body)) D s H := by
  intro D s H h
  obtain ⟨G, F, ρ, μ, σ, w, sr, h⟩ := h
  simp only [evS] at h
  refine ⟨G, F, ρ, μ, σ, w, sr, ?_⟩
  cases q : evEs (cx P k) es σ μ with
  | ex x m => rw [q] at h; exact h
  | st => rw [q] at h; exact h.elim
  | ok us m =>
    rw [q, fl1_ok] at h
    unfold forK at h
    dsimp only
    cases q2 : itemsOf kd us m with
    | ex x m1 =>
      exfalso
      unfold itemsOf at q2
      revert q2
      repeat' split
      all_goals first
        | (intro z; cases z; done)
        | (unfold need; split <;> (intro z; cases z; done))
        | (unfold ofO; split <;> (intro z; cases z; done))
    | st => rw [q2] at h; exact h.elim
    | ok xs m' =>
      rw [q2] at h
      dsimp only at h ⊢
      intro F1 ρ1 H1 J s1 p1 w1 it
      generalize hok : still (srcOf kd us) xs = ok at h it
      have h := h.mono s1 p1
      have sr1 := sr.mono s1 p1
      refine ⟨fun i n s2 H2 => n = xs.length - i ∧ i ≤ xs.length ∧ ∃ F2 ρ2 μ2 σ2, Same F1 F2 ∧ ρ1 <+: ρ2 ∧ Wd X.K G F2 ρ2 μ2 H2 ∧ SlR X.K F2 ρ2 s2 σ2 ∧ PostF X.K G T W F2 ρ2 (forL (evSs (cx P k) body) tg ok (xs.drop i) σ2 μ2) D,
        ⟨xs.length, rfl, Nat.zero_le _, F1, ρ1, m', σ, Same.refl _, List.prefix_refl _, w1, sr1, h⟩, ?_⟩
      rintro i n s2 H2 ⟨rfl, hi, F2, ρ2, μ2, σ2, e2, p2, w2, l2, h2⟩
      by_cases hlt : i < xs.length
      · rw [List.drop_eq_getElem_cons hlt] at h2
        have hx : xs[i]? = some xs[i] := List.getElem?_eq_getElem hlt
        generalize xs[i] = x at h2 hx
        unfold forL at h2
        split at h2
        · rename_i σ' e1 e3
          refine .inr ⟨it.go _ F2 ρ2 μ2 H2 i e2 p2 w2 e1 hlt, fun s' H' => (xs.length - (i + 1)) = xs.length - (i + 1) ∧ i + 1 ≤ xs.length ∧ _, fun s' H' q' => ⟨_, by omega, q'⟩, fun v H' y => ?_⟩
          obtain ⟨F3, s3, w3, r3⟩ := it.yld _ F2 ρ2 μ2 H2 i v H' e2 p2 w2 e1 y x hx
          refine ⟨_, F3, ρ2, μ2, x, σ2, σ', w3, l2.mono s3 (List.prefix_refl _), r3, e3, fun s4 l4 _ => ?_⟩
          refine ⟨_, F3, ρ2, μ2, σ', w3, l4, ?_⟩
          have h3 := h2.mono s3 (List.prefix_refl _)
          cases qb : evSs (cx P k) body σ' μ2 with
          | nx σ5 m5 => rw [qb] at h3; exact fun F5 ρ5 s5 H5 e5 p5 w5 l5 => ⟨rfl, hlt, F5, ρ5, m5, σ5, (e2.trans s3).trans e5, p2.trans p5, w5, l5, PostF.mono h3 e5 p5⟩
          | ct σ5 m5 => rw [qb] at h3; exact fun F5 ρ5 s5 H5 e5 p5 w5 l5 => ⟨rfl, hlt, F5, ρ5, m5, σ5, (e2.trans s3).trans e5, p2.trans p5, w5, l5, PostF.mono h3 e5 p5⟩
          | bk σ5 m5 => rw [qb] at h3; exact h3
          | rt v5 m5 => rw [qb] at h3; exact h3
          | ex x5 σ5 m5 => rw [qb] at h3; exact h3
          | st => rw [qb] at h3; exact h3.elim
        · exact h2.elim
      · have hd : xs.drop i = [] := List.drop_eq_nil_of_le (by omega)
        rw [hd] at h2
        unfold forL at h2
        cases e1 : ok μ2 with
        | false => rw [e1] at h2; exact h2.elim
        | true =>
          rw [e1] at h2
          exact .inl ⟨it.stop _ F2 ρ2 μ2 H2 i e2 p2 w2 e1 (by omega), PostF.fin h2 w2 l2⟩
end
end HP
end

section
set_option Elab.async false
set_option linter.all false
set_option maxRecDepth 100000
set_option maxHeartbeats 16000000
set_option autoImplicit false
/-! Soundness 16: all statements; defs. -/
namespace HP
open PySem PySem.Spec PyProof.Rows L2

theorem pyIxN_ {n : Nat} {i : Int} {j : Nat} (h : pyIxN n i = some j) : ixN n i = some j := by
  unfold pyIxN at h
  unfold ixN
  split at h
  · split at h
    · cases h
    · cases h
      rw [if_neg (by omega), if_pos (by omega)]
  · split at h
    · cases h
      rw [if_pos (by omega), if_pos (by assumption)]
    · cases h
section
variable {cc : Ck} {T : XT} {P : Prog} {k : Nat} {W : WX} {S : Sc} {X : Cx}
def relU (_ : Hp) (_ : List Addr) (_ _ : Unit) : Prop := True
theorem setix_imp {a i e : E} : ∀ D s H, tS X.K T P k W (evS (cx P k) (.setix a i e)) D s H → tAsg (tE X.K T P k W e) (gSub (tE X.K T P k W a) (tE X.K T P k W i) rSetL) D s H := by
  intro D s H h
  obtain ⟨G, F, ρ, μ, σ, w, sr, h⟩ := h
  simp only [evS] at h
  -- the three values, then the store
  refine ⟨G, F, ρ, μ, σ, w, sr, ?_⟩
  cases q1 : evE (cx P k) e σ μ with
  | ex x m => rw [q1] at h; exact h
  | st => rw [q1] at h; exact h.elim
  | ok v m1 =>
    rw [q1, then3_ok] at h
    intro F1 ρ1 xv H1 s1 p1 w1 r1
    have h := h.mono s1 p1
    have sr1 := sr.mono s1 p1
    refine ⟨G, F1, ρ1, m1, σ, w1, sr1, ?_⟩
    cases q2 : evE (cx P k) a σ m1 with
    | ex x m => rw [q2] at h; exact h
    | st => rw [q2] at h; exact h.elim
    | ok va m2 =>
      rw [q2, then2_ok] at h
      intro F2 ρ2 xa H2 s2 p2 w2 r2
      have h := h.mono s2 p2
      have sr2 := sr1.mono s2 p2
      refine ⟨G, F2, ρ2, m2, σ, w2, sr2, ?_⟩
      cases q3 : evE (cx P k) i σ m2 with
      | ex x m => rw [q3] at h; exact h
      | st => rw [q3] at h; exact h.elim
      | ok vi m3 =>
        rw [q3, then1_ok] at h
        intro F3 ρ3 xi H3 s3 p3 w3 r3
        have h := h.mono s3 p3
        have sr3 := sr2.mono s3 p3
        have r1' := (r1.mono s2 p2).mono s3 p3
        have r2' := r2.mono s3 p3
        unfold setixop3 setixop at h
        split at h
        · rename_i n iv
          split at h
          · rename_i xs e1
            split at h
            · rename_i j e2
              obtain ⟨ad, vs, rfl, hρ, hH, hr⟩ := r2'.ref_ w3 e1
              obtain rfl := r3.int_
              refine ⟨ad, vs, _, j, rfl, rfl, hH, by rw [Paired.len hr]; exact pyIxN_ e2, ?_⟩
              exact PostF.fin h (w3.setM e1 (fun z => nomatch z) hρ (Paired.setR r1' j hr)) sr3
            · exact h.elim
          · exact h.elim
        · exact h.elim
theorem snd_aug (op : Bop) : PIp X (opOf op) (rBin X.K (augop op)) := by
  intro pins s σ H x y v u Q I rx ry h
  obtain ⟨G, F, ρ, μ, a, b, wx, w, ra, rb, hp⟩ := h
  unfold augop at hp
  split at hp
  · obtain rfl := ra.int_; obtain rfl := rb.int_
    exact iop_add pins s σ H _ _ v u Q I rx ry ⟨_, _, rfl, rfl, hp.same w (.int _)⟩
  · obtain ⟨hs, hp⟩ := hp.need
    have hs := szOk_ hs
    obtain ⟨rfl, h1⟩ := ra.str_; obtain ⟨rfl, h2⟩ := rb.str_
    refine iop_add_str pins s σ H _ _ v u Q I rx ry ⟨_, _, rfl, rfl, by rw [toS_len, toS_len]; exact hs, ?_⟩
    rw [toS_app]
    exact hp.same w (.str _ (by rw [List.length_append]; exact hs))
  · obtain rfl := ra.int_; obtain rfl := rb.int_
    exact iop_sub pins s σ H _ _ v u Q I rx ry ⟨_, _, rfl, rfl, hp.same w (.int _)⟩
  · exact hp.elim
theorem aug_imp {i : Nat} {op : Bop} {e : E} : ∀ D s H, tS X.K T P k W (evS (cx P k) (.aug i op e)) D s H → tAug i (tE X.K T P k W e) (rBin X.K (augop op)) D s H := by
  intro D s H h
  obtain ⟨G, F, ρ, μ, σ, w, sr, h⟩ := h
  simp only [evS] at h
  cases q : getS σ i with
  | none => rw [q] at h; exact h.elim
  | some d =>
    rw [q, ofO_some, then2_ok] at h
    obtain ⟨v, e1, r1⟩ := sr.get q
    refine ⟨v, e1, G, F, ρ, μ, σ, w, sr, ?_⟩
    cases q1 : evE (cx P k) e σ μ with
    | ex x m => rw [q1] at h; exact h
    | st => rw [q1] at h; exact h.elim
    | ok ve m1 =>
      rw [q1, then1_ok] at h
      intro F1 ρ1 xv H1 s1 p1 w1 r2
      refine ⟨G, F1, ρ1, m1, d, ve, wxAt X.K G T W σ, w1, r1.mono s1 p1, r2, ((PostF.fl (rel := RpV X.K) (h.mono s1 p1)).imp fun z H2 ⟨F2, ρ2, vz, m2, w2, r3, s2, p2, h2⟩ => ?_)⟩
      exact PostF.fin h2 w2 (((sr.mono s1 p1).mono s2 p2).set r3)
end
section
variable {cc : Ck} {T : XT} {P : Prog} {k : Nat} {W : WX} {S : Sc} {X : Cx}
theorem for_pi (c : CkX cc T P k W S X) {kd : Itk} {es : Es} {t iter : Expr} (h : (match itArgs cc S kd t iter with
      | some xs => chkEs cc es S xs
      | none => false) = true) : PI X t iter (tI X.K T P k W kd es) := by
  split at h
  · rename_i xs e1
    have q := sndEs es W S X _ c h
    exact itArgs_pi c e1 h q.1 q.2
  · cases h
theorem asg_lc (c : CkX cc T P k W S X) {i : Nat} {mu : Bool} {tg : Tg} {kd : Itk} {es : Es} {ce e : E} {y : Str} {py pos : Pos} {v : Expr} (hk : S.sc.kind = .function) (hg : chkG cc S (.n i) (.Name y py) = true) (he : chkE cc (.comp mu tg kd es ce e) S v = true) :
    PS X (.Assign [.Name y py] v pos) (tS X.K T P k W (evS (cx P k) (.asg (.n i) (.comp mu tg kd es ce e)))) := by
  simp only [chkG, Bool.and_eq_true] at hg
  simp only [chkE] at he
  split at he
  · rename_i elt t' iter ifs ias scope pos'
    simp only [Bool.and_eq_true, decide_eq_true_eq] at he
    obtain ⟨⟨⟨⟨⟨⟨g1, g2⟩, g3⟩, g4⟩, g5⟩, g6⟩, g7⟩ := he
    subst g1
    have hi : PI X t' iter (tI X.K T P k W kd es) := for_pi c g5
    have ht : ∀ X', CkX cc T P k noW ⟨relS scope S.sc, some scope⟩ X' → PTs X' ifs (tT X'.K T P k noW ce) := fun X' c' => by
      split at g6
      · exact pts_true g6
      · simp only [Bool.and_eq_true] at g6
        exact pts_one ((sndE ce noW _ X' _ c' g6.1).2 g6.2)
      · cases g6
    exact ps_asgC c hk hg.1 hg.2 g2 g4 g3 hi ht fun X' c' => (sndE e noW _ X' _ c' g7).1
  · cases he
theorem snd_asg' (c : CkX cc T P k W S X) {tg : Tg} {e : E} {t v : Expr} {pos : Pos} (hg : chkG cc S tg t = true) (he : chkE cc e S v = true) (h : ((noComp v && noTup v) || (isLc v && isComp e && isName t && decide (S.sc.kind = .function))) = true) :
    PS X (.Assign [t] v pos) (tS X.K T P k W (evS (cx P k) (.asg tg e))) := by
  simp only [Bool.or_eq_true, Bool.and_eq_true] at h
  rcases h with h | h
  · exact (ps_asg (sndE _ W _ X _ c he).1 (sndG c _ t hg) (swaps_no h.1) (swapped_no h.2) (assignEach_one hg)).imp asg_imp
  · obtain ⟨⟨⟨h1, h2⟩, h3⟩, h4⟩ := h
    have h4 := of_decide_eq_true h4
    unfold isComp at h2
    split at h2
    · unfold isName at h3
      split at h3
      · cases tg with
        | t _ => simp [chkG] at hg
        | n i => exact asg_lc c h4 hg he
      · cases h3
    · cases h2
theorem snd_asg (c : CkX cc T P k W S X) {tg : Tg} {e : E} {st : Stmt} (h : chkS cc (.asg tg e) S st = true) : PS X st (tS X.K T P k W (evS (cx P k) (.asg tg e))) := by
  cases st <;> first | (simp [chkS] at h; done) | skip
  rename_i ts v pos
  cases ts with
  | nil => simp [chkS] at h
  | cons t ts =>
    cases ts with
    | cons _ _ => simp [chkS] at h
    | nil =>
      unfold chkS at h
      rw [Bool.and_eq_true, Bool.and_eq_true] at h
      exact snd_asg' c h.1.1 h.1.2 h.2
end
section
variable {cc : Ck} {T : XT} {P : Prog} {k : Nat}
mutual
theorem sndS : ∀ (st : HP.S) (W : WX) (S : Sc) (X : Cx) (x : Stmt), CkS cc T P k W S X → chkS cc st S x = true → PS X x (tS X.K T P k W (evS (cx P k) st))
  | .asg tg e, W, S, X, x, c, h => snd_asg c.x h
  | .setix a i e, W, S, X, x, c, h => by
    unfold chkS at h
    split at h <;> rename_i heq <;> first | (cases h; done) | (cases heq; done) | skip
    injection heq with e1 e2 e3
    subst e1 e2 e3
    simp only [Bool.and_eq_true] at h
    obtain ⟨⟨⟨⟨h1, h2⟩, h3⟩, h4⟩, h5⟩ := h
    rename_i o j pos v spos
    refine (ps_asg (sndE _ W _ X _ c.x h5).1 (pg_sub (sndE _ W _ X _ c.x h3).1 (sndE _ W _ X _ c.x h4).1 set_list ?_) (swaps_no h2) ?_ rfl).imp setix_imp
    · intro z
      cases j <;> first | rfl | cases h1
    · rfl
  | .aug i op e, W, S, X, x, c, h => by
    unfold chkS at h
    split at h <;> rename_i heq <;> first | (cases h; done) | (cases heq; done) | skip
    injection heq with e1 e2 e3
    subst e1 e2 e3
    simp only [Bool.and_eq_true] at h
    obtain ⟨⟨⟨h1, h2⟩, h3⟩, h4⟩ := h
    have eo := opEq_ h3
    subst eo
    obtain ⟨l1, l2⟩ := c.x.loc h2
    exact (ps_aug c.x.nd (c.x.slot h1) l1 (sndE _ W _ X _ c.x h4).1 (snd_aug _) l2).imp aug_imp
  | .augix _ _ _ _, W, S, X, x, c, h => by simp [chkS] at h
  | .ex e, W, S, X, x, c, h => by
    unfold chkS at h
    split at h <;> rename_i heq <;> first | (cases h; done) | (cases heq; done) | skip
    injection heq with e1
    subst e1
    simp only [Bool.and_eq_true] at h
    refine (ps_expr (sndE _ W _ X _ c.x h.2).1 (swaps_no0 h.1)).imp fun D s H h => ?_
    obtain ⟨G, F, ρ, μ, σ, w, sr, h⟩ := h
    simp only [evS] at h
    refine ⟨G, F, ρ, μ, σ, w, sr, (PostF.fl (rel := RpV X.K) h).imp fun x H1 ⟨F1, ρ1, va, m1, w1, r1, s1, p1, h1⟩ => ?_⟩
    exact PostF.fin h1 w1 (sr.mono s1 p1)
  | .ret e, W, S, X, x, c, h => by
    unfold chkS at h
    split at h <;> rename_i heq <;> first | (cases h; done) | (cases heq; done) | skip
    injection heq with e1
    subst e1
    refine (ps_ret (sndE _ W _ X _ c.x h).1).imp fun D s H h => ?_
    obtain ⟨G, F, ρ, μ, σ, w, sr, h⟩ := h
    simp only [evS] at h
    refine ⟨G, F, ρ, μ, σ, w, sr, (PostF.fl (rel := RpV X.K) h).imp fun x H1 ⟨F1, ρ1, va, m1, w1, r1, s1, p1, h1⟩ => ?_⟩
    exact h1 F1 ρ1 x H1 (Same.refl _) (List.prefix_refl _) w1 r1
  | .retn, W, S, X, x, c, h => by
    unfold chkS at h
    split at h <;> rename_i heq <;> first | (cases h; done) | (cases heq; done) | skip
    refine ps_retN.imp fun D s H h => ?_
    obtain ⟨G, F, ρ, μ, σ, w, sr, h⟩ := h
    exact h F ρ .non H (Same.refl _) (List.prefix_refl _) w .non
  | .ite t a b, W, S, X, x, c, h => by
    unfold chkS at h
    split at h <;> rename_i heq <;> first | (cases h; done) | (cases heq; done) | skip
    injection heq with e1 e2 e3
    subst e1 e2 e3
    simp only [Bool.and_eq_true] at h
    obtain ⟨⟨⟨h1, h2⟩, h3⟩, h4⟩ := h
    exact (ps_if ((sndE _ W _ X _ c.x h1).2 h2) (sndSs a W _ X _ c h3) (sndSs b W _ X _ c h4)).imp ite_imp
  | .for_ tg kd es body, W, S, X, x, c, h => by
    unfold chkS at h
    split at h <;> rename_i heq <;> first | (cases h; done) | (cases heq; done) | skip
    injection heq with e1 e2 e3 e4
    subst e1 e2 e3 e4
    simp only [Bool.and_eq_true] at h
    obtain ⟨⟨⟨h1, h2⟩, h3⟩, h4⟩ := h
    exact (ps_for c.po c.x.calm (for_pi c.x h3) (sndG c.x _ _ h1) (sndSs body W _ X _ c h4) (notSet_fold h2)).imp for_imp
  | .whl t body, W, S, X, x, c, h => by
    unfold chkS at h
    split at h <;> rename_i heq <;> first | (cases h; done) | (cases heq; done) | skip
    injection heq with e1 e2
    subst e1 e2
    simp only [Bool.and_eq_true] at h
    obtain ⟨⟨h1, h2⟩, h3⟩ := h
    exact (ps_while c.po ((sndE _ W _ X _ c.x h1).2 h2) (sndSs body W _ X _ c h3)).imp whl_imp
  | .brk, W, S, X, x, c, h => by
    unfold chkS at h
    split at h <;> rename_i heq <;> first | (cases h; done) | (cases heq; done) | skip
    refine ps_break.imp fun D s H h => ?_
    obtain ⟨G, F, ρ, μ, σ, w, sr, h⟩ := h
    exact h F ρ s H (Same.refl _) (List.prefix_refl _) w sr
  | .cnt, W, S, X, x, c, h => by
    unfold chkS at h
    split at h <;> rename_i heq <;> first | (cases h; done) | (cases heq; done) | skip
    refine ps_continue.imp fun D s H h => ?_
    obtain ⟨G, F, ρ, μ, σ, w, sr, h⟩ := h
    exact h F ρ s H (Same.refl _) (List.prefix_refl _) w sr
  | .pass, W, S, X, x, c, h => by
    have fin : ∀ D s H, tS X.K T P k W (evS (cx P k) .pass) D s H → tNext D s H := fun D s H h => by
      obtain ⟨G, F, ρ, μ, σ, w, sr, h⟩ := h
      exact h F ρ s H (Same.refl _) (List.prefix_refl _) w sr
    unfold chkS at h
    split at h <;> rename_i heq <;> first | (cases h; done) | (cases heq; done) | skip
    · exact ps_doc.imp fin
    · exact ps_pass.imp fin
  | .raise _ _, W, S, X, x, c, h => by simp [chkS] at h
  | .try_ _ _ _ _, W, S, X, x, c, h => by simp [chkS] at h
  | .frz _, W, S, X, x, c, h => by simp [chkS] at h
  | .fgt _, W, S, X, x, c, h => by simp [chkS] at h
theorem sndSs : ∀ (ss : Ss) (W : WX) (S : Sc) (X : Cx) (xs : List Stmt), CkS cc T P k W S X → chkSs cc ss S xs = true → PSs X xs (tS X.K T P k W (evSs (cx P k) ss))
  | .nil, W, S, X, xs, c, h => by
    cases xs with
    | nil =>
      refine pss_nil.imp fun D s H h => ?_
      obtain ⟨G, F, ρ, μ, σ, w, sr, h⟩ := h
      exact h F ρ s H (Same.refl _) (List.prefix_refl _) w sr
    | cons _ _ => simp [chkSs] at h
  | .cons st ss, W, S, X, xs, c, h => by
    simp only [chkSs] at h
    have ih := sndSs ss W
    have ihs := sndS st W
    split at h
    · rename_i hg
      cases st <;> first | (cases hg; done) | skip
      · exact (ih _ _ xs c h).imp ghost_frz
      · exact (ih _ _ xs c h).imp ghost_fgt
    · cases xs with
      | nil => cases h
      | cons x xs =>
        simp only [Bool.and_eq_true] at h
        exact (pss_cons (ihs _ _ x c h.1) (ih _ _ xs c h.2)).imp seq_imp
end
end
end HP
end

section
set_option Elab.async false
set_option linter.all false
set_option maxRecDepth 100000
set_option maxHeartbeats 16000000
set_option autoImplicit false
/-! Soundness 17: defs, the program, the law. -/
namespace HP
open PySem PySem.Spec PyProof.Rows L2

/-! ### a def's end -/
theorem oldOk_get : ∀ {μ μ' : Mem}, oldOk μ μ' = true → ∀ (n : Nat) (o : O), μ[n]? = some o → ∃ o', μ'[n]? = some o' ∧ (o = o' ∨ isPure o' = true)
  | [], _, _, n, o, h => by simp at h
  | o :: os, [], h, _, _, _ => by simp [oldOk] at h
  | o :: os, o' :: os', h, n, x, e => by
    simp only [oldOk, Bool.and_eq_true, Bool.or_eq_true, decide_eq_true_eq] at h
    cases n with
    | zero =>
      simp at e
      subst e
      exact ⟨o', rfl, h.1⟩
    | succ n =>
      obtain ⟨y, h1, h2⟩ := oldOk_get h.2 n x (by simpa using e)
      exact ⟨y, by simpa using h1, h2⟩
theorem pure_rps {K : PySem.W.Frag} {F : Hp} {ρ ρ' : List Addr} : ∀ {vs : List V} {xs : List Vl}, (xs.all fun v => match v with | .d _ => true | _ => false) = true → RpVs K F ρ' vs xs → RpVs K F ρ vs xs
  | _, [], _, .nil => .nil
  | _, .d x :: xs, h, .cons r t => .cons r (pure_rps (by simpa using h) t)
  | _, .ref _ :: _, h, _ => by simp at h
  | _, .scr _ :: _, h, _ => by simp at h
theorem back_rps {K : PySem.W.Frag} {F F0 : Hp} {ρ ρ' : List Addr} (p : ρ <+: ρ') : ∀ {vs vs0 : List V} {xs : List Vl}, RpVs K F0 ρ vs0 xs → RpVs K F ρ' vs xs → RpVs K F ρ vs xs
  | _, _, [], .nil, .nil => .nil
  | _, _, x :: xs, .cons r0 t0, .cons r t => by
    refine .cons ?_ (back_rps p t0 t)
    cases x with
    | d y => exact r
    | scr ns => exact r
    | ref n =>
      obtain ⟨a0, _, h0⟩ := r0
      obtain ⟨a, e, h⟩ := r
      have := pre_get p h0
      rw [this] at h
      cases h
      exact ⟨_, e, h0⟩
theorem pre_take {α : Type} {l l' : List α} (h : l <+: l') : l'.take l.length = l := by
  obtain ⟨t, rfl⟩ := h
  simp
theorem pre_len {α : Type} {l l' : List α} (h : l <+: l') : l.length ≤ l'.length := by
  obtain ⟨t, rfl⟩ := h
  simp
section
variable {K : PySem.W.Frag} {G F F' : Hp} {ρ ρ' : List Addr} {μ μ' : Mem} {H H' : Hp}
theorem Wd.take (w0 : Wd K G F ρ μ H) (w : Wd K G F' ρ' μ' H') (p : ρ <+: ρ') (h : oldOk μ μ' = true) : Wd K G F' ρ (μ'.take μ.length) H' := by
  have hl : μ.length ≤ μ'.length := by rw [← w0.len, ← w.len]; exact pre_len p
  have key : ∀ (n : Nat) (o : O) (a : Addr), (μ'.take μ.length)[n]? = some o → ρ[n]? = some a → μ'[n]? = some o ∧ ρ'[n]? = some a ∧ n < μ.length := fun n o a h1 h3 => by
    have hn : n < μ.length := by
      have := (List.getElem?_eq_some_iff.mp h3).1
      rw [w0.len] at this; exact this
    rw [List.getElem?_take_of_lt hn] at h1
    exact ⟨h1, pre_get p h3, hn⟩
  refine ⟨w.sub, by rw [List.length_take, w0.len]; omega, fun n o a h1 h2 h3 => ?_, fun n m a o o' h1 h2 h3 h4 h5 h6 => ?_, w.gsub, w.gf, fun n o a h1 h2 h3 => ?_⟩
  · obtain ⟨q1, q2, q3⟩ := key n o a h1 h3
    obtain ⟨r1, r2⟩ := w.obj n o a q1 h2 q2
    refine ⟨r1, ?_⟩
    obtain ⟨o', e', hh⟩ := oldOk_get h n μ[n] (List.getElem?_eq_getElem q3)
    rw [q1] at e'
    cases e'
    cases o with
    | dead => trivial
    | dic _ => exact r2
    | lst xs =>
      obtain ⟨vs, hv, rv⟩ := r2
      refine ⟨vs, hv, ?_⟩
      rcases hh with hh | hh
      · have hm : μ[n]? = some (O.lst xs) := by rw [List.getElem?_eq_getElem q3, hh]
        obtain ⟨_, vs0, _, rv0⟩ := w0.obj n (O.lst xs) a hm (fun z => nomatch z) h3
        exact back_rps p rv0 rv
      · exact pure_rps hh rv
  · obtain ⟨q1, q2, _⟩ := key n o a h1 h5
    obtain ⟨q3, q4, _⟩ := key m o' a h3 h6
    exact w.inj n m a o o' q1 h2 q3 h4 q2 q4
  · obtain ⟨q1, q2, _⟩ := key n o a h1 h3
    exact w.gl n o a q1 h2 q2
theorem drop_ok (w0 : Wd K G F ρ μ H) (w : Wd K G F' ρ' μ' H') (p : ρ <+: ρ') {v : Vl} {x : V} (r : RpV K F' ρ' x v) : ∃ ρ2, ρ <+: ρ2 ∧ Wd K G F' ρ2 (drop μ μ' v) H' ∧ RpV K F' ρ2 x v := by
  unfold drop
  cases v with
  | ref n => exact ⟨ρ', p, w, r⟩
  | scr n => exact ⟨ρ', p, w, r⟩
  | d y =>
    dsimp only
    split
    · rename_i h
      exact ⟨ρ, List.prefix_refl _, w0.take w p h, r⟩
    · exact ⟨ρ', p, w, r⟩
theorem endFn_ {T : XT} {E : XK} {wf : Fl} {Q : VK} (w0 : Wd K G F ρ μ H) (h : Post K G (RpV K) F ρ (wxOf K G T E) (endFn μ wf) Q) :
    PostF K G T (fun cls d _ H => E cls d H) F ρ wf { nx := fun _ H' => Q .non H', rt := Q } := by
  cases wf with
  | nx σ m =>
    intro F1 ρ1 s H1 s1 p1 w1 l1
    obtain ⟨ρ2, p2, w2, r2⟩ := drop_ok w0 w1 p1 (v := .d .non) (x := .non) .non
    exact h F1 ρ2 _ H1 s1 p2 w2 r2
  | rt v m =>
    intro F1 ρ1 x H1 s1 p1 w1 r1
    obtain ⟨ρ2, p2, w2, r2⟩ := drop_ok w0 w1 p1 r1
    exact h F1 ρ2 _ H1 s1 p2 w2 r2
  | ex x σ m =>
    intro F1 ρ1 s cls dd H1 s1 p1 w1 l1 xr
    obtain ⟨ρ2, p2, w2, _⟩ := drop_ok w0 w1 p1 (v := .d .non) (x := .non) .non
    exact h F1 ρ2 cls dd H1 s1 p2 w2 xr
  | bk σ m => exact h.elim
  | ct σ m => exact h.elim
  | st => exact h.elim
end

/-! ### the table -/
structure DefT where
  nm : Str
  st : Stmt
  N : List Str
  ps : List Str
  fn : Fn
def ckOf (tab : List DefT) (gls : List (Str × D)) (blt : List Str) (N : List Str) : Ck := ⟨N, fun i => (tab[i]?).map (·.nm), fun i => (gls[i]?).map (·.1), blt⟩
def progOf (tab : List DefT) (gls : List (Str × D)) : Prog := ⟨fun i => (tab[i]?).map (·.fn), fun i => (gls[i]?).map (·.2)⟩
def fnScB (N ps : List Str) (sc : Scope) : Bool := decide (sc.kind = .function) && !sc.isCoroutine && !sc.isGenerator && decide N.Nodup && decide (N.take ps.length = ps) &&
  ps.all (fun x => decide (sc.names.lookup x = some .local) || decide (sc.names.lookup x = some .cell)) && sc.names.all (fun y => decide (y.2 ≠ .free))
theorem fnSc_ {N ps : List Str} {sc : Scope} (h : fnScB N ps sc = true) : FnScope N ps sc := by
  unfold fnScB at h
  simp only [Bool.and_eq_true, List.all_eq_true, Bool.or_eq_true, decide_eq_true_eq, Bool.not_eq_true'] at h
  obtain ⟨⟨⟨⟨⟨⟨h1, h2⟩, h3⟩, h4⟩, h5⟩, h6⟩, h7⟩ := h
  exact ⟨h1, h2, h3, h4, h5, h6, h7⟩
def defB (tab : List DefT) (gls : List (Str × D)) (blt : List Str) (d : DefT) : Bool :=
  fnScB d.N d.ps (defScope d.st) && decide (d.fn.arity = d.ps.length) && decide (d.fn.slots = d.N.length) && chkSs (ckOf tab gls blt d.N) d.fn.body ⟨defScope d.st, none⟩ (defBody d.st)
theorem slr_start {K : PySem.W.Frag} {F : Hp} {ρ : List Addr} {n : Nat} : ∀ {vs : List V} {as : List Vl}, RpVs K F ρ vs as → SlR K F ρ (vs.map some ++ List.replicate n none) (as.map some ++ List.replicate n none)
  | _, _, .cons r t => .cons ⟨_, rfl, r⟩ (slr_start t)
  | _, _, .nil => by
    show SlR K F ρ (List.replicate n none) (List.replicate n none)
    induction n with
    | zero => exact .nil
    | succ n ih => exact .cons trivial ih
section
variable {P : Program} {w : PySem.World} {K : PySem.W.Frag} {mg : Str → Option Value} {base : Heap} {T : XT} {tab : List DefT} {gls : List (Str × D)} {blt : List Str}
/-- what the program's top has written -/
structure TopOk (K : PySem.W.Frag) (mg : Str → Option Value) (tab : List DefT) (gls : List (Str × D)) (blt : List Str) : Prop where
  fns : ∀ (i : Nat) (d : DefT), tab[i]? = some d → ∃ a fd, mg d.nm = some (.ref a) ∧ Fun K d.nm d.nm d.st a fd ∧ Binds K fd d.ps []
  gl : ∀ (i : Nat) (x : Str) (d : D), gls[i]? = some (x, d) → ∃ v u, mg x = some u ∧ RelV v u ∧ Rp K (fun _ => none) v d
  blt : ∀ x ∈ blt, mg x = none
theorem prog_ok (top : TopOk K mg tab gls blt) (hB : ∀ (i : Nat) (d : DefT), tab[i]? = some d → defB tab gls blt d = true) : ∀ (k i : Nat) (d : DefT), tab[i]? = some d → ∀ a fd, Fun K d.nm d.nm d.st a fd →
    FnOk P w K mg base (L2.CX P w) k a fd d.ps (spOf K T (progOf tab gls) k i)
  | 0, i, d, hd, a, fd, F => ⟨fun vs H Q E ⟨_, _, _, _, _, _, _, hp⟩ => hp.elim, fun A outer s H args us vs Q E _ _ _ _ ⟨_, _, _, _, _, _, _, hp⟩ => hp.elim⟩
  | k + 1, i, d, hd, a, fd, F => by
    have hb := hB i d hd
    unfold defB at hb
    simp only [Bool.and_eq_true, decide_eq_true_eq] at hb
    obtain ⟨⟨⟨h1, h2⟩, h3⟩, h4⟩ := hb
    have sc := fnSc_ h1
    have un : ∀ as μ, sem (progOf tab gls) (k + 1) i as μ = need (as.length == d.fn.arity) (endFn μ (evSs (cx (progOf tab gls) k) d.fn.body (as.map some ++ List.replicate (d.fn.slots - d.fn.arity) none) μ)) := fun as μ => by
      have e : (progOf tab gls).fns i = some d.fn := by
        show (tab[i]?).map (·.fn) = _
        rw [hd]; rfl
      simp only [sem, e]
      rfl
    have ln : ∀ {vs H Q E}, spOf K T (progOf tab gls) (k + 1) i vs H Q E → vs.length = d.ps.length := fun {vs H Q E} ⟨_, _, _, _, as, _, ra, hp⟩ => by
      rw [un] at hp
      obtain ⟨hn, _⟩ := hp.need
      rw [Paired.len ra, ← h2]
      exact eq_of_beq hn
    refine F.okX sc (fun vs H Q E h => ln h) (fun cdv A outer s H vs Q E hr h => ?_)
    have hlen := ln h
    obtain ⟨G, F', ρ, μ, as, w0, ra, hp⟩ := h
    rw [un] at hp
    obtain ⟨hn, hp⟩ := hp.need
    have hn := eq_of_beq hn
    refine ⟨_, sndSs (cc := ckOf tab gls blt d.N) (T := T) (P := progOf tab gls) (k := k) d.fn.body (fun cls dd _ H => E cls dd H) ⟨defScope d.st, none⟩ _ _ ⟨⟨rfl, sc.nd, rfl, rfl, rfl, hr, top.blt, ?_, ?_, ?_⟩, ?_⟩ h4, ?_⟩
    · intro j x dd e1 e2
      have e1' : (gls[j]?).map (·.1) = some x := e1
      have e2' : (gls[j]?).map (·.2) = some dd := e2
      cases q : gls[j]? with
      | none => rw [q] at e1'; cases e1'
      | some p =>
        rw [q] at e1' e2'
        cases e1'; cases e2'
        exact top.gl j _ _ q
    · intro f x e1
      have e1' : (tab[f]?).map (·.nm) = some x := e1
      cases q : tab[f]? with
      | none => rw [q] at e1'; cases e1'
      | some d' =>
        rw [q] at e1'
        cases e1'
        obtain ⟨a', fd', m1, F2, b2⟩ := top.fns f d' q
        exact ⟨a', fd', d'.ps, prog_ok top hB k f d' q a' fd' F2, m1, F2.kp, b2⟩
    · exact takes_of rfl rfl rfl rfl
    · exact passes_of rfl
    · refine ⟨G, F', ρ, μ, _, w0, ?_, endFn_ w0 hp⟩
      have e : List.replicate (d.fn.slots - d.fn.arity) (none : Option Vl) = List.replicate (d.N.length - vs.length) none := by
        rw [h3, hlen, h2]
      rw [e]
      exact slr_start ra
/-- the law: true at every script -/
theorem law_sp {ns : List Int} {lawI k : Nat} {m : Mem} (h : sem (progOf tab gls) k lawI [.scr ns] [] = .ok (.d (.bl true)) m) {H : Hp} {a : Addr} (hS : SqL K H a (ns.map V.int)) :
    spOf K T (progOf tab gls) k lawI [.ref a] H (fun v _ => v = .bl true) fun _ _ _ => False := by
  refine ⟨fun _ => none, H, [], [], [.scr ns], ⟨Same.refl _, rfl, fun n o a e => (by simp at e), fun n m a o o' e => (by simp at e), fun b o e => (nomatch e), fun b o e => (nomatch e), fun n o a e => (by simp at e)⟩, .cons ⟨a, rfl, hS⟩ .nil, ?_⟩
  rw [h]
  intro F1 ρ1 x H1 _ _ _ r
  exact r.bl_
end
end HP
end

section
set_option Elab.async false
set_option linter.all false
set_option maxRecDepth 100000
set_option maxHeartbeats 16000000
set_option autoImplicit false
/-! Soundness 18: from what the head tells to the table. -/
namespace HP
open PySem PySem.Spec PyProof.Rows L2

/-- a def of the top, as it lies -/
def DefAt (K : PySem.W.Frag) (mg : Str → Option Value) (d : DefT) : Prop := ∃ a fd, mg d.nm = some (.ref a) ∧ Fun K d.nm d.nm d.st a fd ∧ ∀ us : List Value, us.length = d.ps.length → bindArgs fd ⟨us, []⟩ = pure (d.ps.zip us)
theorem def_mk (d : DefT) {K : PySem.W.Frag} {h : Heap} {mg : Str → Option Value} (X : K.In h) (G : h.Ns mainGlobals mg) {f : Addr} {oc : Value} {od an : Option Addr} {osl : Array (Option Value)} {kV doc pm cdv ct : Value}
    (a : PySem.W.nsIn K mainGlobals d.nm = some (some (.ref f))) (l : K.lookup f = some ⟨oc, od, .func (PySem.W.fnOf d.nm d.nm (defArgs d.st) (defBody d.st) (defScope d.st) .none kV doc pm an cdv ct), osl⟩)
    (c : PySem.W.codeIn K cdv d.nm = true) (k : PySem.W.keepIn K (.ref f) = true)
    (hb : ∀ us : List Value, us.length = d.ps.length → bindArgs (PySem.W.fnOf d.nm d.nm (defArgs d.st) (defBody d.st) (defScope d.st) .none kV doc pm an cdv ct) ⟨us, []⟩ = pure (d.ps.zip us)) : DefAt K mg d :=
  ⟨f, _, PySem.W.mg_of X G a, fun_mk l c k, hb⟩
theorem top_mk {K : PySem.W.Frag} {mg : Str → Option Value} {tab : List DefT} {gls : List (Str × D)} {blt : List Str} (h1 : ∀ d ∈ tab, DefAt K mg d) (h2 : ∀ p ∈ gls, ∃ v u, mg p.1 = some u ∧ RelV v u ∧ Rp K (fun _ => none) v p.2) (h3 : ∀ x ∈ blt, mg x = none) : TopOk K mg tab gls blt where
  fns := fun i d e => by
    obtain ⟨a, fd, m, F, b⟩ := h1 d (List.mem_of_getElem? e)
    exact ⟨a, fd, m, F, .all b⟩
  gl := fun i x d e => h2 (x, d) (List.mem_of_getElem? e)
  blt := h3
theorem law_mk {P : Program} {w : PySem.World} {K : PySem.W.Frag} {mg : Str → Option Value} {T : XT} {tab : List DefT} {gls : List (Str × D)} {blt : List Str} {fa : Addr} (h1 : ∀ d ∈ tab, DefAt K mg d) (h2 : ∀ p ∈ gls, ∃ v u, mg p.1 = some u ∧ RelV v u ∧ Rp K (fun _ => none) v p.2) (h3 : ∀ x ∈ blt, mg x = none)
    (hB : ∀ d ∈ tab, defB tab gls blt d = true) (k i : Nat) (d : DefT) (x : Str) (hi : tab[i]? = some d) (hx : d.ps = [x]) (hfa : mg d.nm = some (.ref fa)) :
    ∃ fd : FuncData, (∀ (s : Shared) (v : Value), BindsTo s fd ⟨[v], []⟩ [(x, v)]) ∧ ∀ base : Heap, K.In base → base.Ns mainGlobals mg → FnOk P w K mg base (L2.CX P w) k fa fd [x] (spOf K T (progOf tab gls) k i) := by
  obtain ⟨a, fd, m, F, b⟩ := h1 d (List.mem_of_getElem? hi)
  have e := hfa.symm.trans m
  cases e
  refine ⟨fd, fun s v => .of_eq ?_, fun base _ _ => ?_⟩
  · rw [b [v] (by rw [hx]; rfl), hx]
    rfl
  · rw [← hx]
    exact prog_ok (top_mk h1 h2 h3) (fun j d' e => hB d' (List.mem_of_getElem? e)) k i d hi fa fd F
theorem gl_str {K : PySem.W.Frag} {h : Heap} {mg : Str → Option Value} {x : Str} {s : List Char} {t : Tok} (X : K.In h) (G : h.Ns mainGlobals mg) (e : PySem.W.nsIn K mainGlobals x = some (some (.str (toS s) t))) (hz : s.length ≤ 1000) :
    ∃ v u, mg (x, D.str s).1 = some u ∧ RelV v u ∧ Rp K (fun _ => none) v (x, D.str s).2 := ⟨.str (toS s), _, PySem.W.mg_of X G e, ⟨t, rfl⟩, .str s (Nat.le_of_lt (small1000 hz))⟩
theorem noCX {P : Program} {w : PySem.World} {H : Hp} {s : Shared} {e : Value} {s' : Shared} (h : L2.CX P w [] H s (fun _ _ _ => False) e s') : False := by
  obtain ⟨_, _, _, _, _, _, _, _, _, _, _, _, z⟩ := h
  exact z
end HP
end

section
set_option Elab.async false
set_option linter.all false
set_option maxRecDepth 100000
set_option maxHeartbeats 16000000
/-! Tools for runs of the evaluator. -/
namespace HP
section
variable (m μ : Mem) (i j : Int) (s t : List Char) (xs ys : List D) (x y : Vl)
theorem bin_add : binop .add (.d (.int i)) (.d (.int j)) m = .ok (.d (.int (i + j))) m := rfl
theorem bin_adds : binop .add (.d (.str s)) (.d (.str t)) m = need (szOk (s.length + t.length)) (.ok (.d (.str (s ++ t))) m) := rfl
theorem bin_addt : binop .add (.d (.tup xs)) (.d (.tup ys)) m = need (szOk (xs.length + ys.length)) (.ok (.d (.tup (xs ++ ys))) m) := rfl
theorem bin_addl : binop .add (.d (.lst xs)) (.d (.lst ys)) m = need (szOk (xs.length + ys.length)) (.ok (.d (.lst (xs ++ ys))) m) := rfl
theorem bin_sub : binop .sub (.d (.int i)) (.d (.int j)) m = .ok (.d (.int (i - j))) m := rfl
theorem bin_mul : binop .mul (.d (.int i)) (.d (.int j)) m = need (CMulB i j) (.ok (.d (.int (i * j))) m) := rfl
theorem bin_fdiv : binop .fdiv (.d (.int i)) (.d (.int j)) m = need (CDivB j) (.ok (.d (.int (i / j))) m) := rfl
theorem bin_mod : binop .mod (.d (.int i)) (.d (.int j)) m = need (decide (0 < j)) (.ok (.d (.int (i % j))) m) := rfl
theorem bin_shl : binop .shl (.d (.int i)) (.d (.int j)) m = need (CPowB i j) (.ok (.d (.int (i * 2 ^ j.toNat))) m) := rfl
theorem bin_pow : binop .pow (.d (.int i)) (.d (.int j)) m = need (CPowB i j) (.ok (.d (.int (i ^ j.toNat))) m) := rfl
theorem bin_band : binop .band (.d (.int i)) (.d (.int j)) m = .ok (.d (.int (PySem.Builtin.bitAnd i j))) m := rfl
theorem cmp_lt : cmpop .lt (.d (.int i)) (.d (.int j)) m = .ok (.d (.bl (decide (i < j)))) m := rfl
theorem cmp_le : cmpop .le (.d (.int i)) (.d (.int j)) m = .ok (.d (.bl (decide (i ≤ j)))) m := rfl
theorem cmp_gt : cmpop .gt (.d (.int i)) (.d (.int j)) m = .ok (.d (.bl (decide (j < i)))) m := rfl
theorem cmp_ge : cmpop .ge (.d (.int i)) (.d (.int j)) m = .ok (.d (.bl (decide (j ≤ i)))) m := rfl
theorem dep_int : D.dep (.int i) = 0 := rfl
theorem dep_str : D.dep (.str s) = 0 := rfl
theorem dep_bl (b : Bool) : D.dep (.bl b) = 0 := rfl
theorem dep_non : D.dep .non = 0 := rfl
theorem cmp_eq (a b : D) : cmpop .eq (.d a) (.d b) m = need (decide (min a.dep b.dep ≤ 60)) (.ok (.d (.bl (D.eqv a b))) m) := rfl
theorem cmp_ne (a b : D) : cmpop .ne (.d a) (.d b) m = need (decide (min a.dep b.dep ≤ 60)) (.ok (.d (.bl (!D.eqv a b))) m) := rfl
theorem cmp_eqi : cmpop .eq (.d (.int i)) (.d (.int j)) m = .ok (.d (.bl (i == j))) m := rfl
theorem cmp_nei : cmpop .ne (.d (.int i)) (.d (.int j)) m = .ok (.d (.bl (!(i == j)))) m := rfl
theorem cmp_eqs : cmpop .eq (.d (.str s)) (.d (.str t)) m = .ok (.d (.bl (s == t))) m := rfl
theorem cmp_nes : cmpop .ne (.d (.str s)) (.d (.str t)) m = .ok (.d (.bl (!(s == t)))) m := rfl
theorem cmp_is (a : D) : cmpop .is_ (.d a) (.d .non) m = .ok (.d (.bl (decide (a = .non)))) m := rfl
theorem cmp_isn (a : D) : cmpop .isnot (.d a) (.d .non) m = .ok (.d (.bl (!decide (a = .non)))) m := rfl
theorem in_str : cmpop .isin (.d (.str s)) (.d (.str t)) m = .ok (.d (.bl (isSub s t))) m := rfl
theorem truth_bl (b : Bool) : truth (.d (.bl b)) m = some b := rfl
theorem truth_int : truth (.d (.int i)) m = some (i != 0) := rfl
theorem truth_str : truth (.d (.str s)) m = some (!s.isEmpty) := rfl
theorem truth_tup : truth (.d (.tup xs)) m = some (!xs.isEmpty) := rfl
theorem truth_lst : truth (.d (.lst xs)) m = some (!xs.isEmpty) := rfl
theorem truth_non : truth (.d .non) m = some false := rfl
theorem p_lens : prim .len [.d (.str s)] m = .ok (.d (.int s.length)) m := rfl
theorem p_lent : prim .len [.d (.tup xs)] m = .ok (.d (.int xs.length)) m := by
  show R.ok (Vl.d (.int ((xs.map Vl.d).length : Int))) m = _
  rw [List.length_map]
theorem p_lenl : prim .len [.d (.lst xs)] m = .ok (.d (.int xs.length)) m := by
  show R.ok (Vl.d (.int ((xs.map Vl.d).length : Int))) m = _
  rw [List.length_map]
theorem p_int : prim .int [.d (.int i)] m = .ok (.d (.int i)) m := rfl
theorem p_divmod : prim .divmod [.d (.int i), .d (.int j)] m = need (decide (0 < j ∧ j < 1073741824)) (.ok (.d (.tup [.int (i / j), .int (i % j)])) m) := rfl
theorem ix_t : ixop (.d (.tup xs)) (.d (.int i)) m = ofO (pyIx (xs.map Vl.d) i) m := rfl
theorem ix_l : ixop (.d (.lst xs)) (.d (.int i)) m = ofO (pyIx (xs.map Vl.d) i) m := rfl
theorem ix_s : ixop (.d (.str s)) (.d (.int i)) m = match pyIx s i with | some c => .ok (.d (.str [c])) m | none => .st := rfl
theorem ix_r (n : Nat) : ixop (.ref n) (.d (.int i)) m = match seqOf (.ref n) m with | some xs => ofO (pyIx xs i) m | none => .st := rfl
end
theorem pyIx_nat {α : Type} (xs : List α) (n : Nat) : pyIx xs (n : Int) = xs[n]? := by
  unfold pyIx
  rw [if_neg (by omega), Int.toNat_natCast]
theorem pyIxN_nat {n k : Nat} (h : k < n) : pyIxN n (k : Int) = some k := by
  unfold pyIxN
  rw [if_neg (by omega), if_pos (by omega), Int.toNat_natCast]
theorem seq_ref {n : Nat} {m : Mem} {xs : List Vl} (h : m[n]? = some (.lst xs)) : seqOf (.ref n) m = some xs := by
  show (match m[n]? with | some (.lst xs) => some xs | _ => none) = _
  rw [h]
theorem mul_r {i j : Int} (h : -18446744073709551616 < j ∧ j < 18446744073709551616) : CMulB i j = true := by
  unfold CMulB
  simp [h]
theorem div_small {j : Int} (h0 : 0 < j) (h : j < 2 ^ 64) : CDivB j = true := by
  unfold CDivB
  refine decide_eq_true ⟨h0, ?_⟩
  obtain ⟨n, rfl⟩ : ∃ n : Nat, j = (n : Int) := ⟨j.toNat, by omega⟩
  have hn : n < 2 ^ 64 := by exact_mod_cast h
  rw [Int.natAbs_natCast]
  have : n.log2 < 64 := (Nat.log2_lt (by omega)).mpr hn
  omega
/-! loops -/
/-- what a loop's turn must reach -/
def TurnQ (Q : Fl → Prop) (I : Sl → Mem → Prop) (r : Fl) : Prop := match r with
  | .nx σ m => I σ m
  | .ct σ m => I σ m
  | .bk σ m => Q (.nx σ m)
  | r => Q r
theorem forL_ind {body : Sl → Mem → Fl} {tg : Tg} {ok : Mem → Bool} {Q : Fl → Prop} (I : List Vl → Sl → Mem → Prop) (hs : ∀ x rest σ m, I (x :: rest) σ m → ok m = true ∧ ∃ σ', setT tg x σ m = some σ' ∧ TurnQ Q (I rest) (body σ' m))
    (he : ∀ σ m, I [] σ m → ok m = true ∧ Q (.nx σ m)) : ∀ (xs : List Vl) (σ : Sl) (m : Mem), I xs σ m → Q (forL body tg ok xs σ m)
  | [], σ, m, h => by
    obtain ⟨h1, h2⟩ := he σ m h
    unfold forL
    rw [h1]
    exact h2
  | x :: xs, σ, m, h => by
    obtain ⟨h1, σ', h2, h3⟩ := hs x xs σ m h
    unfold forL
    rw [h1, h2]
    dsimp only
    cases q : body σ' m with
    | nx σ2 m2 => rw [q] at h3; exact forL_ind I hs he xs σ2 m2 h3
    | ct σ2 m2 => rw [q] at h3; exact forL_ind I hs he xs σ2 m2 h3
    | bk σ2 m2 => rw [q] at h3; exact h3
    | rt v m2 => rw [q] at h3; exact h3
    | ex x σ2 m2 => rw [q] at h3; exact h3
    | st => rw [q] at h3; exact h3
/-- a comprehension without a condition -/
theorem compL_ind {c e : Sl → Mem → R Vl} {tg : Tg} {ok : Mem → Bool} {σ : Sl} {Q : R (List Vl) → Prop} (I : List Vl → Mem → List Vl → Prop)
    (hs : ∀ x rest m acc, I (x :: rest) m acc → ok m = true ∧ ∃ σ', setT tg x σ m = some σ' ∧ ∃ v m1 b, c σ' m = .ok v m1 ∧ truth v m1 = some b ∧ (b = false → I rest m1 acc) ∧ (b = true → ∃ y m2, e σ' m1 = .ok y m2 ∧ acc.length < 16777216 ∧ I rest m2 (acc ++ [y])))
    (he : ∀ m acc, I [] m acc → ok m = true ∧ Q (.ok acc m)) : ∀ (xs : List Vl) (m : Mem) (acc : List Vl), I xs m acc → Q (compL c e tg ok σ xs m acc)
  | [], m, acc, h => by
    obtain ⟨h1, h2⟩ := he m acc h
    unfold compL
    rw [h1]
    exact h2
  | x :: xs, m, acc, h => by
    obtain ⟨h1, σ', h2, v, m1, b, h3, h4, h5, h6⟩ := hs x xs m acc h
    unfold compL
    rw [h1, h2]
    dsimp only
    rw [h3]
    unfold compK
    dsimp only
    rw [h4]
    cases b with
    | false => exact compL_ind I hs he xs m1 acc (h5 rfl)
    | true =>
      obtain ⟨y, m2, h7, h8, h9⟩ := h6 rfl
      dsimp only
      rw [h7]
      unfold compK2
      dsimp only
      rw [need_of _ (szLt_of h8)]
      exact compL_ind I hs he xs m2 _ h9
/-- [e for x in xs], e pure -/
theorem compL_map {c e : Sl → Mem → R Vl} {tg : Tg} {ok : Mem → Bool} {σ : Sl} {m : Mem} {α : Type} (f : α → Vl) (g : α → Vl) (ho : ok m = true) (hc : ∀ s, c s m = .ok (.d (.bl true)) m) (as : List α) (hz : as.length < 16777216)
    (h : ∀ a ∈ as, ∃ σ', setT tg (f a) σ m = some σ' ∧ e σ' m = .ok (g a) m) : compL c e tg ok σ (as.map f) m [] = .ok (as.map g) m := by
  have key : ∀ (as : List α) (acc : List Vl), (∀ a ∈ as, ∃ σ', setT tg (f a) σ m = some σ' ∧ e σ' m = .ok (g a) m) → acc.length + as.length < 16777216 → compL c e tg ok σ (as.map f) m acc = .ok (acc ++ as.map g) m := by
    intro as
    induction as with
    | nil => intro acc _ _; simp only [List.map_nil, compL, ho, List.append_nil]
    | cons a as ih =>
      intro acc h hz
      obtain ⟨σ', h1, h2⟩ := h a (by simp)
      rw [List.length_cons] at hz
      simp only [List.map_cons, compL, ho, h1, hc, compK, truth_bl, h2, compK2]
      rw [need_of _ (szLt_of (by omega)), ih _ (fun b hb => h b (by simp [hb])) (by rw [List.length_append, List.length_singleton]; omega), List.append_assoc]
      rfl
  have := key as [] h (by rw [List.length_nil]; omega)
  rw [this, List.nil_append]
/-! a def's end -/
theorem oldOk_self : ∀ m : Mem, oldOk m m = true
  | [] => rfl
  | o :: os => by simp [oldOk, oldOk_self os]
theorem oldOk_app : ∀ (m e : Mem), oldOk m (m ++ e) = true
  | [], _ => rfl
  | o :: os, e => by simp [oldOk, oldOk_app os e]
theorem drop_app (m e : Mem) (x : D) : drop m (m ++ e) (.d x) = m := by
  unfold drop
  rw [oldOk_app]
  simp
theorem drop_self (m : Mem) (x : D) : drop m m (.d x) = m := by
  have := drop_app m [] x
  rwa [List.append_nil] at this
theorem drop_d (o o' : O) (m e : Mem) (x : D) (h : isPure o' = true) : drop (o :: m) (o' :: (m ++ e)) (.d x) = o' :: m := by
  unfold drop
  simp only [oldOk, h, oldOk_app, Bool.or_true, Bool.and_self]
  simp
theorem drop_d0 (o o' : O) (m : Mem) (x : D) (h : isPure o' = true) : drop (o :: m) (o' :: m) (.d x) = o' :: m := by
  have := drop_d o o' m [] x h
  rwa [List.append_nil] at this
theorem end_rt (m m' : Mem) (v : Vl) : endFn m (.rt v m') = .ok v (drop m m' v) := rfl
theorem end_nx (m m' : Mem) (σ : Sl) : endFn m (.nx σ m') = .ok (.d .non) (drop m m' (.d .non)) := rfl
/-! the draws' state: the first object -/
def DI (o : O) : Prop := ∃ (ns : List Int) (i b : Nat) (x y : Int), o = .lst [.d (.lst (ns.map D.int)), .d (.int (i : Int)), .d (.int (b : Int)), .d (.int x), .d (.int y)]
theorem DI.pure {o : O} (h : DI o) : isPure o = true := by
  obtain ⟨ns, i, b, x, y, rfl⟩ := h
  rfl
section
variable (m : Mem) (xs ys : List D) (s : List Char)
theorem it_t : itemsOf .seq [.d (.tup xs)] m = .ok (xs.map Vl.d) m := rfl
theorem it_l : itemsOf .seq [.d (.lst xs)] m = .ok (xs.map Vl.d) m := rfl
theorem it_s : itemsOf .seq [.d (.str s)] m = .ok (s.map fun c => Vl.d (.str [c])) m := rfl
theorem it_rng (n : Int) : itemsOf .rng [.d (.int n)] m = need (decide (-1000000000 ≤ n ∧ n ≤ 1000000000)) (.ok ((List.range n.toNat).map fun (i : Nat) => .d (.int (i : Int))) m) := rfl
theorem it_rng2 (a b : Int) : itemsOf .rng [.d (.int a), .d (.int b)] m = need (decide (-1000000000 ≤ a ∧ a ≤ 1000000000 ∧ -1000000000 ≤ b ∧ b ≤ 1000000000)) (.ok ((List.range (b - a).toNat).map fun (i : Nat) => .d (.int (a + (i : Int)))) m) := rfl
theorem it_rev : itemsOf .rev [.d (.tup xs)] m = .ok (xs.reverse.map Vl.d) m := rfl
theorem it_zip (a b : Vl) : itemsOf .zip [a, b] m = match zipSrc a, zipSrc b with
    | some xs, some ys => .ok ((xs.zip ys).map fun p => .d (.tup [p.1, p.2])) m
    | _, _ => .st := rfl
end
section
variable (C : Ctx) (σ : Sl) (m : Mem)
theorem eS_nil : evSs C .nil σ m = .nx σ m := by rw [evSs]
theorem eS_cons (s : S) (ss : Ss) : evSs C (.cons s ss) σ m = seqK (evSs C ss) (evS C s σ m) := by rw [evSs]
theorem eA_nil : evEs C .nil σ m = .ok [] m := by rw [evEs]
theorem eA_cons (e : E) (es : Es) : evEs C (.cons e es) σ m = then2 okCons (evEs C es) σ (evE C e σ m) := by rw [evEs]
theorem eE_c (x : D) : evE C (.c x) σ m = .ok (.d x) m := by rw [evE]
theorem eE_v (i : Nat) : evE C (.v i) σ m = ofO (getS σ i) m := by rw [evE]
theorem eE_bin (op : Bop) (a b : E) : evE C (.bin op a b) σ m = then2 (binop op) (evE C b) σ (evE C a σ m) := by rw [evE]
theorem eE_neg (a : E) : evE C (.neg a) σ m = then1 negop (evE C a σ m) := by rw [evE]
theorem eE_not (a : E) : evE C (.not a) σ m = then1 notop (evE C a σ m) := by rw [evE]
theorem eE_and (a b : E) : evE C (.and a b) σ m = andK (evE C b) σ (evE C a σ m) := by rw [evE]
theorem eE_or (a b : E) : evE C (.or a b) σ m = orK (evE C b) σ (evE C a σ m) := by rw [evE]
theorem eE_cmp (op : Cop) (a b : E) : evE C (.cmp op a b) σ m = then2 (cmpop op) (evE C b) σ (evE C a σ m) := by rw [evE]
theorem eE_chain (o p : Cop) (a b c : E) : evE C (.chain o p a b c) σ m = then2 (chainop o p (evE C c) σ) (evE C b) σ (evE C a σ m) := by rw [evE]
theorem eE_ite (c a b : E) : evE C (.ite c a b) σ m = iteK (evE C a) (evE C b) σ (evE C c σ m) := by rw [evE]
theorem eE_tup (es : Es) : evE C (.tup es) σ m = then1 mkTup (evEs C es σ m) := by rw [evE]
theorem eE_lst (mu : Bool) (es : Es) : evE C (.lst mu es) σ m = then1 (mkLst mu) (evEs C es σ m) := by rw [evE]
theorem eE_ix (a i : E) : evE C (.ix a i) σ m = then2 ixop (evE C i) σ (evE C a σ m) := by rw [evE]
theorem eE_sl (a lo hi : E) : evE C (.sl a lo hi) σ m = then3 slop (evE C lo) (evE C hi) σ (evE C a σ m) := by rw [evE]
theorem eE_sls (a lo hi s : E) : evE C (.sls a lo hi s) σ m = then4 slsop (evE C lo) (evE C hi) (evE C s) σ (evE C a σ m) := by rw [evE]
theorem eE_call (f : Nat) (es : Es) : evE C (.call f es) σ m = then1 (C.call f) (evEs C es σ m) := by rw [evE]
theorem eE_pr (p : Pr) (es : Es) : evE C (.pr p es) σ m = then1 (prim p) (evEs C es σ m) := by rw [evE]
theorem eE_mt (k : Mt) (a : E) (es : Es) : evE C (.mt k a es) σ m = then2 (meth k) (evEs C es) σ (then1 (recv k) (evE C a σ m)) := by rw [evE]
theorem eE_comp (mu : Bool) (tg : Tg) (k : Itk) (es : Es) (c e : E) : evE C (.comp mu tg k es c e) σ m = then1 (mkLst mu) (then1 (compop (evE C c) (evE C e) tg k σ) (evEs C es σ m)) := by rw [evE]
theorem eE_frz (e : E) : evE C (.frz e) σ m = then1 freeze (evE C e σ m) := by rw [evE]
theorem eE_prt (e : E) : evE C (.prt e) σ m = then1 intOnly (evE C e σ m) := by rw [evE]
theorem eT_asg (tg : Tg) (e : E) : evS C (.asg tg e) σ m = fl1 (asgE tg σ) σ (evE C e σ m) := by rw [evS]
theorem eT_setix (a i e : E) : evS C (.setix a i e) σ m = fl1 (exU σ) σ (then3 setixop3 (evE C a) (evE C i) σ (evE C e σ m)) := by rw [evS]
theorem eT_aug (i : Nat) (op : Bop) (e : E) : evS C (.aug i op e) σ m = fl1 (setE i σ) σ (then2 (augop op) (evE C e) σ (ofO (getS σ i) m)) := by rw [evS]
theorem eT_ex (e : E) : evS C (.ex e) σ m = fl1 (exE σ) σ (evE C e σ m) := by rw [evS]
theorem eT_ret (e : E) : evS C (.ret e) σ m = fl1 retE σ (evE C e σ m) := by rw [evS]
theorem eT_retn : evS C .retn σ m = .rt (.d .non) m := by rw [evS]
theorem eT_ite (c : E) (a b : Ss) : evS C (.ite c a b) σ m = fl1 (ifK (evSs C a) (evSs C b) σ) σ (evE C c σ m) := by rw [evS]
theorem eT_for (tg : Tg) (k : Itk) (es : Es) (body : Ss) : evS C (.for_ tg k es body) σ m = fl1 (forK (evSs C body) tg k σ) σ (evEs C es σ m) := by rw [evS]
theorem eT_whl (c : E) (body : Ss) : evS C (.whl c body) σ m = whileL (evE C c) (evSs C body) C.fuel σ m := by rw [evS]
theorem eT_brk : evS C .brk σ m = .bk σ m := by rw [evS]
theorem eT_cnt : evS C .cnt σ m = .ct σ m := by rw [evS]
theorem eT_pass : evS C .pass σ m = .nx σ m := by rw [evS]
theorem eT_frz (i : Nat) : evS C (.frz i) σ m = fl1 (setE i σ) σ (then1 freeze (ofO (getS σ i) m)) := by rw [evS]
theorem eT_fgt (is : List Nat) : evS C (.fgt is) σ m = .nx (fgt σ is) m := by rw [evS]
end
theorem e_asg (tg : Tg) (σ σ' : Sl) (v : Vl) (m : Mem) (h : setT tg v σ m = some σ') : asgE tg σ v m = .nx σ' m := by
  unfold asgE
  rw [h]
theorem e_asgn (i : Nat) (σ : Sl) (v : Vl) (m : Mem) : asgE (.n i) σ v m = .nx (σ.set i (some v)) m := by
  unfold asgE
  rw [setT]
def asgU (o : Option Sl) (m : Mem) : Fl := match o with
  | some σ' => .nx σ' m
  | none => .st
theorem asgU_some (σ' : Sl) (m : Mem) : asgU (some σ') m = .nx σ' m := rfl
theorem e_asgt (ts : List Tg) (xs : List D) (σ : Sl) (m : Mem) : asgE (.t ts) σ (.d (.tup xs)) m = asgU (setTs ts (xs.map Vl.d) σ m) m := by
  unfold asgE asgU
  rw [setT]
  rfl
theorem setT_n (i : Nat) (σ : Sl) (v : Vl) (m : Mem) : setT (.n i) v σ m = some (σ.set i (some v)) := by rw [setT]
theorem setT_t (ts : List Tg) (xs : List D) (σ : Sl) (m : Mem) : setT (.t ts) (.d (.tup xs)) σ m = setTs ts (xs.map Vl.d) σ m := by
  rw [setT]
  rfl
theorem setTs_nil (σ : Sl) (m : Mem) : setTs [] [] σ m = some σ := by rw [setTs]
theorem setTs_n (i : Nat) (ts : List Tg) (x : Vl) (xs : List Vl) (σ : Sl) (m : Mem) : setTs (.n i :: ts) (x :: xs) σ m = setTs ts xs (σ.set i (some x)) m := by
  rw [setTs, setT]
theorem e_exE (σ : Sl) (v : Vl) (m : Mem) : exE σ v m = .nx σ m := rfl
theorem e_exU (σ : Sl) (v : Unit) (m : Mem) : exU σ v m = .nx σ m := rfl
theorem e_ret (v : Vl) (m : Mem) : retE v m = .rt v m := rfl
theorem e_setE (i : Nat) (σ : Sl) (v : Vl) (m : Mem) : setE i σ v m = .nx (σ.set i (some v)) m := rfl
theorem e_if (f g : Sl → Mem → Fl) (σ : Sl) (v : Vl) (m : Mem) : ifK f g σ v m = if2 f g σ m (truth v m) := rfl
theorem if_b (f g : Sl → Mem → Fl) (σ : Sl) (m : Mem) (b : Bool) : if2 f g σ m (some b) = match b with | true => f σ m | false => g σ m := by cases b <;> rfl
theorem e_okc (v : Vl) (vs : List Vl) (m : Mem) : okCons v vs m = .ok (v :: vs) m := rfl
theorem e_int (i : Int) (m : Mem) : intOnly (.d (.int i)) m = .ok (.d (.int i)) m := rfl
theorem e_neg (i : Int) (m : Mem) : negop (.d (.int i)) m = .ok (.d (.int (-i))) m := rfl
theorem e_for (body : Sl → Mem → Fl) (tg : Tg) (k : Itk) (σ : Sl) (vs : List Vl) (m : Mem) : forK body tg k σ vs m = match itemsOf k vs m with
  | .ok xs m => forL body tg (still (srcOf k vs) xs) xs σ m
  | .ex x m => .ex x σ m
  | .st => .st := rfl
theorem e_setix (v : Vl) (n : Nat) (i : Int) (m : Mem) {xs : List Vl} {j : Nat} (h1 : m[n]? = some (.lst xs)) (h2 : pyIxN xs.length i = some j) : setixop3 v (.ref n) (.d (.int i)) m = .ok () (m.set n (.lst (xs.set j v))) := by
  show (match m[n]? with | some (.lst xs) => (match pyIxN xs.length i with | some j => R.ok () (m.set n (.lst (xs.set j v))) | none => .st) | _ => .st) = _
  rw [h1]
  dsimp only
  rw [h2]
theorem pyIx_lit {α : Type} (xs : List α) (n : Nat) : pyIx xs (no_index (OfNat.ofNat n : Int)) = xs[n]? := pyIx_nat xs n
theorem pyIxN_lit (k n : Nat) : pyIxN n (no_index (OfNat.ofNat k : Int)) = if k < n then some k else none := by
  show pyIxN n ((k : Nat) : Int) = _
  by_cases h : k < n
  · rw [pyIxN_nat h, if_pos h]
  · unfold pyIxN
    rw [if_neg (by omega), if_neg (by omega), if_neg h]
theorem mul_lit (i : Int) (n : Nat) (h : n < 18446744073709551616) : CMulB i (no_index (OfNat.ofNat n : Int)) = true := mul_r (by
  show -18446744073709551616 < ((n : Nat) : Int) ∧ ((n : Nat) : Int) < 18446744073709551616
  omega)
theorem mul_litl (i : Int) (n : Nat) (h : n < 18446744073709551616) : CMulB (no_index (OfNat.ofNat n : Int)) i = true := by
  have e : -18446744073709551616 < (OfNat.ofNat n : Int) ∧ (OfNat.ofNat n : Int) < 18446744073709551616 := by
    show -18446744073709551616 < ((n : Nat) : Int) ∧ ((n : Nat) : Int) < 18446744073709551616
    omega
  unfold CMulB
  rw [decide_eq_true e]
  rfl
theorem seq_ref0 (xs : List Vl) (m : Mem) : seqOf (.ref 0) (.lst xs :: m) = some xs := rfl
theorem e_setix0 (v : Vl) (i : Int) (xs : List Vl) (m : Mem) : setixop3 v (.ref 0) (.d (.int i)) (.lst xs :: m) = match pyIxN xs.length i with
  | some j => .ok () (.lst (xs.set j v) :: m)
  | none => .st := rfl
theorem cpow_draw : CPowB 1 1400 = true := by decide
theorem cpow_30 : CPowB 1 30 = true := by decide
theorem band_nn (i j : Int) (hj : 0 ≤ j) : 0 ≤ PySem.Builtin.bitAnd i j := by
  by_cases hi : 0 ≤ i
  · rw [PyProof.Rows.bitAnd_pp hi hj]
    omega
  · rw [PyProof.Rows.bitAnd_np hi hj]
    have : (j.toNat &&& (PySem.Builtin.bitNot i).toNat) ≤ j.toNat := Nat.and_le_left
    omega
theorem still_d (x : D) (xs : List Vl) : still (srcOf .seq [.d x]) xs = fun _ => true := rfl
theorem still_rng (vs xs : List Vl) : still (srcOf .rng vs) xs = fun _ => true := rfl
theorem still_rev (vs xs : List Vl) : still (srcOf .rev vs) xs = fun _ => true := rfl
theorem still_zip (vs xs : List Vl) : still (srcOf .zip vs) xs = fun _ => true := rfl
theorem mul_len (i : Int) (n : Nat) (h : n ≤ 16777216) : CMulB i (n : Int) = true := mul_r ⟨by omega, by omega⟩
theorem forL_nil (body : Sl → Mem → Fl) (tg : Tg) (σ : Sl) (m : Mem) : forL body tg (fun _ => true) [] σ m = .nx σ m := rfl
theorem forL_cons (body : Sl → Mem → Fl) (i : Nat) (x : Vl) (xs : List Vl) (σ : Sl) (m : Mem) : forL body (.n i) (fun _ => true) (x :: xs) σ m = turnK (forL body (.n i) (fun _ => true) xs) (body (σ.set i (some x)) m) := by
  simp only [forL, setT_n]
theorem forL_const (body : Sl → Mem → Fl) (ts : List Tg) (xs : List D) (ys : List Vl) (σ : Sl) (m : Mem) {σ' : Sl} (h : setTs ts (xs.map Vl.d) σ m = some σ') : forL body (.t ts) (fun _ => true) (.d (.tup xs) :: ys) σ m = turnK (forL body (.t ts) (fun _ => true) ys) (body σ' m) := by
  simp only [forL, setT_t, h]
theorem mk_lstT (vs : List Vl) (m : Mem) : mkLst true vs m = need (szOk vs.length) (.ok (.ref m.length) (m ++ [.lst vs])) := rfl
theorem mk_lstF (xs : List D) (m : Mem) : mkLst false (xs.map Vl.d) m = need (szOk xs.length) (.ok (.d (.lst xs)) m) := by
  unfold mkLst
  simp only [pures_map]
theorem mk_lstF0 (m : Mem) : mkLst false [] m = .ok (.d (.lst [])) m := rfl
theorem mk_lstF1 (x : D) (m : Mem) : mkLst false [.d x] m = .ok (.d (.lst [x])) m := rfl
theorem mk_lstF2 (x y : D) (m : Mem) : mkLst false [.d x, .d y] m = .ok (.d (.lst [x, y])) m := rfl
theorem mk_tup (xs : List D) (m : Mem) : mkTup (xs.map Vl.d) m = need (szOk xs.length) (.ok (.d (.tup xs)) m) := by
  unfold mkTup
  simp only [pures_map]
theorem szOk_0 : szOk 0 = true := by decide
/-! the last object -/
theorem last_get (μ : Mem) (o : O) : (μ ++ [o])[μ.length]? = some o := List.getElem?_concat_length
theorem last_set (μ : Mem) (o o' : O) : (μ ++ [o]).set μ.length o' = μ ++ [o'] := by simp
theorem rc_append (n : Nat) (m : Mem) {xs : List Vl} (h : m[n]? = some (.lst xs)) : recv .append (.ref n) m = .ok (.ref n) m := by
  show need (match m[n]? with | some (.lst _) => true | _ => false) _ = _
  rw [h]; rfl
theorem rc_reverse (n : Nat) (m : Mem) {xs : List Vl} (h : m[n]? = some (.lst xs)) : recv .reverse (.ref n) m = .ok (.ref n) m := by
  show need (match m[n]? with | some (.lst _) => true | _ => false) _ = _
  rw [h]; rfl
theorem rc_join (s : List Char) (m : Mem) : recv .join (.d (.str s)) m = .ok (.d (.str s)) m := rfl
theorem rc_find (s : List Char) (m : Mem) : recv .find (.d (.str s)) m = .ok (.d (.str s)) m := rfl
theorem rc_index (s : List Char) (m : Mem) : recv .index (.d (.str s)) m = .ok (.d (.str s)) m := rfl
theorem mt_append (n : Nat) (v : Vl) (m : Mem) {xs : List Vl} (h : m[n]? = some (.lst xs)) : meth .append (.ref n) [v] m = need (szLt xs.length) (.ok (.d .non) (m.set n (.lst (xs ++ [v])))) := by
  show (match m[n]? with | some (.lst xs) => need (szLt xs.length) (R.ok (Vl.d .non) (m.set n (.lst (xs ++ [v])))) | _ => .st) = _
  rw [h]
theorem mt_reverse (n : Nat) (m : Mem) {xs : List Vl} (h : m[n]? = some (.lst xs)) : meth .reverse (.ref n) [] m = .ok (.d .non) (m.set n (.lst xs.reverse)) := by
  show (match m[n]? with | some (.lst xs) => (R.ok (Vl.d .non) (m.set n (.lst xs.reverse))) | _ => .st) = _
  rw [h]
theorem mt_find (s y : List Char) (m : Mem) : meth .find (.d (.str s)) [.d (.str y)] m = .ok (.d (.int (match findFrom y s 0 with | some i => (i : Int) | none => -1))) m := rfl
theorem mt_index (s y : List Char) (m : Mem) {i : Nat} (h : findFrom y s 0 = some i) : meth .index (.d (.str s)) [.d (.str y)] m = .ok (.d (.int i)) m := by
  show (match findFrom y s 0 with | some i => R.ok (Vl.d (.int i)) m | none => .st) = _
  rw [h]
theorem mt_join (sep : List Char) (ss : List (List Char)) (n : Nat) (m : Mem) (h : m[n]? = some (.lst (ss.map fun s => Vl.d (.str s)))) (hz : (ss.map List.length).sum + ss.length * sep.length ≤ 16777216) : meth .join (.d (.str sep)) [.ref n] m = .ok (.d (.str (joinS sep ss))) m := by
  have e1 : lstOf (.ref n) m = some (ss.map D.str) := by
    show (match m[n]? with | some (.lst xs) => pures xs | _ => none) = _
    rw [h]
    have : (ss.map fun s => Vl.d (.str s)) = (ss.map D.str).map Vl.d := by rw [List.map_map]; rfl
    rw [this]
    exact pures_map _
  have e2 : strsOf ((ss.map D.str).map Vl.d) = some ss := by
    rw [List.map_map]
    exact strsOf_map ss
  show (match lstOf (.ref n) m with | some ys => (match strsOf (ys.map Vl.d) with | some ss => need (szOk ((ss.map List.length).sum + ss.length * sep.length)) (R.ok (Vl.d (.str (joinS sep ss))) m) | none => .st) | none => .st) = _
  rw [e1]
  dsimp only
  rw [e2]
  dsimp only
  rw [need_of _ (szOk_of hz)]
theorem joinS_flat : ∀ ss : List (List Char), joinS [] ss = ss.flatten
  | [] => rfl
  | [x] => by simp [joinS]
  | x :: y :: r => by
    have := joinS_flat (y :: r)
    simp only [joinS, List.append_nil, this, List.flatten_cons]
theorem comp_seq (c e : Sl → Mem → R Vl) (tg : Tg) (σ : Sl) (xs : List D) (m : Mem) : compop c e tg .seq σ [.d (.tup xs)] m = compL c e tg (fun _ => true) (fgt σ tg.sets) (xs.map Vl.d) m [] := rfl
theorem comp_seqs (c e : Sl → Mem → R Vl) (tg : Tg) (σ : Sl) (xs : List Char) (m : Mem) : compop c e tg .seq σ [.d (.str xs)] m = compL c e tg (fun _ => true) (fgt σ tg.sets) (xs.map fun c => Vl.d (.str [c])) m [] := rfl
theorem comp_rng (c e : Sl → Mem → R Vl) (tg : Tg) (σ : Sl) (n : Int) (m : Mem) : compop c e tg .rng σ [.d (.int n)] m = match need (decide (-1000000000 ≤ n ∧ n ≤ 1000000000)) (R.ok ((List.range n.toNat).map fun (i : Nat) => Vl.d (.int (i : Int))) m) with
  | .ok xs m => compL c e tg (fun _ => true) (fgt σ tg.sets) xs m []
  | .ex x m => .ex x m
  | .st => .st := by
  unfold compop
  rw [it_rng]
  cases (decide (-1000000000 ≤ n ∧ n ≤ 1000000000)) <;> rfl
theorem intsOf_ints (ns : List Int) : intsOf ((ns.map D.int).map Vl.d) = some ns := by
  rw [List.map_map]
  exact intsOf_map ns
theorem p_sum (ns : List Int) (m : Mem) : prim .sum [.d (.lst (ns.map D.int))] m = .ok (.d (.int ns.sum)) m := by
  show (match intsOf ((ns.map D.int).map Vl.d) with | some ns => R.ok (Vl.d (.int ns.sum)) m | none => .st) = _
  rw [intsOf_ints]
theorem isi_int_int (i : Int) (m : Mem) : prim (.isinst [.int]) [.d (.int i)] m = .ok (.d (.bl true)) m := rfl
theorem isi_int_str (i : Int) (m : Mem) : prim (.isinst [.str]) [.d (.int i)] m = .ok (.d (.bl false)) m := rfl
theorem isi_int_bool (i : Int) (m : Mem) : prim (.isinst [.bool]) [.d (.int i)] m = .ok (.d (.bl false)) m := rfl
theorem isi_int_tuple (i : Int) (m : Mem) : prim (.isinst [.tuple]) [.d (.int i)] m = .ok (.d (.bl false)) m := rfl
theorem isi_int_list (i : Int) (m : Mem) : prim (.isinst [.list]) [.d (.int i)] m = .ok (.d (.bl false)) m := rfl
theorem isi_str_int (s : List Char) (m : Mem) : prim (.isinst [.int]) [.d (.str s)] m = .ok (.d (.bl false)) m := rfl
theorem isi_str_str (s : List Char) (m : Mem) : prim (.isinst [.str]) [.d (.str s)] m = .ok (.d (.bl true)) m := rfl
theorem isi_str_bool (s : List Char) (m : Mem) : prim (.isinst [.bool]) [.d (.str s)] m = .ok (.d (.bl false)) m := rfl
theorem isi_str_tuple (s : List Char) (m : Mem) : prim (.isinst [.tuple]) [.d (.str s)] m = .ok (.d (.bl false)) m := rfl
theorem isi_str_list (s : List Char) (m : Mem) : prim (.isinst [.list]) [.d (.str s)] m = .ok (.d (.bl false)) m := rfl
theorem isi_bl_int (b : Bool) (m : Mem) : prim (.isinst [.int]) [.d (.bl b)] m = .ok (.d (.bl true)) m := rfl
theorem isi_bl_str (b : Bool) (m : Mem) : prim (.isinst [.str]) [.d (.bl b)] m = .ok (.d (.bl false)) m := rfl
theorem isi_bl_bool (b : Bool) (m : Mem) : prim (.isinst [.bool]) [.d (.bl b)] m = .ok (.d (.bl true)) m := rfl
theorem isi_bl_tuple (b : Bool) (m : Mem) : prim (.isinst [.tuple]) [.d (.bl b)] m = .ok (.d (.bl false)) m := rfl
theorem isi_bl_list (b : Bool) (m : Mem) : prim (.isinst [.list]) [.d (.bl b)] m = .ok (.d (.bl false)) m := rfl
theorem isi_non_int  (m : Mem) : prim (.isinst [.int]) [.d (.non)] m = .ok (.d (.bl false)) m := rfl
theorem isi_non_str  (m : Mem) : prim (.isinst [.str]) [.d (.non)] m = .ok (.d (.bl false)) m := rfl
theorem isi_non_bool  (m : Mem) : prim (.isinst [.bool]) [.d (.non)] m = .ok (.d (.bl false)) m := rfl
theorem isi_non_tuple  (m : Mem) : prim (.isinst [.tuple]) [.d (.non)] m = .ok (.d (.bl false)) m := rfl
theorem isi_non_list  (m : Mem) : prim (.isinst [.list]) [.d (.non)] m = .ok (.d (.bl false)) m := rfl
theorem isi_tup_int (xs : List D) (m : Mem) : prim (.isinst [.int]) [.d (.tup xs)] m = .ok (.d (.bl false)) m := rfl
theorem isi_tup_str (xs : List D) (m : Mem) : prim (.isinst [.str]) [.d (.tup xs)] m = .ok (.d (.bl false)) m := rfl
theorem isi_tup_bool (xs : List D) (m : Mem) : prim (.isinst [.bool]) [.d (.tup xs)] m = .ok (.d (.bl false)) m := rfl
theorem isi_tup_tuple (xs : List D) (m : Mem) : prim (.isinst [.tuple]) [.d (.tup xs)] m = .ok (.d (.bl true)) m := rfl
theorem isi_tup_list (xs : List D) (m : Mem) : prim (.isinst [.list]) [.d (.tup xs)] m = .ok (.d (.bl false)) m := rfl
theorem isi_lst_int (xs : List D) (m : Mem) : prim (.isinst [.int]) [.d (.lst xs)] m = .ok (.d (.bl false)) m := rfl
theorem isi_lst_str (xs : List D) (m : Mem) : prim (.isinst [.str]) [.d (.lst xs)] m = .ok (.d (.bl false)) m := rfl
theorem isi_lst_bool (xs : List D) (m : Mem) : prim (.isinst [.bool]) [.d (.lst xs)] m = .ok (.d (.bl false)) m := rfl
theorem isi_lst_tuple (xs : List D) (m : Mem) : prim (.isinst [.tuple]) [.d (.lst xs)] m = .ok (.d (.bl false)) m := rfl
theorem isi_lst_list (xs : List D) (m : Mem) : prim (.isinst [.list]) [.d (.lst xs)] m = .ok (.d (.bl true)) m := rfl
theorem sl_s1 (s : List Char) (i : Int) (m : Mem) : slop (.d (.str s)) (.d .non) (.d (.int i)) m = .ok (.d (.str (pyCut s none (some i)))) m := rfl
theorem sl_s2 (s : List Char) (i : Int) (m : Mem) : slop (.d (.str s)) (.d (.int i)) (.d .non) m = .ok (.d (.str (pyCut s (some i) none))) m := rfl
theorem sl_s3 (s : List Char) (i j : Int) (m : Mem) : slop (.d (.str s)) (.d (.int i)) (.d (.int j)) m = .ok (.d (.str (pyCut s (some i) (some j)))) m := rfl
theorem sls_1 (s : List Char) (j : Int) (m : Mem) : slsop (.d (.str s)) (.d .non) (.d .non) (.d (.int j)) m = need (decide (0 < j ∧ j < 1000000)) (.ok (.d (.str (pyStep s 0 j.toNat))) m) := rfl
theorem sls_2 (s : List Char) (i j : Int) (m : Mem) : slsop (.d (.str s)) (.d (.int i)) (.d .non) (.d (.int j)) m = need (decide (0 < j ∧ j < 1000000)) (.ok (.d (.str (pyStep s (pyB s.length 0 (some i)) j.toNat))) m) := rfl
theorem cut_le {α : Type} (xs : List α) (l h : Option Int) : (pyCut xs l h).length ≤ xs.length := cut_len xs l h
theorem cx_call (P : Prog) (k : Nat) : (cx P k).call = sem P k := rfl

/-- a block's rest -/
def tl : Nat → Ss → Ss
  | 0, s => s
  | n + 1, .cons _ s => tl n s
  | _ + 1, .nil => .nil
end HP
end

section
set_option Elab.async false
set_option linter.all false
set_option maxRecDepth 100000
set_option maxHeartbeats 16000000
/-! The laws' draws. -/
namespace HP
def b_draw : Ss := (.cons (.ite (.cmp .lt (.v 1) (.c (.int 2))) (.cons (.ret (.c (.int 0))) .nil) .nil) (.cons (.asg (.n 2) (.bin .add (.bin .mul (.ix (.v 0) (.c (.int 4))) (.c (.int 977))) (.c (.int 3)))) (.cons (.ite (.and (.cmp .eq (.ix (.v 0) (.c (.int 2))) (.c (.int 0))) (.cmp .lt (.ix (.v 0) (.c (.int 1))) (.pr .len (.cons (.ix (.v 0) (.c (.int 0))) .nil)))) (.cons (.asg (.n 2) (.ix (.ix (.v 0) (.c (.int 0))) (.ix (.v 0) (.c (.int 1))))) (.cons (.setix (.v 0) (.c (.int 1)) (.bin .add (.ix (.v 0) (.c (.int 1))) (.c (.int 1)))) (.cons (.ite (.cmp .lt (.v 2) (.c (.int 0))) (.cons (.asg (.n 2) (.bin .sub (.c (.int 5)) (.bin .mul (.c (.int 3)) (.v 2)))) .nil) .nil) (.cons (.ite (.cmp .ge (.v 2) (.c (.int 1000000000000000000))) (.cons (.asg (.n 2) (.bin .band (.v 2) (.bin .sub (.bin .shl (.c (.int 1)) (.c (.int 1400))) (.c (.int 1))))) (.cons (.setix (.v 0) (.c (.int 2)) (.v 2)) .nil)) .nil) .nil)))) .nil) (.cons (.ite (.cmp .gt (.ix (.v 0) (.c (.int 2))) (.c (.int 0))) (.cons (.asg (.n 3) (.bin .mod (.pr .int (.cons (.ix (.v 0) (.c (.int 2))) .nil)) (.v 1))) (.cons (.setix (.v 0) (.c (.int 2)) (.bin .fdiv (.ix (.v 0) (.c (.int 2))) (.v 1))) (.cons (.ret (.v 3)) .nil))) .nil) (.cons (.setix (.v 0) (.c (.int 4)) (.bin .add (.ix (.v 0) (.c (.int 4))) (.c (.int 1)))) (.cons (.setix (.v 0) (.c (.int 3)) (.bin .mod (.pr .int (.cons (.bin .add (.bin .add (.bin .mul (.ix (.v 0) (.c (.int 3))) (.c (.int 48271))) (.bin .mul (.v 2) (.c (.int 69621)))) (.bin .mul (.ix (.v 0) (.c (.int 4))) (.c (.int 7919)))) .nil)) (.c (.int 2147483647)))) (.cons (.ret (.bin .mod (.pr .int (.cons (.bin .mod (.pr .int (.cons (.bin .add (.bin .add (.bin .mul (.ix (.v 0) (.c (.int 3))) (.c (.int 40692))) (.bin .mul (.ix (.v 0) (.c (.int 4))) (.c (.int 101)))) (.c (.int 12345))) .nil)) (.c (.int 2147483399))) .nil)) (.v 1))) .nil)))))))
theorem draw_of (P : Prog) (f : Nat) (hf : ∀ (k : Nat) (a0 a1 : Vl) (μ : Mem), sem P (k + 1) f [a0, a1] μ = endFn μ (evSs (cx P k) b_draw [some a0, some a1, none, none] μ)) (k : Nat) (hk : 1 ≤ k) (o : O) (μ : Mem) (h : DI o) (n : Int) (hn : n < 2 ∨ CDivB n = true) :
    ∃ r o', sem P k f [.ref 0, .d (.int n)] (o :: μ) = .ok (.d (.int r)) (o' :: μ) ∧ DI o' ∧ 0 ≤ r ∧ r < max n 1 := by
  obtain ⟨k, rfl⟩ : ∃ j, k = j + 1 := ⟨k - 1, by omega⟩
  obtain ⟨ns, i, b, x, y, rfl⟩ := h
  rw [hf]
  by_cases h2 : n < 2
  · refine ⟨0, _, ?_, ⟨ns, i, b, x, y, rfl⟩, by omega, by omega⟩
    simp only [eS_nil, eS_cons, eA_nil, eA_cons, eE_c, eE_v, eE_bin, eE_neg, eE_not, eE_and, eE_or, eE_cmp, eE_chain, eE_ite, eE_tup, eE_lst, eE_ix, eE_sl, eE_sls, eE_call, eE_pr, eE_mt, eE_comp, eE_frz, eE_prt, eT_asg, eT_setix, eT_aug, eT_ex, eT_ret, eT_retn, eT_ite, eT_for, eT_whl, eT_brk, eT_cnt, eT_pass, eT_frz, eT_fgt, then1_ok, then2_ok, then3_ok, then4_ok, e_okc, ofO_some, getS_zero, getS_succ, fl1_ok, seqK_nx, seqK_rt, seqK_ct, seqK_bk, e_asgn, e_exE, e_exU, e_ret, e_setE, e_if, if2_true, if2_false, iteK_ok, ite2_true, ite2_false, andK_ok, and2_true, and2_false, orK_ok, or2_true, or2_false, notop, e_neg, chainop, chain1_ok, chain2_true, chain2_false, need_true, List.set_cons_zero, List.set_cons_succ, cx_call, truth_bl, truth_int, truth_str, truth_tup, truth_lst, truth_non, bin_add, bin_adds, bin_addt, bin_addl, bin_sub, bin_mul, bin_fdiv, bin_mod, bin_shl, bin_pow, bin_band, cmp_lt, cmp_le, cmp_gt, cmp_ge, cmp_eqi, cmp_nei, cmp_eqs, cmp_nes, cmp_is, cmp_isn, in_str, p_lens, p_lent, p_lenl, p_int, p_divmod, ix_t, ix_l, ix_s, ix_r, e_for, it_t, it_l, it_s, it_rng, it_rng2, it_rev, it_zip, e_int, sl_s1, sl_s2, sl_s3, sls_1, sls_2, isi_int_int, isi_int_str, isi_int_bool, isi_int_tuple, isi_int_list, isi_str_int, isi_str_str, isi_str_bool, isi_str_tuple, isi_str_list, isi_bl_int, isi_bl_str, isi_bl_bool, isi_bl_tuple, isi_bl_list, isi_non_int, isi_non_str, isi_non_bool, isi_non_tuple, isi_non_list, isi_tup_int, isi_tup_str, isi_tup_bool, isi_tup_tuple, isi_tup_list, isi_lst_int, isi_lst_str, isi_lst_bool, isi_lst_tuple, isi_lst_list, comp_seq, comp_seqs, comp_rng,  e_asgt, asgU_some, mk_lstT, mk_lstF0, mk_lstF1, mk_lstF2, szOk_0, last_get, last_set, rc_join, rc_find, rc_index, mt_find, setT_t, setTs_nil, setTs_n, still_d, still_rng, still_rev, still_zip, turnK_nx, turnK_ct, turnK_bk, turnK_rt, forL_nil, forL_cons, List.map_cons, List.map_nil, pyIx_nat, pyIx_lit, pyIxN_lit, seq_ref0, e_setix0, cpow_draw, cpow_30, List.length_cons, List.length_nil, Nat.reduceAdd, Nat.reduceLT, Int.reduceLT, Int.reduceLE, decide_true, decide_false, reduceIte, List.getElem?_cons_zero, List.getElem?_cons_succ, mul_lit, mul_litl, b_draw, decide_eq_true h2, end_rt, drop_self]
  · have hd := hn.resolve_left h2
    have hp : decide (0 < n) = true := decide_eq_true (by omega)
    have tail : ∀ (ns : List Int) (i b : Nat) (x y c : Int) (o : O), ∃ r o', endFn (o :: μ) (evSs (cx P k) (tl 3 b_draw) [some (.ref 0), some (.d (.int n)), some (.d (.int c)), none] (.lst [.d (.lst (ns.map D.int)), .d (.int (i : Int)), .d (.int (b : Int)), .d (.int x), .d (.int y)] :: μ)) = .ok (.d (.int r)) (o' :: μ) ∧ DI o' ∧ 0 ≤ r ∧ r < max n 1 := by
      intro ns i b x y c o
      by_cases hb : 0 < (b : Int)
      · have hq : 0 ≤ (b : Int) / n := Int.ediv_nonneg (by omega) (by omega)
        have hr : 0 ≤ (b : Int) % n := Int.emod_nonneg _ (by omega)
        have hr2 := Int.emod_lt_of_pos (b : Int) (show 0 < n by omega)
        refine ⟨(b : Int) % n, .lst [.d (.lst (ns.map D.int)), .d (.int (i : Int)), .d (.int ((b : Int) / n)), .d (.int x), .d (.int y)], ?_, ⟨ns, i, ((b : Int) / n).toNat, x, y, by rw [Int.toNat_of_nonneg hq]⟩, hr, by omega⟩
        simp only [eS_nil, eS_cons, eA_nil, eA_cons, eE_c, eE_v, eE_bin, eE_neg, eE_not, eE_and, eE_or, eE_cmp, eE_chain, eE_ite, eE_tup, eE_lst, eE_ix, eE_sl, eE_sls, eE_call, eE_pr, eE_mt, eE_comp, eE_frz, eE_prt, eT_asg, eT_setix, eT_aug, eT_ex, eT_ret, eT_retn, eT_ite, eT_for, eT_whl, eT_brk, eT_cnt, eT_pass, eT_frz, eT_fgt, then1_ok, then2_ok, then3_ok, then4_ok, e_okc, ofO_some, getS_zero, getS_succ, fl1_ok, seqK_nx, seqK_rt, seqK_ct, seqK_bk, e_asgn, e_exE, e_exU, e_ret, e_setE, e_if, if2_true, if2_false, iteK_ok, ite2_true, ite2_false, andK_ok, and2_true, and2_false, orK_ok, or2_true, or2_false, notop, e_neg, chainop, chain1_ok, chain2_true, chain2_false, need_true, List.set_cons_zero, List.set_cons_succ, cx_call, truth_bl, truth_int, truth_str, truth_tup, truth_lst, truth_non, bin_add, bin_adds, bin_addt, bin_addl, bin_sub, bin_mul, bin_fdiv, bin_mod, bin_shl, bin_pow, bin_band, cmp_lt, cmp_le, cmp_gt, cmp_ge, cmp_eqi, cmp_nei, cmp_eqs, cmp_nes, cmp_is, cmp_isn, in_str, p_lens, p_lent, p_lenl, p_int, p_divmod, ix_t, ix_l, ix_s, ix_r, e_for, it_t, it_l, it_s, it_rng, it_rng2, it_rev, it_zip, e_int, sl_s1, sl_s2, sl_s3, sls_1, sls_2, isi_int_int, isi_int_str, isi_int_bool, isi_int_tuple, isi_int_list, isi_str_int, isi_str_str, isi_str_bool, isi_str_tuple, isi_str_list, isi_bl_int, isi_bl_str, isi_bl_bool, isi_bl_tuple, isi_bl_list, isi_non_int, isi_non_str, isi_non_bool, isi_non_tuple, isi_non_list, isi_tup_int, isi_tup_str, isi_tup_bool, isi_tup_tuple, isi_tup_list, isi_lst_int, isi_lst_str, isi_lst_bool, isi_lst_tuple, isi_lst_list, comp_seq, comp_seqs, comp_rng,  e_asgt, asgU_some, mk_lstT, mk_lstF0, mk_lstF1, mk_lstF2, szOk_0, last_get, last_set, rc_join, rc_find, rc_index, mt_find, setT_t, setTs_nil, setTs_n, still_d, still_rng, still_rev, still_zip, turnK_nx, turnK_ct, turnK_bk, turnK_rt, forL_nil, forL_cons, List.map_cons, List.map_nil, pyIx_nat, pyIx_lit, pyIxN_lit, seq_ref0, e_setix0, cpow_draw, cpow_30, List.length_cons, List.length_nil, Nat.reduceAdd, Nat.reduceLT, Int.reduceLT, Int.reduceLE, decide_true, decide_false, reduceIte, List.getElem?_cons_zero, List.getElem?_cons_succ, mul_lit, mul_litl, b_draw, tl, decide_eq_true hb, hp, hd, end_rt]
        rw [drop_d0 _ _ _ _ rfl]
      · refine ⟨(((x * 48271 + c * 69621 + (y + 1) * 7919) % 2147483647) * 40692 + (y + 1) * 101 + 12345) % 2147483399 % n, _, ?_, ⟨ns, i, b, (x * 48271 + c * 69621 + (y + 1) * 7919) % 2147483647, y + 1, rfl⟩, Int.emod_nonneg _ (by omega), ?_⟩
        · simp only [eS_nil, eS_cons, eA_nil, eA_cons, eE_c, eE_v, eE_bin, eE_neg, eE_not, eE_and, eE_or, eE_cmp, eE_chain, eE_ite, eE_tup, eE_lst, eE_ix, eE_sl, eE_sls, eE_call, eE_pr, eE_mt, eE_comp, eE_frz, eE_prt, eT_asg, eT_setix, eT_aug, eT_ex, eT_ret, eT_retn, eT_ite, eT_for, eT_whl, eT_brk, eT_cnt, eT_pass, eT_frz, eT_fgt, then1_ok, then2_ok, then3_ok, then4_ok, e_okc, ofO_some, getS_zero, getS_succ, fl1_ok, seqK_nx, seqK_rt, seqK_ct, seqK_bk, e_asgn, e_exE, e_exU, e_ret, e_setE, e_if, if2_true, if2_false, iteK_ok, ite2_true, ite2_false, andK_ok, and2_true, and2_false, orK_ok, or2_true, or2_false, notop, e_neg, chainop, chain1_ok, chain2_true, chain2_false, need_true, List.set_cons_zero, List.set_cons_succ, cx_call, truth_bl, truth_int, truth_str, truth_tup, truth_lst, truth_non, bin_add, bin_adds, bin_addt, bin_addl, bin_sub, bin_mul, bin_fdiv, bin_mod, bin_shl, bin_pow, bin_band, cmp_lt, cmp_le, cmp_gt, cmp_ge, cmp_eqi, cmp_nei, cmp_eqs, cmp_nes, cmp_is, cmp_isn, in_str, p_lens, p_lent, p_lenl, p_int, p_divmod, ix_t, ix_l, ix_s, ix_r, e_for, it_t, it_l, it_s, it_rng, it_rng2, it_rev, it_zip, e_int, sl_s1, sl_s2, sl_s3, sls_1, sls_2, isi_int_int, isi_int_str, isi_int_bool, isi_int_tuple, isi_int_list, isi_str_int, isi_str_str, isi_str_bool, isi_str_tuple, isi_str_list, isi_bl_int, isi_bl_str, isi_bl_bool, isi_bl_tuple, isi_bl_list, isi_non_int, isi_non_str, isi_non_bool, isi_non_tuple, isi_non_list, isi_tup_int, isi_tup_str, isi_tup_bool, isi_tup_tuple, isi_tup_list, isi_lst_int, isi_lst_str, isi_lst_bool, isi_lst_tuple, isi_lst_list, comp_seq, comp_seqs, comp_rng,  e_asgt, asgU_some, mk_lstT, mk_lstF0, mk_lstF1, mk_lstF2, szOk_0, last_get, last_set, rc_join, rc_find, rc_index, mt_find, setT_t, setTs_nil, setTs_n, still_d, still_rng, still_rev, still_zip, turnK_nx, turnK_ct, turnK_bk, turnK_rt, forL_nil, forL_cons, List.map_cons, List.map_nil, pyIx_nat, pyIx_lit, pyIxN_lit, seq_ref0, e_setix0, cpow_draw, cpow_30, List.length_cons, List.length_nil, Nat.reduceAdd, Nat.reduceLT, Int.reduceLT, Int.reduceLE, decide_true, decide_false, reduceIte, List.getElem?_cons_zero, List.getElem?_cons_succ, mul_lit, mul_litl, b_draw, tl, decide_eq_false hb, hp, hd, end_rt]
          rw [drop_d0 _ _ _ _ rfl]
        · have := Int.emod_lt_of_pos ((((x * 48271 + c * 69621 + (y + 1) * 7919) % 2147483647) * 40692 + (y + 1) * 101 + 12345) % 2147483399) (show 0 < n by omega)
          omega
    have cut : ∀ (o : O) (σ σ' : Sl) (m m' : Mem), evSs (cx P k) b_draw σ m = evSs (cx P k) (tl 3 b_draw) σ' m' → endFn (o :: μ) (evSs (cx P k) b_draw σ m) = endFn (o :: μ) (evSs (cx P k) (tl 3 b_draw) σ' m') := fun o σ σ' m m' e => by rw [e]
    by_cases hb : (b : Int) = 0
    · by_cases hi : (i : Int) < (ns.length : Int)
      · have hi' : i < ns.length := by omega
        have hg : ((ns.map D.int).map Vl.d)[i]? = some (.d (.int ns[i])) := by simp [hi']
        generalize ns[i] = z at hg
        have big : ∀ w : Int, ∃ c : Nat, PySem.Builtin.bitAnd w (1 * 2 ^ Int.toNat 1400 - 1) = (c : Int) := fun w => by
          have hw := band_nn w (1 * 2 ^ Int.toNat 1400 - 1) (by decide)
          exact ⟨_, (Int.toNat_of_nonneg hw).symm⟩
        by_cases z0 : z < 0
        · by_cases z1 : 1000000000000000000 ≤ 5 - 3 * z
          · obtain ⟨c, hv⟩ := big (5 - 3 * z)
            rw [cut _ _ _ _ _ (show _ = evSs (cx P k) (tl 3 b_draw) [some (.ref 0), some (.d (.int n)), some (.d (.int (c : Int))), none] (.lst [.d (.lst (ns.map D.int)), .d (.int ((i + 1 : Nat) : Int)), .d (.int (c : Int)), .d (.int x), .d (.int y)] :: μ) from ?_)]
            · exact tail _ _ _ _ _ _ _
            · simp only [eS_nil, eS_cons, eA_nil, eA_cons, eE_c, eE_v, eE_bin, eE_neg, eE_not, eE_and, eE_or, eE_cmp, eE_chain, eE_ite, eE_tup, eE_lst, eE_ix, eE_sl, eE_sls, eE_call, eE_pr, eE_mt, eE_comp, eE_frz, eE_prt, eT_asg, eT_setix, eT_aug, eT_ex, eT_ret, eT_retn, eT_ite, eT_for, eT_whl, eT_brk, eT_cnt, eT_pass, eT_frz, eT_fgt, then1_ok, then2_ok, then3_ok, then4_ok, e_okc, ofO_some, getS_zero, getS_succ, fl1_ok, seqK_nx, seqK_rt, seqK_ct, seqK_bk, e_asgn, e_exE, e_exU, e_ret, e_setE, e_if, if2_true, if2_false, iteK_ok, ite2_true, ite2_false, andK_ok, and2_true, and2_false, orK_ok, or2_true, or2_false, notop, e_neg, chainop, chain1_ok, chain2_true, chain2_false, need_true, List.set_cons_zero, List.set_cons_succ, cx_call, truth_bl, truth_int, truth_str, truth_tup, truth_lst, truth_non, bin_add, bin_adds, bin_addt, bin_addl, bin_sub, bin_mul, bin_fdiv, bin_mod, bin_shl, bin_pow, bin_band, cmp_lt, cmp_le, cmp_gt, cmp_ge, cmp_eqi, cmp_nei, cmp_eqs, cmp_nes, cmp_is, cmp_isn, in_str, p_lens, p_lent, p_lenl, p_int, p_divmod, ix_t, ix_l, ix_s, ix_r, e_for, it_t, it_l, it_s, it_rng, it_rng2, it_rev, it_zip, e_int, sl_s1, sl_s2, sl_s3, sls_1, sls_2, isi_int_int, isi_int_str, isi_int_bool, isi_int_tuple, isi_int_list, isi_str_int, isi_str_str, isi_str_bool, isi_str_tuple, isi_str_list, isi_bl_int, isi_bl_str, isi_bl_bool, isi_bl_tuple, isi_bl_list, isi_non_int, isi_non_str, isi_non_bool, isi_non_tuple, isi_non_list, isi_tup_int, isi_tup_str, isi_tup_bool, isi_tup_tuple, isi_tup_list, isi_lst_int, isi_lst_str, isi_lst_bool, isi_lst_tuple, isi_lst_list, comp_seq, comp_seqs, comp_rng,  e_asgt, asgU_some, mk_lstT, mk_lstF0, mk_lstF1, mk_lstF2, szOk_0, last_get, last_set, rc_join, rc_find, rc_index, mt_find, setT_t, setTs_nil, setTs_n, still_d, still_rng, still_rev, still_zip, turnK_nx, turnK_ct, turnK_bk, turnK_rt, forL_nil, forL_cons, List.map_cons, List.map_nil, pyIx_nat, pyIx_lit, pyIxN_lit, seq_ref0, e_setix0, cpow_draw, cpow_30, List.length_cons, List.length_nil, Nat.reduceAdd, Nat.reduceLT, Int.reduceLT, Int.reduceLE, decide_true, decide_false, reduceIte, List.getElem?_cons_zero, List.getElem?_cons_succ, mul_lit, mul_litl, b_draw, tl, decide_eq_false h2, hb, decide_eq_true hi, List.length_map, hg, decide_eq_true z0, decide_eq_true z1, hv, beq_self_eq_true]
              rfl
          · rw [cut _ _ _ _ _ (show _ = evSs (cx P k) (tl 3 b_draw) [some (.ref 0), some (.d (.int n)), some (.d (.int (5 - 3 * z))), none] (.lst [.d (.lst (ns.map D.int)), .d (.int ((i + 1 : Nat) : Int)), .d (.int (b : Int)), .d (.int x), .d (.int y)] :: μ) from ?_)]
            · exact tail _ _ _ _ _ _ _
            · simp only [eS_nil, eS_cons, eA_nil, eA_cons, eE_c, eE_v, eE_bin, eE_neg, eE_not, eE_and, eE_or, eE_cmp, eE_chain, eE_ite, eE_tup, eE_lst, eE_ix, eE_sl, eE_sls, eE_call, eE_pr, eE_mt, eE_comp, eE_frz, eE_prt, eT_asg, eT_setix, eT_aug, eT_ex, eT_ret, eT_retn, eT_ite, eT_for, eT_whl, eT_brk, eT_cnt, eT_pass, eT_frz, eT_fgt, then1_ok, then2_ok, then3_ok, then4_ok, e_okc, ofO_some, getS_zero, getS_succ, fl1_ok, seqK_nx, seqK_rt, seqK_ct, seqK_bk, e_asgn, e_exE, e_exU, e_ret, e_setE, e_if, if2_true, if2_false, iteK_ok, ite2_true, ite2_false, andK_ok, and2_true, and2_false, orK_ok, or2_true, or2_false, notop, e_neg, chainop, chain1_ok, chain2_true, chain2_false, need_true, List.set_cons_zero, List.set_cons_succ, cx_call, truth_bl, truth_int, truth_str, truth_tup, truth_lst, truth_non, bin_add, bin_adds, bin_addt, bin_addl, bin_sub, bin_mul, bin_fdiv, bin_mod, bin_shl, bin_pow, bin_band, cmp_lt, cmp_le, cmp_gt, cmp_ge, cmp_eqi, cmp_nei, cmp_eqs, cmp_nes, cmp_is, cmp_isn, in_str, p_lens, p_lent, p_lenl, p_int, p_divmod, ix_t, ix_l, ix_s, ix_r, e_for, it_t, it_l, it_s, it_rng, it_rng2, it_rev, it_zip, e_int, sl_s1, sl_s2, sl_s3, sls_1, sls_2, isi_int_int, isi_int_str, isi_int_bool, isi_int_tuple, isi_int_list, isi_str_int, isi_str_str, isi_str_bool, isi_str_tuple, isi_str_list, isi_bl_int, isi_bl_str, isi_bl_bool, isi_bl_tuple, isi_bl_list, isi_non_int, isi_non_str, isi_non_bool, isi_non_tuple, isi_non_list, isi_tup_int, isi_tup_str, isi_tup_bool, isi_tup_tuple, isi_tup_list, isi_lst_int, isi_lst_str, isi_lst_bool, isi_lst_tuple, isi_lst_list, comp_seq, comp_seqs, comp_rng,  e_asgt, asgU_some, mk_lstT, mk_lstF0, mk_lstF1, mk_lstF2, szOk_0, last_get, last_set, rc_join, rc_find, rc_index, mt_find, setT_t, setTs_nil, setTs_n, still_d, still_rng, still_rev, still_zip, turnK_nx, turnK_ct, turnK_bk, turnK_rt, forL_nil, forL_cons, List.map_cons, List.map_nil, pyIx_nat, pyIx_lit, pyIxN_lit, seq_ref0, e_setix0, cpow_draw, cpow_30, List.length_cons, List.length_nil, Nat.reduceAdd, Nat.reduceLT, Int.reduceLT, Int.reduceLE, decide_true, decide_false, reduceIte, List.getElem?_cons_zero, List.getElem?_cons_succ, mul_lit, mul_litl, b_draw, tl, decide_eq_false h2, hb, decide_eq_true hi, List.length_map, hg, decide_eq_true z0, decide_eq_false z1, beq_self_eq_true]
              rfl
        · by_cases z1 : 1000000000000000000 ≤ z
          · obtain ⟨c, hv⟩ := big z
            rw [cut _ _ _ _ _ (show _ = evSs (cx P k) (tl 3 b_draw) [some (.ref 0), some (.d (.int n)), some (.d (.int (c : Int))), none] (.lst [.d (.lst (ns.map D.int)), .d (.int ((i + 1 : Nat) : Int)), .d (.int (c : Int)), .d (.int x), .d (.int y)] :: μ) from ?_)]
            · exact tail _ _ _ _ _ _ _
            · simp only [eS_nil, eS_cons, eA_nil, eA_cons, eE_c, eE_v, eE_bin, eE_neg, eE_not, eE_and, eE_or, eE_cmp, eE_chain, eE_ite, eE_tup, eE_lst, eE_ix, eE_sl, eE_sls, eE_call, eE_pr, eE_mt, eE_comp, eE_frz, eE_prt, eT_asg, eT_setix, eT_aug, eT_ex, eT_ret, eT_retn, eT_ite, eT_for, eT_whl, eT_brk, eT_cnt, eT_pass, eT_frz, eT_fgt, then1_ok, then2_ok, then3_ok, then4_ok, e_okc, ofO_some, getS_zero, getS_succ, fl1_ok, seqK_nx, seqK_rt, seqK_ct, seqK_bk, e_asgn, e_exE, e_exU, e_ret, e_setE, e_if, if2_true, if2_false, iteK_ok, ite2_true, ite2_false, andK_ok, and2_true, and2_false, orK_ok, or2_true, or2_false, notop, e_neg, chainop, chain1_ok, chain2_true, chain2_false, need_true, List.set_cons_zero, List.set_cons_succ, cx_call, truth_bl, truth_int, truth_str, truth_tup, truth_lst, truth_non, bin_add, bin_adds, bin_addt, bin_addl, bin_sub, bin_mul, bin_fdiv, bin_mod, bin_shl, bin_pow, bin_band, cmp_lt, cmp_le, cmp_gt, cmp_ge, cmp_eqi, cmp_nei, cmp_eqs, cmp_nes, cmp_is, cmp_isn, in_str, p_lens, p_lent, p_lenl, p_int, p_divmod, ix_t, ix_l, ix_s, ix_r, e_for, it_t, it_l, it_s, it_rng, it_rng2, it_rev, it_zip, e_int, sl_s1, sl_s2, sl_s3, sls_1, sls_2, isi_int_int, isi_int_str, isi_int_bool, isi_int_tuple, isi_int_list, isi_str_int, isi_str_str, isi_str_bool, isi_str_tuple, isi_str_list, isi_bl_int, isi_bl_str, isi_bl_bool, isi_bl_tuple, isi_bl_list, isi_non_int, isi_non_str, isi_non_bool, isi_non_tuple, isi_non_list, isi_tup_int, isi_tup_str, isi_tup_bool, isi_tup_tuple, isi_tup_list, isi_lst_int, isi_lst_str, isi_lst_bool, isi_lst_tuple, isi_lst_list, comp_seq, comp_seqs, comp_rng,  e_asgt, asgU_some, mk_lstT, mk_lstF0, mk_lstF1, mk_lstF2, szOk_0, last_get, last_set, rc_join, rc_find, rc_index, mt_find, setT_t, setTs_nil, setTs_n, still_d, still_rng, still_rev, still_zip, turnK_nx, turnK_ct, turnK_bk, turnK_rt, forL_nil, forL_cons, List.map_cons, List.map_nil, pyIx_nat, pyIx_lit, pyIxN_lit, seq_ref0, e_setix0, cpow_draw, cpow_30, List.length_cons, List.length_nil, Nat.reduceAdd, Nat.reduceLT, Int.reduceLT, Int.reduceLE, decide_true, decide_false, reduceIte, List.getElem?_cons_zero, List.getElem?_cons_succ, mul_lit, mul_litl, b_draw, tl, decide_eq_false h2, hb, decide_eq_true hi, List.length_map, hg, decide_eq_false z0, decide_eq_true z1, hv, beq_self_eq_true]
              rfl
          · rw [cut _ _ _ _ _ (show _ = evSs (cx P k) (tl 3 b_draw) [some (.ref 0), some (.d (.int n)), some (.d (.int z)), none] (.lst [.d (.lst (ns.map D.int)), .d (.int ((i + 1 : Nat) : Int)), .d (.int (b : Int)), .d (.int x), .d (.int y)] :: μ) from ?_)]
            · exact tail _ _ _ _ _ _ _
            · simp only [eS_nil, eS_cons, eA_nil, eA_cons, eE_c, eE_v, eE_bin, eE_neg, eE_not, eE_and, eE_or, eE_cmp, eE_chain, eE_ite, eE_tup, eE_lst, eE_ix, eE_sl, eE_sls, eE_call, eE_pr, eE_mt, eE_comp, eE_frz, eE_prt, eT_asg, eT_setix, eT_aug, eT_ex, eT_ret, eT_retn, eT_ite, eT_for, eT_whl, eT_brk, eT_cnt, eT_pass, eT_frz, eT_fgt, then1_ok, then2_ok, then3_ok, then4_ok, e_okc, ofO_some, getS_zero, getS_succ, fl1_ok, seqK_nx, seqK_rt, seqK_ct, seqK_bk, e_asgn, e_exE, e_exU, e_ret, e_setE, e_if, if2_true, if2_false, iteK_ok, ite2_true, ite2_false, andK_ok, and2_true, and2_false, orK_ok, or2_true, or2_false, notop, e_neg, chainop, chain1_ok, chain2_true, chain2_false, need_true, List.set_cons_zero, List.set_cons_succ, cx_call, truth_bl, truth_int, truth_str, truth_tup, truth_lst, truth_non, bin_add, bin_adds, bin_addt, bin_addl, bin_sub, bin_mul, bin_fdiv, bin_mod, bin_shl, bin_pow, bin_band, cmp_lt, cmp_le, cmp_gt, cmp_ge, cmp_eqi, cmp_nei, cmp_eqs, cmp_nes, cmp_is, cmp_isn, in_str, p_lens, p_lent, p_lenl, p_int, p_divmod, ix_t, ix_l, ix_s, ix_r, e_for, it_t, it_l, it_s, it_rng, it_rng2, it_rev, it_zip, e_int, sl_s1, sl_s2, sl_s3, sls_1, sls_2, isi_int_int, isi_int_str, isi_int_bool, isi_int_tuple, isi_int_list, isi_str_int, isi_str_str, isi_str_bool, isi_str_tuple, isi_str_list, isi_bl_int, isi_bl_str, isi_bl_bool, isi_bl_tuple, isi_bl_list, isi_non_int, isi_non_str, isi_non_bool, isi_non_tuple, isi_non_list, isi_tup_int, isi_tup_str, isi_tup_bool, isi_tup_tuple, isi_tup_list, isi_lst_int, isi_lst_str, isi_lst_bool, isi_lst_tuple, isi_lst_list, comp_seq, comp_seqs, comp_rng,  e_asgt, asgU_some, mk_lstT, mk_lstF0, mk_lstF1, mk_lstF2, szOk_0, last_get, last_set, rc_join, rc_find, rc_index, mt_find, setT_t, setTs_nil, setTs_n, still_d, still_rng, still_rev, still_zip, turnK_nx, turnK_ct, turnK_bk, turnK_rt, forL_nil, forL_cons, List.map_cons, List.map_nil, pyIx_nat, pyIx_lit, pyIxN_lit, seq_ref0, e_setix0, cpow_draw, cpow_30, List.length_cons, List.length_nil, Nat.reduceAdd, Nat.reduceLT, Int.reduceLT, Int.reduceLE, decide_true, decide_false, reduceIte, List.getElem?_cons_zero, List.getElem?_cons_succ, mul_lit, mul_litl, b_draw, tl, decide_eq_false h2, hb, decide_eq_true hi, List.length_map, hg, decide_eq_false z0, decide_eq_false z1, beq_self_eq_true]
              rfl
      · rw [cut _ _ _ _ _ (show _ = evSs (cx P k) (tl 3 b_draw) [some (.ref 0), some (.d (.int n)), some (.d (.int (y * 977 + 3))), none] (.lst [.d (.lst (ns.map D.int)), .d (.int (i : Int)), .d (.int (b : Int)), .d (.int x), .d (.int y)] :: μ) from ?_)]
        · exact tail _ _ _ _ _ _ _
        · simp only [eS_nil, eS_cons, eA_nil, eA_cons, eE_c, eE_v, eE_bin, eE_neg, eE_not, eE_and, eE_or, eE_cmp, eE_chain, eE_ite, eE_tup, eE_lst, eE_ix, eE_sl, eE_sls, eE_call, eE_pr, eE_mt, eE_comp, eE_frz, eE_prt, eT_asg, eT_setix, eT_aug, eT_ex, eT_ret, eT_retn, eT_ite, eT_for, eT_whl, eT_brk, eT_cnt, eT_pass, eT_frz, eT_fgt, then1_ok, then2_ok, then3_ok, then4_ok, e_okc, ofO_some, getS_zero, getS_succ, fl1_ok, seqK_nx, seqK_rt, seqK_ct, seqK_bk, e_asgn, e_exE, e_exU, e_ret, e_setE, e_if, if2_true, if2_false, iteK_ok, ite2_true, ite2_false, andK_ok, and2_true, and2_false, orK_ok, or2_true, or2_false, notop, e_neg, chainop, chain1_ok, chain2_true, chain2_false, need_true, List.set_cons_zero, List.set_cons_succ, cx_call, truth_bl, truth_int, truth_str, truth_tup, truth_lst, truth_non, bin_add, bin_adds, bin_addt, bin_addl, bin_sub, bin_mul, bin_fdiv, bin_mod, bin_shl, bin_pow, bin_band, cmp_lt, cmp_le, cmp_gt, cmp_ge, cmp_eqi, cmp_nei, cmp_eqs, cmp_nes, cmp_is, cmp_isn, in_str, p_lens, p_lent, p_lenl, p_int, p_divmod, ix_t, ix_l, ix_s, ix_r, e_for, it_t, it_l, it_s, it_rng, it_rng2, it_rev, it_zip, e_int, sl_s1, sl_s2, sl_s3, sls_1, sls_2, isi_int_int, isi_int_str, isi_int_bool, isi_int_tuple, isi_int_list, isi_str_int, isi_str_str, isi_str_bool, isi_str_tuple, isi_str_list, isi_bl_int, isi_bl_str, isi_bl_bool, isi_bl_tuple, isi_bl_list, isi_non_int, isi_non_str, isi_non_bool, isi_non_tuple, isi_non_list, isi_tup_int, isi_tup_str, isi_tup_bool, isi_tup_tuple, isi_tup_list, isi_lst_int, isi_lst_str, isi_lst_bool, isi_lst_tuple, isi_lst_list, comp_seq, comp_seqs, comp_rng,  e_asgt, asgU_some, mk_lstT, mk_lstF0, mk_lstF1, mk_lstF2, szOk_0, last_get, last_set, rc_join, rc_find, rc_index, mt_find, setT_t, setTs_nil, setTs_n, still_d, still_rng, still_rev, still_zip, turnK_nx, turnK_ct, turnK_bk, turnK_rt, forL_nil, forL_cons, List.map_cons, List.map_nil, pyIx_nat, pyIx_lit, pyIxN_lit, seq_ref0, e_setix0, cpow_draw, cpow_30, List.length_cons, List.length_nil, Nat.reduceAdd, Nat.reduceLT, Int.reduceLT, Int.reduceLE, decide_true, decide_false, reduceIte, List.getElem?_cons_zero, List.getElem?_cons_succ, mul_lit, mul_litl, b_draw, tl, decide_eq_false h2, hb, decide_eq_false hi, List.length_map, beq_self_eq_true]
    · have hb' : ((b : Int) == 0) = false := by simpa using hb
      rw [cut _ _ _ _ _ (show _ = evSs (cx P k) (tl 3 b_draw) [some (.ref 0), some (.d (.int n)), some (.d (.int (y * 977 + 3))), none] (.lst [.d (.lst (ns.map D.int)), .d (.int (i : Int)), .d (.int (b : Int)), .d (.int x), .d (.int y)] :: μ) from ?_)]
      · exact tail _ _ _ _ _ _ _
      · simp only [eS_nil, eS_cons, eA_nil, eA_cons, eE_c, eE_v, eE_bin, eE_neg, eE_not, eE_and, eE_or, eE_cmp, eE_chain, eE_ite, eE_tup, eE_lst, eE_ix, eE_sl, eE_sls, eE_call, eE_pr, eE_mt, eE_comp, eE_frz, eE_prt, eT_asg, eT_setix, eT_aug, eT_ex, eT_ret, eT_retn, eT_ite, eT_for, eT_whl, eT_brk, eT_cnt, eT_pass, eT_frz, eT_fgt, then1_ok, then2_ok, then3_ok, then4_ok, e_okc, ofO_some, getS_zero, getS_succ, fl1_ok, seqK_nx, seqK_rt, seqK_ct, seqK_bk, e_asgn, e_exE, e_exU, e_ret, e_setE, e_if, if2_true, if2_false, iteK_ok, ite2_true, ite2_false, andK_ok, and2_true, and2_false, orK_ok, or2_true, or2_false, notop, e_neg, chainop, chain1_ok, chain2_true, chain2_false, need_true, List.set_cons_zero, List.set_cons_succ, cx_call, truth_bl, truth_int, truth_str, truth_tup, truth_lst, truth_non, bin_add, bin_adds, bin_addt, bin_addl, bin_sub, bin_mul, bin_fdiv, bin_mod, bin_shl, bin_pow, bin_band, cmp_lt, cmp_le, cmp_gt, cmp_ge, cmp_eqi, cmp_nei, cmp_eqs, cmp_nes, cmp_is, cmp_isn, in_str, p_lens, p_lent, p_lenl, p_int, p_divmod, ix_t, ix_l, ix_s, ix_r, e_for, it_t, it_l, it_s, it_rng, it_rng2, it_rev, it_zip, e_int, sl_s1, sl_s2, sl_s3, sls_1, sls_2, isi_int_int, isi_int_str, isi_int_bool, isi_int_tuple, isi_int_list, isi_str_int, isi_str_str, isi_str_bool, isi_str_tuple, isi_str_list, isi_bl_int, isi_bl_str, isi_bl_bool, isi_bl_tuple, isi_bl_list, isi_non_int, isi_non_str, isi_non_bool, isi_non_tuple, isi_non_list, isi_tup_int, isi_tup_str, isi_tup_bool, isi_tup_tuple, isi_tup_list, isi_lst_int, isi_lst_str, isi_lst_bool, isi_lst_tuple, isi_lst_list, comp_seq, comp_seqs, comp_rng,  e_asgt, asgU_some, mk_lstT, mk_lstF0, mk_lstF1, mk_lstF2, szOk_0, last_get, last_set, rc_join, rc_find, rc_index, mt_find, setT_t, setTs_nil, setTs_n, still_d, still_rng, still_rev, still_zip, turnK_nx, turnK_ct, turnK_bk, turnK_rt, forL_nil, forL_cons, List.map_cons, List.map_nil, pyIx_nat, pyIx_lit, pyIxN_lit, seq_ref0, e_setix0, cpow_draw, cpow_30, List.length_cons, List.length_nil, Nat.reduceAdd, Nat.reduceLT, Int.reduceLT, Int.reduceLE, decide_true, decide_false, reduceIte, List.getElem?_cons_zero, List.getElem?_cons_succ, mul_lit, mul_litl, b_draw, tl, decide_eq_false h2, hb']
end HP
end

section
set_option Elab.async false
set_option linter.all false
set_option maxRecDepth 100000
set_option maxHeartbeats 16000000
namespace HP
namespace K28
open PySem
def top (i : Nat) : Stmt := PySem.Challenge.pw_hushedpages_k28_stems_numbered.main.body.getD i (.Pass ⟨0, 0, 0, 0⟩)
/-- pattern_many(pattern); slots 0 pattern 1 many 2 slot -/
def w1_pattern_many : Ss := (.cons (.asg (.n 1) (.bin .mul (.v 1) (.pr .len (.cons (.v 2) .nil)))) .nil)
def b_pattern_many : Ss := (.cons (.asg (.n 1) (.c (.int 1))) (.cons (.for_ (.n 2) .seq (.cons (.v 0) .nil) w1_pattern_many) (.cons (.ret (.v 1)) .nil)))
def f_pattern_many : DefT := ⟨"pattern_many", top 1, ["pattern", "many", "slot"], ["pattern"], ⟨1, 3, b_pattern_many⟩⟩
/-- pattern_stem(pattern, k); slots 0 pattern 1 k 2 signs 3 slot 4 at -/
def w1_pattern_stem : Ss := (.cons (.asg (.t [(.n 1), (.n 4)]) (.pr .divmod (.cons (.v 1) (.cons (.pr .len (.cons (.v 3) .nil)) .nil)))) (.cons (.ex (.mt .append (.v 2) (.cons (.ix (.v 3) (.v 4)) .nil))) .nil))
def b_pattern_stem : Ss := (.cons (.asg (.n 2) (.lst true .nil)) (.cons (.for_ (.n 3) .rev (.cons (.v 0) .nil) w1_pattern_stem) (.cons (.ex (.mt .reverse (.v 2) .nil)) (.cons (.ret (.mt .join (.c (.str [])) (.cons (.v 2) .nil))) .nil))))
def f_pattern_stem : DefT := ⟨"pattern_stem", top 2, ["pattern", "k", "signs", "slot", "at"], ["pattern", "k"], ⟨2, 5, b_pattern_stem⟩⟩
/-- pattern_place(pattern, stem); slots 0 pattern 1 stem 2 k 3 slot 4 sign 5 at -/
def w1_pattern_place : Ss := (.cons (.asg (.n 5) (.mt .find (.v 3) (.cons (.v 4) .nil))) (.cons (.ite (.cmp .lt (.v 5) (.c (.int 0))) (.cons (.ret (.c .non)) .nil) .nil) (.cons (.asg (.n 2) (.bin .add (.bin .mul (.v 2) (.pr .len (.cons (.v 3) .nil))) (.v 5))) .nil)))
def b_pattern_place : Ss := (.cons (.ite (.cmp .ne (.pr .len (.cons (.v 1) .nil)) (.pr .len (.cons (.v 0) .nil))) (.cons (.ret (.c .non)) .nil) .nil) (.cons (.asg (.n 2) (.c (.int 0))) (.cons (.for_ (.t [(.n 3), (.n 4)]) .zip (.cons (.v 0) (.cons (.v 1) .nil)) w1_pattern_place) (.cons (.ret (.v 2)) .nil))))
def f_pattern_place : DefT := ⟨"pattern_place", top 3, ["pattern", "stem", "k", "slot", "sign", "at"], ["pattern", "stem"], ⟨2, 6, b_pattern_place⟩⟩
/-- stems_many(stock); slots 0 stock 1 pattern -/
def b_stems_many : Ss := (.cons (.ret (.pr .sum (.cons (.comp false (.n 1) .seq (.cons (.v 0) .nil) (.c (.bl true)) (.call 0 (.cons (.v 1) .nil))) .nil))) .nil)
def f_stems_many : DefT := ⟨"stems_many", top 4, ["stock", "pattern"], ["stock"], ⟨1, 2, b_stems_many⟩⟩
/-- stem_at(stock, k); slots 0 stock 1 k 2 pattern 3 many -/
def w1_stem_at : Ss := (.cons (.asg (.n 3) (.call 0 (.cons (.v 2) .nil))) (.cons (.ite (.cmp .lt (.v 1) (.v 3)) (.cons (.ret (.call 1 (.cons (.v 2) (.cons (.v 1) .nil)))) .nil) .nil) (.cons (.asg (.n 1) (.bin .sub (.v 1) (.v 3))) .nil)))
def b_stem_at : Ss := (.cons (.for_ (.n 2) .seq (.cons (.v 0) .nil) w1_stem_at) (.cons (.ret (.c .non)) .nil))
def f_stem_at : DefT := ⟨"stem_at", top 5, ["stock", "k", "pattern", "many"], ["stock", "k"], ⟨2, 4, b_stem_at⟩⟩
/-- place_in(stock, stem); slots 0 stock 1 stem 2 ahead 3 pattern 4 k -/
def w1_place_in : Ss := (.cons (.asg (.n 4) (.call 2 (.cons (.v 3) (.cons (.v 1) .nil)))) (.cons (.ite (.cmp .isnot (.v 4) (.c .non)) (.cons (.ret (.bin .add (.v 2) (.v 4))) .nil) .nil) (.cons (.asg (.n 2) (.bin .add (.v 2) (.call 0 (.cons (.v 3) .nil)))) .nil)))
def b_place_in : Ss := (.cons (.asg (.n 2) (.c (.int 0))) (.cons (.for_ (.n 3) .seq (.cons (.v 0) .nil) w1_place_in) (.cons (.ret (.c .non)) .nil)))
def f_place_in : DefT := ⟨"place_in", top 6, ["stock", "stem", "ahead", "pattern", "k"], ["stock", "stem"], ⟨2, 5, b_place_in⟩⟩
/-- _law_begin(_law_script); slots 0 _law_script -/
def b_L_begin : Ss := (.cons (.ret (.lst true (.cons (.pr (.list false) (.cons (.v 0) .nil)) (.cons (.c (.int 0)) (.cons (.c (.int 0)) (.cons (.c (.int 7)) (.cons (.c (.int 0)) .nil))))))) .nil)
def f_L_begin : DefT := ⟨"_law_begin", top 8, ["_law_script"], ["_law_script"], ⟨1, 1, b_L_begin⟩⟩
/-- _law_draw(_law_d, _law_many); slots 0 _law_d 1 _law_many 2 _law_cell 3 _law_found -/
def b_L_draw : Ss := (.cons (.ite (.cmp .lt (.v 1) (.c (.int 2))) (.cons (.ret (.c (.int 0))) .nil) .nil) (.cons (.asg (.n 2) (.bin .add (.bin .mul (.ix (.v 0) (.c (.int 4))) (.c (.int 977))) (.c (.int 3)))) (.cons (.ite (.and (.cmp .eq (.ix (.v 0) (.c (.int 2))) (.c (.int 0))) (.cmp .lt (.ix (.v 0) (.c (.int 1))) (.pr .len (.cons (.ix (.v 0) (.c (.int 0))) .nil)))) (.cons (.asg (.n 2) (.ix (.ix (.v 0) (.c (.int 0))) (.ix (.v 0) (.c (.int 1))))) (.cons (.setix (.v 0) (.c (.int 1)) (.bin .add (.ix (.v 0) (.c (.int 1))) (.c (.int 1)))) (.cons (.ite (.cmp .lt (.v 2) (.c (.int 0))) (.cons (.asg (.n 2) (.bin .sub (.c (.int 5)) (.bin .mul (.c (.int 3)) (.v 2)))) .nil) .nil) (.cons (.ite (.cmp .ge (.v 2) (.c (.int 1000000000000000000))) (.cons (.asg (.n 2) (.bin .band (.v 2) (.bin .sub (.bin .shl (.c (.int 1)) (.c (.int 1400))) (.c (.int 1))))) (.cons (.setix (.v 0) (.c (.int 2)) (.v 2)) .nil)) .nil) .nil)))) .nil) (.cons (.ite (.cmp .gt (.ix (.v 0) (.c (.int 2))) (.c (.int 0))) (.cons (.asg (.n 3) (.bin .mod (.pr .int (.cons (.ix (.v 0) (.c (.int 2))) .nil)) (.v 1))) (.cons (.setix (.v 0) (.c (.int 2)) (.bin .fdiv (.ix (.v 0) (.c (.int 2))) (.v 1))) (.cons (.ret (.v 3)) .nil))) .nil) (.cons (.setix (.v 0) (.c (.int 4)) (.bin .add (.ix (.v 0) (.c (.int 4))) (.c (.int 1)))) (.cons (.setix (.v 0) (.c (.int 3)) (.bin .mod (.pr .int (.cons (.bin .add (.bin .add (.bin .mul (.ix (.v 0) (.c (.int 3))) (.c (.int 48271))) (.bin .mul (.v 2) (.c (.int 69621)))) (.bin .mul (.ix (.v 0) (.c (.int 4))) (.c (.int 7919)))) .nil)) (.c (.int 2147483647)))) (.cons (.ret (.bin .mod (.pr .int (.cons (.bin .mod (.pr .int (.cons (.bin .add (.bin .add (.bin .mul (.ix (.v 0) (.c (.int 3))) (.c (.int 40692))) (.bin .mul (.ix (.v 0) (.c (.int 4))) (.c (.int 101)))) (.c (.int 12345))) .nil)) (.c (.int 2147483399))) .nil)) (.v 1))) .nil)))))))
def f_L_draw : DefT := ⟨"_law_draw", top 9, ["_law_d", "_law_many", "_law_cell", "_law_found"], ["_law_d", "_law_many"], ⟨2, 4, b_L_draw⟩⟩
/-- _law_pick(_law_d, _law_row); slots 0 _law_d 1 _law_row -/
def b_L_pick : Ss := (.cons (.ret (.ix (.v 1) (.call 7 (.cons (.v 0) (.cons (.pr .len (.cons (.v 1) .nil)) .nil))))) .nil)
def f_L_pick : DefT := ⟨"_law_pick", top 10, ["_law_d", "_law_row"], ["_law_d", "_law_row"], ⟨2, 2, b_L_pick⟩⟩
/-- _law_stems(_law_stock); slots 0 _law_stock 1 _law_found 2 _law_pattern 3 _law_rows 4 _law_slot 5 _law_longer 6 _law_row 7 _law_sign -/
def w1_L_stems : Ss := (.cons (.asg (.n 5) (.bin .add (.v 5) (.comp false (.n 7) .seq (.cons (.v 4) .nil) (.c (.bl true)) (.bin .add (.v 6) (.v 7))))) .nil)
def w2_L_stems : Ss := (.cons (.asg (.n 5) (.lst false .nil)) (.cons (.for_ (.n 6) .seq (.cons (.v 3) .nil) w1_L_stems) (.cons (.asg (.n 3) (.v 5)) .nil)))
def w3_L_stems : Ss := (.cons (.asg (.n 3) (.lst false (.cons (.c (.str [])) .nil))) (.cons (.for_ (.n 4) .seq (.cons (.v 2) .nil) w2_L_stems) (.cons (.asg (.n 1) (.bin .add (.v 1) (.v 3))) .nil)))
def b_L_stems : Ss := (.cons (.asg (.n 1) (.lst false .nil)) (.cons (.for_ (.n 2) .seq (.cons (.v 0) .nil) w3_L_stems) (.cons (.ret (.v 1)) .nil)))
def f_L_stems : DefT := ⟨"_law_stems", top 11, ["_law_stock", "_law_found", "_law_pattern", "_law_rows", "_law_slot", "_law_longer", "_law_row", "_law_sign"], ["_law_stock"], ⟨1, 8, b_L_stems⟩⟩
/-- _law_exact(_law_told, _law_due); slots 0 _law_told 1 _law_due 2 _law_k -/
def w1_L_exact : Ss := (.cons (.ite (.not (.call 10 (.cons (.ix (.v 0) (.v 2)) (.cons (.ix (.v 1) (.v 2)) .nil)))) (.cons (.ret (.c (.bl false))) .nil) .nil) .nil)
def b_L_exact : Ss := (.cons (.ite (.pr (.isinst [.tuple]) (.cons (.v 1) .nil)) (.cons (.ite (.or (.not (.pr (.isinst [.tuple]) (.cons (.v 0) .nil))) (.cmp .ne (.pr .len (.cons (.v 0) .nil)) (.pr .len (.cons (.v 1) .nil)))) (.cons (.ret (.c (.bl false))) .nil) .nil) (.cons (.for_ (.n 2) .rng (.cons (.pr .len (.cons (.v 1) .nil)) .nil) w1_L_exact) (.cons (.ret (.c (.bl true))) .nil))) .nil) (.cons (.ite (.cmp .is_ (.v 1) (.c .non)) (.cons (.ret (.cmp .is_ (.v 0) (.c .non))) .nil) .nil) (.cons (.ite (.pr (.isinst [.bool]) (.cons (.v 1) .nil)) (.cons (.ret (.and (.pr (.isinst [.bool]) (.cons (.v 0) .nil)) (.cmp .eq (.v 0) (.v 1)))) .nil) .nil) (.cons (.ite (.pr (.isinst [.int]) (.cons (.v 1) .nil)) (.cons (.ret (.and (.pr (.isinst [.int]) (.cons (.v 0) .nil)) (.and (.not (.pr (.isinst [.bool]) (.cons (.v 0) .nil))) (.cmp .eq (.v 0) (.v 1))))) .nil) .nil) (.cons (.ret (.and (.pr (.isinst [.str]) (.cons (.v 0) .nil)) (.cmp .eq (.v 0) (.v 1)))) .nil)))))
def f_L_exact : DefT := ⟨"_law_exact", top 12, ["_law_told", "_law_due", "_law_k"], ["_law_told", "_law_due"], ⟨2, 3, b_L_exact⟩⟩
/-- _law_great(_law_d, _law_many); slots 0 _law_d 1 _law_many -/
def b_L_great : Ss := (.cons (.ret (.bin .mod (.pr .int (.cons (.bin .add (.bin .mul (.call 7 (.cons (.v 0) (.cons (.bin .shl (.c (.int 1)) (.c (.int 30))) .nil))) (.bin .shl (.c (.int 1)) (.c (.int 30)))) (.call 7 (.cons (.v 0) (.cons (.bin .shl (.c (.int 1)) (.c (.int 30))) .nil)))) .nil)) (.v 1))) .nil)
def f_L_great : DefT := ⟨"_law_great", top 13, ["_law_d", "_law_many"], ["_law_d", "_law_many"], ⟨2, 2, b_L_great⟩⟩
/-- _law_slot_of(_law_d, _law_signs, _law_most); slots 0 _law_d 1 _law_signs 2 _law_most 3 _law_row -/
def b_L_slot_of : Ss := (.cons (.asg (.n 3) (.sls (.sl (.v 1) (.prt (.call 7 (.cons (.v 0) (.cons (.pr .len (.cons (.v 1) .nil)) .nil)))) (.c .non)) (.c .non) (.c .non) (.prt (.bin .add (.c (.int 1)) (.call 7 (.cons (.v 0) (.cons (.c (.int 3)) .nil))))))) (.cons (.ret (.sl (.v 3) (.c .non) (.prt (.bin .add (.c (.int 1)) (.call 7 (.cons (.v 0) (.cons (.v 2) .nil))))))) .nil))
def f_L_slot_of : DefT := ⟨"_law_slot_of", top 14, ["_law_d", "_law_signs", "_law_most", "_law_row"], ["_law_d", "_law_signs", "_law_most"], ⟨3, 4, b_L_slot_of⟩⟩
/-- _law_stock_of(_law_d, _law_longest, _law_most); slots 0 _law_d 1 _law_longest 2 _law_most 3 _law_signs 4 _law_longs 5 _law_apart 6 _law_found 7 _law_k 8 _law_pattern 9 _law_place -/
def w1_L_stock_of : Ss := (.cons (.ite (.cmp .eq (.v 9) (.v 5)) (.cons (.ex (.mt .append (.v 8) (.cons (.call 12 (.cons (.v 0) (.cons (.sls (.v 3) (.prt (.v 7)) (.c .non) (.prt (.c (.int 8)))) (.cons (.v 2) .nil)))) .nil))) .nil) (.cons (.ite (.and (.cmp .eq (.v 2) (.c (.int 36))) (.cmp .eq (.call 7 (.cons (.v 0) (.cons (.c (.int 3)) .nil))) (.c (.int 0)))) (.cons (.ex (.mt .append (.v 8) (.cons (.v 3) .nil))) .nil) (.cons (.ex (.mt .append (.v 8) (.cons (.call 12 (.cons (.v 0) (.cons (.v 3) (.cons (.v 2) .nil)))) .nil))) .nil)) .nil)) .nil)
def w2_L_stock_of : Ss := (.cons (.asg (.n 8) (.lst true .nil)) (.cons (.for_ (.n 9) .rng (.cons (.ix (.v 4) (.v 7)) .nil) w1_L_stock_of) (.cons (.ex (.mt .append (.v 6) (.cons (.pr .tuple (.cons (.v 8) .nil)) .nil))) .nil)))
def b_L_stock_of : Ss := (.cons (.asg (.n 3) (.c (.str ['0', '1', '2', '3', '4', '5', '6', '7', '8', '9', 'a', 'b', 'c', 'd', 'e', 'f', 'g', 'h', 'i', 'j', 'k', 'l', 'm', 'n', 'o', 'p', 'q', 'r', 's', 't', 'u', 'v', 'w', 'x', 'y', 'z']))) (.cons (.asg (.n 4) (.comp false (.n 7) .rng (.cons (.bin .add (.c (.int 1)) (.call 7 (.cons (.v 0) (.cons (.c (.int 8)) .nil)))) .nil) (.c (.bl true)) (.bin .add (.c (.int 1)) (.call 7 (.cons (.v 0) (.cons (.v 1) .nil)))))) (.cons (.asg (.n 5) (.call 7 (.cons (.v 0) (.cons (.pr .min (.cons (.v 4) .nil)) .nil)))) (.cons (.asg (.n 6) (.lst true .nil)) (.cons (.for_ (.n 7) .rng (.cons (.pr .len (.cons (.v 4) .nil)) .nil) w2_L_stock_of) (.cons (.ret (.pr .tuple (.cons (.v 6) .nil))) .nil))))))
def f_L_stock_of : DefT := ⟨"_law_stock_of", top 15, ["_law_d", "_law_longest", "_law_most", "_law_signs", "_law_longs", "_law_apart", "_law_found", "_law_k", "_law_pattern", "_law_place"], ["_law_d", "_law_longest", "_law_most"], ⟨3, 10, b_L_stock_of⟩⟩
/-- _law_many_of(_law_pattern); slots 0 _law_pattern 1 _law_total 2 _law_slot -/
def w1_L_many_of : Ss := (.cons (.asg (.n 1) (.bin .mul (.v 1) (.pr .len (.cons (.v 2) .nil)))) .nil)
def b_L_many_of : Ss := (.cons (.asg (.n 1) (.c (.int 1))) (.cons (.for_ (.n 2) .seq (.cons (.v 0) .nil) w1_L_many_of) (.cons (.ret (.v 1)) .nil)))
def f_L_many_of : DefT := ⟨"_law_many_of", top 16, ["_law_pattern", "_law_total", "_law_slot"], ["_law_pattern"], ⟨1, 3, b_L_many_of⟩⟩
/-- _law_stem_of(_law_stock, _law_k); slots 0 _law_stock 1 _law_k 2 _law_pattern 3 _law_later 4 _law_stem 5 _law_slot -/
def w1_L_stem_of : Ss := (.cons (.asg (.n 3) (.bin .fdiv (.v 3) (.pr .len (.cons (.v 5) .nil)))) (.cons (.asg (.n 4) (.bin .add (.v 4) (.ix (.v 5) (.bin .fdiv (.v 1) (.v 3))))) (.cons (.asg (.n 1) (.bin .sub (.v 1) (.bin .mul (.bin .fdiv (.v 1) (.v 3)) (.v 3)))) .nil)))
def w2_L_stem_of : Ss := (.cons (.asg (.n 3) (.call 14 (.cons (.v 2) .nil))) (.cons (.ite (.cmp .ge (.v 1) (.v 3)) (.cons (.asg (.n 1) (.bin .sub (.v 1) (.v 3))) (.cons .cnt .nil)) .nil) (.cons (.asg (.n 4) (.c (.str []))) (.cons (.for_ (.n 5) .seq (.cons (.v 2) .nil) w1_L_stem_of) (.cons (.ret (.v 4)) .nil)))))
def b_L_stem_of : Ss := (.cons (.for_ (.n 2) .seq (.cons (.v 0) .nil) w2_L_stem_of) (.cons (.ret (.c .non)) .nil))
def f_L_stem_of : DefT := ⟨"_law_stem_of", top 17, ["_law_stock", "_law_k", "_law_pattern", "_law_later", "_law_stem", "_law_slot"], ["_law_stock", "_law_k"], ⟨2, 6, b_L_stem_of⟩⟩
/-- _law_place_of(_law_stock, _law_text); slots 0 _law_stock 1 _law_text 2 _law_ahead 3 _law_pattern 4 _law_k 5 _law_n -/
def w1_L_place_of : Ss := (.cons (.ite (.and (.cmp .isnot (.v 4) (.c .non)) (.cmp .isin (.ix (.v 1) (.v 5)) (.ix (.v 3) (.v 5)))) (.cons (.asg (.n 4) (.bin .add (.bin .mul (.v 4) (.pr .len (.cons (.ix (.v 3) (.v 5)) .nil))) (.mt .index (.ix (.v 3) (.v 5)) (.cons (.ix (.v 1) (.v 5)) .nil)))) .nil) (.cons (.asg (.n 4) (.c .non)) .nil)) .nil)
def w2_L_place_of : Ss := (.cons (.asg (.n 4) (.ite (.cmp .eq (.pr .len (.cons (.v 1) .nil)) (.pr .len (.cons (.v 3) .nil))) (.c (.int 0)) (.c .non))) (.cons (.for_ (.n 5) .rng (.cons (.pr .len (.cons (.v 3) .nil)) .nil) w1_L_place_of) (.cons (.ite (.cmp .isnot (.v 4) (.c .non)) (.cons (.ret (.bin .add (.v 2) (.v 4))) .nil) .nil) (.cons (.asg (.n 2) (.bin .add (.v 2) (.call 14 (.cons (.v 3) .nil)))) .nil))))
def b_L_place_of : Ss := (.cons (.asg (.n 2) (.c (.int 0))) (.cons (.for_ (.n 3) .seq (.cons (.v 0) .nil) w2_L_place_of) (.cons (.ret (.c .non)) .nil)))
def f_L_place_of : DefT := ⟨"_law_place_of", top 18, ["_law_stock", "_law_text", "_law_ahead", "_law_pattern", "_law_k", "_law_n"], ["_law_stock", "_law_text"], ⟨2, 6, b_L_place_of⟩⟩
/-- _law_near(_law_d, _law_stem); slots 0 _law_d 1 _law_stem 2 _law_at 3 _law_put -/
def b_L_near : Ss := (.cons (.asg (.n 2) (.call 7 (.cons (.v 0) (.cons (.bin .add (.pr .len (.cons (.v 1) .nil)) (.c (.int 1))) .nil)))) (.cons (.asg (.n 3) (.call 8 (.cons (.v 0) (.cons (.lst false (.cons (.c (.str [])) (.cons (.c (.str ['0'])) (.cons (.c (.str ['a'])) (.cons (.c (.str ['q'])) (.cons (.c (.str ['z'])) (.cons (.c (.str ['A'])) (.cons (.c (.str ['-'])) (.cons (.c (.str [' '])) (.cons (.sl (.v 1) (.c .non) (.prt (.c (.int 1)))) .nil)))))))))) .nil)))) (.cons (.ret (.bin .add (.bin .add (.sl (.v 1) (.c .non) (.prt (.v 2))) (.v 3)) (.sl (.v 1) (.prt (.bin .add (.v 2) (.call 7 (.cons (.v 0) (.cons (.c (.int 2)) .nil))))) (.c .non)))) .nil)))
def f_L_near : DefT := ⟨"_law_near", top 19, ["_law_d", "_law_stem", "_law_at", "_law_put"], ["_law_d", "_law_stem"], ⟨2, 4, b_L_near⟩⟩
/-- _law_numbered(_law_d, _law_stock); slots 0 _law_d 1 _law_stock 2 _law_total 3 _law_numbers 4 _law_ahead 5 _law_pattern 6 _law_listed 7 _law_k 8 _law_due 9 _law_text -/
def w1_L_numbered : Ss := (.cons (.asg (.n 4) (.bin .add (.v 4) (.call 14 (.cons (.v 5) .nil)))) (.cons (.asg (.n 3) (.bin .add (.v 3) (.lst false (.cons (.bin .sub (.v 4) (.c (.int 1))) (.cons (.bin .mod (.pr .int (.cons (.v 4) .nil)) (.v 2)) .nil))))) .nil))
def w2_L_numbered : Ss := (.cons (.asg (.n 8) (.ite (.v 6) (.ix (.v 6) (.v 7)) (.call 15 (.cons (.v 1) (.cons (.v 7) .nil))))) (.cons (.ite (.or (.not (.call 10 (.cons (.call 4 (.cons (.v 1) (.cons (.v 7) .nil))) (.cons (.v 8) .nil)))) (.not (.call 10 (.cons (.call 5 (.cons (.v 1) (.cons (.v 8) .nil))) (.cons (.v 7) .nil))))) (.cons (.ret (.c (.bl false))) .nil) .nil) (.cons (.asg (.n 9) (.call 17 (.cons (.v 0) (.cons (.v 8) .nil)))) (.cons (.ite (.not (.call 10 (.cons (.call 5 (.cons (.v 1) (.cons (.v 9) .nil))) (.cons (.call 16 (.cons (.v 1) (.cons (.v 9) .nil))) .nil)))) (.cons (.ret (.c (.bl false))) .nil) .nil) .nil))))
def b_L_numbered : Ss := (.cons (.asg (.n 2) (.pr .sum (.cons (.comp false (.n 5) .seq (.cons (.v 1) .nil) (.c (.bl true)) (.call 14 (.cons (.v 5) .nil))) .nil))) (.cons (.ite (.not (.call 10 (.cons (.call 3 (.cons (.v 1) .nil)) (.cons (.v 2) .nil)))) (.cons (.ret (.c (.bl false))) .nil) .nil) (.cons (.asg (.n 3) (.bin .add (.lst false (.cons (.c (.int 0)) .nil)) (.comp false (.n 7) .rng (.cons (.c (.int 5)) .nil) (.c (.bl true)) (.call 11 (.cons (.v 0) (.cons (.v 2) .nil)))))) (.cons (.asg (.n 4) (.c (.int 0))) (.cons (.for_ (.n 5) .seq (.cons (.v 1) .nil) w1_L_numbered) (.cons (.asg (.n 6) (.ite (.cmp .le (.v 2) (.c (.int 300))) (.call 9 (.cons (.v 1) .nil)) (.lst false .nil))) (.cons (.for_ (.n 7) .seq (.cons (.v 3) .nil) w2_L_numbered) (.cons (.ret (.cmp .is_ (.call 5 (.cons (.v 1) (.cons (.c (.str [])) .nil))) (.c .non))) .nil))))))))
def f_L_numbered : DefT := ⟨"_law_numbered", top 20, ["_law_d", "_law_stock", "_law_total", "_law_numbers", "_law_ahead", "_law_pattern", "_law_listed", "_law_k", "_law_due", "_law_text"], ["_law_d", "_law_stock"], ⟨2, 10, b_L_numbered⟩⟩
/-- law(_law_script); slots 0 _law_script 1 _law_d 2 _law_small 3 _law_large 4 _law_turn -/
def w1_law : Ss := (.cons (.ite (.or (.not (.call 18 (.cons (.v 1) (.cons (.v 2) .nil)))) (.not (.call 18 (.cons (.v 1) (.cons (.v 3) .nil))))) (.cons (.ret (.c (.bl false))) .nil) .nil) .nil)
def b_law : Ss := (.cons (.asg (.n 1) (.call 6 (.cons (.v 0) .nil))) (.cons (.asg (.n 2) (.call 13 (.cons (.v 1) (.cons (.c (.int 3)) (.cons (.c (.int 3)) .nil))))) (.cons (.asg (.n 3) (.call 13 (.cons (.v 1) (.cons (.c (.int 8)) (.cons (.c (.int 36)) .nil))))) (.cons (.for_ (.n 4) .rng (.cons (.c (.int 2)) .nil) w1_law) (.cons (.ret (.c (.bl true))) .nil)))))
def f_law : DefT := ⟨"law", top 21, ["_law_script", "_law_d", "_law_small", "_law_large", "_law_turn"], ["_law_script"], ⟨1, 5, b_law⟩⟩
def tab : List DefT := [f_pattern_many, f_pattern_stem, f_pattern_place, f_stems_many, f_stem_at, f_place_in, f_L_begin, f_L_draw, f_L_pick, f_L_stems, f_L_exact, f_L_great, f_L_slot_of, f_L_stock_of, f_L_many_of, f_L_stem_of, f_L_place_of, f_L_near, f_L_numbered, f_law]
def gls : List (Str × D) := []
def blt : List Str := ["bool", "divmod", "int", "isinstance", "len", "list", "min", "range", "reversed", "str", "sum", "tuple", "zip"]
theorem u_pattern_many {kV doc pm cdv ct : Value} {an : Option Addr} : ∀ us : List Value, us.length = f_pattern_many.ps.length → bindArgs (PySem.W.fnOf f_pattern_many.nm f_pattern_many.nm (L2.defArgs f_pattern_many.st) (L2.defBody f_pattern_many.st) (L2.defScope f_pattern_many.st) .none kV doc pm an cdv ct) ⟨us, []⟩ = pure (f_pattern_many.ps.zip us) := fun us hl => match us, hl with | [_], _ => rfl
theorem u_pattern_stem {kV doc pm cdv ct : Value} {an : Option Addr} : ∀ us : List Value, us.length = f_pattern_stem.ps.length → bindArgs (PySem.W.fnOf f_pattern_stem.nm f_pattern_stem.nm (L2.defArgs f_pattern_stem.st) (L2.defBody f_pattern_stem.st) (L2.defScope f_pattern_stem.st) .none kV doc pm an cdv ct) ⟨us, []⟩ = pure (f_pattern_stem.ps.zip us) := fun us hl => match us, hl with | [_, _], _ => rfl
theorem u_pattern_place {kV doc pm cdv ct : Value} {an : Option Addr} : ∀ us : List Value, us.length = f_pattern_place.ps.length → bindArgs (PySem.W.fnOf f_pattern_place.nm f_pattern_place.nm (L2.defArgs f_pattern_place.st) (L2.defBody f_pattern_place.st) (L2.defScope f_pattern_place.st) .none kV doc pm an cdv ct) ⟨us, []⟩ = pure (f_pattern_place.ps.zip us) := fun us hl => match us, hl with | [_, _], _ => rfl
theorem u_stems_many {kV doc pm cdv ct : Value} {an : Option Addr} : ∀ us : List Value, us.length = f_stems_many.ps.length → bindArgs (PySem.W.fnOf f_stems_many.nm f_stems_many.nm (L2.defArgs f_stems_many.st) (L2.defBody f_stems_many.st) (L2.defScope f_stems_many.st) .none kV doc pm an cdv ct) ⟨us, []⟩ = pure (f_stems_many.ps.zip us) := fun us hl => match us, hl with | [_], _ => rfl
theorem u_stem_at {kV doc pm cdv ct : Value} {an : Option Addr} : ∀ us : List Value, us.length = f_stem_at.ps.length → bindArgs (PySem.W.fnOf f_stem_at.nm f_stem_at.nm (L2.defArgs f_stem_at.st) (L2.defBody f_stem_at.st) (L2.defScope f_stem_at.st) .none kV doc pm an cdv ct) ⟨us, []⟩ = pure (f_stem_at.ps.zip us) := fun us hl => match us, hl with | [_, _], _ => rfl
theorem u_place_in {kV doc pm cdv ct : Value} {an : Option Addr} : ∀ us : List Value, us.length = f_place_in.ps.length → bindArgs (PySem.W.fnOf f_place_in.nm f_place_in.nm (L2.defArgs f_place_in.st) (L2.defBody f_place_in.st) (L2.defScope f_place_in.st) .none kV doc pm an cdv ct) ⟨us, []⟩ = pure (f_place_in.ps.zip us) := fun us hl => match us, hl with | [_, _], _ => rfl
theorem u_L_begin {kV doc pm cdv ct : Value} {an : Option Addr} : ∀ us : List Value, us.length = f_L_begin.ps.length → bindArgs (PySem.W.fnOf f_L_begin.nm f_L_begin.nm (L2.defArgs f_L_begin.st) (L2.defBody f_L_begin.st) (L2.defScope f_L_begin.st) .none kV doc pm an cdv ct) ⟨us, []⟩ = pure (f_L_begin.ps.zip us) := fun us hl => match us, hl with | [_], _ => rfl
theorem u_L_draw {kV doc pm cdv ct : Value} {an : Option Addr} : ∀ us : List Value, us.length = f_L_draw.ps.length → bindArgs (PySem.W.fnOf f_L_draw.nm f_L_draw.nm (L2.defArgs f_L_draw.st) (L2.defBody f_L_draw.st) (L2.defScope f_L_draw.st) .none kV doc pm an cdv ct) ⟨us, []⟩ = pure (f_L_draw.ps.zip us) := fun us hl => match us, hl with | [_, _], _ => rfl
theorem u_L_pick {kV doc pm cdv ct : Value} {an : Option Addr} : ∀ us : List Value, us.length = f_L_pick.ps.length → bindArgs (PySem.W.fnOf f_L_pick.nm f_L_pick.nm (L2.defArgs f_L_pick.st) (L2.defBody f_L_pick.st) (L2.defScope f_L_pick.st) .none kV doc pm an cdv ct) ⟨us, []⟩ = pure (f_L_pick.ps.zip us) := fun us hl => match us, hl with | [_, _], _ => rfl
theorem u_L_stems {kV doc pm cdv ct : Value} {an : Option Addr} : ∀ us : List Value, us.length = f_L_stems.ps.length → bindArgs (PySem.W.fnOf f_L_stems.nm f_L_stems.nm (L2.defArgs f_L_stems.st) (L2.defBody f_L_stems.st) (L2.defScope f_L_stems.st) .none kV doc pm an cdv ct) ⟨us, []⟩ = pure (f_L_stems.ps.zip us) := fun us hl => match us, hl with | [_], _ => rfl
theorem u_L_exact {kV doc pm cdv ct : Value} {an : Option Addr} : ∀ us : List Value, us.length = f_L_exact.ps.length → bindArgs (PySem.W.fnOf f_L_exact.nm f_L_exact.nm (L2.defArgs f_L_exact.st) (L2.defBody f_L_exact.st) (L2.defScope f_L_exact.st) .none kV doc pm an cdv ct) ⟨us, []⟩ = pure (f_L_exact.ps.zip us) := fun us hl => match us, hl with | [_, _], _ => rfl
theorem u_L_great {kV doc pm cdv ct : Value} {an : Option Addr} : ∀ us : List Value, us.length = f_L_great.ps.length → bindArgs (PySem.W.fnOf f_L_great.nm f_L_great.nm (L2.defArgs f_L_great.st) (L2.defBody f_L_great.st) (L2.defScope f_L_great.st) .none kV doc pm an cdv ct) ⟨us, []⟩ = pure (f_L_great.ps.zip us) := fun us hl => match us, hl with | [_, _], _ => rfl
theorem u_L_slot_of {kV doc pm cdv ct : Value} {an : Option Addr} : ∀ us : List Value, us.length = f_L_slot_of.ps.length → bindArgs (PySem.W.fnOf f_L_slot_of.nm f_L_slot_of.nm (L2.defArgs f_L_slot_of.st) (L2.defBody f_L_slot_of.st) (L2.defScope f_L_slot_of.st) .none kV doc pm an cdv ct) ⟨us, []⟩ = pure (f_L_slot_of.ps.zip us) := fun us hl => match us, hl with | [_, _, _], _ => rfl
theorem u_L_stock_of {kV doc pm cdv ct : Value} {an : Option Addr} : ∀ us : List Value, us.length = f_L_stock_of.ps.length → bindArgs (PySem.W.fnOf f_L_stock_of.nm f_L_stock_of.nm (L2.defArgs f_L_stock_of.st) (L2.defBody f_L_stock_of.st) (L2.defScope f_L_stock_of.st) .none kV doc pm an cdv ct) ⟨us, []⟩ = pure (f_L_stock_of.ps.zip us) := fun us hl => match us, hl with | [_, _, _], _ => rfl
theorem u_L_many_of {kV doc pm cdv ct : Value} {an : Option Addr} : ∀ us : List Value, us.length = f_L_many_of.ps.length → bindArgs (PySem.W.fnOf f_L_many_of.nm f_L_many_of.nm (L2.defArgs f_L_many_of.st) (L2.defBody f_L_many_of.st) (L2.defScope f_L_many_of.st) .none kV doc pm an cdv ct) ⟨us, []⟩ = pure (f_L_many_of.ps.zip us) := fun us hl => match us, hl with | [_], _ => rfl
theorem u_L_stem_of {kV doc pm cdv ct : Value} {an : Option Addr} : ∀ us : List Value, us.length = f_L_stem_of.ps.length → bindArgs (PySem.W.fnOf f_L_stem_of.nm f_L_stem_of.nm (L2.defArgs f_L_stem_of.st) (L2.defBody f_L_stem_of.st) (L2.defScope f_L_stem_of.st) .none kV doc pm an cdv ct) ⟨us, []⟩ = pure (f_L_stem_of.ps.zip us) := fun us hl => match us, hl with | [_, _], _ => rfl
theorem u_L_place_of {kV doc pm cdv ct : Value} {an : Option Addr} : ∀ us : List Value, us.length = f_L_place_of.ps.length → bindArgs (PySem.W.fnOf f_L_place_of.nm f_L_place_of.nm (L2.defArgs f_L_place_of.st) (L2.defBody f_L_place_of.st) (L2.defScope f_L_place_of.st) .none kV doc pm an cdv ct) ⟨us, []⟩ = pure (f_L_place_of.ps.zip us) := fun us hl => match us, hl with | [_, _], _ => rfl
theorem u_L_near {kV doc pm cdv ct : Value} {an : Option Addr} : ∀ us : List Value, us.length = f_L_near.ps.length → bindArgs (PySem.W.fnOf f_L_near.nm f_L_near.nm (L2.defArgs f_L_near.st) (L2.defBody f_L_near.st) (L2.defScope f_L_near.st) .none kV doc pm an cdv ct) ⟨us, []⟩ = pure (f_L_near.ps.zip us) := fun us hl => match us, hl with | [_, _], _ => rfl
theorem u_L_numbered {kV doc pm cdv ct : Value} {an : Option Addr} : ∀ us : List Value, us.length = f_L_numbered.ps.length → bindArgs (PySem.W.fnOf f_L_numbered.nm f_L_numbered.nm (L2.defArgs f_L_numbered.st) (L2.defBody f_L_numbered.st) (L2.defScope f_L_numbered.st) .none kV doc pm an cdv ct) ⟨us, []⟩ = pure (f_L_numbered.ps.zip us) := fun us hl => match us, hl with | [_, _], _ => rfl
theorem u_law {kV doc pm cdv ct : Value} {an : Option Addr} : ∀ us : List Value, us.length = f_law.ps.length → bindArgs (PySem.W.fnOf f_law.nm f_law.nm (L2.defArgs f_law.st) (L2.defBody f_law.st) (L2.defScope f_law.st) .none kV doc pm an cdv ct) ⟨us, []⟩ = pure (f_law.ps.zip us) := fun us hl => match us, hl with | [_], _ => rfl
theorem c_pattern_many : defB tab gls blt f_pattern_many = true := by decide +kernel
theorem c_pattern_stem : defB tab gls blt f_pattern_stem = true := by decide +kernel
theorem c_pattern_place : defB tab gls blt f_pattern_place = true := by decide +kernel
theorem c_stems_many : defB tab gls blt f_stems_many = true := by decide +kernel
theorem c_stem_at : defB tab gls blt f_stem_at = true := by decide +kernel
theorem c_place_in : defB tab gls blt f_place_in = true := by decide +kernel
theorem c_L_begin : defB tab gls blt f_L_begin = true := by decide +kernel
theorem c_L_draw : defB tab gls blt f_L_draw = true := by decide +kernel
theorem c_L_pick : defB tab gls blt f_L_pick = true := by decide +kernel
theorem c_L_stems : defB tab gls blt f_L_stems = true := by decide +kernel
theorem c_L_exact : defB tab gls blt f_L_exact = true := by decide +kernel
theorem c_L_great : defB tab gls blt f_L_great = true := by decide +kernel
theorem c_L_slot_of : defB tab gls blt f_L_slot_of = true := by decide +kernel
theorem c_L_stock_of : defB tab gls blt f_L_stock_of = true := by decide +kernel
theorem c_L_many_of : defB tab gls blt f_L_many_of = true := by decide +kernel
theorem c_L_stem_of : defB tab gls blt f_L_stem_of = true := by decide +kernel
theorem c_L_place_of : defB tab gls blt f_L_place_of = true := by decide +kernel
theorem c_L_near : defB tab gls blt f_L_near = true := by decide +kernel
theorem c_L_numbered : defB tab gls blt f_L_numbered = true := by decide +kernel
theorem c_law : defB tab gls blt f_law = true := by decide +kernel
theorem r_pattern_many (k : Nat) (a0 : Vl) (μ : Mem) : sem (progOf tab gls) (k + 1) 0 [a0] μ = endFn μ (evSs (cx (progOf tab gls) k) b_pattern_many [some a0, none, none] μ) := rfl
theorem r_pattern_stem (k : Nat) (a0 a1 : Vl) (μ : Mem) : sem (progOf tab gls) (k + 1) 1 [a0, a1] μ = endFn μ (evSs (cx (progOf tab gls) k) b_pattern_stem [some a0, some a1, none, none, none] μ) := rfl
theorem r_pattern_place (k : Nat) (a0 a1 : Vl) (μ : Mem) : sem (progOf tab gls) (k + 1) 2 [a0, a1] μ = endFn μ (evSs (cx (progOf tab gls) k) b_pattern_place [some a0, some a1, none, none, none, none] μ) := rfl
theorem r_stems_many (k : Nat) (a0 : Vl) (μ : Mem) : sem (progOf tab gls) (k + 1) 3 [a0] μ = endFn μ (evSs (cx (progOf tab gls) k) b_stems_many [some a0, none] μ) := rfl
theorem r_stem_at (k : Nat) (a0 a1 : Vl) (μ : Mem) : sem (progOf tab gls) (k + 1) 4 [a0, a1] μ = endFn μ (evSs (cx (progOf tab gls) k) b_stem_at [some a0, some a1, none, none] μ) := rfl
theorem r_place_in (k : Nat) (a0 a1 : Vl) (μ : Mem) : sem (progOf tab gls) (k + 1) 5 [a0, a1] μ = endFn μ (evSs (cx (progOf tab gls) k) b_place_in [some a0, some a1, none, none, none] μ) := rfl
theorem r_L_begin (k : Nat) (a0 : Vl) (μ : Mem) : sem (progOf tab gls) (k + 1) 6 [a0] μ = endFn μ (evSs (cx (progOf tab gls) k) b_L_begin [some a0] μ) := rfl
theorem r_L_draw (k : Nat) (a0 a1 : Vl) (μ : Mem) : sem (progOf tab gls) (k + 1) 7 [a0, a1] μ = endFn μ (evSs (cx (progOf tab gls) k) b_L_draw [some a0, some a1, none, none] μ) := rfl
theorem r_L_pick (k : Nat) (a0 a1 : Vl) (μ : Mem) : sem (progOf tab gls) (k + 1) 8 [a0, a1] μ = endFn μ (evSs (cx (progOf tab gls) k) b_L_pick [some a0, some a1] μ) := rfl
theorem r_L_stems (k : Nat) (a0 : Vl) (μ : Mem) : sem (progOf tab gls) (k + 1) 9 [a0] μ = endFn μ (evSs (cx (progOf tab gls) k) b_L_stems [some a0, none, none, none, none, none, none, none] μ) := rfl
theorem r_L_exact (k : Nat) (a0 a1 : Vl) (μ : Mem) : sem (progOf tab gls) (k + 1) 10 [a0, a1] μ = endFn μ (evSs (cx (progOf tab gls) k) b_L_exact [some a0, some a1, none] μ) := rfl
theorem r_L_great (k : Nat) (a0 a1 : Vl) (μ : Mem) : sem (progOf tab gls) (k + 1) 11 [a0, a1] μ = endFn μ (evSs (cx (progOf tab gls) k) b_L_great [some a0, some a1] μ) := rfl
theorem r_L_slot_of (k : Nat) (a0 a1 a2 : Vl) (μ : Mem) : sem (progOf tab gls) (k + 1) 12 [a0, a1, a2] μ = endFn μ (evSs (cx (progOf tab gls) k) b_L_slot_of [some a0, some a1, some a2, none] μ) := rfl
theorem r_L_stock_of (k : Nat) (a0 a1 a2 : Vl) (μ : Mem) : sem (progOf tab gls) (k + 1) 13 [a0, a1, a2] μ = endFn μ (evSs (cx (progOf tab gls) k) b_L_stock_of [some a0, some a1, some a2, none, none, none, none, none, none, none] μ) := rfl
theorem r_L_many_of (k : Nat) (a0 : Vl) (μ : Mem) : sem (progOf tab gls) (k + 1) 14 [a0] μ = endFn μ (evSs (cx (progOf tab gls) k) b_L_many_of [some a0, none, none] μ) := rfl
theorem r_L_stem_of (k : Nat) (a0 a1 : Vl) (μ : Mem) : sem (progOf tab gls) (k + 1) 15 [a0, a1] μ = endFn μ (evSs (cx (progOf tab gls) k) b_L_stem_of [some a0, some a1, none, none, none, none] μ) := rfl
theorem r_L_place_of (k : Nat) (a0 a1 : Vl) (μ : Mem) : sem (progOf tab gls) (k + 1) 16 [a0, a1] μ = endFn μ (evSs (cx (progOf tab gls) k) b_L_place_of [some a0, some a1, none, none, none, none] μ) := rfl
theorem r_L_near (k : Nat) (a0 a1 : Vl) (μ : Mem) : sem (progOf tab gls) (k + 1) 17 [a0, a1] μ = endFn μ (evSs (cx (progOf tab gls) k) b_L_near [some a0, some a1, none, none] μ) := rfl
theorem r_L_numbered (k : Nat) (a0 a1 : Vl) (μ : Mem) : sem (progOf tab gls) (k + 1) 18 [a0, a1] μ = endFn μ (evSs (cx (progOf tab gls) k) b_L_numbered [some a0, some a1, none, none, none, none, none, none, none, none] μ) := rfl
theorem r_law (k : Nat) (a0 : Vl) (μ : Mem) : sem (progOf tab gls) (k + 1) 19 [a0] μ = endFn μ (evSs (cx (progOf tab gls) k) b_law [some a0, none, none, none, none] μ) := rfl
theorem all_ok : ∀ d ∈ tab, defB tab gls blt d = true := by
  refine List.forall_mem_cons.mpr ⟨c_pattern_many, ?_⟩
  refine List.forall_mem_cons.mpr ⟨c_pattern_stem, ?_⟩
  refine List.forall_mem_cons.mpr ⟨c_pattern_place, ?_⟩
  refine List.forall_mem_cons.mpr ⟨c_stems_many, ?_⟩
  refine List.forall_mem_cons.mpr ⟨c_stem_at, ?_⟩
  refine List.forall_mem_cons.mpr ⟨c_place_in, ?_⟩
  refine List.forall_mem_cons.mpr ⟨c_L_begin, ?_⟩
  refine List.forall_mem_cons.mpr ⟨c_L_draw, ?_⟩
  refine List.forall_mem_cons.mpr ⟨c_L_pick, ?_⟩
  refine List.forall_mem_cons.mpr ⟨c_L_stems, ?_⟩
  refine List.forall_mem_cons.mpr ⟨c_L_exact, ?_⟩
  refine List.forall_mem_cons.mpr ⟨c_L_great, ?_⟩
  refine List.forall_mem_cons.mpr ⟨c_L_slot_of, ?_⟩
  refine List.forall_mem_cons.mpr ⟨c_L_stock_of, ?_⟩
  refine List.forall_mem_cons.mpr ⟨c_L_many_of, ?_⟩
  refine List.forall_mem_cons.mpr ⟨c_L_stem_of, ?_⟩
  refine List.forall_mem_cons.mpr ⟨c_L_place_of, ?_⟩
  refine List.forall_mem_cons.mpr ⟨c_L_near, ?_⟩
  refine List.forall_mem_cons.mpr ⟨c_L_numbered, ?_⟩
  refine List.forall_mem_cons.mpr ⟨c_law, ?_⟩
  exact fun _ z => nomatch z
end K28
end HP
end

section
set_option Elab.async false
set_option linter.all false
set_option maxRecDepth 100000
set_option maxHeartbeats 16000000
namespace HP
namespace K28
abbrev P := progOf tab gls
theorem dr (k : Nat) (hk : 1 ≤ k) (o : O) (μ : Mem) (h : DI o) (n : Int) (hn : n < 2 ∨ CDivB n = true) : ∃ r o', sem P k 7 [.ref 0, .d (.int n)] (o :: μ) = .ok (.d (.int r)) (o' :: μ) ∧ DI o' ∧ 0 ≤ r ∧ r < max n 1 :=
  draw_of P 7 (fun k a0 a1 μ => r_L_draw k a0 a1 μ) k hk o μ h n hn
/-! patterns, stocks -/
abbrev Pat := List (List Char)
def dp (p : Pat) : D := .tup (p.map D.str)
def ds (s : List Pat) : D := .tup (s.map dp)
def many : Pat → Nat
  | [] => 1
  | s :: r => s.length * many r
def VP (p : Pat) : Prop := ∀ s ∈ p, 0 < s.length ∧ s.length ≤ 36
theorem VP.tl {s : List Char} {r : Pat} (h : VP (s :: r)) : VP r := fun t ht => h t (by simp [ht])
theorem VP.hd {s : List Char} {r : Pat} (h : VP (s :: r)) : 0 < s.length ∧ s.length ≤ 36 := h s (by simp)
theorem mul_36 (i : Int) (n : Nat) (h : n ≤ 36) : CMulB i (n : Int) = true := mul_r ⟨by omega, by omega⟩
theorem many_step (C : Ctx) (μ : Mem) (x : Option Vl) (a : Int) (s : List Char) (h : CMulB a s.length = true) : evSs C w1_pattern_many [x, some (.d (.int a)), some (.d (.str s))] μ = .nx [x, some (.d (.int (a * s.length))), some (.d (.str s))] μ := by
  simp only [eS_nil, eS_cons, eA_nil, eA_cons, eE_c, eE_v, eE_bin, eE_neg, eE_not, eE_and, eE_or, eE_cmp, eE_chain, eE_ite, eE_tup, eE_lst, eE_ix, eE_sl, eE_sls, eE_call, eE_pr, eE_mt, eE_comp, eE_frz, eE_prt, eT_asg, eT_setix, eT_aug, eT_ex, eT_ret, eT_retn, eT_ite, eT_for, eT_whl, eT_brk, eT_cnt, eT_pass, eT_frz, eT_fgt, then1_ok, then2_ok, then3_ok, then4_ok, e_okc, ofO_some, getS_zero, getS_succ, fl1_ok, seqK_nx, seqK_rt, seqK_ct, seqK_bk, e_asgn, e_exE, e_exU, e_ret, e_setE, e_if, if2_true, if2_false, iteK_ok, ite2_true, ite2_false, andK_ok, and2_true, and2_false, orK_ok, or2_true, or2_false, notop, e_neg, chainop, chain1_ok, chain2_true, chain2_false, need_true, List.set_cons_zero, List.set_cons_succ, cx_call, truth_bl, truth_int, truth_str, truth_tup, truth_lst, truth_non, bin_add, bin_adds, bin_addt, bin_addl, bin_sub, bin_mul, bin_fdiv, bin_mod, bin_shl, bin_pow, bin_band, cmp_lt, cmp_le, cmp_gt, cmp_ge, cmp_eqi, cmp_nei, cmp_eqs, cmp_nes, cmp_is, cmp_isn, in_str, p_lens, p_lent, p_lenl, p_int, p_divmod, ix_t, ix_l, ix_s, ix_r, e_for, it_t, it_l, it_s, it_rng, it_rng2, it_rev, it_zip, e_int, sl_s1, sl_s2, sl_s3, sls_1, sls_2, isi_int_int, isi_int_str, isi_int_bool, isi_int_tuple, isi_int_list, isi_str_int, isi_str_str, isi_str_bool, isi_str_tuple, isi_str_list, isi_bl_int, isi_bl_str, isi_bl_bool, isi_bl_tuple, isi_bl_list, isi_non_int, isi_non_str, isi_non_bool, isi_non_tuple, isi_non_list, isi_tup_int, isi_tup_str, isi_tup_bool, isi_tup_tuple, isi_tup_list, isi_lst_int, isi_lst_str, isi_lst_bool, isi_lst_tuple, isi_lst_list, comp_seq, comp_seqs, comp_rng,  e_asgt, asgU_some, mk_lstT, mk_lstF0, mk_lstF1, mk_lstF2, szOk_0, last_get, last_set, rc_join, rc_find, rc_index, mt_find, setT_t, setTs_nil, setTs_n, still_d, still_rng, still_rev, still_zip, turnK_nx, turnK_ct, turnK_bk, turnK_rt, forL_nil, forL_cons, List.map_cons, List.map_nil, pyIx_nat, pyIx_lit, pyIxN_lit, seq_ref0, e_setix0, cpow_draw, cpow_30, List.length_cons, List.length_nil, Nat.reduceAdd, Nat.reduceLT, Int.reduceLT, Int.reduceLE, decide_true, decide_false, reduceIte, List.getElem?_cons_zero, List.getElem?_cons_succ, w1_pattern_many, h]
theorem many_loop (C : Ctx) (μ : Mem) (x : Option Vl) (q : Pat) : ∀ (a : Int) (z : Option Vl), VP q →
    ∃ z', forL (evSs C w1_pattern_many) (.n 2) (fun _ => true) ((q.map D.str).map Vl.d) [x, some (.d (.int a)), z] μ = .nx [x, some (.d (.int (a * many q))), z'] μ := by
  induction q with
  | nil => intro a z _; exact ⟨z, by rw [many, Int.natCast_one, Int.mul_one]; rfl⟩
  | cons s r ih =>
    intro a z h
    obtain ⟨z', e⟩ := ih (a * s.length) (some (.d (.str s))) h.tl
    refine ⟨z', ?_⟩
    simp only [eS_nil, eS_cons, eA_nil, eA_cons, eE_c, eE_v, eE_bin, eE_neg, eE_not, eE_and, eE_or, eE_cmp, eE_chain, eE_ite, eE_tup, eE_lst, eE_ix, eE_sl, eE_sls, eE_call, eE_pr, eE_mt, eE_comp, eE_frz, eE_prt, eT_asg, eT_setix, eT_aug, eT_ex, eT_ret, eT_retn, eT_ite, eT_for, eT_whl, eT_brk, eT_cnt, eT_pass, eT_frz, eT_fgt, then1_ok, then2_ok, then3_ok, then4_ok, e_okc, ofO_some, getS_zero, getS_succ, fl1_ok, seqK_nx, seqK_rt, seqK_ct, seqK_bk, e_asgn, e_exE, e_exU, e_ret, e_setE, e_if, if2_true, if2_false, iteK_ok, ite2_true, ite2_false, andK_ok, and2_true, and2_false, orK_ok, or2_true, or2_false, notop, e_neg, chainop, chain1_ok, chain2_true, chain2_false, need_true, List.set_cons_zero, List.set_cons_succ, cx_call, truth_bl, truth_int, truth_str, truth_tup, truth_lst, truth_non, bin_add, bin_adds, bin_addt, bin_addl, bin_sub, bin_mul, bin_fdiv, bin_mod, bin_shl, bin_pow, bin_band, cmp_lt, cmp_le, cmp_gt, cmp_ge, cmp_eqi, cmp_nei, cmp_eqs, cmp_nes, cmp_is, cmp_isn, in_str, p_lens, p_lent, p_lenl, p_int, p_divmod, ix_t, ix_l, ix_s, ix_r, e_for, it_t, it_l, it_s, it_rng, it_rng2, it_rev, it_zip, e_int, sl_s1, sl_s2, sl_s3, sls_1, sls_2, isi_int_int, isi_int_str, isi_int_bool, isi_int_tuple, isi_int_list, isi_str_int, isi_str_str, isi_str_bool, isi_str_tuple, isi_str_list, isi_bl_int, isi_bl_str, isi_bl_bool, isi_bl_tuple, isi_bl_list, isi_non_int, isi_non_str, isi_non_bool, isi_non_tuple, isi_non_list, isi_tup_int, isi_tup_str, isi_tup_bool, isi_tup_tuple, isi_tup_list, isi_lst_int, isi_lst_str, isi_lst_bool, isi_lst_tuple, isi_lst_list, comp_seq, comp_seqs, comp_rng,  e_asgt, asgU_some, mk_lstT, mk_lstF0, mk_lstF1, mk_lstF2, szOk_0, last_get, last_set, rc_join, rc_find, rc_index, mt_find, setT_t, setTs_nil, setTs_n, still_d, still_rng, still_rev, still_zip, turnK_nx, turnK_ct, turnK_bk, turnK_rt, forL_nil, forL_cons, List.map_cons, List.map_nil, pyIx_nat, pyIx_lit, pyIxN_lit, seq_ref0, e_setix0, cpow_draw, cpow_30, List.length_cons, List.length_nil, Nat.reduceAdd, Nat.reduceLT, Int.reduceLT, Int.reduceLE, decide_true, decide_false, reduceIte, List.getElem?_cons_zero, List.getElem?_cons_succ]
    rw [many_step C μ x a s (mul_36 _ _ h.hd.2)]
    simp only [eS_nil, eS_cons, eA_nil, eA_cons, eE_c, eE_v, eE_bin, eE_neg, eE_not, eE_and, eE_or, eE_cmp, eE_chain, eE_ite, eE_tup, eE_lst, eE_ix, eE_sl, eE_sls, eE_call, eE_pr, eE_mt, eE_comp, eE_frz, eE_prt, eT_asg, eT_setix, eT_aug, eT_ex, eT_ret, eT_retn, eT_ite, eT_for, eT_whl, eT_brk, eT_cnt, eT_pass, eT_frz, eT_fgt, then1_ok, then2_ok, then3_ok, then4_ok, e_okc, ofO_some, getS_zero, getS_succ, fl1_ok, seqK_nx, seqK_rt, seqK_ct, seqK_bk, e_asgn, e_exE, e_exU, e_ret, e_setE, e_if, if2_true, if2_false, iteK_ok, ite2_true, ite2_false, andK_ok, and2_true, and2_false, orK_ok, or2_true, or2_false, notop, e_neg, chainop, chain1_ok, chain2_true, chain2_false, need_true, List.set_cons_zero, List.set_cons_succ, cx_call, truth_bl, truth_int, truth_str, truth_tup, truth_lst, truth_non, bin_add, bin_adds, bin_addt, bin_addl, bin_sub, bin_mul, bin_fdiv, bin_mod, bin_shl, bin_pow, bin_band, cmp_lt, cmp_le, cmp_gt, cmp_ge, cmp_eqi, cmp_nei, cmp_eqs, cmp_nes, cmp_is, cmp_isn, in_str, p_lens, p_lent, p_lenl, p_int, p_divmod, ix_t, ix_l, ix_s, ix_r, e_for, it_t, it_l, it_s, it_rng, it_rng2, it_rev, it_zip, e_int, sl_s1, sl_s2, sl_s3, sls_1, sls_2, isi_int_int, isi_int_str, isi_int_bool, isi_int_tuple, isi_int_list, isi_str_int, isi_str_str, isi_str_bool, isi_str_tuple, isi_str_list, isi_bl_int, isi_bl_str, isi_bl_bool, isi_bl_tuple, isi_bl_list, isi_non_int, isi_non_str, isi_non_bool, isi_non_tuple, isi_non_list, isi_tup_int, isi_tup_str, isi_tup_bool, isi_tup_tuple, isi_tup_list, isi_lst_int, isi_lst_str, isi_lst_bool, isi_lst_tuple, isi_lst_list, comp_seq, comp_seqs, comp_rng,  e_asgt, asgU_some, mk_lstT, mk_lstF0, mk_lstF1, mk_lstF2, szOk_0, last_get, last_set, rc_join, rc_find, rc_index, mt_find, setT_t, setTs_nil, setTs_n, still_d, still_rng, still_rev, still_zip, turnK_nx, turnK_ct, turnK_bk, turnK_rt, forL_nil, forL_cons, List.map_cons, List.map_nil, pyIx_nat, pyIx_lit, pyIxN_lit, seq_ref0, e_setix0, cpow_draw, cpow_30, List.length_cons, List.length_nil, Nat.reduceAdd, Nat.reduceLT, Int.reduceLT, Int.reduceLE, decide_true, decide_false, reduceIte, List.getElem?_cons_zero, List.getElem?_cons_succ]
    rw [e, many, Int.natCast_mul, Int.mul_assoc]
theorem many_body (C : Ctx) (p : Pat) (h : VP p) (μ : Mem) : evSs C b_pattern_many [some (.d (dp p)), none, none] μ = .rt (.d (.int (many p))) μ := by
  obtain ⟨z', e⟩ := many_loop C μ (some (.d (dp p))) p 1 none h
  rw [Int.one_mul] at e
  rw [dp] at e ⊢
  simp only [eS_nil, eS_cons, eA_nil, eA_cons, eE_c, eE_v, eE_bin, eE_neg, eE_not, eE_and, eE_or, eE_cmp, eE_chain, eE_ite, eE_tup, eE_lst, eE_ix, eE_sl, eE_sls, eE_call, eE_pr, eE_mt, eE_comp, eE_frz, eE_prt, eT_asg, eT_setix, eT_aug, eT_ex, eT_ret, eT_retn, eT_ite, eT_for, eT_whl, eT_brk, eT_cnt, eT_pass, eT_frz, eT_fgt, then1_ok, then2_ok, then3_ok, then4_ok, e_okc, ofO_some, getS_zero, getS_succ, fl1_ok, seqK_nx, seqK_rt, seqK_ct, seqK_bk, e_asgn, e_exE, e_exU, e_ret, e_setE, e_if, if2_true, if2_false, iteK_ok, ite2_true, ite2_false, andK_ok, and2_true, and2_false, orK_ok, or2_true, or2_false, notop, e_neg, chainop, chain1_ok, chain2_true, chain2_false, need_true, List.set_cons_zero, List.set_cons_succ, cx_call, truth_bl, truth_int, truth_str, truth_tup, truth_lst, truth_non, bin_add, bin_adds, bin_addt, bin_addl, bin_sub, bin_mul, bin_fdiv, bin_mod, bin_shl, bin_pow, bin_band, cmp_lt, cmp_le, cmp_gt, cmp_ge, cmp_eqi, cmp_nei, cmp_eqs, cmp_nes, cmp_is, cmp_isn, in_str, p_lens, p_lent, p_lenl, p_int, p_divmod, ix_t, ix_l, ix_s, ix_r, e_for, it_t, it_l, it_s, it_rng, it_rng2, it_rev, it_zip, e_int, sl_s1, sl_s2, sl_s3, sls_1, sls_2, isi_int_int, isi_int_str, isi_int_bool, isi_int_tuple, isi_int_list, isi_str_int, isi_str_str, isi_str_bool, isi_str_tuple, isi_str_list, isi_bl_int, isi_bl_str, isi_bl_bool, isi_bl_tuple, isi_bl_list, isi_non_int, isi_non_str, isi_non_bool, isi_non_tuple, isi_non_list, isi_tup_int, isi_tup_str, isi_tup_bool, isi_tup_tuple, isi_tup_list, isi_lst_int, isi_lst_str, isi_lst_bool, isi_lst_tuple, isi_lst_list, comp_seq, comp_seqs, comp_rng,  e_asgt, asgU_some, mk_lstT, mk_lstF0, mk_lstF1, mk_lstF2, szOk_0, last_get, last_set, rc_join, rc_find, rc_index, mt_find, setT_t, setTs_nil, setTs_n, still_d, still_rng, still_rev, still_zip, turnK_nx, turnK_ct, turnK_bk, turnK_rt, forL_nil, forL_cons, List.map_cons, List.map_nil, pyIx_nat, pyIx_lit, pyIxN_lit, seq_ref0, e_setix0, cpow_draw, cpow_30, List.length_cons, List.length_nil, Nat.reduceAdd, Nat.reduceLT, Int.reduceLT, Int.reduceLE, decide_true, decide_false, reduceIte, List.getElem?_cons_zero, List.getElem?_cons_succ, b_pattern_many]
  rw [e]
  simp only [eS_nil, eS_cons, eA_nil, eA_cons, eE_c, eE_v, eE_bin, eE_neg, eE_not, eE_and, eE_or, eE_cmp, eE_chain, eE_ite, eE_tup, eE_lst, eE_ix, eE_sl, eE_sls, eE_call, eE_pr, eE_mt, eE_comp, eE_frz, eE_prt, eT_asg, eT_setix, eT_aug, eT_ex, eT_ret, eT_retn, eT_ite, eT_for, eT_whl, eT_brk, eT_cnt, eT_pass, eT_frz, eT_fgt, then1_ok, then2_ok, then3_ok, then4_ok, e_okc, ofO_some, getS_zero, getS_succ, fl1_ok, seqK_nx, seqK_rt, seqK_ct, seqK_bk, e_asgn, e_exE, e_exU, e_ret, e_setE, e_if, if2_true, if2_false, iteK_ok, ite2_true, ite2_false, andK_ok, and2_true, and2_false, orK_ok, or2_true, or2_false, notop, e_neg, chainop, chain1_ok, chain2_true, chain2_false, need_true, List.set_cons_zero, List.set_cons_succ, cx_call, truth_bl, truth_int, truth_str, truth_tup, truth_lst, truth_non, bin_add, bin_adds, bin_addt, bin_addl, bin_sub, bin_mul, bin_fdiv, bin_mod, bin_shl, bin_pow, bin_band, cmp_lt, cmp_le, cmp_gt, cmp_ge, cmp_eqi, cmp_nei, cmp_eqs, cmp_nes, cmp_is, cmp_isn, in_str, p_lens, p_lent, p_lenl, p_int, p_divmod, ix_t, ix_l, ix_s, ix_r, e_for, it_t, it_l, it_s, it_rng, it_rng2, it_rev, it_zip, e_int, sl_s1, sl_s2, sl_s3, sls_1, sls_2, isi_int_int, isi_int_str, isi_int_bool, isi_int_tuple, isi_int_list, isi_str_int, isi_str_str, isi_str_bool, isi_str_tuple, isi_str_list, isi_bl_int, isi_bl_str, isi_bl_bool, isi_bl_tuple, isi_bl_list, isi_non_int, isi_non_str, isi_non_bool, isi_non_tuple, isi_non_list, isi_tup_int, isi_tup_str, isi_tup_bool, isi_tup_tuple, isi_tup_list, isi_lst_int, isi_lst_str, isi_lst_bool, isi_lst_tuple, isi_lst_list, comp_seq, comp_seqs, comp_rng,  e_asgt, asgU_some, mk_lstT, mk_lstF0, mk_lstF1, mk_lstF2, szOk_0, last_get, last_set, rc_join, rc_find, rc_index, mt_find, setT_t, setTs_nil, setTs_n, still_d, still_rng, still_rev, still_zip, turnK_nx, turnK_ct, turnK_bk, turnK_rt, forL_nil, forL_cons, List.map_cons, List.map_nil, pyIx_nat, pyIx_lit, pyIxN_lit, seq_ref0, e_setix0, cpow_draw, cpow_30, List.length_cons, List.length_nil, Nat.reduceAdd, Nat.reduceLT, Int.reduceLT, Int.reduceLE, decide_true, decide_false, reduceIte, List.getElem?_cons_zero, List.getElem?_cons_succ]
theorem s_many (k : Nat) (hk : 1 ≤ k) (p : Pat) (h : VP p) (μ : Mem) : sem P k 0 [.d (dp p)] μ = .ok (.d (.int (many p))) μ := by
  obtain ⟨k, rfl⟩ : ∃ j, k = j + 1 := ⟨k - 1, by omega⟩
  rw [r_pattern_many, many_body _ p h, end_rt, drop_self]
theorem s_many' (k : Nat) (hk : 1 ≤ k) (p : Pat) (h : VP p) (μ : Mem) : sem P k 14 [.d (dp p)] μ = .ok (.d (.int (many p))) μ := by
  obtain ⟨k, rfl⟩ : ∃ j, k = j + 1 := ⟨k - 1, by omega⟩
  rw [r_L_many_of]
  show endFn μ (evSs (cx P k) b_pattern_many _ μ) = _
  rw [many_body _ p h, end_rt, drop_self]
/-! stems -/
def stem : Pat → Nat → List Char
  | [], _ => []
  | s :: r, k => s.getD (k / many r % s.length) ' ' :: stem r k
def rst : Pat → Nat → List Char
  | [], _ => []
  | s :: q, k => s.getD (k % s.length) ' ' :: rst q (k / s.length)
theorem many_app : ∀ (q : Pat) (s : List Char), many (q ++ [s]) = many q * s.length
  | [], s => by simp [many]
  | t :: q, s => by rw [List.cons_append, many, many, many_app q s, Nat.mul_assoc]
theorem many_rev : ∀ p : Pat, many p.reverse = many p
  | [] => rfl
  | s :: r => by rw [List.reverse_cons, many_app, many_rev r, many, Nat.mul_comm]
theorem rst_app : ∀ (q : Pat) (s : List Char) (k : Nat), rst (q ++ [s]) k = rst q k ++ [s.getD (k / many q % s.length) ' ']
  | [], s, k => by simp [rst, many]
  | t :: q, s, k => by
    rw [List.cons_append, rst, rst_app q s, rst, many, Nat.div_div_eq_div_mul]
    rfl
theorem rst_rev : ∀ (p : Pat) (k : Nat), (rst p.reverse k).reverse = stem p k
  | [], k => rfl
  | s :: r, k => by
    rw [List.reverse_cons, rst_app, List.reverse_append, List.reverse_singleton, List.singleton_append, rst_rev r, many_rev, stem]
theorem stem_step (C : Ctx) (μ : Mem) (x y : Option Vl) (s : List Char) (k : Nat) (acc : List (List Char)) (h0 : 0 < s.length ∧ s.length ≤ 36) (hl : acc.length < 100) :
    evSs C w1_pattern_stem [x, some (.d (.int k)), some (.ref μ.length), some (.d (.str s)), y] (μ ++ [.lst (acc.map fun s => .d (.str s))]) =
      .nx [x, some (.d (.int ((k / s.length : Nat) : Int))), some (.ref μ.length), some (.d (.str s)), some (.d (.int ((k % s.length : Nat) : Int)))] (μ ++ [.lst ((acc ++ [[s.getD (k % s.length) ' ']]).map fun s => .d (.str s))]) := by
  have hm : k % s.length < s.length := Nat.mod_lt _ h0.1
  have hd : decide (0 < (s.length : Int) ∧ (s.length : Int) < 1073741824) = true := decide_eq_true ⟨by omega, by omega⟩
  have hg : s[k % s.length]? = some (s.getD (k % s.length) ' ') := by
    rw [List.getElem?_eq_getElem hm, List.getD_eq_getElem?_getD, List.getElem?_eq_getElem hm]; rfl
  have e1 : (k : Int) / (s.length : Int) = ((k / s.length : Nat) : Int) := (Int.natCast_ediv _ _).symm
  have e2 : (k : Int) % (s.length : Int) = ((k % s.length : Nat) : Int) := (Int.natCast_emod _ _).symm
  simp only [eS_nil, eS_cons, eA_nil, eA_cons, eE_c, eE_v, eE_bin, eE_neg, eE_not, eE_and, eE_or, eE_cmp, eE_chain, eE_ite, eE_tup, eE_lst, eE_ix, eE_sl, eE_sls, eE_call, eE_pr, eE_mt, eE_comp, eE_frz, eE_prt, eT_asg, eT_setix, eT_aug, eT_ex, eT_ret, eT_retn, eT_ite, eT_for, eT_whl, eT_brk, eT_cnt, eT_pass, eT_frz, eT_fgt, then1_ok, then2_ok, then3_ok, then4_ok, e_okc, ofO_some, getS_zero, getS_succ, fl1_ok, seqK_nx, seqK_rt, seqK_ct, seqK_bk, e_asgn, e_exE, e_exU, e_ret, e_setE, e_if, if2_true, if2_false, iteK_ok, ite2_true, ite2_false, andK_ok, and2_true, and2_false, orK_ok, or2_true, or2_false, notop, e_neg, chainop, chain1_ok, chain2_true, chain2_false, need_true, List.set_cons_zero, List.set_cons_succ, cx_call, truth_bl, truth_int, truth_str, truth_tup, truth_lst, truth_non, bin_add, bin_adds, bin_addt, bin_addl, bin_sub, bin_mul, bin_fdiv, bin_mod, bin_shl, bin_pow, bin_band, cmp_lt, cmp_le, cmp_gt, cmp_ge, cmp_eqi, cmp_nei, cmp_eqs, cmp_nes, cmp_is, cmp_isn, in_str, p_lens, p_lent, p_lenl, p_int, p_divmod, ix_t, ix_l, ix_s, ix_r, e_for, it_t, it_l, it_s, it_rng, it_rng2, it_rev, it_zip, e_int, sl_s1, sl_s2, sl_s3, sls_1, sls_2, isi_int_int, isi_int_str, isi_int_bool, isi_int_tuple, isi_int_list, isi_str_int, isi_str_str, isi_str_bool, isi_str_tuple, isi_str_list, isi_bl_int, isi_bl_str, isi_bl_bool, isi_bl_tuple, isi_bl_list, isi_non_int, isi_non_str, isi_non_bool, isi_non_tuple, isi_non_list, isi_tup_int, isi_tup_str, isi_tup_bool, isi_tup_tuple, isi_tup_list, isi_lst_int, isi_lst_str, isi_lst_bool, isi_lst_tuple, isi_lst_list, comp_seq, comp_seqs, comp_rng,  e_asgt, asgU_some, mk_lstT, mk_lstF0, mk_lstF1, mk_lstF2, szOk_0, last_get, last_set, rc_join, rc_find, rc_index, mt_find, setT_t, setTs_nil, setTs_n, still_d, still_rng, still_rev, still_zip, turnK_nx, turnK_ct, turnK_bk, turnK_rt, forL_nil, forL_cons, List.map_cons, List.map_nil, pyIx_nat, pyIx_lit, pyIxN_lit, seq_ref0, e_setix0, cpow_draw, cpow_30, List.length_cons, List.length_nil, Nat.reduceAdd, Nat.reduceLT, Int.reduceLT, Int.reduceLE, decide_true, decide_false, reduceIte, List.getElem?_cons_zero, List.getElem?_cons_succ, w1_pattern_stem, hd, e1, e2, hg, rc_append _ _ (last_get _ _), mt_append _ _ _ (last_get _ _), List.length_map, szLt_of (show acc.length < 16777216 by omega)]
  rw [List.map_append]
  rfl
theorem stem_loop (C : Ctx) (μ : Mem) (x : Option Vl) (q : Pat) : ∀ (k : Nat) (acc : List (List Char)) (z y : Option Vl), VP q → acc.length + q.length < 100 →
    ∃ z' y' k', forL (evSs C w1_pattern_stem) (.n 3) (fun _ => true) ((q.map D.str).map Vl.d) [x, some (.d (.int k)), some (.ref μ.length), z, y] (μ ++ [.lst (acc.map fun s => .d (.str s))]) =
      .nx [x, some (.d (.int k')), some (.ref μ.length), z', y'] (μ ++ [.lst ((acc ++ (rst q k).map fun c => [c]).map fun s => .d (.str s))]) := by
  induction q with
  | nil => intro k acc z y _ _; exact ⟨z, y, k, by simp [rst, forL]⟩
  | cons s r ih =>
    intro k acc z y h hl
    rw [List.length_cons] at hl
    obtain ⟨z', y', k', e⟩ := ih (k / s.length) (acc ++ [[s.getD (k % s.length) ' ']]) (some (.d (.str s))) (some (.d (.int ((k % s.length : Nat) : Int)))) h.tl (by rw [List.length_append, List.length_singleton]; omega)
    refine ⟨z', y', k', ?_⟩
    simp only [eS_nil, eS_cons, eA_nil, eA_cons, eE_c, eE_v, eE_bin, eE_neg, eE_not, eE_and, eE_or, eE_cmp, eE_chain, eE_ite, eE_tup, eE_lst, eE_ix, eE_sl, eE_sls, eE_call, eE_pr, eE_mt, eE_comp, eE_frz, eE_prt, eT_asg, eT_setix, eT_aug, eT_ex, eT_ret, eT_retn, eT_ite, eT_for, eT_whl, eT_brk, eT_cnt, eT_pass, eT_frz, eT_fgt, then1_ok, then2_ok, then3_ok, then4_ok, e_okc, ofO_some, getS_zero, getS_succ, fl1_ok, seqK_nx, seqK_rt, seqK_ct, seqK_bk, e_asgn, e_exE, e_exU, e_ret, e_setE, e_if, if2_true, if2_false, iteK_ok, ite2_true, ite2_false, andK_ok, and2_true, and2_false, orK_ok, or2_true, or2_false, notop, e_neg, chainop, chain1_ok, chain2_true, chain2_false, need_true, List.set_cons_zero, List.set_cons_succ, cx_call, truth_bl, truth_int, truth_str, truth_tup, truth_lst, truth_non, bin_add, bin_adds, bin_addt, bin_addl, bin_sub, bin_mul, bin_fdiv, bin_mod, bin_shl, bin_pow, bin_band, cmp_lt, cmp_le, cmp_gt, cmp_ge, cmp_eqi, cmp_nei, cmp_eqs, cmp_nes, cmp_is, cmp_isn, in_str, p_lens, p_lent, p_lenl, p_int, p_divmod, ix_t, ix_l, ix_s, ix_r, e_for, it_t, it_l, it_s, it_rng, it_rng2, it_rev, it_zip, e_int, sl_s1, sl_s2, sl_s3, sls_1, sls_2, isi_int_int, isi_int_str, isi_int_bool, isi_int_tuple, isi_int_list, isi_str_int, isi_str_str, isi_str_bool, isi_str_tuple, isi_str_list, isi_bl_int, isi_bl_str, isi_bl_bool, isi_bl_tuple, isi_bl_list, isi_non_int, isi_non_str, isi_non_bool, isi_non_tuple, isi_non_list, isi_tup_int, isi_tup_str, isi_tup_bool, isi_tup_tuple, isi_tup_list, isi_lst_int, isi_lst_str, isi_lst_bool, isi_lst_tuple, isi_lst_list, comp_seq, comp_seqs, comp_rng,  e_asgt, asgU_some, mk_lstT, mk_lstF0, mk_lstF1, mk_lstF2, szOk_0, last_get, last_set, rc_join, rc_find, rc_index, mt_find, setT_t, setTs_nil, setTs_n, still_d, still_rng, still_rev, still_zip, turnK_nx, turnK_ct, turnK_bk, turnK_rt, forL_nil, forL_cons, List.map_cons, List.map_nil, pyIx_nat, pyIx_lit, pyIxN_lit, seq_ref0, e_setix0, cpow_draw, cpow_30, List.length_cons, List.length_nil, Nat.reduceAdd, Nat.reduceLT, Int.reduceLT, Int.reduceLE, decide_true, decide_false, reduceIte, List.getElem?_cons_zero, List.getElem?_cons_succ]
    rw [stem_step C μ x y s k acc h.hd (by omega)]
    simp only [eS_nil, eS_cons, eA_nil, eA_cons, eE_c, eE_v, eE_bin, eE_neg, eE_not, eE_and, eE_or, eE_cmp, eE_chain, eE_ite, eE_tup, eE_lst, eE_ix, eE_sl, eE_sls, eE_call, eE_pr, eE_mt, eE_comp, eE_frz, eE_prt, eT_asg, eT_setix, eT_aug, eT_ex, eT_ret, eT_retn, eT_ite, eT_for, eT_whl, eT_brk, eT_cnt, eT_pass, eT_frz, eT_fgt, then1_ok, then2_ok, then3_ok, then4_ok, e_okc, ofO_some, getS_zero, getS_succ, fl1_ok, seqK_nx, seqK_rt, seqK_ct, seqK_bk, e_asgn, e_exE, e_exU, e_ret, e_setE, e_if, if2_true, if2_false, iteK_ok, ite2_true, ite2_false, andK_ok, and2_true, and2_false, orK_ok, or2_true, or2_false, notop, e_neg, chainop, chain1_ok, chain2_true, chain2_false, need_true, List.set_cons_zero, List.set_cons_succ, cx_call, truth_bl, truth_int, truth_str, truth_tup, truth_lst, truth_non, bin_add, bin_adds, bin_addt, bin_addl, bin_sub, bin_mul, bin_fdiv, bin_mod, bin_shl, bin_pow, bin_band, cmp_lt, cmp_le, cmp_gt, cmp_ge, cmp_eqi, cmp_nei, cmp_eqs, cmp_nes, cmp_is, cmp_isn, in_str, p_lens, p_lent, p_lenl, p_int, p_divmod, ix_t, ix_l, ix_s, ix_r, e_for, it_t, it_l, it_s, it_rng, it_rng2, it_rev, it_zip, e_int, sl_s1, sl_s2, sl_s3, sls_1, sls_2, isi_int_int, isi_int_str, isi_int_bool, isi_int_tuple, isi_int_list, isi_str_int, isi_str_str, isi_str_bool, isi_str_tuple, isi_str_list, isi_bl_int, isi_bl_str, isi_bl_bool, isi_bl_tuple, isi_bl_list, isi_non_int, isi_non_str, isi_non_bool, isi_non_tuple, isi_non_list, isi_tup_int, isi_tup_str, isi_tup_bool, isi_tup_tuple, isi_tup_list, isi_lst_int, isi_lst_str, isi_lst_bool, isi_lst_tuple, isi_lst_list, comp_seq, comp_seqs, comp_rng,  e_asgt, asgU_some, mk_lstT, mk_lstF0, mk_lstF1, mk_lstF2, szOk_0, last_get, last_set, rc_join, rc_find, rc_index, mt_find, setT_t, setTs_nil, setTs_n, still_d, still_rng, still_rev, still_zip, turnK_nx, turnK_ct, turnK_bk, turnK_rt, forL_nil, forL_cons, List.map_cons, List.map_nil, pyIx_nat, pyIx_lit, pyIxN_lit, seq_ref0, e_setix0, cpow_draw, cpow_30, List.length_cons, List.length_nil, Nat.reduceAdd, Nat.reduceLT, Int.reduceLT, Int.reduceLE, decide_true, decide_false, reduceIte, List.getElem?_cons_zero, List.getElem?_cons_succ]
    rw [e, rst, List.map_cons, List.append_assoc]
    rfl
theorem rst_len : ∀ (q : Pat) (k : Nat), (rst q k).length = q.length
  | [], k => rfl
  | s :: q, k => by rw [rst, List.length_cons, rst_len q, List.length_cons]
theorem flat_single : ∀ l : List Char, (l.map fun c => [c]).flatten = l
  | [] => rfl
  | c :: l => by rw [List.map_cons, List.flatten_cons, flat_single l]; rfl
theorem sum_single : ∀ l : List Char, ((l.map fun c => [c]).map List.length).sum = l.length
  | [] => rfl
  | c :: l => by simp only [List.map_cons, List.sum_cons, sum_single l, List.length_cons, List.length_nil]; omega
theorem s_stem (k0 : Nat) (hk : 1 ≤ k0) (p : Pat) (h : VP p) (hp : p.length ≤ 8) (k : Nat) (μ : Mem) : sem P k0 1 [.d (dp p), .d (.int k)] μ = .ok (.d (.str (stem p k))) μ := by
  obtain ⟨k0, rfl⟩ : ∃ j, k0 = j + 1 := ⟨k0 - 1, by omega⟩
  rw [r_pattern_stem]
  obtain ⟨z', y', k', e⟩ := stem_loop (cx P k0) μ (some (.d (dp p))) p.reverse k [] none none (fun s hs => h s (by simpa using hs)) (by rw [List.length_reverse, List.length_nil]; omega)
  rw [List.map_nil] at e
  rw [dp] at e ⊢
  have er : (List.map D.str p).reverse = p.reverse.map D.str := (List.map_reverse ..).symm
  simp only [eS_nil, eS_cons, eA_nil, eA_cons, eE_c, eE_v, eE_bin, eE_neg, eE_not, eE_and, eE_or, eE_cmp, eE_chain, eE_ite, eE_tup, eE_lst, eE_ix, eE_sl, eE_sls, eE_call, eE_pr, eE_mt, eE_comp, eE_frz, eE_prt, eT_asg, eT_setix, eT_aug, eT_ex, eT_ret, eT_retn, eT_ite, eT_for, eT_whl, eT_brk, eT_cnt, eT_pass, eT_frz, eT_fgt, then1_ok, then2_ok, then3_ok, then4_ok, e_okc, ofO_some, getS_zero, getS_succ, fl1_ok, seqK_nx, seqK_rt, seqK_ct, seqK_bk, e_asgn, e_exE, e_exU, e_ret, e_setE, e_if, if2_true, if2_false, iteK_ok, ite2_true, ite2_false, andK_ok, and2_true, and2_false, orK_ok, or2_true, or2_false, notop, e_neg, chainop, chain1_ok, chain2_true, chain2_false, need_true, List.set_cons_zero, List.set_cons_succ, cx_call, truth_bl, truth_int, truth_str, truth_tup, truth_lst, truth_non, bin_add, bin_adds, bin_addt, bin_addl, bin_sub, bin_mul, bin_fdiv, bin_mod, bin_shl, bin_pow, bin_band, cmp_lt, cmp_le, cmp_gt, cmp_ge, cmp_eqi, cmp_nei, cmp_eqs, cmp_nes, cmp_is, cmp_isn, in_str, p_lens, p_lent, p_lenl, p_int, p_divmod, ix_t, ix_l, ix_s, ix_r, e_for, it_t, it_l, it_s, it_rng, it_rng2, it_rev, it_zip, e_int, sl_s1, sl_s2, sl_s3, sls_1, sls_2, isi_int_int, isi_int_str, isi_int_bool, isi_int_tuple, isi_int_list, isi_str_int, isi_str_str, isi_str_bool, isi_str_tuple, isi_str_list, isi_bl_int, isi_bl_str, isi_bl_bool, isi_bl_tuple, isi_bl_list, isi_non_int, isi_non_str, isi_non_bool, isi_non_tuple, isi_non_list, isi_tup_int, isi_tup_str, isi_tup_bool, isi_tup_tuple, isi_tup_list, isi_lst_int, isi_lst_str, isi_lst_bool, isi_lst_tuple, isi_lst_list, comp_seq, comp_seqs, comp_rng,  e_asgt, asgU_some, mk_lstT, mk_lstF0, mk_lstF1, mk_lstF2, szOk_0, last_get, last_set, rc_join, rc_find, rc_index, mt_find, setT_t, setTs_nil, setTs_n, still_d, still_rng, still_rev, still_zip, turnK_nx, turnK_ct, turnK_bk, turnK_rt, forL_nil, forL_cons, List.map_cons, List.map_nil, pyIx_nat, pyIx_lit, pyIxN_lit, seq_ref0, e_setix0, cpow_draw, cpow_30, List.length_cons, List.length_nil, Nat.reduceAdd, Nat.reduceLT, Int.reduceLT, Int.reduceLE, decide_true, decide_false, reduceIte, List.getElem?_cons_zero, List.getElem?_cons_succ, b_pattern_stem, er]
  rw [e]
  rw [List.nil_append]
  have e3 : (((rst p.reverse k).map fun c => [c]).map fun s => Vl.d (.str s)).reverse = ((stem p k).map fun c => [c]).map fun s => Vl.d (.str s) := by
    rw [← List.map_reverse, ← List.map_reverse, rst_rev]
  have hl : (stem p k).length = p.length := by rw [← rst_rev, List.length_reverse, rst_len, List.length_reverse]
  simp only [eS_nil, eS_cons, eA_nil, eA_cons, eE_c, eE_v, eE_bin, eE_neg, eE_not, eE_and, eE_or, eE_cmp, eE_chain, eE_ite, eE_tup, eE_lst, eE_ix, eE_sl, eE_sls, eE_call, eE_pr, eE_mt, eE_comp, eE_frz, eE_prt, eT_asg, eT_setix, eT_aug, eT_ex, eT_ret, eT_retn, eT_ite, eT_for, eT_whl, eT_brk, eT_cnt, eT_pass, eT_frz, eT_fgt, then1_ok, then2_ok, then3_ok, then4_ok, e_okc, ofO_some, getS_zero, getS_succ, fl1_ok, seqK_nx, seqK_rt, seqK_ct, seqK_bk, e_asgn, e_exE, e_exU, e_ret, e_setE, e_if, if2_true, if2_false, iteK_ok, ite2_true, ite2_false, andK_ok, and2_true, and2_false, orK_ok, or2_true, or2_false, notop, e_neg, chainop, chain1_ok, chain2_true, chain2_false, need_true, List.set_cons_zero, List.set_cons_succ, cx_call, truth_bl, truth_int, truth_str, truth_tup, truth_lst, truth_non, bin_add, bin_adds, bin_addt, bin_addl, bin_sub, bin_mul, bin_fdiv, bin_mod, bin_shl, bin_pow, bin_band, cmp_lt, cmp_le, cmp_gt, cmp_ge, cmp_eqi, cmp_nei, cmp_eqs, cmp_nes, cmp_is, cmp_isn, in_str, p_lens, p_lent, p_lenl, p_int, p_divmod, ix_t, ix_l, ix_s, ix_r, e_for, it_t, it_l, it_s, it_rng, it_rng2, it_rev, it_zip, e_int, sl_s1, sl_s2, sl_s3, sls_1, sls_2, isi_int_int, isi_int_str, isi_int_bool, isi_int_tuple, isi_int_list, isi_str_int, isi_str_str, isi_str_bool, isi_str_tuple, isi_str_list, isi_bl_int, isi_bl_str, isi_bl_bool, isi_bl_tuple, isi_bl_list, isi_non_int, isi_non_str, isi_non_bool, isi_non_tuple, isi_non_list, isi_tup_int, isi_tup_str, isi_tup_bool, isi_tup_tuple, isi_tup_list, isi_lst_int, isi_lst_str, isi_lst_bool, isi_lst_tuple, isi_lst_list, comp_seq, comp_seqs, comp_rng,  e_asgt, asgU_some, mk_lstT, mk_lstF0, mk_lstF1, mk_lstF2, szOk_0, last_get, last_set, rc_join, rc_find, rc_index, mt_find, setT_t, setTs_nil, setTs_n, still_d, still_rng, still_rev, still_zip, turnK_nx, turnK_ct, turnK_bk, turnK_rt, forL_nil, forL_cons, List.map_cons, List.map_nil, pyIx_nat, pyIx_lit, pyIxN_lit, seq_ref0, e_setix0, cpow_draw, cpow_30, List.length_cons, List.length_nil, Nat.reduceAdd, Nat.reduceLT, Int.reduceLT, Int.reduceLE, decide_true, decide_false, reduceIte, List.getElem?_cons_zero, List.getElem?_cons_succ, rc_reverse _ _ (last_get _ _), mt_reverse _ _ (last_get _ _), e3, mt_join [] ((stem p k).map fun c => [c]) _ _ (last_get _ _) (by rw [sum_single, List.length_nil]; omega), end_rt, drop_app, joinS_flat, flat_single]
/-! places -/
def placeA : Pat → List Char → Nat → Option Nat
  | s :: r, c :: t, a => match findFrom [c] s 0 with
    | some i => placeA r t (a * s.length + i)
    | none => none
  | _, _, a => some a
def optD : Option Nat → D
  | some n => .int n
  | none => .non
def place (p : Pat) (t : List Char) : Option Nat := if t.length = p.length then placeA p t 0 else none
theorem place_some (C : Ctx) (μ : Mem) (x y z : Option Vl) (s : List Char) (c : Char) (a : Int) (i : Nat) (h : CMulB a s.length = true) (hi : findFrom [c] s 0 = some i) :
    evSs C w1_pattern_place [x, y, some (.d (.int a)), some (.d (.str s)), some (.d (.str [c])), z] μ = .nx [x, y, some (.d (.int (a * s.length + i))), some (.d (.str s)), some (.d (.str [c])), some (.d (.int (i : Int)))] μ := by
  have hn : decide ((i : Int) < 0) = false := decide_eq_false (by omega)
  simp only [eS_nil, eS_cons, eA_nil, eA_cons, eE_c, eE_v, eE_bin, eE_neg, eE_not, eE_and, eE_or, eE_cmp, eE_chain, eE_ite, eE_tup, eE_lst, eE_ix, eE_sl, eE_sls, eE_call, eE_pr, eE_mt, eE_comp, eE_frz, eE_prt, eT_asg, eT_setix, eT_aug, eT_ex, eT_ret, eT_retn, eT_ite, eT_for, eT_whl, eT_brk, eT_cnt, eT_pass, eT_frz, eT_fgt, then1_ok, then2_ok, then3_ok, then4_ok, e_okc, ofO_some, getS_zero, getS_succ, fl1_ok, seqK_nx, seqK_rt, seqK_ct, seqK_bk, e_asgn, e_exE, e_exU, e_ret, e_setE, e_if, if2_true, if2_false, iteK_ok, ite2_true, ite2_false, andK_ok, and2_true, and2_false, orK_ok, or2_true, or2_false, notop, e_neg, chainop, chain1_ok, chain2_true, chain2_false, need_true, List.set_cons_zero, List.set_cons_succ, cx_call, truth_bl, truth_int, truth_str, truth_tup, truth_lst, truth_non, bin_add, bin_adds, bin_addt, bin_addl, bin_sub, bin_mul, bin_fdiv, bin_mod, bin_shl, bin_pow, bin_band, cmp_lt, cmp_le, cmp_gt, cmp_ge, cmp_eqi, cmp_nei, cmp_eqs, cmp_nes, cmp_is, cmp_isn, in_str, p_lens, p_lent, p_lenl, p_int, p_divmod, ix_t, ix_l, ix_s, ix_r, e_for, it_t, it_l, it_s, it_rng, it_rng2, it_rev, it_zip, e_int, sl_s1, sl_s2, sl_s3, sls_1, sls_2, isi_int_int, isi_int_str, isi_int_bool, isi_int_tuple, isi_int_list, isi_str_int, isi_str_str, isi_str_bool, isi_str_tuple, isi_str_list, isi_bl_int, isi_bl_str, isi_bl_bool, isi_bl_tuple, isi_bl_list, isi_non_int, isi_non_str, isi_non_bool, isi_non_tuple, isi_non_list, isi_tup_int, isi_tup_str, isi_tup_bool, isi_tup_tuple, isi_tup_list, isi_lst_int, isi_lst_str, isi_lst_bool, isi_lst_tuple, isi_lst_list, comp_seq, comp_seqs, comp_rng,  e_asgt, asgU_some, mk_lstT, mk_lstF0, mk_lstF1, mk_lstF2, szOk_0, last_get, last_set, rc_join, rc_find, rc_index, mt_find, setT_t, setTs_nil, setTs_n, still_d, still_rng, still_rev, still_zip, turnK_nx, turnK_ct, turnK_bk, turnK_rt, forL_nil, forL_cons, List.map_cons, List.map_nil, pyIx_nat, pyIx_lit, pyIxN_lit, seq_ref0, e_setix0, cpow_draw, cpow_30, List.length_cons, List.length_nil, Nat.reduceAdd, Nat.reduceLT, Int.reduceLT, Int.reduceLE, decide_true, decide_false, reduceIte, List.getElem?_cons_zero, List.getElem?_cons_succ, w1_pattern_place, hi, hn, h]
theorem place_none (C : Ctx) (μ : Mem) (x y z k : Option Vl) (s : List Char) (c : Char) (hi : findFrom [c] s 0 = none) :
    evSs C w1_pattern_place [x, y, k, some (.d (.str s)), some (.d (.str [c])), z] μ = .rt (.d .non) μ := by
  have hn : decide ((-1 : Int) < 0) = true := by decide
  simp only [eS_nil, eS_cons, eA_nil, eA_cons, eE_c, eE_v, eE_bin, eE_neg, eE_not, eE_and, eE_or, eE_cmp, eE_chain, eE_ite, eE_tup, eE_lst, eE_ix, eE_sl, eE_sls, eE_call, eE_pr, eE_mt, eE_comp, eE_frz, eE_prt, eT_asg, eT_setix, eT_aug, eT_ex, eT_ret, eT_retn, eT_ite, eT_for, eT_whl, eT_brk, eT_cnt, eT_pass, eT_frz, eT_fgt, then1_ok, then2_ok, then3_ok, then4_ok, e_okc, ofO_some, getS_zero, getS_succ, fl1_ok, seqK_nx, seqK_rt, seqK_ct, seqK_bk, e_asgn, e_exE, e_exU, e_ret, e_setE, e_if, if2_true, if2_false, iteK_ok, ite2_true, ite2_false, andK_ok, and2_true, and2_false, orK_ok, or2_true, or2_false, notop, e_neg, chainop, chain1_ok, chain2_true, chain2_false, need_true, List.set_cons_zero, List.set_cons_succ, cx_call, truth_bl, truth_int, truth_str, truth_tup, truth_lst, truth_non, bin_add, bin_adds, bin_addt, bin_addl, bin_sub, bin_mul, bin_fdiv, bin_mod, bin_shl, bin_pow, bin_band, cmp_lt, cmp_le, cmp_gt, cmp_ge, cmp_eqi, cmp_nei, cmp_eqs, cmp_nes, cmp_is, cmp_isn, in_str, p_lens, p_lent, p_lenl, p_int, p_divmod, ix_t, ix_l, ix_s, ix_r, e_for, it_t, it_l, it_s, it_rng, it_rng2, it_rev, it_zip, e_int, sl_s1, sl_s2, sl_s3, sls_1, sls_2, isi_int_int, isi_int_str, isi_int_bool, isi_int_tuple, isi_int_list, isi_str_int, isi_str_str, isi_str_bool, isi_str_tuple, isi_str_list, isi_bl_int, isi_bl_str, isi_bl_bool, isi_bl_tuple, isi_bl_list, isi_non_int, isi_non_str, isi_non_bool, isi_non_tuple, isi_non_list, isi_tup_int, isi_tup_str, isi_tup_bool, isi_tup_tuple, isi_tup_list, isi_lst_int, isi_lst_str, isi_lst_bool, isi_lst_tuple, isi_lst_list, comp_seq, comp_seqs, comp_rng,  e_asgt, asgU_some, mk_lstT, mk_lstF0, mk_lstF1, mk_lstF2, szOk_0, last_get, last_set, rc_join, rc_find, rc_index, mt_find, setT_t, setTs_nil, setTs_n, still_d, still_rng, still_rev, still_zip, turnK_nx, turnK_ct, turnK_bk, turnK_rt, forL_nil, forL_cons, List.map_cons, List.map_nil, pyIx_nat, pyIx_lit, pyIxN_lit, seq_ref0, e_setix0, cpow_draw, cpow_30, List.length_cons, List.length_nil, Nat.reduceAdd, Nat.reduceLT, Int.reduceLT, Int.reduceLE, decide_true, decide_false, reduceIte, List.getElem?_cons_zero, List.getElem?_cons_succ, w1_pattern_place, hi, hn]
theorem place_loop (C : Ctx) (μ : Mem) (x y : Option Vl) (p : Pat) : ∀ (t : List Char) (a : Nat) (u v z : Option Vl), VP p →
    match placeA p t a with
    | some b => ∃ u' v' z', forL (evSs C w1_pattern_place) (.t [.n 3, .n 4]) (fun _ => true) (((p.map D.str).zip (t.map fun c => D.str [c])).map fun q => .d (.tup [q.1, q.2])) [x, y, some (.d (.int (a : Int))), u, v, z] μ = .nx [x, y, some (.d (.int (b : Int))), u', v', z'] μ
    | none => forL (evSs C w1_pattern_place) (.t [.n 3, .n 4]) (fun _ => true) (((p.map D.str).zip (t.map fun c => D.str [c])).map fun q => .d (.tup [q.1, q.2])) [x, y, some (.d (.int (a : Int))), u, v, z] μ = .rt (.d .non) μ := by
  induction p with
  | nil => intro t a u v z _; exact ⟨u, v, z, by simp [forL]⟩
  | cons s r ih =>
    intro t a u v z h
    cases t with
    | nil => exact ⟨u, v, z, by simp [forL]⟩
    | cons c t =>
      have hset : setTs [.n 3, .n 4] ([D.str s, D.str [c]].map Vl.d) [x, y, some (.d (.int (a : Int))), u, v, z] μ = some [x, y, some (.d (.int (a : Int))), some (.d (.str s)), some (.d (.str [c])), z] := by
        simp only [eS_nil, eS_cons, eA_nil, eA_cons, eE_c, eE_v, eE_bin, eE_neg, eE_not, eE_and, eE_or, eE_cmp, eE_chain, eE_ite, eE_tup, eE_lst, eE_ix, eE_sl, eE_sls, eE_call, eE_pr, eE_mt, eE_comp, eE_frz, eE_prt, eT_asg, eT_setix, eT_aug, eT_ex, eT_ret, eT_retn, eT_ite, eT_for, eT_whl, eT_brk, eT_cnt, eT_pass, eT_frz, eT_fgt, then1_ok, then2_ok, then3_ok, then4_ok, e_okc, ofO_some, getS_zero, getS_succ, fl1_ok, seqK_nx, seqK_rt, seqK_ct, seqK_bk, e_asgn, e_exE, e_exU, e_ret, e_setE, e_if, if2_true, if2_false, iteK_ok, ite2_true, ite2_false, andK_ok, and2_true, and2_false, orK_ok, or2_true, or2_false, notop, e_neg, chainop, chain1_ok, chain2_true, chain2_false, need_true, List.set_cons_zero, List.set_cons_succ, cx_call, truth_bl, truth_int, truth_str, truth_tup, truth_lst, truth_non, bin_add, bin_adds, bin_addt, bin_addl, bin_sub, bin_mul, bin_fdiv, bin_mod, bin_shl, bin_pow, bin_band, cmp_lt, cmp_le, cmp_gt, cmp_ge, cmp_eqi, cmp_nei, cmp_eqs, cmp_nes, cmp_is, cmp_isn, in_str, p_lens, p_lent, p_lenl, p_int, p_divmod, ix_t, ix_l, ix_s, ix_r, e_for, it_t, it_l, it_s, it_rng, it_rng2, it_rev, it_zip, e_int, sl_s1, sl_s2, sl_s3, sls_1, sls_2, isi_int_int, isi_int_str, isi_int_bool, isi_int_tuple, isi_int_list, isi_str_int, isi_str_str, isi_str_bool, isi_str_tuple, isi_str_list, isi_bl_int, isi_bl_str, isi_bl_bool, isi_bl_tuple, isi_bl_list, isi_non_int, isi_non_str, isi_non_bool, isi_non_tuple, isi_non_list, isi_tup_int, isi_tup_str, isi_tup_bool, isi_tup_tuple, isi_tup_list, isi_lst_int, isi_lst_str, isi_lst_bool, isi_lst_tuple, isi_lst_list, comp_seq, comp_seqs, comp_rng,  e_asgt, asgU_some, mk_lstT, mk_lstF0, mk_lstF1, mk_lstF2, szOk_0, last_get, last_set, rc_join, rc_find, rc_index, mt_find, setT_t, setTs_nil, setTs_n, still_d, still_rng, still_rev, still_zip, turnK_nx, turnK_ct, turnK_bk, turnK_rt, forL_nil, forL_cons, List.map_cons, List.map_nil, pyIx_nat, pyIx_lit, pyIxN_lit, seq_ref0, e_setix0, cpow_draw, cpow_30, List.length_cons, List.length_nil, Nat.reduceAdd, Nat.reduceLT, Int.reduceLT, Int.reduceLE, decide_true, decide_false, reduceIte, List.getElem?_cons_zero, List.getElem?_cons_succ]
      rw [placeA]
      cases hi : findFrom [c] s 0 with
      | none =>
        dsimp only
        rw [List.map_cons, List.map_cons, List.zip_cons_cons, List.map_cons, forL_const _ _ _ _ _ _ hset, place_none C μ x y z _ s c hi]
        rfl
      | some i =>
        dsimp only
        have ih := ih t (a * s.length + i) (some (.d (.str s))) (some (.d (.str [c]))) (some (.d (.int (i : Int)))) h.tl
        rw [List.map_cons, List.map_cons, List.zip_cons_cons, List.map_cons, forL_const _ _ _ _ _ _ hset, place_some C μ x y z s c a i (mul_36 _ _ h.hd.2) hi, turnK_nx, ← Int.natCast_mul, ← Int.natCast_add]
        exact ih
theorem s_place (k : Nat) (hk : 1 ≤ k) (p : Pat) (h : VP p) (t : List Char) (μ : Mem) : sem P k 2 [.d (dp p), .d (.str t)] μ = .ok (.d (optD (place p t))) μ := by
  obtain ⟨k, rfl⟩ : ∃ j, k = j + 1 := ⟨k - 1, by omega⟩
  rw [r_pattern_place]
  have l := place_loop (cx P k) μ (some (.d (dp p))) (some (.d (.str t))) p t 0 none none none h
  rw [dp] at l ⊢
  by_cases hl : t.length = p.length
  · have hb : ((t.length : Int) == (p.length : Int)) = true := by simp [hl]
    rw [place, if_pos hl]
    simp only [eS_nil, eS_cons, eA_nil, eA_cons, eE_c, eE_v, eE_bin, eE_neg, eE_not, eE_and, eE_or, eE_cmp, eE_chain, eE_ite, eE_tup, eE_lst, eE_ix, eE_sl, eE_sls, eE_call, eE_pr, eE_mt, eE_comp, eE_frz, eE_prt, eT_asg, eT_setix, eT_aug, eT_ex, eT_ret, eT_retn, eT_ite, eT_for, eT_whl, eT_brk, eT_cnt, eT_pass, eT_frz, eT_fgt, then1_ok, then2_ok, then3_ok, then4_ok, e_okc, ofO_some, getS_zero, getS_succ, fl1_ok, seqK_nx, seqK_rt, seqK_ct, seqK_bk, e_asgn, e_exE, e_exU, e_ret, e_setE, e_if, if2_true, if2_false, iteK_ok, ite2_true, ite2_false, andK_ok, and2_true, and2_false, orK_ok, or2_true, or2_false, notop, e_neg, chainop, chain1_ok, chain2_true, chain2_false, need_true, List.set_cons_zero, List.set_cons_succ, cx_call, truth_bl, truth_int, truth_str, truth_tup, truth_lst, truth_non, bin_add, bin_adds, bin_addt, bin_addl, bin_sub, bin_mul, bin_fdiv, bin_mod, bin_shl, bin_pow, bin_band, cmp_lt, cmp_le, cmp_gt, cmp_ge, cmp_eqi, cmp_nei, cmp_eqs, cmp_nes, cmp_is, cmp_isn, in_str, p_lens, p_lent, p_lenl, p_int, p_divmod, ix_t, ix_l, ix_s, ix_r, e_for, it_t, it_l, it_s, it_rng, it_rng2, it_rev, it_zip, e_int, sl_s1, sl_s2, sl_s3, sls_1, sls_2, isi_int_int, isi_int_str, isi_int_bool, isi_int_tuple, isi_int_list, isi_str_int, isi_str_str, isi_str_bool, isi_str_tuple, isi_str_list, isi_bl_int, isi_bl_str, isi_bl_bool, isi_bl_tuple, isi_bl_list, isi_non_int, isi_non_str, isi_non_bool, isi_non_tuple, isi_non_list, isi_tup_int, isi_tup_str, isi_tup_bool, isi_tup_tuple, isi_tup_list, isi_lst_int, isi_lst_str, isi_lst_bool, isi_lst_tuple, isi_lst_list, comp_seq, comp_seqs, comp_rng,  e_asgt, asgU_some, mk_lstT, mk_lstF0, mk_lstF1, mk_lstF2, szOk_0, last_get, last_set, rc_join, rc_find, rc_index, mt_find, setT_t, setTs_nil, setTs_n, still_d, still_rng, still_rev, still_zip, turnK_nx, turnK_ct, turnK_bk, turnK_rt, forL_nil, forL_cons, List.map_cons, List.map_nil, pyIx_nat, pyIx_lit, pyIxN_lit, seq_ref0, e_setix0, cpow_draw, cpow_30, List.length_cons, List.length_nil, Nat.reduceAdd, Nat.reduceLT, Int.reduceLT, Int.reduceLE, decide_true, decide_false, reduceIte, List.getElem?_cons_zero, List.getElem?_cons_succ, b_pattern_place, List.length_map, hb, Bool.not_true, zipSrc]
    cases hq : placeA p t 0 with
    | none =>
      rw [hq] at l
      rw [show ((0 : Nat) : Int) = 0 from rfl] at l
      rw [l]
      simp only [eS_nil, eS_cons, eA_nil, eA_cons, eE_c, eE_v, eE_bin, eE_neg, eE_not, eE_and, eE_or, eE_cmp, eE_chain, eE_ite, eE_tup, eE_lst, eE_ix, eE_sl, eE_sls, eE_call, eE_pr, eE_mt, eE_comp, eE_frz, eE_prt, eT_asg, eT_setix, eT_aug, eT_ex, eT_ret, eT_retn, eT_ite, eT_for, eT_whl, eT_brk, eT_cnt, eT_pass, eT_frz, eT_fgt, then1_ok, then2_ok, then3_ok, then4_ok, e_okc, ofO_some, getS_zero, getS_succ, fl1_ok, seqK_nx, seqK_rt, seqK_ct, seqK_bk, e_asgn, e_exE, e_exU, e_ret, e_setE, e_if, if2_true, if2_false, iteK_ok, ite2_true, ite2_false, andK_ok, and2_true, and2_false, orK_ok, or2_true, or2_false, notop, e_neg, chainop, chain1_ok, chain2_true, chain2_false, need_true, List.set_cons_zero, List.set_cons_succ, cx_call, truth_bl, truth_int, truth_str, truth_tup, truth_lst, truth_non, bin_add, bin_adds, bin_addt, bin_addl, bin_sub, bin_mul, bin_fdiv, bin_mod, bin_shl, bin_pow, bin_band, cmp_lt, cmp_le, cmp_gt, cmp_ge, cmp_eqi, cmp_nei, cmp_eqs, cmp_nes, cmp_is, cmp_isn, in_str, p_lens, p_lent, p_lenl, p_int, p_divmod, ix_t, ix_l, ix_s, ix_r, e_for, it_t, it_l, it_s, it_rng, it_rng2, it_rev, it_zip, e_int, sl_s1, sl_s2, sl_s3, sls_1, sls_2, isi_int_int, isi_int_str, isi_int_bool, isi_int_tuple, isi_int_list, isi_str_int, isi_str_str, isi_str_bool, isi_str_tuple, isi_str_list, isi_bl_int, isi_bl_str, isi_bl_bool, isi_bl_tuple, isi_bl_list, isi_non_int, isi_non_str, isi_non_bool, isi_non_tuple, isi_non_list, isi_tup_int, isi_tup_str, isi_tup_bool, isi_tup_tuple, isi_tup_list, isi_lst_int, isi_lst_str, isi_lst_bool, isi_lst_tuple, isi_lst_list, comp_seq, comp_seqs, comp_rng,  e_asgt, asgU_some, mk_lstT, mk_lstF0, mk_lstF1, mk_lstF2, szOk_0, last_get, last_set, rc_join, rc_find, rc_index, mt_find, setT_t, setTs_nil, setTs_n, still_d, still_rng, still_rev, still_zip, turnK_nx, turnK_ct, turnK_bk, turnK_rt, forL_nil, forL_cons, List.map_cons, List.map_nil, pyIx_nat, pyIx_lit, pyIxN_lit, seq_ref0, e_setix0, cpow_draw, cpow_30, List.length_cons, List.length_nil, Nat.reduceAdd, Nat.reduceLT, Int.reduceLT, Int.reduceLE, decide_true, decide_false, reduceIte, List.getElem?_cons_zero, List.getElem?_cons_succ, end_rt, drop_self, optD]
    | some b =>
      rw [hq] at l
      obtain ⟨u', v', z', l⟩ := l
      rw [show ((0 : Nat) : Int) = 0 from rfl] at l
      rw [l]
      simp only [eS_nil, eS_cons, eA_nil, eA_cons, eE_c, eE_v, eE_bin, eE_neg, eE_not, eE_and, eE_or, eE_cmp, eE_chain, eE_ite, eE_tup, eE_lst, eE_ix, eE_sl, eE_sls, eE_call, eE_pr, eE_mt, eE_comp, eE_frz, eE_prt, eT_asg, eT_setix, eT_aug, eT_ex, eT_ret, eT_retn, eT_ite, eT_for, eT_whl, eT_brk, eT_cnt, eT_pass, eT_frz, eT_fgt, then1_ok, then2_ok, then3_ok, then4_ok, e_okc, ofO_some, getS_zero, getS_succ, fl1_ok, seqK_nx, seqK_rt, seqK_ct, seqK_bk, e_asgn, e_exE, e_exU, e_ret, e_setE, e_if, if2_true, if2_false, iteK_ok, ite2_true, ite2_false, andK_ok, and2_true, and2_false, orK_ok, or2_true, or2_false, notop, e_neg, chainop, chain1_ok, chain2_true, chain2_false, need_true, List.set_cons_zero, List.set_cons_succ, cx_call, truth_bl, truth_int, truth_str, truth_tup, truth_lst, truth_non, bin_add, bin_adds, bin_addt, bin_addl, bin_sub, bin_mul, bin_fdiv, bin_mod, bin_shl, bin_pow, bin_band, cmp_lt, cmp_le, cmp_gt, cmp_ge, cmp_eqi, cmp_nei, cmp_eqs, cmp_nes, cmp_is, cmp_isn, in_str, p_lens, p_lent, p_lenl, p_int, p_divmod, ix_t, ix_l, ix_s, ix_r, e_for, it_t, it_l, it_s, it_rng, it_rng2, it_rev, it_zip, e_int, sl_s1, sl_s2, sl_s3, sls_1, sls_2, isi_int_int, isi_int_str, isi_int_bool, isi_int_tuple, isi_int_list, isi_str_int, isi_str_str, isi_str_bool, isi_str_tuple, isi_str_list, isi_bl_int, isi_bl_str, isi_bl_bool, isi_bl_tuple, isi_bl_list, isi_non_int, isi_non_str, isi_non_bool, isi_non_tuple, isi_non_list, isi_tup_int, isi_tup_str, isi_tup_bool, isi_tup_tuple, isi_tup_list, isi_lst_int, isi_lst_str, isi_lst_bool, isi_lst_tuple, isi_lst_list, comp_seq, comp_seqs, comp_rng,  e_asgt, asgU_some, mk_lstT, mk_lstF0, mk_lstF1, mk_lstF2, szOk_0, last_get, last_set, rc_join, rc_find, rc_index, mt_find, setT_t, setTs_nil, setTs_n, still_d, still_rng, still_rev, still_zip, turnK_nx, turnK_ct, turnK_bk, turnK_rt, forL_nil, forL_cons, List.map_cons, List.map_nil, pyIx_nat, pyIx_lit, pyIxN_lit, seq_ref0, e_setix0, cpow_draw, cpow_30, List.length_cons, List.length_nil, Nat.reduceAdd, Nat.reduceLT, Int.reduceLT, Int.reduceLE, decide_true, decide_false, reduceIte, List.getElem?_cons_zero, List.getElem?_cons_succ, end_rt, drop_self, optD]
  · have hb : ((t.length : Int) == (p.length : Int)) = false := by simp; omega
    rw [place, if_neg hl]
    simp only [eS_nil, eS_cons, eA_nil, eA_cons, eE_c, eE_v, eE_bin, eE_neg, eE_not, eE_and, eE_or, eE_cmp, eE_chain, eE_ite, eE_tup, eE_lst, eE_ix, eE_sl, eE_sls, eE_call, eE_pr, eE_mt, eE_comp, eE_frz, eE_prt, eT_asg, eT_setix, eT_aug, eT_ex, eT_ret, eT_retn, eT_ite, eT_for, eT_whl, eT_brk, eT_cnt, eT_pass, eT_frz, eT_fgt, then1_ok, then2_ok, then3_ok, then4_ok, e_okc, ofO_some, getS_zero, getS_succ, fl1_ok, seqK_nx, seqK_rt, seqK_ct, seqK_bk, e_asgn, e_exE, e_exU, e_ret, e_setE, e_if, if2_true, if2_false, iteK_ok, ite2_true, ite2_false, andK_ok, and2_true, and2_false, orK_ok, or2_true, or2_false, notop, e_neg, chainop, chain1_ok, chain2_true, chain2_false, need_true, List.set_cons_zero, List.set_cons_succ, cx_call, truth_bl, truth_int, truth_str, truth_tup, truth_lst, truth_non, bin_add, bin_adds, bin_addt, bin_addl, bin_sub, bin_mul, bin_fdiv, bin_mod, bin_shl, bin_pow, bin_band, cmp_lt, cmp_le, cmp_gt, cmp_ge, cmp_eqi, cmp_nei, cmp_eqs, cmp_nes, cmp_is, cmp_isn, in_str, p_lens, p_lent, p_lenl, p_int, p_divmod, ix_t, ix_l, ix_s, ix_r, e_for, it_t, it_l, it_s, it_rng, it_rng2, it_rev, it_zip, e_int, sl_s1, sl_s2, sl_s3, sls_1, sls_2, isi_int_int, isi_int_str, isi_int_bool, isi_int_tuple, isi_int_list, isi_str_int, isi_str_str, isi_str_bool, isi_str_tuple, isi_str_list, isi_bl_int, isi_bl_str, isi_bl_bool, isi_bl_tuple, isi_bl_list, isi_non_int, isi_non_str, isi_non_bool, isi_non_tuple, isi_non_list, isi_tup_int, isi_tup_str, isi_tup_bool, isi_tup_tuple, isi_tup_list, isi_lst_int, isi_lst_str, isi_lst_bool, isi_lst_tuple, isi_lst_list, comp_seq, comp_seqs, comp_rng,  e_asgt, asgU_some, mk_lstT, mk_lstF0, mk_lstF1, mk_lstF2, szOk_0, last_get, last_set, rc_join, rc_find, rc_index, mt_find, setT_t, setTs_nil, setTs_n, still_d, still_rng, still_rev, still_zip, turnK_nx, turnK_ct, turnK_bk, turnK_rt, forL_nil, forL_cons, List.map_cons, List.map_nil, pyIx_nat, pyIx_lit, pyIxN_lit, seq_ref0, e_setix0, cpow_draw, cpow_30, List.length_cons, List.length_nil, Nat.reduceAdd, Nat.reduceLT, Int.reduceLT, Int.reduceLE, decide_true, decide_false, reduceIte, List.getElem?_cons_zero, List.getElem?_cons_succ, b_pattern_place, List.length_map, hb, Bool.not_false, end_rt, drop_self, optD]
/-! stocks -/
def total (s : List Pat) : Nat := (s.map many).sum
def VS (s : List Pat) : Prop := s.length ≤ 8 ∧ ∀ p ∈ s, VP p ∧ 1 ≤ p.length ∧ p.length ≤ 8
theorem sum_cast : ∀ l : List Pat, (l.map fun p => (many p : Int)).sum = ((total l : Nat) : Int)
  | [] => rfl
  | p :: l => by
    rw [List.map_cons, List.sum_cons, sum_cast l]
    unfold total
    rw [List.map_cons, List.sum_cons, Int.natCast_add]
theorem many_comp (C : Ctx) (f : Nat) (hf : ∀ (p : Pat) (μ : Mem), VP p → C.call f [.d (dp p)] μ = .ok (.d (.int (many p))) μ) (i : Nat) (σ : Sl) (hi : ∀ v, getS (σ.set i (some v)) i = some v) (s : List Pat) (h : VS s) (μ : Mem) :
    compL (evE C (.c (.bl true))) (evE C (.call f (.cons (.v i) .nil))) (.n i) (fun _ => true) σ ((s.map dp).map Vl.d) μ [] = .ok (((s.map fun p => (many p : Int)).map D.int).map Vl.d) μ := by
  have h8 := h.1
  have := compL_map (c := evE C (.c (.bl true))) (e := evE C (.call f (.cons (.v i) .nil))) (tg := .n i) (ok := fun _ => true) (σ := σ) (m := μ) (f := fun p => Vl.d (dp p)) (g := fun p => Vl.d (.int (many p))) rfl (fun s => by simp only [eS_nil, eS_cons, eA_nil, eA_cons, eE_c, eE_v, eE_bin, eE_neg, eE_not, eE_and, eE_or, eE_cmp, eE_chain, eE_ite, eE_tup, eE_lst, eE_ix, eE_sl, eE_sls, eE_call, eE_pr, eE_mt, eE_comp, eE_frz, eE_prt, eT_asg, eT_setix, eT_aug, eT_ex, eT_ret, eT_retn, eT_ite, eT_for, eT_whl, eT_brk, eT_cnt, eT_pass, eT_frz, eT_fgt, then1_ok, then2_ok, then3_ok, then4_ok, e_okc, ofO_some, getS_zero, getS_succ, fl1_ok, seqK_nx, seqK_rt, seqK_ct, seqK_bk, e_asgn, e_exE, e_exU, e_ret, e_setE, e_if, if2_true, if2_false, iteK_ok, ite2_true, ite2_false, andK_ok, and2_true, and2_false, orK_ok, or2_true, or2_false, notop, e_neg, chainop, chain1_ok, chain2_true, chain2_false, need_true, List.set_cons_zero, List.set_cons_succ, cx_call, truth_bl, truth_int, truth_str, truth_tup, truth_lst, truth_non, bin_add, bin_adds, bin_addt, bin_addl, bin_sub, bin_mul, bin_fdiv, bin_mod, bin_shl, bin_pow, bin_band, cmp_lt, cmp_le, cmp_gt, cmp_ge, cmp_eqi, cmp_nei, cmp_eqs, cmp_nes, cmp_is, cmp_isn, in_str, p_lens, p_lent, p_lenl, p_int, p_divmod, ix_t, ix_l, ix_s, ix_r, e_for, it_t, it_l, it_s, it_rng, it_rng2, it_rev, it_zip, e_int, sl_s1, sl_s2, sl_s3, sls_1, sls_2, isi_int_int, isi_int_str, isi_int_bool, isi_int_tuple, isi_int_list, isi_str_int, isi_str_str, isi_str_bool, isi_str_tuple, isi_str_list, isi_bl_int, isi_bl_str, isi_bl_bool, isi_bl_tuple, isi_bl_list, isi_non_int, isi_non_str, isi_non_bool, isi_non_tuple, isi_non_list, isi_tup_int, isi_tup_str, isi_tup_bool, isi_tup_tuple, isi_tup_list, isi_lst_int, isi_lst_str, isi_lst_bool, isi_lst_tuple, isi_lst_list, comp_seq, comp_seqs, comp_rng,  e_asgt, asgU_some, mk_lstT, mk_lstF0, mk_lstF1, mk_lstF2, szOk_0, last_get, last_set, rc_join, rc_find, rc_index, mt_find, setT_t, setTs_nil, setTs_n, still_d, still_rng, still_rev, still_zip, turnK_nx, turnK_ct, turnK_bk, turnK_rt, forL_nil, forL_cons, List.map_cons, List.map_nil, pyIx_nat, pyIx_lit, pyIxN_lit, seq_ref0, e_setix0, cpow_draw, cpow_30, List.length_cons, List.length_nil, Nat.reduceAdd, Nat.reduceLT, Int.reduceLT, Int.reduceLE, decide_true, decide_false, reduceIte, List.getElem?_cons_zero, List.getElem?_cons_succ]) s (by omega) (fun p hp => ⟨σ.set i (some (.d (dp p))), setT_n .., by simp only [eS_nil, eS_cons, eA_nil, eA_cons, eE_c, eE_v, eE_bin, eE_neg, eE_not, eE_and, eE_or, eE_cmp, eE_chain, eE_ite, eE_tup, eE_lst, eE_ix, eE_sl, eE_sls, eE_call, eE_pr, eE_mt, eE_comp, eE_frz, eE_prt, eT_asg, eT_setix, eT_aug, eT_ex, eT_ret, eT_retn, eT_ite, eT_for, eT_whl, eT_brk, eT_cnt, eT_pass, eT_frz, eT_fgt, then1_ok, then2_ok, then3_ok, then4_ok, e_okc, ofO_some, getS_zero, getS_succ, fl1_ok, seqK_nx, seqK_rt, seqK_ct, seqK_bk, e_asgn, e_exE, e_exU, e_ret, e_setE, e_if, if2_true, if2_false, iteK_ok, ite2_true, ite2_false, andK_ok, and2_true, and2_false, orK_ok, or2_true, or2_false, notop, e_neg, chainop, chain1_ok, chain2_true, chain2_false, need_true, List.set_cons_zero, List.set_cons_succ, cx_call, truth_bl, truth_int, truth_str, truth_tup, truth_lst, truth_non, bin_add, bin_adds, bin_addt, bin_addl, bin_sub, bin_mul, bin_fdiv, bin_mod, bin_shl, bin_pow, bin_band, cmp_lt, cmp_le, cmp_gt, cmp_ge, cmp_eqi, cmp_nei, cmp_eqs, cmp_nes, cmp_is, cmp_isn, in_str, p_lens, p_lent, p_lenl, p_int, p_divmod, ix_t, ix_l, ix_s, ix_r, e_for, it_t, it_l, it_s, it_rng, it_rng2, it_rev, it_zip, e_int, sl_s1, sl_s2, sl_s3, sls_1, sls_2, isi_int_int, isi_int_str, isi_int_bool, isi_int_tuple, isi_int_list, isi_str_int, isi_str_str, isi_str_bool, isi_str_tuple, isi_str_list, isi_bl_int, isi_bl_str, isi_bl_bool, isi_bl_tuple, isi_bl_list, isi_non_int, isi_non_str, isi_non_bool, isi_non_tuple, isi_non_list, isi_tup_int, isi_tup_str, isi_tup_bool, isi_tup_tuple, isi_tup_list, isi_lst_int, isi_lst_str, isi_lst_bool, isi_lst_tuple, isi_lst_list, comp_seq, comp_seqs, comp_rng,  e_asgt, asgU_some, mk_lstT, mk_lstF0, mk_lstF1, mk_lstF2, szOk_0, last_get, last_set, rc_join, rc_find, rc_index, mt_find, setT_t, setTs_nil, setTs_n, still_d, still_rng, still_rev, still_zip, turnK_nx, turnK_ct, turnK_bk, turnK_rt, forL_nil, forL_cons, List.map_cons, List.map_nil, pyIx_nat, pyIx_lit, pyIxN_lit, seq_ref0, e_setix0, cpow_draw, cpow_30, List.length_cons, List.length_nil, Nat.reduceAdd, Nat.reduceLT, Int.reduceLT, Int.reduceLE, decide_true, decide_false, reduceIte, List.getElem?_cons_zero, List.getElem?_cons_succ, hi, hf p μ (h.2 p hp).1]⟩)
  rw [List.map_map, List.map_map, List.map_map]
  exact this
theorem s_total (k : Nat) (hk : 2 ≤ k) (s : List Pat) (h : VS s) (μ : Mem) : sem P k 3 [.d (ds s)] μ = .ok (.d (.int (total s))) μ := by
  obtain ⟨k, rfl⟩ : ∃ j, k = j + 1 := ⟨k - 1, by omega⟩
  rw [r_stems_many, ds]
  have h8 := h.1
  have e := many_comp (cx P k) 0 (fun p μ hp => s_many k (by omega) p hp μ) 1 [some (.d (.tup (s.map dp))), none] (fun v => rfl) s h μ
  simp only [eS_nil, eS_cons, eA_nil, eA_cons, eE_c, eE_v, eE_bin, eE_neg, eE_not, eE_and, eE_or, eE_cmp, eE_chain, eE_ite, eE_tup, eE_lst, eE_ix, eE_sl, eE_sls, eE_call, eE_pr, eE_mt, eE_comp, eE_frz, eE_prt, eT_asg, eT_setix, eT_aug, eT_ex, eT_ret, eT_retn, eT_ite, eT_for, eT_whl, eT_brk, eT_cnt, eT_pass, eT_frz, eT_fgt, then1_ok, then2_ok, then3_ok, then4_ok, e_okc, ofO_some, getS_zero, getS_succ, fl1_ok, seqK_nx, seqK_rt, seqK_ct, seqK_bk, e_asgn, e_exE, e_exU, e_ret, e_setE, e_if, if2_true, if2_false, iteK_ok, ite2_true, ite2_false, andK_ok, and2_true, and2_false, orK_ok, or2_true, or2_false, notop, e_neg, chainop, chain1_ok, chain2_true, chain2_false, need_true, List.set_cons_zero, List.set_cons_succ, cx_call, truth_bl, truth_int, truth_str, truth_tup, truth_lst, truth_non, bin_add, bin_adds, bin_addt, bin_addl, bin_sub, bin_mul, bin_fdiv, bin_mod, bin_shl, bin_pow, bin_band, cmp_lt, cmp_le, cmp_gt, cmp_ge, cmp_eqi, cmp_nei, cmp_eqs, cmp_nes, cmp_is, cmp_isn, in_str, p_lens, p_lent, p_lenl, p_int, p_divmod, ix_t, ix_l, ix_s, ix_r, e_for, it_t, it_l, it_s, it_rng, it_rng2, it_rev, it_zip, e_int, sl_s1, sl_s2, sl_s3, sls_1, sls_2, isi_int_int, isi_int_str, isi_int_bool, isi_int_tuple, isi_int_list, isi_str_int, isi_str_str, isi_str_bool, isi_str_tuple, isi_str_list, isi_bl_int, isi_bl_str, isi_bl_bool, isi_bl_tuple, isi_bl_list, isi_non_int, isi_non_str, isi_non_bool, isi_non_tuple, isi_non_list, isi_tup_int, isi_tup_str, isi_tup_bool, isi_tup_tuple, isi_tup_list, isi_lst_int, isi_lst_str, isi_lst_bool, isi_lst_tuple, isi_lst_list, comp_seq, comp_seqs, comp_rng,  e_asgt, asgU_some, mk_lstT, mk_lstF0, mk_lstF1, mk_lstF2, szOk_0, last_get, last_set, rc_join, rc_find, rc_index, mt_find, setT_t, setTs_nil, setTs_n, still_d, still_rng, still_rev, still_zip, turnK_nx, turnK_ct, turnK_bk, turnK_rt, forL_nil, forL_cons, List.map_cons, List.map_nil, pyIx_nat, pyIx_lit, pyIxN_lit, seq_ref0, e_setix0, cpow_draw, cpow_30, List.length_cons, List.length_nil, Nat.reduceAdd, Nat.reduceLT, Int.reduceLT, Int.reduceLE, decide_true, decide_false, reduceIte, List.getElem?_cons_zero, List.getElem?_cons_succ, b_stems_many, Tg.sets, fgt, e, mk_lstF, List.length_map, szOk_of (show s.length ≤ 16777216 by omega), p_sum, sum_cast, end_rt, drop_self]
def optS : Option (List Char) → D
  | some t => .str t
  | none => .non
def stemS : List Pat → Nat → Option (List Char)
  | [], _ => none
  | p :: r, k => if k < many p then some (stem p k) else stemS r (k - many p)
def placeS : List Pat → List Char → Option Nat
  | [], _ => none
  | p :: r, t => match place p t with
    | some n => some n
    | none => (placeS r t).map (many p + ·)
theorem stemat_hit (k0 : Nat) (hk : 1 ≤ k0) (p : Pat) (hv : VP p) (h8 : p.length ≤ 8) (k : Nat) (hlt : k < many p) (x y : Option Vl) (μ : Mem) : evSs (cx P k0) w1_stem_at [x, some (.d (.int k)), some (.d (dp p)), y] μ = .rt (.d (.str (stem p k))) μ := by
  have hd : decide ((k : Int) < (many p : Int)) = true := decide_eq_true (by omega)
  simp only [eS_nil, eS_cons, eA_nil, eA_cons, eE_c, eE_v, eE_bin, eE_neg, eE_not, eE_and, eE_or, eE_cmp, eE_chain, eE_ite, eE_tup, eE_lst, eE_ix, eE_sl, eE_sls, eE_call, eE_pr, eE_mt, eE_comp, eE_frz, eE_prt, eT_asg, eT_setix, eT_aug, eT_ex, eT_ret, eT_retn, eT_ite, eT_for, eT_whl, eT_brk, eT_cnt, eT_pass, eT_frz, eT_fgt, then1_ok, then2_ok, then3_ok, then4_ok, e_okc, ofO_some, getS_zero, getS_succ, fl1_ok, seqK_nx, seqK_rt, seqK_ct, seqK_bk, e_asgn, e_exE, e_exU, e_ret, e_setE, e_if, if2_true, if2_false, iteK_ok, ite2_true, ite2_false, andK_ok, and2_true, and2_false, orK_ok, or2_true, or2_false, notop, e_neg, chainop, chain1_ok, chain2_true, chain2_false, need_true, List.set_cons_zero, List.set_cons_succ, cx_call, truth_bl, truth_int, truth_str, truth_tup, truth_lst, truth_non, bin_add, bin_adds, bin_addt, bin_addl, bin_sub, bin_mul, bin_fdiv, bin_mod, bin_shl, bin_pow, bin_band, cmp_lt, cmp_le, cmp_gt, cmp_ge, cmp_eqi, cmp_nei, cmp_eqs, cmp_nes, cmp_is, cmp_isn, in_str, p_lens, p_lent, p_lenl, p_int, p_divmod, ix_t, ix_l, ix_s, ix_r, e_for, it_t, it_l, it_s, it_rng, it_rng2, it_rev, it_zip, e_int, sl_s1, sl_s2, sl_s3, sls_1, sls_2, isi_int_int, isi_int_str, isi_int_bool, isi_int_tuple, isi_int_list, isi_str_int, isi_str_str, isi_str_bool, isi_str_tuple, isi_str_list, isi_bl_int, isi_bl_str, isi_bl_bool, isi_bl_tuple, isi_bl_list, isi_non_int, isi_non_str, isi_non_bool, isi_non_tuple, isi_non_list, isi_tup_int, isi_tup_str, isi_tup_bool, isi_tup_tuple, isi_tup_list, isi_lst_int, isi_lst_str, isi_lst_bool, isi_lst_tuple, isi_lst_list, comp_seq, comp_seqs, comp_rng,  e_asgt, asgU_some, mk_lstT, mk_lstF0, mk_lstF1, mk_lstF2, szOk_0, last_get, last_set, rc_join, rc_find, rc_index, mt_find, setT_t, setTs_nil, setTs_n, still_d, still_rng, still_rev, still_zip, turnK_nx, turnK_ct, turnK_bk, turnK_rt, forL_nil, forL_cons, List.map_cons, List.map_nil, pyIx_nat, pyIx_lit, pyIxN_lit, seq_ref0, e_setix0, cpow_draw, cpow_30, List.length_cons, List.length_nil, Nat.reduceAdd, Nat.reduceLT, Int.reduceLT, Int.reduceLE, decide_true, decide_false, reduceIte, List.getElem?_cons_zero, List.getElem?_cons_succ, w1_stem_at, s_many k0 hk p hv, hd, s_stem k0 hk p hv h8 k]
theorem stemat_miss (k0 : Nat) (hk : 1 ≤ k0) (p : Pat) (hv : VP p) (k : Nat) (hlt : ¬ k < many p) (x y : Option Vl) (μ : Mem) : evSs (cx P k0) w1_stem_at [x, some (.d (.int k)), some (.d (dp p)), y] μ = .nx [x, some (.d (.int ((k - many p : Nat) : Int))), some (.d (dp p)), some (.d (.int (many p)))] μ := by
  have hd : decide ((k : Int) < (many p : Int)) = false := decide_eq_false (by omega)
  have e : ((k - many p : Nat) : Int) = (k : Int) - (many p : Int) := by omega
  rw [e]
  simp only [eS_nil, eS_cons, eA_nil, eA_cons, eE_c, eE_v, eE_bin, eE_neg, eE_not, eE_and, eE_or, eE_cmp, eE_chain, eE_ite, eE_tup, eE_lst, eE_ix, eE_sl, eE_sls, eE_call, eE_pr, eE_mt, eE_comp, eE_frz, eE_prt, eT_asg, eT_setix, eT_aug, eT_ex, eT_ret, eT_retn, eT_ite, eT_for, eT_whl, eT_brk, eT_cnt, eT_pass, eT_frz, eT_fgt, then1_ok, then2_ok, then3_ok, then4_ok, e_okc, ofO_some, getS_zero, getS_succ, fl1_ok, seqK_nx, seqK_rt, seqK_ct, seqK_bk, e_asgn, e_exE, e_exU, e_ret, e_setE, e_if, if2_true, if2_false, iteK_ok, ite2_true, ite2_false, andK_ok, and2_true, and2_false, orK_ok, or2_true, or2_false, notop, e_neg, chainop, chain1_ok, chain2_true, chain2_false, need_true, List.set_cons_zero, List.set_cons_succ, cx_call, truth_bl, truth_int, truth_str, truth_tup, truth_lst, truth_non, bin_add, bin_adds, bin_addt, bin_addl, bin_sub, bin_mul, bin_fdiv, bin_mod, bin_shl, bin_pow, bin_band, cmp_lt, cmp_le, cmp_gt, cmp_ge, cmp_eqi, cmp_nei, cmp_eqs, cmp_nes, cmp_is, cmp_isn, in_str, p_lens, p_lent, p_lenl, p_int, p_divmod, ix_t, ix_l, ix_s, ix_r, e_for, it_t, it_l, it_s, it_rng, it_rng2, it_rev, it_zip, e_int, sl_s1, sl_s2, sl_s3, sls_1, sls_2, isi_int_int, isi_int_str, isi_int_bool, isi_int_tuple, isi_int_list, isi_str_int, isi_str_str, isi_str_bool, isi_str_tuple, isi_str_list, isi_bl_int, isi_bl_str, isi_bl_bool, isi_bl_tuple, isi_bl_list, isi_non_int, isi_non_str, isi_non_bool, isi_non_tuple, isi_non_list, isi_tup_int, isi_tup_str, isi_tup_bool, isi_tup_tuple, isi_tup_list, isi_lst_int, isi_lst_str, isi_lst_bool, isi_lst_tuple, isi_lst_list, comp_seq, comp_seqs, comp_rng,  e_asgt, asgU_some, mk_lstT, mk_lstF0, mk_lstF1, mk_lstF2, szOk_0, last_get, last_set, rc_join, rc_find, rc_index, mt_find, setT_t, setTs_nil, setTs_n, still_d, still_rng, still_rev, still_zip, turnK_nx, turnK_ct, turnK_bk, turnK_rt, forL_nil, forL_cons, List.map_cons, List.map_nil, pyIx_nat, pyIx_lit, pyIxN_lit, seq_ref0, e_setix0, cpow_draw, cpow_30, List.length_cons, List.length_nil, Nat.reduceAdd, Nat.reduceLT, Int.reduceLT, Int.reduceLE, decide_true, decide_false, reduceIte, List.getElem?_cons_zero, List.getElem?_cons_succ, w1_stem_at, s_many k0 hk p hv, hd]
theorem stemat_loop (k0 : Nat) (hk : 1 ≤ k0) (μ : Mem) (x : Option Vl) (s : List Pat) : ∀ (k : Nat) (y z : Option Vl), (∀ p ∈ s, VP p ∧ 1 ≤ p.length ∧ p.length ≤ 8) →
    match stemS s k with
    | some t => forL (evSs (cx P k0) w1_stem_at) (.n 2) (fun _ => true) ((s.map dp).map Vl.d) [x, some (.d (.int k)), y, z] μ = .rt (.d (.str t)) μ
    | none => ∃ k' y' z', forL (evSs (cx P k0) w1_stem_at) (.n 2) (fun _ => true) ((s.map dp).map Vl.d) [x, some (.d (.int k)), y, z] μ = .nx [x, k', y', z'] μ := by
  induction s with
  | nil => intro k y z _; exact ⟨_, _, _, rfl⟩
  | cons p r ih =>
    intro k y z h
    have hp := h p (by simp)
    rw [stemS]
    by_cases hlt : k < many p
    · rw [if_pos hlt]
      dsimp only
      simp only [eS_nil, eS_cons, eA_nil, eA_cons, eE_c, eE_v, eE_bin, eE_neg, eE_not, eE_and, eE_or, eE_cmp, eE_chain, eE_ite, eE_tup, eE_lst, eE_ix, eE_sl, eE_sls, eE_call, eE_pr, eE_mt, eE_comp, eE_frz, eE_prt, eT_asg, eT_setix, eT_aug, eT_ex, eT_ret, eT_retn, eT_ite, eT_for, eT_whl, eT_brk, eT_cnt, eT_pass, eT_frz, eT_fgt, then1_ok, then2_ok, then3_ok, then4_ok, e_okc, ofO_some, getS_zero, getS_succ, fl1_ok, seqK_nx, seqK_rt, seqK_ct, seqK_bk, e_asgn, e_exE, e_exU, e_ret, e_setE, e_if, if2_true, if2_false, iteK_ok, ite2_true, ite2_false, andK_ok, and2_true, and2_false, orK_ok, or2_true, or2_false, notop, e_neg, chainop, chain1_ok, chain2_true, chain2_false, need_true, List.set_cons_zero, List.set_cons_succ, cx_call, truth_bl, truth_int, truth_str, truth_tup, truth_lst, truth_non, bin_add, bin_adds, bin_addt, bin_addl, bin_sub, bin_mul, bin_fdiv, bin_mod, bin_shl, bin_pow, bin_band, cmp_lt, cmp_le, cmp_gt, cmp_ge, cmp_eqi, cmp_nei, cmp_eqs, cmp_nes, cmp_is, cmp_isn, in_str, p_lens, p_lent, p_lenl, p_int, p_divmod, ix_t, ix_l, ix_s, ix_r, e_for, it_t, it_l, it_s, it_rng, it_rng2, it_rev, it_zip, e_int, sl_s1, sl_s2, sl_s3, sls_1, sls_2, isi_int_int, isi_int_str, isi_int_bool, isi_int_tuple, isi_int_list, isi_str_int, isi_str_str, isi_str_bool, isi_str_tuple, isi_str_list, isi_bl_int, isi_bl_str, isi_bl_bool, isi_bl_tuple, isi_bl_list, isi_non_int, isi_non_str, isi_non_bool, isi_non_tuple, isi_non_list, isi_tup_int, isi_tup_str, isi_tup_bool, isi_tup_tuple, isi_tup_list, isi_lst_int, isi_lst_str, isi_lst_bool, isi_lst_tuple, isi_lst_list, comp_seq, comp_seqs, comp_rng,  e_asgt, asgU_some, mk_lstT, mk_lstF0, mk_lstF1, mk_lstF2, szOk_0, last_get, last_set, rc_join, rc_find, rc_index, mt_find, setT_t, setTs_nil, setTs_n, still_d, still_rng, still_rev, still_zip, turnK_nx, turnK_ct, turnK_bk, turnK_rt, forL_nil, forL_cons, List.map_cons, List.map_nil, pyIx_nat, pyIx_lit, pyIxN_lit, seq_ref0, e_setix0, cpow_draw, cpow_30, List.length_cons, List.length_nil, Nat.reduceAdd, Nat.reduceLT, Int.reduceLT, Int.reduceLE, decide_true, decide_false, reduceIte, List.getElem?_cons_zero, List.getElem?_cons_succ]
      rw [stemat_hit k0 hk p hp.1 hp.2.2 k hlt]
      simp only [eS_nil, eS_cons, eA_nil, eA_cons, eE_c, eE_v, eE_bin, eE_neg, eE_not, eE_and, eE_or, eE_cmp, eE_chain, eE_ite, eE_tup, eE_lst, eE_ix, eE_sl, eE_sls, eE_call, eE_pr, eE_mt, eE_comp, eE_frz, eE_prt, eT_asg, eT_setix, eT_aug, eT_ex, eT_ret, eT_retn, eT_ite, eT_for, eT_whl, eT_brk, eT_cnt, eT_pass, eT_frz, eT_fgt, then1_ok, then2_ok, then3_ok, then4_ok, e_okc, ofO_some, getS_zero, getS_succ, fl1_ok, seqK_nx, seqK_rt, seqK_ct, seqK_bk, e_asgn, e_exE, e_exU, e_ret, e_setE, e_if, if2_true, if2_false, iteK_ok, ite2_true, ite2_false, andK_ok, and2_true, and2_false, orK_ok, or2_true, or2_false, notop, e_neg, chainop, chain1_ok, chain2_true, chain2_false, need_true, List.set_cons_zero, List.set_cons_succ, cx_call, truth_bl, truth_int, truth_str, truth_tup, truth_lst, truth_non, bin_add, bin_adds, bin_addt, bin_addl, bin_sub, bin_mul, bin_fdiv, bin_mod, bin_shl, bin_pow, bin_band, cmp_lt, cmp_le, cmp_gt, cmp_ge, cmp_eqi, cmp_nei, cmp_eqs, cmp_nes, cmp_is, cmp_isn, in_str, p_lens, p_lent, p_lenl, p_int, p_divmod, ix_t, ix_l, ix_s, ix_r, e_for, it_t, it_l, it_s, it_rng, it_rng2, it_rev, it_zip, e_int, sl_s1, sl_s2, sl_s3, sls_1, sls_2, isi_int_int, isi_int_str, isi_int_bool, isi_int_tuple, isi_int_list, isi_str_int, isi_str_str, isi_str_bool, isi_str_tuple, isi_str_list, isi_bl_int, isi_bl_str, isi_bl_bool, isi_bl_tuple, isi_bl_list, isi_non_int, isi_non_str, isi_non_bool, isi_non_tuple, isi_non_list, isi_tup_int, isi_tup_str, isi_tup_bool, isi_tup_tuple, isi_tup_list, isi_lst_int, isi_lst_str, isi_lst_bool, isi_lst_tuple, isi_lst_list, comp_seq, comp_seqs, comp_rng,  e_asgt, asgU_some, mk_lstT, mk_lstF0, mk_lstF1, mk_lstF2, szOk_0, last_get, last_set, rc_join, rc_find, rc_index, mt_find, setT_t, setTs_nil, setTs_n, still_d, still_rng, still_rev, still_zip, turnK_nx, turnK_ct, turnK_bk, turnK_rt, forL_nil, forL_cons, List.map_cons, List.map_nil, pyIx_nat, pyIx_lit, pyIxN_lit, seq_ref0, e_setix0, cpow_draw, cpow_30, List.length_cons, List.length_nil, Nat.reduceAdd, Nat.reduceLT, Int.reduceLT, Int.reduceLE, decide_true, decide_false, reduceIte, List.getElem?_cons_zero, List.getElem?_cons_succ]
    · rw [if_neg hlt]
      have ih := ih (k - many p) (some (.d (dp p))) (some (.d (.int (many p)))) (fun q hq => h q (by simp [hq]))
      simp only [eS_nil, eS_cons, eA_nil, eA_cons, eE_c, eE_v, eE_bin, eE_neg, eE_not, eE_and, eE_or, eE_cmp, eE_chain, eE_ite, eE_tup, eE_lst, eE_ix, eE_sl, eE_sls, eE_call, eE_pr, eE_mt, eE_comp, eE_frz, eE_prt, eT_asg, eT_setix, eT_aug, eT_ex, eT_ret, eT_retn, eT_ite, eT_for, eT_whl, eT_brk, eT_cnt, eT_pass, eT_frz, eT_fgt, then1_ok, then2_ok, then3_ok, then4_ok, e_okc, ofO_some, getS_zero, getS_succ, fl1_ok, seqK_nx, seqK_rt, seqK_ct, seqK_bk, e_asgn, e_exE, e_exU, e_ret, e_setE, e_if, if2_true, if2_false, iteK_ok, ite2_true, ite2_false, andK_ok, and2_true, and2_false, orK_ok, or2_true, or2_false, notop, e_neg, chainop, chain1_ok, chain2_true, chain2_false, need_true, List.set_cons_zero, List.set_cons_succ, cx_call, truth_bl, truth_int, truth_str, truth_tup, truth_lst, truth_non, bin_add, bin_adds, bin_addt, bin_addl, bin_sub, bin_mul, bin_fdiv, bin_mod, bin_shl, bin_pow, bin_band, cmp_lt, cmp_le, cmp_gt, cmp_ge, cmp_eqi, cmp_nei, cmp_eqs, cmp_nes, cmp_is, cmp_isn, in_str, p_lens, p_lent, p_lenl, p_int, p_divmod, ix_t, ix_l, ix_s, ix_r, e_for, it_t, it_l, it_s, it_rng, it_rng2, it_rev, it_zip, e_int, sl_s1, sl_s2, sl_s3, sls_1, sls_2, isi_int_int, isi_int_str, isi_int_bool, isi_int_tuple, isi_int_list, isi_str_int, isi_str_str, isi_str_bool, isi_str_tuple, isi_str_list, isi_bl_int, isi_bl_str, isi_bl_bool, isi_bl_tuple, isi_bl_list, isi_non_int, isi_non_str, isi_non_bool, isi_non_tuple, isi_non_list, isi_tup_int, isi_tup_str, isi_tup_bool, isi_tup_tuple, isi_tup_list, isi_lst_int, isi_lst_str, isi_lst_bool, isi_lst_tuple, isi_lst_list, comp_seq, comp_seqs, comp_rng,  e_asgt, asgU_some, mk_lstT, mk_lstF0, mk_lstF1, mk_lstF2, szOk_0, last_get, last_set, rc_join, rc_find, rc_index, mt_find, setT_t, setTs_nil, setTs_n, still_d, still_rng, still_rev, still_zip, turnK_nx, turnK_ct, turnK_bk, turnK_rt, forL_nil, forL_cons, List.map_cons, List.map_nil, pyIx_nat, pyIx_lit, pyIxN_lit, seq_ref0, e_setix0, cpow_draw, cpow_30, List.length_cons, List.length_nil, Nat.reduceAdd, Nat.reduceLT, Int.reduceLT, Int.reduceLE, decide_true, decide_false, reduceIte, List.getElem?_cons_zero, List.getElem?_cons_succ]
      rw [stemat_miss k0 hk p hp.1 k hlt]
      simp only [eS_nil, eS_cons, eA_nil, eA_cons, eE_c, eE_v, eE_bin, eE_neg, eE_not, eE_and, eE_or, eE_cmp, eE_chain, eE_ite, eE_tup, eE_lst, eE_ix, eE_sl, eE_sls, eE_call, eE_pr, eE_mt, eE_comp, eE_frz, eE_prt, eT_asg, eT_setix, eT_aug, eT_ex, eT_ret, eT_retn, eT_ite, eT_for, eT_whl, eT_brk, eT_cnt, eT_pass, eT_frz, eT_fgt, then1_ok, then2_ok, then3_ok, then4_ok, e_okc, ofO_some, getS_zero, getS_succ, fl1_ok, seqK_nx, seqK_rt, seqK_ct, seqK_bk, e_asgn, e_exE, e_exU, e_ret, e_setE, e_if, if2_true, if2_false, iteK_ok, ite2_true, ite2_false, andK_ok, and2_true, and2_false, orK_ok, or2_true, or2_false, notop, e_neg, chainop, chain1_ok, chain2_true, chain2_false, need_true, List.set_cons_zero, List.set_cons_succ, cx_call, truth_bl, truth_int, truth_str, truth_tup, truth_lst, truth_non, bin_add, bin_adds, bin_addt, bin_addl, bin_sub, bin_mul, bin_fdiv, bin_mod, bin_shl, bin_pow, bin_band, cmp_lt, cmp_le, cmp_gt, cmp_ge, cmp_eqi, cmp_nei, cmp_eqs, cmp_nes, cmp_is, cmp_isn, in_str, p_lens, p_lent, p_lenl, p_int, p_divmod, ix_t, ix_l, ix_s, ix_r, e_for, it_t, it_l, it_s, it_rng, it_rng2, it_rev, it_zip, e_int, sl_s1, sl_s2, sl_s3, sls_1, sls_2, isi_int_int, isi_int_str, isi_int_bool, isi_int_tuple, isi_int_list, isi_str_int, isi_str_str, isi_str_bool, isi_str_tuple, isi_str_list, isi_bl_int, isi_bl_str, isi_bl_bool, isi_bl_tuple, isi_bl_list, isi_non_int, isi_non_str, isi_non_bool, isi_non_tuple, isi_non_list, isi_tup_int, isi_tup_str, isi_tup_bool, isi_tup_tuple, isi_tup_list, isi_lst_int, isi_lst_str, isi_lst_bool, isi_lst_tuple, isi_lst_list, comp_seq, comp_seqs, comp_rng,  e_asgt, asgU_some, mk_lstT, mk_lstF0, mk_lstF1, mk_lstF2, szOk_0, last_get, last_set, rc_join, rc_find, rc_index, mt_find, setT_t, setTs_nil, setTs_n, still_d, still_rng, still_rev, still_zip, turnK_nx, turnK_ct, turnK_bk, turnK_rt, forL_nil, forL_cons, List.map_cons, List.map_nil, pyIx_nat, pyIx_lit, pyIxN_lit, seq_ref0, e_setix0, cpow_draw, cpow_30, List.length_cons, List.length_nil, Nat.reduceAdd, Nat.reduceLT, Int.reduceLT, Int.reduceLE, decide_true, decide_false, reduceIte, List.getElem?_cons_zero, List.getElem?_cons_succ]
      exact ih
theorem s_stemat (k0 : Nat) (hk : 2 ≤ k0) (s : List Pat) (h : VS s) (k : Nat) (μ : Mem) : sem P k0 4 [.d (ds s), .d (.int k)] μ = .ok (.d (optS (stemS s k))) μ := by
  obtain ⟨k0, rfl⟩ : ∃ j, k0 = j + 1 := ⟨k0 - 1, by omega⟩
  rw [r_stem_at]
  have l := stemat_loop k0 (by omega) μ (some (.d (ds s))) s k none none h.2
  rw [ds] at l ⊢
  cases hq : stemS s k with
  | some t =>
    rw [hq] at l
    simp only [eS_nil, eS_cons, eA_nil, eA_cons, eE_c, eE_v, eE_bin, eE_neg, eE_not, eE_and, eE_or, eE_cmp, eE_chain, eE_ite, eE_tup, eE_lst, eE_ix, eE_sl, eE_sls, eE_call, eE_pr, eE_mt, eE_comp, eE_frz, eE_prt, eT_asg, eT_setix, eT_aug, eT_ex, eT_ret, eT_retn, eT_ite, eT_for, eT_whl, eT_brk, eT_cnt, eT_pass, eT_frz, eT_fgt, then1_ok, then2_ok, then3_ok, then4_ok, e_okc, ofO_some, getS_zero, getS_succ, fl1_ok, seqK_nx, seqK_rt, seqK_ct, seqK_bk, e_asgn, e_exE, e_exU, e_ret, e_setE, e_if, if2_true, if2_false, iteK_ok, ite2_true, ite2_false, andK_ok, and2_true, and2_false, orK_ok, or2_true, or2_false, notop, e_neg, chainop, chain1_ok, chain2_true, chain2_false, need_true, List.set_cons_zero, List.set_cons_succ, cx_call, truth_bl, truth_int, truth_str, truth_tup, truth_lst, truth_non, bin_add, bin_adds, bin_addt, bin_addl, bin_sub, bin_mul, bin_fdiv, bin_mod, bin_shl, bin_pow, bin_band, cmp_lt, cmp_le, cmp_gt, cmp_ge, cmp_eqi, cmp_nei, cmp_eqs, cmp_nes, cmp_is, cmp_isn, in_str, p_lens, p_lent, p_lenl, p_int, p_divmod, ix_t, ix_l, ix_s, ix_r, e_for, it_t, it_l, it_s, it_rng, it_rng2, it_rev, it_zip, e_int, sl_s1, sl_s2, sl_s3, sls_1, sls_2, isi_int_int, isi_int_str, isi_int_bool, isi_int_tuple, isi_int_list, isi_str_int, isi_str_str, isi_str_bool, isi_str_tuple, isi_str_list, isi_bl_int, isi_bl_str, isi_bl_bool, isi_bl_tuple, isi_bl_list, isi_non_int, isi_non_str, isi_non_bool, isi_non_tuple, isi_non_list, isi_tup_int, isi_tup_str, isi_tup_bool, isi_tup_tuple, isi_tup_list, isi_lst_int, isi_lst_str, isi_lst_bool, isi_lst_tuple, isi_lst_list, comp_seq, comp_seqs, comp_rng,  e_asgt, asgU_some, mk_lstT, mk_lstF0, mk_lstF1, mk_lstF2, szOk_0, last_get, last_set, rc_join, rc_find, rc_index, mt_find, setT_t, setTs_nil, setTs_n, still_d, still_rng, still_rev, still_zip, turnK_nx, turnK_ct, turnK_bk, turnK_rt, forL_nil, forL_cons, List.map_cons, List.map_nil, pyIx_nat, pyIx_lit, pyIxN_lit, seq_ref0, e_setix0, cpow_draw, cpow_30, List.length_cons, List.length_nil, Nat.reduceAdd, Nat.reduceLT, Int.reduceLT, Int.reduceLE, decide_true, decide_false, reduceIte, List.getElem?_cons_zero, List.getElem?_cons_succ, b_stem_at, l, end_rt, drop_self, optS]
  | none =>
    rw [hq] at l
    obtain ⟨_, _, _, l⟩ := l
    simp only [eS_nil, eS_cons, eA_nil, eA_cons, eE_c, eE_v, eE_bin, eE_neg, eE_not, eE_and, eE_or, eE_cmp, eE_chain, eE_ite, eE_tup, eE_lst, eE_ix, eE_sl, eE_sls, eE_call, eE_pr, eE_mt, eE_comp, eE_frz, eE_prt, eT_asg, eT_setix, eT_aug, eT_ex, eT_ret, eT_retn, eT_ite, eT_for, eT_whl, eT_brk, eT_cnt, eT_pass, eT_frz, eT_fgt, then1_ok, then2_ok, then3_ok, then4_ok, e_okc, ofO_some, getS_zero, getS_succ, fl1_ok, seqK_nx, seqK_rt, seqK_ct, seqK_bk, e_asgn, e_exE, e_exU, e_ret, e_setE, e_if, if2_true, if2_false, iteK_ok, ite2_true, ite2_false, andK_ok, and2_true, and2_false, orK_ok, or2_true, or2_false, notop, e_neg, chainop, chain1_ok, chain2_true, chain2_false, need_true, List.set_cons_zero, List.set_cons_succ, cx_call, truth_bl, truth_int, truth_str, truth_tup, truth_lst, truth_non, bin_add, bin_adds, bin_addt, bin_addl, bin_sub, bin_mul, bin_fdiv, bin_mod, bin_shl, bin_pow, bin_band, cmp_lt, cmp_le, cmp_gt, cmp_ge, cmp_eqi, cmp_nei, cmp_eqs, cmp_nes, cmp_is, cmp_isn, in_str, p_lens, p_lent, p_lenl, p_int, p_divmod, ix_t, ix_l, ix_s, ix_r, e_for, it_t, it_l, it_s, it_rng, it_rng2, it_rev, it_zip, e_int, sl_s1, sl_s2, sl_s3, sls_1, sls_2, isi_int_int, isi_int_str, isi_int_bool, isi_int_tuple, isi_int_list, isi_str_int, isi_str_str, isi_str_bool, isi_str_tuple, isi_str_list, isi_bl_int, isi_bl_str, isi_bl_bool, isi_bl_tuple, isi_bl_list, isi_non_int, isi_non_str, isi_non_bool, isi_non_tuple, isi_non_list, isi_tup_int, isi_tup_str, isi_tup_bool, isi_tup_tuple, isi_tup_list, isi_lst_int, isi_lst_str, isi_lst_bool, isi_lst_tuple, isi_lst_list, comp_seq, comp_seqs, comp_rng,  e_asgt, asgU_some, mk_lstT, mk_lstF0, mk_lstF1, mk_lstF2, szOk_0, last_get, last_set, rc_join, rc_find, rc_index, mt_find, setT_t, setTs_nil, setTs_n, still_d, still_rng, still_rev, still_zip, turnK_nx, turnK_ct, turnK_bk, turnK_rt, forL_nil, forL_cons, List.map_cons, List.map_nil, pyIx_nat, pyIx_lit, pyIxN_lit, seq_ref0, e_setix0, cpow_draw, cpow_30, List.length_cons, List.length_nil, Nat.reduceAdd, Nat.reduceLT, Int.reduceLT, Int.reduceLE, decide_true, decide_false, reduceIte, List.getElem?_cons_zero, List.getElem?_cons_succ, b_stem_at, l, end_rt, drop_self, optS]
theorem placein_hit (k0 : Nat) (hk : 1 ≤ k0) (p : Pat) (hv : VP p) (t : List Char) (n : Nat) (hq : place p t = some n) (a : Int) (x y : Option Vl) (μ : Mem) : evSs (cx P k0) w1_place_in [x, some (.d (.str t)), some (.d (.int a)), some (.d (dp p)), y] μ = .rt (.d (.int (a + n))) μ := by
  have hd : decide (optD (some n) = D.non) = false := by
    rw [optD]
    exact decide_eq_false (fun z => nomatch z)
  simp only [eS_nil, eS_cons, eA_nil, eA_cons, eE_c, eE_v, eE_bin, eE_neg, eE_not, eE_and, eE_or, eE_cmp, eE_chain, eE_ite, eE_tup, eE_lst, eE_ix, eE_sl, eE_sls, eE_call, eE_pr, eE_mt, eE_comp, eE_frz, eE_prt, eT_asg, eT_setix, eT_aug, eT_ex, eT_ret, eT_retn, eT_ite, eT_for, eT_whl, eT_brk, eT_cnt, eT_pass, eT_frz, eT_fgt, then1_ok, then2_ok, then3_ok, then4_ok, e_okc, ofO_some, getS_zero, getS_succ, fl1_ok, seqK_nx, seqK_rt, seqK_ct, seqK_bk, e_asgn, e_exE, e_exU, e_ret, e_setE, e_if, if2_true, if2_false, iteK_ok, ite2_true, ite2_false, andK_ok, and2_true, and2_false, orK_ok, or2_true, or2_false, notop, e_neg, chainop, chain1_ok, chain2_true, chain2_false, need_true, List.set_cons_zero, List.set_cons_succ, cx_call, truth_bl, truth_int, truth_str, truth_tup, truth_lst, truth_non, bin_add, bin_adds, bin_addt, bin_addl, bin_sub, bin_mul, bin_fdiv, bin_mod, bin_shl, bin_pow, bin_band, cmp_lt, cmp_le, cmp_gt, cmp_ge, cmp_eqi, cmp_nei, cmp_eqs, cmp_nes, cmp_is, cmp_isn, in_str, p_lens, p_lent, p_lenl, p_int, p_divmod, ix_t, ix_l, ix_s, ix_r, e_for, it_t, it_l, it_s, it_rng, it_rng2, it_rev, it_zip, e_int, sl_s1, sl_s2, sl_s3, sls_1, sls_2, isi_int_int, isi_int_str, isi_int_bool, isi_int_tuple, isi_int_list, isi_str_int, isi_str_str, isi_str_bool, isi_str_tuple, isi_str_list, isi_bl_int, isi_bl_str, isi_bl_bool, isi_bl_tuple, isi_bl_list, isi_non_int, isi_non_str, isi_non_bool, isi_non_tuple, isi_non_list, isi_tup_int, isi_tup_str, isi_tup_bool, isi_tup_tuple, isi_tup_list, isi_lst_int, isi_lst_str, isi_lst_bool, isi_lst_tuple, isi_lst_list, comp_seq, comp_seqs, comp_rng,  e_asgt, asgU_some, mk_lstT, mk_lstF0, mk_lstF1, mk_lstF2, szOk_0, last_get, last_set, rc_join, rc_find, rc_index, mt_find, setT_t, setTs_nil, setTs_n, still_d, still_rng, still_rev, still_zip, turnK_nx, turnK_ct, turnK_bk, turnK_rt, forL_nil, forL_cons, List.map_cons, List.map_nil, pyIx_nat, pyIx_lit, pyIxN_lit, seq_ref0, e_setix0, cpow_draw, cpow_30, List.length_cons, List.length_nil, Nat.reduceAdd, Nat.reduceLT, Int.reduceLT, Int.reduceLE, decide_true, decide_false, reduceIte, List.getElem?_cons_zero, List.getElem?_cons_succ, w1_place_in, s_place k0 hk p hv t, hq, hd, Bool.not_false]
  simp only [eS_nil, eS_cons, eA_nil, eA_cons, eE_c, eE_v, eE_bin, eE_neg, eE_not, eE_and, eE_or, eE_cmp, eE_chain, eE_ite, eE_tup, eE_lst, eE_ix, eE_sl, eE_sls, eE_call, eE_pr, eE_mt, eE_comp, eE_frz, eE_prt, eT_asg, eT_setix, eT_aug, eT_ex, eT_ret, eT_retn, eT_ite, eT_for, eT_whl, eT_brk, eT_cnt, eT_pass, eT_frz, eT_fgt, then1_ok, then2_ok, then3_ok, then4_ok, e_okc, ofO_some, getS_zero, getS_succ, fl1_ok, seqK_nx, seqK_rt, seqK_ct, seqK_bk, e_asgn, e_exE, e_exU, e_ret, e_setE, e_if, if2_true, if2_false, iteK_ok, ite2_true, ite2_false, andK_ok, and2_true, and2_false, orK_ok, or2_true, or2_false, notop, e_neg, chainop, chain1_ok, chain2_true, chain2_false, need_true, List.set_cons_zero, List.set_cons_succ, cx_call, truth_bl, truth_int, truth_str, truth_tup, truth_lst, truth_non, bin_add, bin_adds, bin_addt, bin_addl, bin_sub, bin_mul, bin_fdiv, bin_mod, bin_shl, bin_pow, bin_band, cmp_lt, cmp_le, cmp_gt, cmp_ge, cmp_eqi, cmp_nei, cmp_eqs, cmp_nes, cmp_is, cmp_isn, in_str, p_lens, p_lent, p_lenl, p_int, p_divmod, ix_t, ix_l, ix_s, ix_r, e_for, it_t, it_l, it_s, it_rng, it_rng2, it_rev, it_zip, e_int, sl_s1, sl_s2, sl_s3, sls_1, sls_2, isi_int_int, isi_int_str, isi_int_bool, isi_int_tuple, isi_int_list, isi_str_int, isi_str_str, isi_str_bool, isi_str_tuple, isi_str_list, isi_bl_int, isi_bl_str, isi_bl_bool, isi_bl_tuple, isi_bl_list, isi_non_int, isi_non_str, isi_non_bool, isi_non_tuple, isi_non_list, isi_tup_int, isi_tup_str, isi_tup_bool, isi_tup_tuple, isi_tup_list, isi_lst_int, isi_lst_str, isi_lst_bool, isi_lst_tuple, isi_lst_list, comp_seq, comp_seqs, comp_rng,  e_asgt, asgU_some, mk_lstT, mk_lstF0, mk_lstF1, mk_lstF2, szOk_0, last_get, last_set, rc_join, rc_find, rc_index, mt_find, setT_t, setTs_nil, setTs_n, still_d, still_rng, still_rev, still_zip, turnK_nx, turnK_ct, turnK_bk, turnK_rt, forL_nil, forL_cons, List.map_cons, List.map_nil, pyIx_nat, pyIx_lit, pyIxN_lit, seq_ref0, e_setix0, cpow_draw, cpow_30, List.length_cons, List.length_nil, Nat.reduceAdd, Nat.reduceLT, Int.reduceLT, Int.reduceLE, decide_true, decide_false, reduceIte, List.getElem?_cons_zero, List.getElem?_cons_succ, optD]
theorem placein_miss (k0 : Nat) (hk : 1 ≤ k0) (p : Pat) (hv : VP p) (t : List Char) (hq : place p t = none) (a : Int) (x y : Option Vl) (μ : Mem) : evSs (cx P k0) w1_place_in [x, some (.d (.str t)), some (.d (.int a)), some (.d (dp p)), y] μ = .nx [x, some (.d (.str t)), some (.d (.int (a + many p))), some (.d (dp p)), some (.d .non)] μ := by
  have hd : decide (optD none = D.non) = true := by
    rw [optD]
    exact decide_eq_true rfl
  simp only [eS_nil, eS_cons, eA_nil, eA_cons, eE_c, eE_v, eE_bin, eE_neg, eE_not, eE_and, eE_or, eE_cmp, eE_chain, eE_ite, eE_tup, eE_lst, eE_ix, eE_sl, eE_sls, eE_call, eE_pr, eE_mt, eE_comp, eE_frz, eE_prt, eT_asg, eT_setix, eT_aug, eT_ex, eT_ret, eT_retn, eT_ite, eT_for, eT_whl, eT_brk, eT_cnt, eT_pass, eT_frz, eT_fgt, then1_ok, then2_ok, then3_ok, then4_ok, e_okc, ofO_some, getS_zero, getS_succ, fl1_ok, seqK_nx, seqK_rt, seqK_ct, seqK_bk, e_asgn, e_exE, e_exU, e_ret, e_setE, e_if, if2_true, if2_false, iteK_ok, ite2_true, ite2_false, andK_ok, and2_true, and2_false, orK_ok, or2_true, or2_false, notop, e_neg, chainop, chain1_ok, chain2_true, chain2_false, need_true, List.set_cons_zero, List.set_cons_succ, cx_call, truth_bl, truth_int, truth_str, truth_tup, truth_lst, truth_non, bin_add, bin_adds, bin_addt, bin_addl, bin_sub, bin_mul, bin_fdiv, bin_mod, bin_shl, bin_pow, bin_band, cmp_lt, cmp_le, cmp_gt, cmp_ge, cmp_eqi, cmp_nei, cmp_eqs, cmp_nes, cmp_is, cmp_isn, in_str, p_lens, p_lent, p_lenl, p_int, p_divmod, ix_t, ix_l, ix_s, ix_r, e_for, it_t, it_l, it_s, it_rng, it_rng2, it_rev, it_zip, e_int, sl_s1, sl_s2, sl_s3, sls_1, sls_2, isi_int_int, isi_int_str, isi_int_bool, isi_int_tuple, isi_int_list, isi_str_int, isi_str_str, isi_str_bool, isi_str_tuple, isi_str_list, isi_bl_int, isi_bl_str, isi_bl_bool, isi_bl_tuple, isi_bl_list, isi_non_int, isi_non_str, isi_non_bool, isi_non_tuple, isi_non_list, isi_tup_int, isi_tup_str, isi_tup_bool, isi_tup_tuple, isi_tup_list, isi_lst_int, isi_lst_str, isi_lst_bool, isi_lst_tuple, isi_lst_list, comp_seq, comp_seqs, comp_rng,  e_asgt, asgU_some, mk_lstT, mk_lstF0, mk_lstF1, mk_lstF2, szOk_0, last_get, last_set, rc_join, rc_find, rc_index, mt_find, setT_t, setTs_nil, setTs_n, still_d, still_rng, still_rev, still_zip, turnK_nx, turnK_ct, turnK_bk, turnK_rt, forL_nil, forL_cons, List.map_cons, List.map_nil, pyIx_nat, pyIx_lit, pyIxN_lit, seq_ref0, e_setix0, cpow_draw, cpow_30, List.length_cons, List.length_nil, Nat.reduceAdd, Nat.reduceLT, Int.reduceLT, Int.reduceLE, decide_true, decide_false, reduceIte, List.getElem?_cons_zero, List.getElem?_cons_succ, w1_place_in, s_place k0 hk p hv t, hq, hd, Bool.not_true, s_many k0 hk p hv]
  simp only [eS_nil, eS_cons, eA_nil, eA_cons, eE_c, eE_v, eE_bin, eE_neg, eE_not, eE_and, eE_or, eE_cmp, eE_chain, eE_ite, eE_tup, eE_lst, eE_ix, eE_sl, eE_sls, eE_call, eE_pr, eE_mt, eE_comp, eE_frz, eE_prt, eT_asg, eT_setix, eT_aug, eT_ex, eT_ret, eT_retn, eT_ite, eT_for, eT_whl, eT_brk, eT_cnt, eT_pass, eT_frz, eT_fgt, then1_ok, then2_ok, then3_ok, then4_ok, e_okc, ofO_some, getS_zero, getS_succ, fl1_ok, seqK_nx, seqK_rt, seqK_ct, seqK_bk, e_asgn, e_exE, e_exU, e_ret, e_setE, e_if, if2_true, if2_false, iteK_ok, ite2_true, ite2_false, andK_ok, and2_true, and2_false, orK_ok, or2_true, or2_false, notop, e_neg, chainop, chain1_ok, chain2_true, chain2_false, need_true, List.set_cons_zero, List.set_cons_succ, cx_call, truth_bl, truth_int, truth_str, truth_tup, truth_lst, truth_non, bin_add, bin_adds, bin_addt, bin_addl, bin_sub, bin_mul, bin_fdiv, bin_mod, bin_shl, bin_pow, bin_band, cmp_lt, cmp_le, cmp_gt, cmp_ge, cmp_eqi, cmp_nei, cmp_eqs, cmp_nes, cmp_is, cmp_isn, in_str, p_lens, p_lent, p_lenl, p_int, p_divmod, ix_t, ix_l, ix_s, ix_r, e_for, it_t, it_l, it_s, it_rng, it_rng2, it_rev, it_zip, e_int, sl_s1, sl_s2, sl_s3, sls_1, sls_2, isi_int_int, isi_int_str, isi_int_bool, isi_int_tuple, isi_int_list, isi_str_int, isi_str_str, isi_str_bool, isi_str_tuple, isi_str_list, isi_bl_int, isi_bl_str, isi_bl_bool, isi_bl_tuple, isi_bl_list, isi_non_int, isi_non_str, isi_non_bool, isi_non_tuple, isi_non_list, isi_tup_int, isi_tup_str, isi_tup_bool, isi_tup_tuple, isi_tup_list, isi_lst_int, isi_lst_str, isi_lst_bool, isi_lst_tuple, isi_lst_list, comp_seq, comp_seqs, comp_rng,  e_asgt, asgU_some, mk_lstT, mk_lstF0, mk_lstF1, mk_lstF2, szOk_0, last_get, last_set, rc_join, rc_find, rc_index, mt_find, setT_t, setTs_nil, setTs_n, still_d, still_rng, still_rev, still_zip, turnK_nx, turnK_ct, turnK_bk, turnK_rt, forL_nil, forL_cons, List.map_cons, List.map_nil, pyIx_nat, pyIx_lit, pyIxN_lit, seq_ref0, e_setix0, cpow_draw, cpow_30, List.length_cons, List.length_nil, Nat.reduceAdd, Nat.reduceLT, Int.reduceLT, Int.reduceLE, decide_true, decide_false, reduceIte, List.getElem?_cons_zero, List.getElem?_cons_succ, optD]
theorem placein_loop (k0 : Nat) (hk : 1 ≤ k0) (μ : Mem) (x : Option Vl) (t : List Char) (s : List Pat) : ∀ (a : Int) (y z : Option Vl), (∀ p ∈ s, VP p ∧ 1 ≤ p.length ∧ p.length ≤ 8) →
    match placeS s t with
    | some n => forL (evSs (cx P k0) w1_place_in) (.n 3) (fun _ => true) ((s.map dp).map Vl.d) [x, some (.d (.str t)), some (.d (.int a)), y, z] μ = .rt (.d (.int (a + n))) μ
    | none => ∃ a' y' z', forL (evSs (cx P k0) w1_place_in) (.n 3) (fun _ => true) ((s.map dp).map Vl.d) [x, some (.d (.str t)), some (.d (.int a)), y, z] μ = .nx [x, some (.d (.str t)), a', y', z'] μ := by
  induction s with
  | nil => intro a y z _; exact ⟨_, _, _, rfl⟩
  | cons p r ih =>
    intro a y z h
    have hp := h p (by simp)
    rw [placeS]
    cases hq : place p t with
    | some n =>
      dsimp only
      simp only [eS_nil, eS_cons, eA_nil, eA_cons, eE_c, eE_v, eE_bin, eE_neg, eE_not, eE_and, eE_or, eE_cmp, eE_chain, eE_ite, eE_tup, eE_lst, eE_ix, eE_sl, eE_sls, eE_call, eE_pr, eE_mt, eE_comp, eE_frz, eE_prt, eT_asg, eT_setix, eT_aug, eT_ex, eT_ret, eT_retn, eT_ite, eT_for, eT_whl, eT_brk, eT_cnt, eT_pass, eT_frz, eT_fgt, then1_ok, then2_ok, then3_ok, then4_ok, e_okc, ofO_some, getS_zero, getS_succ, fl1_ok, seqK_nx, seqK_rt, seqK_ct, seqK_bk, e_asgn, e_exE, e_exU, e_ret, e_setE, e_if, if2_true, if2_false, iteK_ok, ite2_true, ite2_false, andK_ok, and2_true, and2_false, orK_ok, or2_true, or2_false, notop, e_neg, chainop, chain1_ok, chain2_true, chain2_false, need_true, List.set_cons_zero, List.set_cons_succ, cx_call, truth_bl, truth_int, truth_str, truth_tup, truth_lst, truth_non, bin_add, bin_adds, bin_addt, bin_addl, bin_sub, bin_mul, bin_fdiv, bin_mod, bin_shl, bin_pow, bin_band, cmp_lt, cmp_le, cmp_gt, cmp_ge, cmp_eqi, cmp_nei, cmp_eqs, cmp_nes, cmp_is, cmp_isn, in_str, p_lens, p_lent, p_lenl, p_int, p_divmod, ix_t, ix_l, ix_s, ix_r, e_for, it_t, it_l, it_s, it_rng, it_rng2, it_rev, it_zip, e_int, sl_s1, sl_s2, sl_s3, sls_1, sls_2, isi_int_int, isi_int_str, isi_int_bool, isi_int_tuple, isi_int_list, isi_str_int, isi_str_str, isi_str_bool, isi_str_tuple, isi_str_list, isi_bl_int, isi_bl_str, isi_bl_bool, isi_bl_tuple, isi_bl_list, isi_non_int, isi_non_str, isi_non_bool, isi_non_tuple, isi_non_list, isi_tup_int, isi_tup_str, isi_tup_bool, isi_tup_tuple, isi_tup_list, isi_lst_int, isi_lst_str, isi_lst_bool, isi_lst_tuple, isi_lst_list, comp_seq, comp_seqs, comp_rng,  e_asgt, asgU_some, mk_lstT, mk_lstF0, mk_lstF1, mk_lstF2, szOk_0, last_get, last_set, rc_join, rc_find, rc_index, mt_find, setT_t, setTs_nil, setTs_n, still_d, still_rng, still_rev, still_zip, turnK_nx, turnK_ct, turnK_bk, turnK_rt, forL_nil, forL_cons, List.map_cons, List.map_nil, pyIx_nat, pyIx_lit, pyIxN_lit, seq_ref0, e_setix0, cpow_draw, cpow_30, List.length_cons, List.length_nil, Nat.reduceAdd, Nat.reduceLT, Int.reduceLT, Int.reduceLE, decide_true, decide_false, reduceIte, List.getElem?_cons_zero, List.getElem?_cons_succ]
      rw [placein_hit k0 hk p hp.1 t n hq]
      simp only [eS_nil, eS_cons, eA_nil, eA_cons, eE_c, eE_v, eE_bin, eE_neg, eE_not, eE_and, eE_or, eE_cmp, eE_chain, eE_ite, eE_tup, eE_lst, eE_ix, eE_sl, eE_sls, eE_call, eE_pr, eE_mt, eE_comp, eE_frz, eE_prt, eT_asg, eT_setix, eT_aug, eT_ex, eT_ret, eT_retn, eT_ite, eT_for, eT_whl, eT_brk, eT_cnt, eT_pass, eT_frz, eT_fgt, then1_ok, then2_ok, then3_ok, then4_ok, e_okc, ofO_some, getS_zero, getS_succ, fl1_ok, seqK_nx, seqK_rt, seqK_ct, seqK_bk, e_asgn, e_exE, e_exU, e_ret, e_setE, e_if, if2_true, if2_false, iteK_ok, ite2_true, ite2_false, andK_ok, and2_true, and2_false, orK_ok, or2_true, or2_false, notop, e_neg, chainop, chain1_ok, chain2_true, chain2_false, need_true, List.set_cons_zero, List.set_cons_succ, cx_call, truth_bl, truth_int, truth_str, truth_tup, truth_lst, truth_non, bin_add, bin_adds, bin_addt, bin_addl, bin_sub, bin_mul, bin_fdiv, bin_mod, bin_shl, bin_pow, bin_band, cmp_lt, cmp_le, cmp_gt, cmp_ge, cmp_eqi, cmp_nei, cmp_eqs, cmp_nes, cmp_is, cmp_isn, in_str, p_lens, p_lent, p_lenl, p_int, p_divmod, ix_t, ix_l, ix_s, ix_r, e_for, it_t, it_l, it_s, it_rng, it_rng2, it_rev, it_zip, e_int, sl_s1, sl_s2, sl_s3, sls_1, sls_2, isi_int_int, isi_int_str, isi_int_bool, isi_int_tuple, isi_int_list, isi_str_int, isi_str_str, isi_str_bool, isi_str_tuple, isi_str_list, isi_bl_int, isi_bl_str, isi_bl_bool, isi_bl_tuple, isi_bl_list, isi_non_int, isi_non_str, isi_non_bool, isi_non_tuple, isi_non_list, isi_tup_int, isi_tup_str, isi_tup_bool, isi_tup_tuple, isi_tup_list, isi_lst_int, isi_lst_str, isi_lst_bool, isi_lst_tuple, isi_lst_list, comp_seq, comp_seqs, comp_rng,  e_asgt, asgU_some, mk_lstT, mk_lstF0, mk_lstF1, mk_lstF2, szOk_0, last_get, last_set, rc_join, rc_find, rc_index, mt_find, setT_t, setTs_nil, setTs_n, still_d, still_rng, still_rev, still_zip, turnK_nx, turnK_ct, turnK_bk, turnK_rt, forL_nil, forL_cons, List.map_cons, List.map_nil, pyIx_nat, pyIx_lit, pyIxN_lit, seq_ref0, e_setix0, cpow_draw, cpow_30, List.length_cons, List.length_nil, Nat.reduceAdd, Nat.reduceLT, Int.reduceLT, Int.reduceLE, decide_true, decide_false, reduceIte, List.getElem?_cons_zero, List.getElem?_cons_succ]
    | none =>
      have ih := ih (a + many p) (some (.d (dp p))) (some (.d .non)) (fun q hq => h q (by simp [hq]))
      dsimp only
      simp only [eS_nil, eS_cons, eA_nil, eA_cons, eE_c, eE_v, eE_bin, eE_neg, eE_not, eE_and, eE_or, eE_cmp, eE_chain, eE_ite, eE_tup, eE_lst, eE_ix, eE_sl, eE_sls, eE_call, eE_pr, eE_mt, eE_comp, eE_frz, eE_prt, eT_asg, eT_setix, eT_aug, eT_ex, eT_ret, eT_retn, eT_ite, eT_for, eT_whl, eT_brk, eT_cnt, eT_pass, eT_frz, eT_fgt, then1_ok, then2_ok, then3_ok, then4_ok, e_okc, ofO_some, getS_zero, getS_succ, fl1_ok, seqK_nx, seqK_rt, seqK_ct, seqK_bk, e_asgn, e_exE, e_exU, e_ret, e_setE, e_if, if2_true, if2_false, iteK_ok, ite2_true, ite2_false, andK_ok, and2_true, and2_false, orK_ok, or2_true, or2_false, notop, e_neg, chainop, chain1_ok, chain2_true, chain2_false, need_true, List.set_cons_zero, List.set_cons_succ, cx_call, truth_bl, truth_int, truth_str, truth_tup, truth_lst, truth_non, bin_add, bin_adds, bin_addt, bin_addl, bin_sub, bin_mul, bin_fdiv, bin_mod, bin_shl, bin_pow, bin_band, cmp_lt, cmp_le, cmp_gt, cmp_ge, cmp_eqi, cmp_nei, cmp_eqs, cmp_nes, cmp_is, cmp_isn, in_str, p_lens, p_lent, p_lenl, p_int, p_divmod, ix_t, ix_l, ix_s, ix_r, e_for, it_t, it_l, it_s, it_rng, it_rng2, it_rev, it_zip, e_int, sl_s1, sl_s2, sl_s3, sls_1, sls_2, isi_int_int, isi_int_str, isi_int_bool, isi_int_tuple, isi_int_list, isi_str_int, isi_str_str, isi_str_bool, isi_str_tuple, isi_str_list, isi_bl_int, isi_bl_str, isi_bl_bool, isi_bl_tuple, isi_bl_list, isi_non_int, isi_non_str, isi_non_bool, isi_non_tuple, isi_non_list, isi_tup_int, isi_tup_str, isi_tup_bool, isi_tup_tuple, isi_tup_list, isi_lst_int, isi_lst_str, isi_lst_bool, isi_lst_tuple, isi_lst_list, comp_seq, comp_seqs, comp_rng,  e_asgt, asgU_some, mk_lstT, mk_lstF0, mk_lstF1, mk_lstF2, szOk_0, last_get, last_set, rc_join, rc_find, rc_index, mt_find, setT_t, setTs_nil, setTs_n, still_d, still_rng, still_rev, still_zip, turnK_nx, turnK_ct, turnK_bk, turnK_rt, forL_nil, forL_cons, List.map_cons, List.map_nil, pyIx_nat, pyIx_lit, pyIxN_lit, seq_ref0, e_setix0, cpow_draw, cpow_30, List.length_cons, List.length_nil, Nat.reduceAdd, Nat.reduceLT, Int.reduceLT, Int.reduceLE, decide_true, decide_false, reduceIte, List.getElem?_cons_zero, List.getElem?_cons_succ]
      rw [placein_miss k0 hk p hp.1 t hq]
      simp only [eS_nil, eS_cons, eA_nil, eA_cons, eE_c, eE_v, eE_bin, eE_neg, eE_not, eE_and, eE_or, eE_cmp, eE_chain, eE_ite, eE_tup, eE_lst, eE_ix, eE_sl, eE_sls, eE_call, eE_pr, eE_mt, eE_comp, eE_frz, eE_prt, eT_asg, eT_setix, eT_aug, eT_ex, eT_ret, eT_retn, eT_ite, eT_for, eT_whl, eT_brk, eT_cnt, eT_pass, eT_frz, eT_fgt, then1_ok, then2_ok, then3_ok, then4_ok, e_okc, ofO_some, getS_zero, getS_succ, fl1_ok, seqK_nx, seqK_rt, seqK_ct, seqK_bk, e_asgn, e_exE, e_exU, e_ret, e_setE, e_if, if2_true, if2_false, iteK_ok, ite2_true, ite2_false, andK_ok, and2_true, and2_false, orK_ok, or2_true, or2_false, notop, e_neg, chainop, chain1_ok, chain2_true, chain2_false, need_true, List.set_cons_zero, List.set_cons_succ, cx_call, truth_bl, truth_int, truth_str, truth_tup, truth_lst, truth_non, bin_add, bin_adds, bin_addt, bin_addl, bin_sub, bin_mul, bin_fdiv, bin_mod, bin_shl, bin_pow, bin_band, cmp_lt, cmp_le, cmp_gt, cmp_ge, cmp_eqi, cmp_nei, cmp_eqs, cmp_nes, cmp_is, cmp_isn, in_str, p_lens, p_lent, p_lenl, p_int, p_divmod, ix_t, ix_l, ix_s, ix_r, e_for, it_t, it_l, it_s, it_rng, it_rng2, it_rev, it_zip, e_int, sl_s1, sl_s2, sl_s3, sls_1, sls_2, isi_int_int, isi_int_str, isi_int_bool, isi_int_tuple, isi_int_list, isi_str_int, isi_str_str, isi_str_bool, isi_str_tuple, isi_str_list, isi_bl_int, isi_bl_str, isi_bl_bool, isi_bl_tuple, isi_bl_list, isi_non_int, isi_non_str, isi_non_bool, isi_non_tuple, isi_non_list, isi_tup_int, isi_tup_str, isi_tup_bool, isi_tup_tuple, isi_tup_list, isi_lst_int, isi_lst_str, isi_lst_bool, isi_lst_tuple, isi_lst_list, comp_seq, comp_seqs, comp_rng,  e_asgt, asgU_some, mk_lstT, mk_lstF0, mk_lstF1, mk_lstF2, szOk_0, last_get, last_set, rc_join, rc_find, rc_index, mt_find, setT_t, setTs_nil, setTs_n, still_d, still_rng, still_rev, still_zip, turnK_nx, turnK_ct, turnK_bk, turnK_rt, forL_nil, forL_cons, List.map_cons, List.map_nil, pyIx_nat, pyIx_lit, pyIxN_lit, seq_ref0, e_setix0, cpow_draw, cpow_30, List.length_cons, List.length_nil, Nat.reduceAdd, Nat.reduceLT, Int.reduceLT, Int.reduceLE, decide_true, decide_false, reduceIte, List.getElem?_cons_zero, List.getElem?_cons_succ]
      cases hr : placeS r t with
      | none => rw [hr] at ih; exact ih
      | some n =>
        rw [hr] at ih
        dsimp only [Option.map_some] at ih ⊢
        rw [ih, Int.natCast_add, Int.add_assoc]
theorem s_placein (k0 : Nat) (hk : 2 ≤ k0) (s : List Pat) (h : VS s) (t : List Char) (μ : Mem) : sem P k0 5 [.d (ds s), .d (.str t)] μ = .ok (.d (optD (placeS s t))) μ := by
  obtain ⟨k0, rfl⟩ : ∃ j, k0 = j + 1 := ⟨k0 - 1, by omega⟩
  rw [r_place_in]
  have l := placein_loop k0 (by omega) μ (some (.d (ds s))) t s 0 none none h.2
  rw [ds] at l ⊢
  cases hq : placeS s t with
  | some n =>
    rw [hq] at l
    dsimp only at l
    rw [Int.zero_add] at l
    simp only [eS_nil, eS_cons, eA_nil, eA_cons, eE_c, eE_v, eE_bin, eE_neg, eE_not, eE_and, eE_or, eE_cmp, eE_chain, eE_ite, eE_tup, eE_lst, eE_ix, eE_sl, eE_sls, eE_call, eE_pr, eE_mt, eE_comp, eE_frz, eE_prt, eT_asg, eT_setix, eT_aug, eT_ex, eT_ret, eT_retn, eT_ite, eT_for, eT_whl, eT_brk, eT_cnt, eT_pass, eT_frz, eT_fgt, then1_ok, then2_ok, then3_ok, then4_ok, e_okc, ofO_some, getS_zero, getS_succ, fl1_ok, seqK_nx, seqK_rt, seqK_ct, seqK_bk, e_asgn, e_exE, e_exU, e_ret, e_setE, e_if, if2_true, if2_false, iteK_ok, ite2_true, ite2_false, andK_ok, and2_true, and2_false, orK_ok, or2_true, or2_false, notop, e_neg, chainop, chain1_ok, chain2_true, chain2_false, need_true, List.set_cons_zero, List.set_cons_succ, cx_call, truth_bl, truth_int, truth_str, truth_tup, truth_lst, truth_non, bin_add, bin_adds, bin_addt, bin_addl, bin_sub, bin_mul, bin_fdiv, bin_mod, bin_shl, bin_pow, bin_band, cmp_lt, cmp_le, cmp_gt, cmp_ge, cmp_eqi, cmp_nei, cmp_eqs, cmp_nes, cmp_is, cmp_isn, in_str, p_lens, p_lent, p_lenl, p_int, p_divmod, ix_t, ix_l, ix_s, ix_r, e_for, it_t, it_l, it_s, it_rng, it_rng2, it_rev, it_zip, e_int, sl_s1, sl_s2, sl_s3, sls_1, sls_2, isi_int_int, isi_int_str, isi_int_bool, isi_int_tuple, isi_int_list, isi_str_int, isi_str_str, isi_str_bool, isi_str_tuple, isi_str_list, isi_bl_int, isi_bl_str, isi_bl_bool, isi_bl_tuple, isi_bl_list, isi_non_int, isi_non_str, isi_non_bool, isi_non_tuple, isi_non_list, isi_tup_int, isi_tup_str, isi_tup_bool, isi_tup_tuple, isi_tup_list, isi_lst_int, isi_lst_str, isi_lst_bool, isi_lst_tuple, isi_lst_list, comp_seq, comp_seqs, comp_rng,  e_asgt, asgU_some, mk_lstT, mk_lstF0, mk_lstF1, mk_lstF2, szOk_0, last_get, last_set, rc_join, rc_find, rc_index, mt_find, setT_t, setTs_nil, setTs_n, still_d, still_rng, still_rev, still_zip, turnK_nx, turnK_ct, turnK_bk, turnK_rt, forL_nil, forL_cons, List.map_cons, List.map_nil, pyIx_nat, pyIx_lit, pyIxN_lit, seq_ref0, e_setix0, cpow_draw, cpow_30, List.length_cons, List.length_nil, Nat.reduceAdd, Nat.reduceLT, Int.reduceLT, Int.reduceLE, decide_true, decide_false, reduceIte, List.getElem?_cons_zero, List.getElem?_cons_succ, b_place_in, l, end_rt, drop_self, optD]
  | none =>
    rw [hq] at l
    obtain ⟨_, _, _, l⟩ := l
    simp only [eS_nil, eS_cons, eA_nil, eA_cons, eE_c, eE_v, eE_bin, eE_neg, eE_not, eE_and, eE_or, eE_cmp, eE_chain, eE_ite, eE_tup, eE_lst, eE_ix, eE_sl, eE_sls, eE_call, eE_pr, eE_mt, eE_comp, eE_frz, eE_prt, eT_asg, eT_setix, eT_aug, eT_ex, eT_ret, eT_retn, eT_ite, eT_for, eT_whl, eT_brk, eT_cnt, eT_pass, eT_frz, eT_fgt, then1_ok, then2_ok, then3_ok, then4_ok, e_okc, ofO_some, getS_zero, getS_succ, fl1_ok, seqK_nx, seqK_rt, seqK_ct, seqK_bk, e_asgn, e_exE, e_exU, e_ret, e_setE, e_if, if2_true, if2_false, iteK_ok, ite2_true, ite2_false, andK_ok, and2_true, and2_false, orK_ok, or2_true, or2_false, notop, e_neg, chainop, chain1_ok, chain2_true, chain2_false, need_true, List.set_cons_zero, List.set_cons_succ, cx_call, truth_bl, truth_int, truth_str, truth_tup, truth_lst, truth_non, bin_add, bin_adds, bin_addt, bin_addl, bin_sub, bin_mul, bin_fdiv, bin_mod, bin_shl, bin_pow, bin_band, cmp_lt, cmp_le, cmp_gt, cmp_ge, cmp_eqi, cmp_nei, cmp_eqs, cmp_nes, cmp_is, cmp_isn, in_str, p_lens, p_lent, p_lenl, p_int, p_divmod, ix_t, ix_l, ix_s, ix_r, e_for, it_t, it_l, it_s, it_rng, it_rng2, it_rev, it_zip, e_int, sl_s1, sl_s2, sl_s3, sls_1, sls_2, isi_int_int, isi_int_str, isi_int_bool, isi_int_tuple, isi_int_list, isi_str_int, isi_str_str, isi_str_bool, isi_str_tuple, isi_str_list, isi_bl_int, isi_bl_str, isi_bl_bool, isi_bl_tuple, isi_bl_list, isi_non_int, isi_non_str, isi_non_bool, isi_non_tuple, isi_non_list, isi_tup_int, isi_tup_str, isi_tup_bool, isi_tup_tuple, isi_tup_list, isi_lst_int, isi_lst_str, isi_lst_bool, isi_lst_tuple, isi_lst_list, comp_seq, comp_seqs, comp_rng,  e_asgt, asgU_some, mk_lstT, mk_lstF0, mk_lstF1, mk_lstF2, szOk_0, last_get, last_set, rc_join, rc_find, rc_index, mt_find, setT_t, setTs_nil, setTs_n, still_d, still_rng, still_rev, still_zip, turnK_nx, turnK_ct, turnK_bk, turnK_rt, forL_nil, forL_cons, List.map_cons, List.map_nil, pyIx_nat, pyIx_lit, pyIxN_lit, seq_ref0, e_setix0, cpow_draw, cpow_30, List.length_cons, List.length_nil, Nat.reduceAdd, Nat.reduceLT, Int.reduceLT, Int.reduceLE, decide_true, decide_false, reduceIte, List.getElem?_cons_zero, List.getElem?_cons_succ, b_place_in, l, end_rt, drop_self, optD]
/-! the law's own -/
theorem s_exact_int (k : Nat) (hk : 1 ≤ k) (i : Int) (μ : Mem) : sem P k 10 [.d (.int i), .d (.int i)] μ = .ok (.d (.bl true)) μ := by
  obtain ⟨k, rfl⟩ : ∃ j, k = j + 1 := ⟨k - 1, by omega⟩
  rw [r_L_exact]
  have hd : decide (D.int i = D.non) = false := decide_eq_false (fun z => nomatch z)
  simp only [eS_nil, eS_cons, eA_nil, eA_cons, eE_c, eE_v, eE_bin, eE_neg, eE_not, eE_and, eE_or, eE_cmp, eE_chain, eE_ite, eE_tup, eE_lst, eE_ix, eE_sl, eE_sls, eE_call, eE_pr, eE_mt, eE_comp, eE_frz, eE_prt, eT_asg, eT_setix, eT_aug, eT_ex, eT_ret, eT_retn, eT_ite, eT_for, eT_whl, eT_brk, eT_cnt, eT_pass, eT_frz, eT_fgt, then1_ok, then2_ok, then3_ok, then4_ok, e_okc, ofO_some, getS_zero, getS_succ, fl1_ok, seqK_nx, seqK_rt, seqK_ct, seqK_bk, e_asgn, e_exE, e_exU, e_ret, e_setE, e_if, if2_true, if2_false, iteK_ok, ite2_true, ite2_false, andK_ok, and2_true, and2_false, orK_ok, or2_true, or2_false, notop, e_neg, chainop, chain1_ok, chain2_true, chain2_false, need_true, List.set_cons_zero, List.set_cons_succ, cx_call, truth_bl, truth_int, truth_str, truth_tup, truth_lst, truth_non, bin_add, bin_adds, bin_addt, bin_addl, bin_sub, bin_mul, bin_fdiv, bin_mod, bin_shl, bin_pow, bin_band, cmp_lt, cmp_le, cmp_gt, cmp_ge, cmp_eqi, cmp_nei, cmp_eqs, cmp_nes, cmp_is, cmp_isn, in_str, p_lens, p_lent, p_lenl, p_int, p_divmod, ix_t, ix_l, ix_s, ix_r, e_for, it_t, it_l, it_s, it_rng, it_rng2, it_rev, it_zip, e_int, sl_s1, sl_s2, sl_s3, sls_1, sls_2, isi_int_int, isi_int_str, isi_int_bool, isi_int_tuple, isi_int_list, isi_str_int, isi_str_str, isi_str_bool, isi_str_tuple, isi_str_list, isi_bl_int, isi_bl_str, isi_bl_bool, isi_bl_tuple, isi_bl_list, isi_non_int, isi_non_str, isi_non_bool, isi_non_tuple, isi_non_list, isi_tup_int, isi_tup_str, isi_tup_bool, isi_tup_tuple, isi_tup_list, isi_lst_int, isi_lst_str, isi_lst_bool, isi_lst_tuple, isi_lst_list, comp_seq, comp_seqs, comp_rng,  e_asgt, asgU_some, mk_lstT, mk_lstF0, mk_lstF1, mk_lstF2, szOk_0, last_get, last_set, rc_join, rc_find, rc_index, mt_find, setT_t, setTs_nil, setTs_n, still_d, still_rng, still_rev, still_zip, turnK_nx, turnK_ct, turnK_bk, turnK_rt, forL_nil, forL_cons, List.map_cons, List.map_nil, pyIx_nat, pyIx_lit, pyIxN_lit, seq_ref0, e_setix0, cpow_draw, cpow_30, List.length_cons, List.length_nil, Nat.reduceAdd, Nat.reduceLT, Int.reduceLT, Int.reduceLE, decide_true, decide_false, reduceIte, List.getElem?_cons_zero, List.getElem?_cons_succ, b_L_exact, hd, Bool.not_false, beq_self_eq_true, end_rt, drop_self]
theorem s_exact_str (k : Nat) (hk : 1 ≤ k) (t : List Char) (μ : Mem) : sem P k 10 [.d (.str t), .d (.str t)] μ = .ok (.d (.bl true)) μ := by
  obtain ⟨k, rfl⟩ : ∃ j, k = j + 1 := ⟨k - 1, by omega⟩
  rw [r_L_exact]
  have hd : decide (D.str t = D.non) = false := decide_eq_false (fun z => nomatch z)
  simp only [eS_nil, eS_cons, eA_nil, eA_cons, eE_c, eE_v, eE_bin, eE_neg, eE_not, eE_and, eE_or, eE_cmp, eE_chain, eE_ite, eE_tup, eE_lst, eE_ix, eE_sl, eE_sls, eE_call, eE_pr, eE_mt, eE_comp, eE_frz, eE_prt, eT_asg, eT_setix, eT_aug, eT_ex, eT_ret, eT_retn, eT_ite, eT_for, eT_whl, eT_brk, eT_cnt, eT_pass, eT_frz, eT_fgt, then1_ok, then2_ok, then3_ok, then4_ok, e_okc, ofO_some, getS_zero, getS_succ, fl1_ok, seqK_nx, seqK_rt, seqK_ct, seqK_bk, e_asgn, e_exE, e_exU, e_ret, e_setE, e_if, if2_true, if2_false, iteK_ok, ite2_true, ite2_false, andK_ok, and2_true, and2_false, orK_ok, or2_true, or2_false, notop, e_neg, chainop, chain1_ok, chain2_true, chain2_false, need_true, List.set_cons_zero, List.set_cons_succ, cx_call, truth_bl, truth_int, truth_str, truth_tup, truth_lst, truth_non, bin_add, bin_adds, bin_addt, bin_addl, bin_sub, bin_mul, bin_fdiv, bin_mod, bin_shl, bin_pow, bin_band, cmp_lt, cmp_le, cmp_gt, cmp_ge, cmp_eqi, cmp_nei, cmp_eqs, cmp_nes, cmp_is, cmp_isn, in_str, p_lens, p_lent, p_lenl, p_int, p_divmod, ix_t, ix_l, ix_s, ix_r, e_for, it_t, it_l, it_s, it_rng, it_rng2, it_rev, it_zip, e_int, sl_s1, sl_s2, sl_s3, sls_1, sls_2, isi_int_int, isi_int_str, isi_int_bool, isi_int_tuple, isi_int_list, isi_str_int, isi_str_str, isi_str_bool, isi_str_tuple, isi_str_list, isi_bl_int, isi_bl_str, isi_bl_bool, isi_bl_tuple, isi_bl_list, isi_non_int, isi_non_str, isi_non_bool, isi_non_tuple, isi_non_list, isi_tup_int, isi_tup_str, isi_tup_bool, isi_tup_tuple, isi_tup_list, isi_lst_int, isi_lst_str, isi_lst_bool, isi_lst_tuple, isi_lst_list, comp_seq, comp_seqs, comp_rng,  e_asgt, asgU_some, mk_lstT, mk_lstF0, mk_lstF1, mk_lstF2, szOk_0, last_get, last_set, rc_join, rc_find, rc_index, mt_find, setT_t, setTs_nil, setTs_n, still_d, still_rng, still_rev, still_zip, turnK_nx, turnK_ct, turnK_bk, turnK_rt, forL_nil, forL_cons, List.map_cons, List.map_nil, pyIx_nat, pyIx_lit, pyIxN_lit, seq_ref0, e_setix0, cpow_draw, cpow_30, List.length_cons, List.length_nil, Nat.reduceAdd, Nat.reduceLT, Int.reduceLT, Int.reduceLE, decide_true, decide_false, reduceIte, List.getElem?_cons_zero, List.getElem?_cons_succ, b_L_exact, hd, Bool.not_false, beq_self_eq_true, end_rt, drop_self]
theorem s_exact_non (k : Nat) (hk : 1 ≤ k) (μ : Mem) : sem P k 10 [.d .non, .d .non] μ = .ok (.d (.bl true)) μ := by
  obtain ⟨k, rfl⟩ : ∃ j, k = j + 1 := ⟨k - 1, by omega⟩
  rw [r_L_exact]
  have hd : decide (D.non = D.non) = true := decide_eq_true rfl
  simp only [eS_nil, eS_cons, eA_nil, eA_cons, eE_c, eE_v, eE_bin, eE_neg, eE_not, eE_and, eE_or, eE_cmp, eE_chain, eE_ite, eE_tup, eE_lst, eE_ix, eE_sl, eE_sls, eE_call, eE_pr, eE_mt, eE_comp, eE_frz, eE_prt, eT_asg, eT_setix, eT_aug, eT_ex, eT_ret, eT_retn, eT_ite, eT_for, eT_whl, eT_brk, eT_cnt, eT_pass, eT_frz, eT_fgt, then1_ok, then2_ok, then3_ok, then4_ok, e_okc, ofO_some, getS_zero, getS_succ, fl1_ok, seqK_nx, seqK_rt, seqK_ct, seqK_bk, e_asgn, e_exE, e_exU, e_ret, e_setE, e_if, if2_true, if2_false, iteK_ok, ite2_true, ite2_false, andK_ok, and2_true, and2_false, orK_ok, or2_true, or2_false, notop, e_neg, chainop, chain1_ok, chain2_true, chain2_false, need_true, List.set_cons_zero, List.set_cons_succ, cx_call, truth_bl, truth_int, truth_str, truth_tup, truth_lst, truth_non, bin_add, bin_adds, bin_addt, bin_addl, bin_sub, bin_mul, bin_fdiv, bin_mod, bin_shl, bin_pow, bin_band, cmp_lt, cmp_le, cmp_gt, cmp_ge, cmp_eqi, cmp_nei, cmp_eqs, cmp_nes, cmp_is, cmp_isn, in_str, p_lens, p_lent, p_lenl, p_int, p_divmod, ix_t, ix_l, ix_s, ix_r, e_for, it_t, it_l, it_s, it_rng, it_rng2, it_rev, it_zip, e_int, sl_s1, sl_s2, sl_s3, sls_1, sls_2, isi_int_int, isi_int_str, isi_int_bool, isi_int_tuple, isi_int_list, isi_str_int, isi_str_str, isi_str_bool, isi_str_tuple, isi_str_list, isi_bl_int, isi_bl_str, isi_bl_bool, isi_bl_tuple, isi_bl_list, isi_non_int, isi_non_str, isi_non_bool, isi_non_tuple, isi_non_list, isi_tup_int, isi_tup_str, isi_tup_bool, isi_tup_tuple, isi_tup_list, isi_lst_int, isi_lst_str, isi_lst_bool, isi_lst_tuple, isi_lst_list, comp_seq, comp_seqs, comp_rng,  e_asgt, asgU_some, mk_lstT, mk_lstF0, mk_lstF1, mk_lstF2, szOk_0, last_get, last_set, rc_join, rc_find, rc_index, mt_find, setT_t, setTs_nil, setTs_n, still_d, still_rng, still_rev, still_zip, turnK_nx, turnK_ct, turnK_bk, turnK_rt, forL_nil, forL_cons, List.map_cons, List.map_nil, pyIx_nat, pyIx_lit, pyIxN_lit, seq_ref0, e_setix0, cpow_draw, cpow_30, List.length_cons, List.length_nil, Nat.reduceAdd, Nat.reduceLT, Int.reduceLT, Int.reduceLE, decide_true, decide_false, reduceIte, List.getElem?_cons_zero, List.getElem?_cons_succ, b_L_exact, hd, end_rt, drop_self]
theorem s_exact_opt (k : Nat) (hk : 1 ≤ k) (x : Option Nat) (μ : Mem) : sem P k 10 [.d (optD x), .d (optD x)] μ = .ok (.d (.bl true)) μ := by
  cases x with
  | none => exact s_exact_non k hk μ
  | some n => exact s_exact_int k hk n μ
theorem many_pos : ∀ {p : Pat}, VP p → 0 < many p
  | [], _ => by decide
  | s :: r, h => Nat.mul_pos h.hd.1 (many_pos h.tl)
theorem many_le : ∀ {p : Pat}, VP p → many p ≤ 36 ^ p.length
  | [], _ => by simp [many]
  | s :: r, h => by
    rw [many, List.length_cons, Nat.pow_succ, Nat.mul_comm]
    exact Nat.mul_le_mul (many_le h.tl) h.hd.2
theorem many_small {p : Pat} (h : VP p) (h8 : p.length ≤ 8) : many p ≤ 2821109907456 := Nat.le_trans (many_le h) (Nat.le_trans (Nat.pow_le_pow_right (by decide) h8) (by decide))
theorem stem_mod : ∀ (p : Pat) (k : Nat), stem p (k % many p) = stem p k
  | [], k => rfl
  | s :: r, k => by
    rw [stem, stem, many]
    congr 1
    · rw [Nat.mod_mul_left_div_self, Nat.mod_mod]
    · rw [← stem_mod r, Nat.mod_mul_left_mod, stem_mod r]
theorem stemof_step0 (C : Ctx) (μ : Mem) (x y : Option Vl) (s : List Char) (acc : List Char) (k M B A K' : Int) (c : Char) (e1 : M / (s.length : Int) = B) (e2 : k / B = A) (hp : pyIx s A = some c) (e3 : k - A * B = K') (c1 : CDivB (s.length : Int) = true) (c2 : CDivB B = true) (c3 : CMulB A B = true) (ha : szOk (acc.length + 1) = true) :
    evSs C w1_L_stem_of [x, some (.d (.int k)), y, some (.d (.int M)), some (.d (.str acc)), some (.d (.str s))] μ = .nx [x, some (.d (.int K')), y, some (.d (.int B)), some (.d (.str (acc ++ [c]))), some (.d (.str s))] μ := by
  simp only [eS_nil, eS_cons, eA_nil, eA_cons, eE_c, eE_v, eE_bin, eE_neg, eE_not, eE_and, eE_or, eE_cmp, eE_chain, eE_ite, eE_tup, eE_lst, eE_ix, eE_sl, eE_sls, eE_call, eE_pr, eE_mt, eE_comp, eE_frz, eE_prt, eT_asg, eT_setix, eT_aug, eT_ex, eT_ret, eT_retn, eT_ite, eT_for, eT_whl, eT_brk, eT_cnt, eT_pass, eT_frz, eT_fgt, then1_ok, then2_ok, then3_ok, then4_ok, e_okc, ofO_some, getS_zero, getS_succ, fl1_ok, seqK_nx, seqK_rt, seqK_ct, seqK_bk, e_asgn, e_exE, e_exU, e_ret, e_setE, e_if, if2_true, if2_false, iteK_ok, ite2_true, ite2_false, andK_ok, and2_true, and2_false, orK_ok, or2_true, or2_false, notop, e_neg, chainop, chain1_ok, chain2_true, chain2_false, need_true, List.set_cons_zero, List.set_cons_succ, cx_call, truth_bl, truth_int, truth_str, truth_tup, truth_lst, truth_non, bin_add, bin_adds, bin_addt, bin_addl, bin_sub, bin_mul, bin_fdiv, bin_mod, bin_shl, bin_pow, bin_band, cmp_lt, cmp_le, cmp_gt, cmp_ge, cmp_eqi, cmp_nei, cmp_eqs, cmp_nes, cmp_is, cmp_isn, in_str, p_lens, p_lent, p_lenl, p_int, p_divmod, ix_t, ix_l, ix_s, ix_r, e_for, it_t, it_l, it_s, it_rng, it_rng2, it_rev, it_zip, e_int, sl_s1, sl_s2, sl_s3, sls_1, sls_2, isi_int_int, isi_int_str, isi_int_bool, isi_int_tuple, isi_int_list, isi_str_int, isi_str_str, isi_str_bool, isi_str_tuple, isi_str_list, isi_bl_int, isi_bl_str, isi_bl_bool, isi_bl_tuple, isi_bl_list, isi_non_int, isi_non_str, isi_non_bool, isi_non_tuple, isi_non_list, isi_tup_int, isi_tup_str, isi_tup_bool, isi_tup_tuple, isi_tup_list, isi_lst_int, isi_lst_str, isi_lst_bool, isi_lst_tuple, isi_lst_list, comp_seq, comp_seqs, comp_rng,  e_asgt, asgU_some, mk_lstT, mk_lstF0, mk_lstF1, mk_lstF2, szOk_0, last_get, last_set, rc_join, rc_find, rc_index, mt_find, setT_t, setTs_nil, setTs_n, still_d, still_rng, still_rev, still_zip, turnK_nx, turnK_ct, turnK_bk, turnK_rt, forL_nil, forL_cons, List.map_cons, List.map_nil, pyIx_nat, pyIx_lit, pyIxN_lit, seq_ref0, e_setix0, cpow_draw, cpow_30, List.length_cons, List.length_nil, Nat.reduceAdd, Nat.reduceLT, Int.reduceLT, Int.reduceLE, decide_true, decide_false, reduceIte, List.getElem?_cons_zero, List.getElem?_cons_succ, w1_L_stem_of, c1, e1, c2, e2, hp, ha, c3, e3]
theorem stemof_step (C : Ctx) (μ : Mem) (x y : Option Vl) (s : List Char) (r : Pat) (k : Nat) (acc : List Char) (h : VP (s :: r)) (h8 : (s :: r).length ≤ 8) (hk : k < many (s :: r)) (ha : acc.length < 100) :
    evSs C w1_L_stem_of [x, some (.d (.int k)), y, some (.d (.int (many (s :: r)))), some (.d (.str acc)), some (.d (.str s))] μ =
      .nx [x, some (.d (.int ((k % many r : Nat) : Int))), y, some (.d (.int (many r))), some (.d (.str (acc ++ [s.getD (k / many r % s.length) ' ']))), some (.d (.str s))] μ := by
  have h0 := h.hd
  have hm := many_pos h.tl
  have hs := many_small h.tl (by rw [List.length_cons] at h8; omega)
  have hlt : k / many r < s.length := Nat.div_lt_of_lt_mul (by rw [Nat.mul_comm]; exact hk)
  have hA : k / many r ≤ 36 := by omega
  refine stemof_step0 C μ x y s acc _ _ _ ((k / many r : Nat) : Int) _ _ ?_ (Int.natCast_ediv _ _).symm ?_ ?_ ?_ ?_ ?_ (szOk_of (by omega))
  · rw [← Int.natCast_ediv, many, Nat.mul_div_cancel_left _ h0.1]
  · rw [pyIx_nat, Nat.mod_eq_of_lt hlt, List.getElem?_eq_getElem hlt, List.getD_eq_getElem?_getD, List.getElem?_eq_getElem hlt]; rfl
  · have := Nat.div_add_mod k (many r)
    rw [← Int.natCast_mul]
    rw [Nat.mul_comm] at this
    omega
  · exact div_small (by omega) (by omega)
  · exact div_small (by omega) (by omega)
  · exact mul_r ⟨by omega, by omega⟩
theorem stemof_loop (C : Ctx) (μ : Mem) (x y : Option Vl) (p : Pat) : ∀ (k : Nat) (acc : List Char) (z : Option Vl), VP p → p.length ≤ 8 → k < many p → acc.length + p.length < 100 →
    ∃ k' z' l', forL (evSs C w1_L_stem_of) (.n 5) (fun _ => true) ((p.map D.str).map Vl.d) [x, some (.d (.int k)), y, some (.d (.int (many p))), some (.d (.str acc)), z] μ = .nx [x, k', y, l', some (.d (.str (acc ++ stem p k))), z'] μ := by
  induction p with
  | nil => intro k acc z _ _ _ _; exact ⟨_, z, _, by rw [stem, List.append_nil]; rfl⟩
  | cons s r ih =>
    intro k acc z h h8 hk hl
    rw [List.length_cons] at hl
    have h9 := h8
    rw [List.length_cons] at h9
    obtain ⟨k', z', l', e⟩ := ih (k % many r) (acc ++ [s.getD (k / many r % s.length) ' ']) (some (.d (.str s))) h.tl (by omega) (Nat.mod_lt _ (many_pos h.tl)) (by rw [List.length_append, List.length_singleton]; omega)
    refine ⟨k', z', l', ?_⟩
    simp only [eS_nil, eS_cons, eA_nil, eA_cons, eE_c, eE_v, eE_bin, eE_neg, eE_not, eE_and, eE_or, eE_cmp, eE_chain, eE_ite, eE_tup, eE_lst, eE_ix, eE_sl, eE_sls, eE_call, eE_pr, eE_mt, eE_comp, eE_frz, eE_prt, eT_asg, eT_setix, eT_aug, eT_ex, eT_ret, eT_retn, eT_ite, eT_for, eT_whl, eT_brk, eT_cnt, eT_pass, eT_frz, eT_fgt, then1_ok, then2_ok, then3_ok, then4_ok, e_okc, ofO_some, getS_zero, getS_succ, fl1_ok, seqK_nx, seqK_rt, seqK_ct, seqK_bk, e_asgn, e_exE, e_exU, e_ret, e_setE, e_if, if2_true, if2_false, iteK_ok, ite2_true, ite2_false, andK_ok, and2_true, and2_false, orK_ok, or2_true, or2_false, notop, e_neg, chainop, chain1_ok, chain2_true, chain2_false, need_true, List.set_cons_zero, List.set_cons_succ, cx_call, truth_bl, truth_int, truth_str, truth_tup, truth_lst, truth_non, bin_add, bin_adds, bin_addt, bin_addl, bin_sub, bin_mul, bin_fdiv, bin_mod, bin_shl, bin_pow, bin_band, cmp_lt, cmp_le, cmp_gt, cmp_ge, cmp_eqi, cmp_nei, cmp_eqs, cmp_nes, cmp_is, cmp_isn, in_str, p_lens, p_lent, p_lenl, p_int, p_divmod, ix_t, ix_l, ix_s, ix_r, e_for, it_t, it_l, it_s, it_rng, it_rng2, it_rev, it_zip, e_int, sl_s1, sl_s2, sl_s3, sls_1, sls_2, isi_int_int, isi_int_str, isi_int_bool, isi_int_tuple, isi_int_list, isi_str_int, isi_str_str, isi_str_bool, isi_str_tuple, isi_str_list, isi_bl_int, isi_bl_str, isi_bl_bool, isi_bl_tuple, isi_bl_list, isi_non_int, isi_non_str, isi_non_bool, isi_non_tuple, isi_non_list, isi_tup_int, isi_tup_str, isi_tup_bool, isi_tup_tuple, isi_tup_list, isi_lst_int, isi_lst_str, isi_lst_bool, isi_lst_tuple, isi_lst_list, comp_seq, comp_seqs, comp_rng,  e_asgt, asgU_some, mk_lstT, mk_lstF0, mk_lstF1, mk_lstF2, szOk_0, last_get, last_set, rc_join, rc_find, rc_index, mt_find, setT_t, setTs_nil, setTs_n, still_d, still_rng, still_rev, still_zip, turnK_nx, turnK_ct, turnK_bk, turnK_rt, forL_nil, forL_cons, List.map_cons, List.map_nil, pyIx_nat, pyIx_lit, pyIxN_lit, seq_ref0, e_setix0, cpow_draw, cpow_30, List.length_cons, List.length_nil, Nat.reduceAdd, Nat.reduceLT, Int.reduceLT, Int.reduceLE, decide_true, decide_false, reduceIte, List.getElem?_cons_zero, List.getElem?_cons_succ]
    rw [stemof_step C μ x y s r k acc h h8 hk (by omega)]
    simp only [eS_nil, eS_cons, eA_nil, eA_cons, eE_c, eE_v, eE_bin, eE_neg, eE_not, eE_and, eE_or, eE_cmp, eE_chain, eE_ite, eE_tup, eE_lst, eE_ix, eE_sl, eE_sls, eE_call, eE_pr, eE_mt, eE_comp, eE_frz, eE_prt, eT_asg, eT_setix, eT_aug, eT_ex, eT_ret, eT_retn, eT_ite, eT_for, eT_whl, eT_brk, eT_cnt, eT_pass, eT_frz, eT_fgt, then1_ok, then2_ok, then3_ok, then4_ok, e_okc, ofO_some, getS_zero, getS_succ, fl1_ok, seqK_nx, seqK_rt, seqK_ct, seqK_bk, e_asgn, e_exE, e_exU, e_ret, e_setE, e_if, if2_true, if2_false, iteK_ok, ite2_true, ite2_false, andK_ok, and2_true, and2_false, orK_ok, or2_true, or2_false, notop, e_neg, chainop, chain1_ok, chain2_true, chain2_false, need_true, List.set_cons_zero, List.set_cons_succ, cx_call, truth_bl, truth_int, truth_str, truth_tup, truth_lst, truth_non, bin_add, bin_adds, bin_addt, bin_addl, bin_sub, bin_mul, bin_fdiv, bin_mod, bin_shl, bin_pow, bin_band, cmp_lt, cmp_le, cmp_gt, cmp_ge, cmp_eqi, cmp_nei, cmp_eqs, cmp_nes, cmp_is, cmp_isn, in_str, p_lens, p_lent, p_lenl, p_int, p_divmod, ix_t, ix_l, ix_s, ix_r, e_for, it_t, it_l, it_s, it_rng, it_rng2, it_rev, it_zip, e_int, sl_s1, sl_s2, sl_s3, sls_1, sls_2, isi_int_int, isi_int_str, isi_int_bool, isi_int_tuple, isi_int_list, isi_str_int, isi_str_str, isi_str_bool, isi_str_tuple, isi_str_list, isi_bl_int, isi_bl_str, isi_bl_bool, isi_bl_tuple, isi_bl_list, isi_non_int, isi_non_str, isi_non_bool, isi_non_tuple, isi_non_list, isi_tup_int, isi_tup_str, isi_tup_bool, isi_tup_tuple, isi_tup_list, isi_lst_int, isi_lst_str, isi_lst_bool, isi_lst_tuple, isi_lst_list, comp_seq, comp_seqs, comp_rng,  e_asgt, asgU_some, mk_lstT, mk_lstF0, mk_lstF1, mk_lstF2, szOk_0, last_get, last_set, rc_join, rc_find, rc_index, mt_find, setT_t, setTs_nil, setTs_n, still_d, still_rng, still_rev, still_zip, turnK_nx, turnK_ct, turnK_bk, turnK_rt, forL_nil, forL_cons, List.map_cons, List.map_nil, pyIx_nat, pyIx_lit, pyIxN_lit, seq_ref0, e_setix0, cpow_draw, cpow_30, List.length_cons, List.length_nil, Nat.reduceAdd, Nat.reduceLT, Int.reduceLT, Int.reduceLE, decide_true, decide_false, reduceIte, List.getElem?_cons_zero, List.getElem?_cons_succ]
    rw [e, stem, stem_mod, List.append_assoc]
    rfl
theorem stemof_hit (k0 : Nat) (hk : 1 ≤ k0) (p : Pat) (hv : VP p) (h8 : p.length ≤ 8) (k : Nat) (hlt : k < many p) (x a b c : Option Vl) (μ : Mem) : evSs (cx P k0) w2_L_stem_of [x, some (.d (.int k)), some (.d (dp p)), a, b, c] μ = .rt (.d (.str (stem p k))) μ := by
  have hd : decide ((many p : Int) ≤ (k : Int)) = false := decide_eq_false (by omega)
  obtain ⟨k', z', l', e⟩ := stemof_loop (cx P k0) μ x (some (.d (dp p))) p k [] c hv h8 hlt (by rw [List.length_nil]; omega)
  rw [List.nil_append] at e
  have sm := s_many' k0 hk p hv
  rw [dp] at e sm ⊢
  simp only [eS_nil, eS_cons, eA_nil, eA_cons, eE_c, eE_v, eE_bin, eE_neg, eE_not, eE_and, eE_or, eE_cmp, eE_chain, eE_ite, eE_tup, eE_lst, eE_ix, eE_sl, eE_sls, eE_call, eE_pr, eE_mt, eE_comp, eE_frz, eE_prt, eT_asg, eT_setix, eT_aug, eT_ex, eT_ret, eT_retn, eT_ite, eT_for, eT_whl, eT_brk, eT_cnt, eT_pass, eT_frz, eT_fgt, then1_ok, then2_ok, then3_ok, then4_ok, e_okc, ofO_some, getS_zero, getS_succ, fl1_ok, seqK_nx, seqK_rt, seqK_ct, seqK_bk, e_asgn, e_exE, e_exU, e_ret, e_setE, e_if, if2_true, if2_false, iteK_ok, ite2_true, ite2_false, andK_ok, and2_true, and2_false, orK_ok, or2_true, or2_false, notop, e_neg, chainop, chain1_ok, chain2_true, chain2_false, need_true, List.set_cons_zero, List.set_cons_succ, cx_call, truth_bl, truth_int, truth_str, truth_tup, truth_lst, truth_non, bin_add, bin_adds, bin_addt, bin_addl, bin_sub, bin_mul, bin_fdiv, bin_mod, bin_shl, bin_pow, bin_band, cmp_lt, cmp_le, cmp_gt, cmp_ge, cmp_eqi, cmp_nei, cmp_eqs, cmp_nes, cmp_is, cmp_isn, in_str, p_lens, p_lent, p_lenl, p_int, p_divmod, ix_t, ix_l, ix_s, ix_r, e_for, it_t, it_l, it_s, it_rng, it_rng2, it_rev, it_zip, e_int, sl_s1, sl_s2, sl_s3, sls_1, sls_2, isi_int_int, isi_int_str, isi_int_bool, isi_int_tuple, isi_int_list, isi_str_int, isi_str_str, isi_str_bool, isi_str_tuple, isi_str_list, isi_bl_int, isi_bl_str, isi_bl_bool, isi_bl_tuple, isi_bl_list, isi_non_int, isi_non_str, isi_non_bool, isi_non_tuple, isi_non_list, isi_tup_int, isi_tup_str, isi_tup_bool, isi_tup_tuple, isi_tup_list, isi_lst_int, isi_lst_str, isi_lst_bool, isi_lst_tuple, isi_lst_list, comp_seq, comp_seqs, comp_rng,  e_asgt, asgU_some, mk_lstT, mk_lstF0, mk_lstF1, mk_lstF2, szOk_0, last_get, last_set, rc_join, rc_find, rc_index, mt_find, setT_t, setTs_nil, setTs_n, still_d, still_rng, still_rev, still_zip, turnK_nx, turnK_ct, turnK_bk, turnK_rt, forL_nil, forL_cons, List.map_cons, List.map_nil, pyIx_nat, pyIx_lit, pyIxN_lit, seq_ref0, e_setix0, cpow_draw, cpow_30, List.length_cons, List.length_nil, Nat.reduceAdd, Nat.reduceLT, Int.reduceLT, Int.reduceLE, decide_true, decide_false, reduceIte, List.getElem?_cons_zero, List.getElem?_cons_succ, w2_L_stem_of, sm, hd, e]
theorem stemof_miss (k0 : Nat) (hk : 1 ≤ k0) (p : Pat) (hv : VP p) (k : Nat) (hlt : ¬ k < many p) (x a b c : Option Vl) (μ : Mem) : evSs (cx P k0) w2_L_stem_of [x, some (.d (.int k)), some (.d (dp p)), a, b, c] μ = .ct [x, some (.d (.int ((k - many p : Nat) : Int))), some (.d (dp p)), some (.d (.int (many p))), b, c] μ := by
  have hd : decide ((many p : Int) ≤ (k : Int)) = true := decide_eq_true (by omega)
  have e : ((k - many p : Nat) : Int) = (k : Int) - (many p : Int) := by omega
  rw [e]
  have sm := s_many' k0 hk p hv
  simp only [eS_nil, eS_cons, eA_nil, eA_cons, eE_c, eE_v, eE_bin, eE_neg, eE_not, eE_and, eE_or, eE_cmp, eE_chain, eE_ite, eE_tup, eE_lst, eE_ix, eE_sl, eE_sls, eE_call, eE_pr, eE_mt, eE_comp, eE_frz, eE_prt, eT_asg, eT_setix, eT_aug, eT_ex, eT_ret, eT_retn, eT_ite, eT_for, eT_whl, eT_brk, eT_cnt, eT_pass, eT_frz, eT_fgt, then1_ok, then2_ok, then3_ok, then4_ok, e_okc, ofO_some, getS_zero, getS_succ, fl1_ok, seqK_nx, seqK_rt, seqK_ct, seqK_bk, e_asgn, e_exE, e_exU, e_ret, e_setE, e_if, if2_true, if2_false, iteK_ok, ite2_true, ite2_false, andK_ok, and2_true, and2_false, orK_ok, or2_true, or2_false, notop, e_neg, chainop, chain1_ok, chain2_true, chain2_false, need_true, List.set_cons_zero, List.set_cons_succ, cx_call, truth_bl, truth_int, truth_str, truth_tup, truth_lst, truth_non, bin_add, bin_adds, bin_addt, bin_addl, bin_sub, bin_mul, bin_fdiv, bin_mod, bin_shl, bin_pow, bin_band, cmp_lt, cmp_le, cmp_gt, cmp_ge, cmp_eqi, cmp_nei, cmp_eqs, cmp_nes, cmp_is, cmp_isn, in_str, p_lens, p_lent, p_lenl, p_int, p_divmod, ix_t, ix_l, ix_s, ix_r, e_for, it_t, it_l, it_s, it_rng, it_rng2, it_rev, it_zip, e_int, sl_s1, sl_s2, sl_s3, sls_1, sls_2, isi_int_int, isi_int_str, isi_int_bool, isi_int_tuple, isi_int_list, isi_str_int, isi_str_str, isi_str_bool, isi_str_tuple, isi_str_list, isi_bl_int, isi_bl_str, isi_bl_bool, isi_bl_tuple, isi_bl_list, isi_non_int, isi_non_str, isi_non_bool, isi_non_tuple, isi_non_list, isi_tup_int, isi_tup_str, isi_tup_bool, isi_tup_tuple, isi_tup_list, isi_lst_int, isi_lst_str, isi_lst_bool, isi_lst_tuple, isi_lst_list, comp_seq, comp_seqs, comp_rng,  e_asgt, asgU_some, mk_lstT, mk_lstF0, mk_lstF1, mk_lstF2, szOk_0, last_get, last_set, rc_join, rc_find, rc_index, mt_find, setT_t, setTs_nil, setTs_n, still_d, still_rng, still_rev, still_zip, turnK_nx, turnK_ct, turnK_bk, turnK_rt, forL_nil, forL_cons, List.map_cons, List.map_nil, pyIx_nat, pyIx_lit, pyIxN_lit, seq_ref0, e_setix0, cpow_draw, cpow_30, List.length_cons, List.length_nil, Nat.reduceAdd, Nat.reduceLT, Int.reduceLT, Int.reduceLE, decide_true, decide_false, reduceIte, List.getElem?_cons_zero, List.getElem?_cons_succ, w2_L_stem_of, sm, hd]
theorem stemof_all (k0 : Nat) (hk : 1 ≤ k0) (μ : Mem) (x : Option Vl) (s : List Pat) : ∀ (k : Nat) (y a b c : Option Vl), (∀ p ∈ s, VP p ∧ 1 ≤ p.length ∧ p.length ≤ 8) →
    match stemS s k with
    | some t => forL (evSs (cx P k0) w2_L_stem_of) (.n 2) (fun _ => true) ((s.map dp).map Vl.d) [x, some (.d (.int k)), y, a, b, c] μ = .rt (.d (.str t)) μ
    | none => ∃ k' y' a' b' c', forL (evSs (cx P k0) w2_L_stem_of) (.n 2) (fun _ => true) ((s.map dp).map Vl.d) [x, some (.d (.int k)), y, a, b, c] μ = .nx [x, k', y', a', b', c'] μ := by
  induction s with
  | nil => intro k y a b c _; exact ⟨_, _, _, _, _, rfl⟩
  | cons p r ih =>
    intro k y a b c h
    have hp := h p (by simp)
    rw [stemS]
    by_cases hlt : k < many p
    · rw [if_pos hlt]
      dsimp only
      simp only [eS_nil, eS_cons, eA_nil, eA_cons, eE_c, eE_v, eE_bin, eE_neg, eE_not, eE_and, eE_or, eE_cmp, eE_chain, eE_ite, eE_tup, eE_lst, eE_ix, eE_sl, eE_sls, eE_call, eE_pr, eE_mt, eE_comp, eE_frz, eE_prt, eT_asg, eT_setix, eT_aug, eT_ex, eT_ret, eT_retn, eT_ite, eT_for, eT_whl, eT_brk, eT_cnt, eT_pass, eT_frz, eT_fgt, then1_ok, then2_ok, then3_ok, then4_ok, e_okc, ofO_some, getS_zero, getS_succ, fl1_ok, seqK_nx, seqK_rt, seqK_ct, seqK_bk, e_asgn, e_exE, e_exU, e_ret, e_setE, e_if, if2_true, if2_false, iteK_ok, ite2_true, ite2_false, andK_ok, and2_true, and2_false, orK_ok, or2_true, or2_false, notop, e_neg, chainop, chain1_ok, chain2_true, chain2_false, need_true, List.set_cons_zero, List.set_cons_succ, cx_call, truth_bl, truth_int, truth_str, truth_tup, truth_lst, truth_non, bin_add, bin_adds, bin_addt, bin_addl, bin_sub, bin_mul, bin_fdiv, bin_mod, bin_shl, bin_pow, bin_band, cmp_lt, cmp_le, cmp_gt, cmp_ge, cmp_eqi, cmp_nei, cmp_eqs, cmp_nes, cmp_is, cmp_isn, in_str, p_lens, p_lent, p_lenl, p_int, p_divmod, ix_t, ix_l, ix_s, ix_r, e_for, it_t, it_l, it_s, it_rng, it_rng2, it_rev, it_zip, e_int, sl_s1, sl_s2, sl_s3, sls_1, sls_2, isi_int_int, isi_int_str, isi_int_bool, isi_int_tuple, isi_int_list, isi_str_int, isi_str_str, isi_str_bool, isi_str_tuple, isi_str_list, isi_bl_int, isi_bl_str, isi_bl_bool, isi_bl_tuple, isi_bl_list, isi_non_int, isi_non_str, isi_non_bool, isi_non_tuple, isi_non_list, isi_tup_int, isi_tup_str, isi_tup_bool, isi_tup_tuple, isi_tup_list, isi_lst_int, isi_lst_str, isi_lst_bool, isi_lst_tuple, isi_lst_list, comp_seq, comp_seqs, comp_rng,  e_asgt, asgU_some, mk_lstT, mk_lstF0, mk_lstF1, mk_lstF2, szOk_0, last_get, last_set, rc_join, rc_find, rc_index, mt_find, setT_t, setTs_nil, setTs_n, still_d, still_rng, still_rev, still_zip, turnK_nx, turnK_ct, turnK_bk, turnK_rt, forL_nil, forL_cons, List.map_cons, List.map_nil, pyIx_nat, pyIx_lit, pyIxN_lit, seq_ref0, e_setix0, cpow_draw, cpow_30, List.length_cons, List.length_nil, Nat.reduceAdd, Nat.reduceLT, Int.reduceLT, Int.reduceLE, decide_true, decide_false, reduceIte, List.getElem?_cons_zero, List.getElem?_cons_succ]
      rw [stemof_hit k0 hk p hp.1 hp.2.2 k hlt]
      simp only [eS_nil, eS_cons, eA_nil, eA_cons, eE_c, eE_v, eE_bin, eE_neg, eE_not, eE_and, eE_or, eE_cmp, eE_chain, eE_ite, eE_tup, eE_lst, eE_ix, eE_sl, eE_sls, eE_call, eE_pr, eE_mt, eE_comp, eE_frz, eE_prt, eT_asg, eT_setix, eT_aug, eT_ex, eT_ret, eT_retn, eT_ite, eT_for, eT_whl, eT_brk, eT_cnt, eT_pass, eT_frz, eT_fgt, then1_ok, then2_ok, then3_ok, then4_ok, e_okc, ofO_some, getS_zero, getS_succ, fl1_ok, seqK_nx, seqK_rt, seqK_ct, seqK_bk, e_asgn, e_exE, e_exU, e_ret, e_setE, e_if, if2_true, if2_false, iteK_ok, ite2_true, ite2_false, andK_ok, and2_true, and2_false, orK_ok, or2_true, or2_false, notop, e_neg, chainop, chain1_ok, chain2_true, chain2_false, need_true, List.set_cons_zero, List.set_cons_succ, cx_call, truth_bl, truth_int, truth_str, truth_tup, truth_lst, truth_non, bin_add, bin_adds, bin_addt, bin_addl, bin_sub, bin_mul, bin_fdiv, bin_mod, bin_shl, bin_pow, bin_band, cmp_lt, cmp_le, cmp_gt, cmp_ge, cmp_eqi, cmp_nei, cmp_eqs, cmp_nes, cmp_is, cmp_isn, in_str, p_lens, p_lent, p_lenl, p_int, p_divmod, ix_t, ix_l, ix_s, ix_r, e_for, it_t, it_l, it_s, it_rng, it_rng2, it_rev, it_zip, e_int, sl_s1, sl_s2, sl_s3, sls_1, sls_2, isi_int_int, isi_int_str, isi_int_bool, isi_int_tuple, isi_int_list, isi_str_int, isi_str_str, isi_str_bool, isi_str_tuple, isi_str_list, isi_bl_int, isi_bl_str, isi_bl_bool, isi_bl_tuple, isi_bl_list, isi_non_int, isi_non_str, isi_non_bool, isi_non_tuple, isi_non_list, isi_tup_int, isi_tup_str, isi_tup_bool, isi_tup_tuple, isi_tup_list, isi_lst_int, isi_lst_str, isi_lst_bool, isi_lst_tuple, isi_lst_list, comp_seq, comp_seqs, comp_rng,  e_asgt, asgU_some, mk_lstT, mk_lstF0, mk_lstF1, mk_lstF2, szOk_0, last_get, last_set, rc_join, rc_find, rc_index, mt_find, setT_t, setTs_nil, setTs_n, still_d, still_rng, still_rev, still_zip, turnK_nx, turnK_ct, turnK_bk, turnK_rt, forL_nil, forL_cons, List.map_cons, List.map_nil, pyIx_nat, pyIx_lit, pyIxN_lit, seq_ref0, e_setix0, cpow_draw, cpow_30, List.length_cons, List.length_nil, Nat.reduceAdd, Nat.reduceLT, Int.reduceLT, Int.reduceLE, decide_true, decide_false, reduceIte, List.getElem?_cons_zero, List.getElem?_cons_succ]
    · rw [if_neg hlt]
      have ih := ih (k - many p) (some (.d (dp p))) (some (.d (.int (many p)))) b c (fun q hq => h q (by simp [hq]))
      simp only [eS_nil, eS_cons, eA_nil, eA_cons, eE_c, eE_v, eE_bin, eE_neg, eE_not, eE_and, eE_or, eE_cmp, eE_chain, eE_ite, eE_tup, eE_lst, eE_ix, eE_sl, eE_sls, eE_call, eE_pr, eE_mt, eE_comp, eE_frz, eE_prt, eT_asg, eT_setix, eT_aug, eT_ex, eT_ret, eT_retn, eT_ite, eT_for, eT_whl, eT_brk, eT_cnt, eT_pass, eT_frz, eT_fgt, then1_ok, then2_ok, then3_ok, then4_ok, e_okc, ofO_some, getS_zero, getS_succ, fl1_ok, seqK_nx, seqK_rt, seqK_ct, seqK_bk, e_asgn, e_exE, e_exU, e_ret, e_setE, e_if, if2_true, if2_false, iteK_ok, ite2_true, ite2_false, andK_ok, and2_true, and2_false, orK_ok, or2_true, or2_false, notop, e_neg, chainop, chain1_ok, chain2_true, chain2_false, need_true, List.set_cons_zero, List.set_cons_succ, cx_call, truth_bl, truth_int, truth_str, truth_tup, truth_lst, truth_non, bin_add, bin_adds, bin_addt, bin_addl, bin_sub, bin_mul, bin_fdiv, bin_mod, bin_shl, bin_pow, bin_band, cmp_lt, cmp_le, cmp_gt, cmp_ge, cmp_eqi, cmp_nei, cmp_eqs, cmp_nes, cmp_is, cmp_isn, in_str, p_lens, p_lent, p_lenl, p_int, p_divmod, ix_t, ix_l, ix_s, ix_r, e_for, it_t, it_l, it_s, it_rng, it_rng2, it_rev, it_zip, e_int, sl_s1, sl_s2, sl_s3, sls_1, sls_2, isi_int_int, isi_int_str, isi_int_bool, isi_int_tuple, isi_int_list, isi_str_int, isi_str_str, isi_str_bool, isi_str_tuple, isi_str_list, isi_bl_int, isi_bl_str, isi_bl_bool, isi_bl_tuple, isi_bl_list, isi_non_int, isi_non_str, isi_non_bool, isi_non_tuple, isi_non_list, isi_tup_int, isi_tup_str, isi_tup_bool, isi_tup_tuple, isi_tup_list, isi_lst_int, isi_lst_str, isi_lst_bool, isi_lst_tuple, isi_lst_list, comp_seq, comp_seqs, comp_rng,  e_asgt, asgU_some, mk_lstT, mk_lstF0, mk_lstF1, mk_lstF2, szOk_0, last_get, last_set, rc_join, rc_find, rc_index, mt_find, setT_t, setTs_nil, setTs_n, still_d, still_rng, still_rev, still_zip, turnK_nx, turnK_ct, turnK_bk, turnK_rt, forL_nil, forL_cons, List.map_cons, List.map_nil, pyIx_nat, pyIx_lit, pyIxN_lit, seq_ref0, e_setix0, cpow_draw, cpow_30, List.length_cons, List.length_nil, Nat.reduceAdd, Nat.reduceLT, Int.reduceLT, Int.reduceLE, decide_true, decide_false, reduceIte, List.getElem?_cons_zero, List.getElem?_cons_succ]
      rw [stemof_miss k0 hk p hp.1 k hlt]
      simp only [eS_nil, eS_cons, eA_nil, eA_cons, eE_c, eE_v, eE_bin, eE_neg, eE_not, eE_and, eE_or, eE_cmp, eE_chain, eE_ite, eE_tup, eE_lst, eE_ix, eE_sl, eE_sls, eE_call, eE_pr, eE_mt, eE_comp, eE_frz, eE_prt, eT_asg, eT_setix, eT_aug, eT_ex, eT_ret, eT_retn, eT_ite, eT_for, eT_whl, eT_brk, eT_cnt, eT_pass, eT_frz, eT_fgt, then1_ok, then2_ok, then3_ok, then4_ok, e_okc, ofO_some, getS_zero, getS_succ, fl1_ok, seqK_nx, seqK_rt, seqK_ct, seqK_bk, e_asgn, e_exE, e_exU, e_ret, e_setE, e_if, if2_true, if2_false, iteK_ok, ite2_true, ite2_false, andK_ok, and2_true, and2_false, orK_ok, or2_true, or2_false, notop, e_neg, chainop, chain1_ok, chain2_true, chain2_false, need_true, List.set_cons_zero, List.set_cons_succ, cx_call, truth_bl, truth_int, truth_str, truth_tup, truth_lst, truth_non, bin_add, bin_adds, bin_addt, bin_addl, bin_sub, bin_mul, bin_fdiv, bin_mod, bin_shl, bin_pow, bin_band, cmp_lt, cmp_le, cmp_gt, cmp_ge, cmp_eqi, cmp_nei, cmp_eqs, cmp_nes, cmp_is, cmp_isn, in_str, p_lens, p_lent, p_lenl, p_int, p_divmod, ix_t, ix_l, ix_s, ix_r, e_for, it_t, it_l, it_s, it_rng, it_rng2, it_rev, it_zip, e_int, sl_s1, sl_s2, sl_s3, sls_1, sls_2, isi_int_int, isi_int_str, isi_int_bool, isi_int_tuple, isi_int_list, isi_str_int, isi_str_str, isi_str_bool, isi_str_tuple, isi_str_list, isi_bl_int, isi_bl_str, isi_bl_bool, isi_bl_tuple, isi_bl_list, isi_non_int, isi_non_str, isi_non_bool, isi_non_tuple, isi_non_list, isi_tup_int, isi_tup_str, isi_tup_bool, isi_tup_tuple, isi_tup_list, isi_lst_int, isi_lst_str, isi_lst_bool, isi_lst_tuple, isi_lst_list, comp_seq, comp_seqs, comp_rng,  e_asgt, asgU_some, mk_lstT, mk_lstF0, mk_lstF1, mk_lstF2, szOk_0, last_get, last_set, rc_join, rc_find, rc_index, mt_find, setT_t, setTs_nil, setTs_n, still_d, still_rng, still_rev, still_zip, turnK_nx, turnK_ct, turnK_bk, turnK_rt, forL_nil, forL_cons, List.map_cons, List.map_nil, pyIx_nat, pyIx_lit, pyIxN_lit, seq_ref0, e_setix0, cpow_draw, cpow_30, List.length_cons, List.length_nil, Nat.reduceAdd, Nat.reduceLT, Int.reduceLT, Int.reduceLE, decide_true, decide_false, reduceIte, List.getElem?_cons_zero, List.getElem?_cons_succ]
      exact ih
theorem s_stemof (k0 : Nat) (hk : 2 ≤ k0) (s : List Pat) (h : VS s) (k : Nat) (μ : Mem) : sem P k0 15 [.d (ds s), .d (.int k)] μ = .ok (.d (optS (stemS s k))) μ := by
  obtain ⟨k0, rfl⟩ : ∃ j, k0 = j + 1 := ⟨k0 - 1, by omega⟩
  rw [r_L_stem_of]
  have l := stemof_all k0 (by omega) μ (some (.d (ds s))) s k none none none none h.2
  rw [ds] at l ⊢
  cases hq : stemS s k with
  | some t =>
    rw [hq] at l
    simp only [eS_nil, eS_cons, eA_nil, eA_cons, eE_c, eE_v, eE_bin, eE_neg, eE_not, eE_and, eE_or, eE_cmp, eE_chain, eE_ite, eE_tup, eE_lst, eE_ix, eE_sl, eE_sls, eE_call, eE_pr, eE_mt, eE_comp, eE_frz, eE_prt, eT_asg, eT_setix, eT_aug, eT_ex, eT_ret, eT_retn, eT_ite, eT_for, eT_whl, eT_brk, eT_cnt, eT_pass, eT_frz, eT_fgt, then1_ok, then2_ok, then3_ok, then4_ok, e_okc, ofO_some, getS_zero, getS_succ, fl1_ok, seqK_nx, seqK_rt, seqK_ct, seqK_bk, e_asgn, e_exE, e_exU, e_ret, e_setE, e_if, if2_true, if2_false, iteK_ok, ite2_true, ite2_false, andK_ok, and2_true, and2_false, orK_ok, or2_true, or2_false, notop, e_neg, chainop, chain1_ok, chain2_true, chain2_false, need_true, List.set_cons_zero, List.set_cons_succ, cx_call, truth_bl, truth_int, truth_str, truth_tup, truth_lst, truth_non, bin_add, bin_adds, bin_addt, bin_addl, bin_sub, bin_mul, bin_fdiv, bin_mod, bin_shl, bin_pow, bin_band, cmp_lt, cmp_le, cmp_gt, cmp_ge, cmp_eqi, cmp_nei, cmp_eqs, cmp_nes, cmp_is, cmp_isn, in_str, p_lens, p_lent, p_lenl, p_int, p_divmod, ix_t, ix_l, ix_s, ix_r, e_for, it_t, it_l, it_s, it_rng, it_rng2, it_rev, it_zip, e_int, sl_s1, sl_s2, sl_s3, sls_1, sls_2, isi_int_int, isi_int_str, isi_int_bool, isi_int_tuple, isi_int_list, isi_str_int, isi_str_str, isi_str_bool, isi_str_tuple, isi_str_list, isi_bl_int, isi_bl_str, isi_bl_bool, isi_bl_tuple, isi_bl_list, isi_non_int, isi_non_str, isi_non_bool, isi_non_tuple, isi_non_list, isi_tup_int, isi_tup_str, isi_tup_bool, isi_tup_tuple, isi_tup_list, isi_lst_int, isi_lst_str, isi_lst_bool, isi_lst_tuple, isi_lst_list, comp_seq, comp_seqs, comp_rng,  e_asgt, asgU_some, mk_lstT, mk_lstF0, mk_lstF1, mk_lstF2, szOk_0, last_get, last_set, rc_join, rc_find, rc_index, mt_find, setT_t, setTs_nil, setTs_n, still_d, still_rng, still_rev, still_zip, turnK_nx, turnK_ct, turnK_bk, turnK_rt, forL_nil, forL_cons, List.map_cons, List.map_nil, pyIx_nat, pyIx_lit, pyIxN_lit, seq_ref0, e_setix0, cpow_draw, cpow_30, List.length_cons, List.length_nil, Nat.reduceAdd, Nat.reduceLT, Int.reduceLT, Int.reduceLE, decide_true, decide_false, reduceIte, List.getElem?_cons_zero, List.getElem?_cons_succ, b_L_stem_of, l, end_rt, drop_self, optS]
  | none =>
    rw [hq] at l
    obtain ⟨_, _, _, _, _, l⟩ := l
    simp only [eS_nil, eS_cons, eA_nil, eA_cons, eE_c, eE_v, eE_bin, eE_neg, eE_not, eE_and, eE_or, eE_cmp, eE_chain, eE_ite, eE_tup, eE_lst, eE_ix, eE_sl, eE_sls, eE_call, eE_pr, eE_mt, eE_comp, eE_frz, eE_prt, eT_asg, eT_setix, eT_aug, eT_ex, eT_ret, eT_retn, eT_ite, eT_for, eT_whl, eT_brk, eT_cnt, eT_pass, eT_frz, eT_fgt, then1_ok, then2_ok, then3_ok, then4_ok, e_okc, ofO_some, getS_zero, getS_succ, fl1_ok, seqK_nx, seqK_rt, seqK_ct, seqK_bk, e_asgn, e_exE, e_exU, e_ret, e_setE, e_if, if2_true, if2_false, iteK_ok, ite2_true, ite2_false, andK_ok, and2_true, and2_false, orK_ok, or2_true, or2_false, notop, e_neg, chainop, chain1_ok, chain2_true, chain2_false, need_true, List.set_cons_zero, List.set_cons_succ, cx_call, truth_bl, truth_int, truth_str, truth_tup, truth_lst, truth_non, bin_add, bin_adds, bin_addt, bin_addl, bin_sub, bin_mul, bin_fdiv, bin_mod, bin_shl, bin_pow, bin_band, cmp_lt, cmp_le, cmp_gt, cmp_ge, cmp_eqi, cmp_nei, cmp_eqs, cmp_nes, cmp_is, cmp_isn, in_str, p_lens, p_lent, p_lenl, p_int, p_divmod, ix_t, ix_l, ix_s, ix_r, e_for, it_t, it_l, it_s, it_rng, it_rng2, it_rev, it_zip, e_int, sl_s1, sl_s2, sl_s3, sls_1, sls_2, isi_int_int, isi_int_str, isi_int_bool, isi_int_tuple, isi_int_list, isi_str_int, isi_str_str, isi_str_bool, isi_str_tuple, isi_str_list, isi_bl_int, isi_bl_str, isi_bl_bool, isi_bl_tuple, isi_bl_list, isi_non_int, isi_non_str, isi_non_bool, isi_non_tuple, isi_non_list, isi_tup_int, isi_tup_str, isi_tup_bool, isi_tup_tuple, isi_tup_list, isi_lst_int, isi_lst_str, isi_lst_bool, isi_lst_tuple, isi_lst_list, comp_seq, comp_seqs, comp_rng,  e_asgt, asgU_some, mk_lstT, mk_lstF0, mk_lstF1, mk_lstF2, szOk_0, last_get, last_set, rc_join, rc_find, rc_index, mt_find, setT_t, setTs_nil, setTs_n, still_d, still_rng, still_rev, still_zip, turnK_nx, turnK_ct, turnK_bk, turnK_rt, forL_nil, forL_cons, List.map_cons, List.map_nil, pyIx_nat, pyIx_lit, pyIxN_lit, seq_ref0, e_setix0, cpow_draw, cpow_30, List.length_cons, List.length_nil, Nat.reduceAdd, Nat.reduceLT, Int.reduceLT, Int.reduceLE, decide_true, decide_false, reduceIte, List.getElem?_cons_zero, List.getElem?_cons_succ, b_L_stem_of, l, end_rt, drop_self, optS]
/-! place_of -/
theorem isSub_one (c : Char) (s : List Char) : isSub [c] s = (findFrom [c] s 0).isSome := isSub_find [c] s 0
theorem placeof_hit (C : Ctx) (μ : Mem) (x a : Option Vl) (t : List Char) (P0 : Pat) (s : List Char) (c : Char) (n : Nat) (k : Int) (i : Nat) (h1 : t[n]? = some c) (h2 : P0[n]? = some s) (hc : CMulB k s.length = true) (hi : findFrom [c] s 0 = some i) :
    evSs C w1_L_place_of [x, some (.d (.str t)), a, some (.d (dp P0)), some (.d (.int k)), some (.d (.int n))] μ = .nx [x, some (.d (.str t)), a, some (.d (dp P0)), some (.d (.int (k * s.length + i))), some (.d (.int n))] μ := by
  have hn : decide (D.int k = D.non) = false := decide_eq_false (fun z => nomatch z)
  have hg : ((P0.map D.str).map Vl.d)[n]? = some (.d (.str s)) := by simp [h2]
  have hs : isSub [c] s = true := by rw [isSub_one, hi]; rfl
  rw [dp]
  simp only [eS_nil, eS_cons, eA_nil, eA_cons, eE_c, eE_v, eE_bin, eE_neg, eE_not, eE_and, eE_or, eE_cmp, eE_chain, eE_ite, eE_tup, eE_lst, eE_ix, eE_sl, eE_sls, eE_call, eE_pr, eE_mt, eE_comp, eE_frz, eE_prt, eT_asg, eT_setix, eT_aug, eT_ex, eT_ret, eT_retn, eT_ite, eT_for, eT_whl, eT_brk, eT_cnt, eT_pass, eT_frz, eT_fgt, then1_ok, then2_ok, then3_ok, then4_ok, e_okc, ofO_some, getS_zero, getS_succ, fl1_ok, seqK_nx, seqK_rt, seqK_ct, seqK_bk, e_asgn, e_exE, e_exU, e_ret, e_setE, e_if, if2_true, if2_false, iteK_ok, ite2_true, ite2_false, andK_ok, and2_true, and2_false, orK_ok, or2_true, or2_false, notop, e_neg, chainop, chain1_ok, chain2_true, chain2_false, need_true, List.set_cons_zero, List.set_cons_succ, cx_call, truth_bl, truth_int, truth_str, truth_tup, truth_lst, truth_non, bin_add, bin_adds, bin_addt, bin_addl, bin_sub, bin_mul, bin_fdiv, bin_mod, bin_shl, bin_pow, bin_band, cmp_lt, cmp_le, cmp_gt, cmp_ge, cmp_eqi, cmp_nei, cmp_eqs, cmp_nes, cmp_is, cmp_isn, in_str, p_lens, p_lent, p_lenl, p_int, p_divmod, ix_t, ix_l, ix_s, ix_r, e_for, it_t, it_l, it_s, it_rng, it_rng2, it_rev, it_zip, e_int, sl_s1, sl_s2, sl_s3, sls_1, sls_2, isi_int_int, isi_int_str, isi_int_bool, isi_int_tuple, isi_int_list, isi_str_int, isi_str_str, isi_str_bool, isi_str_tuple, isi_str_list, isi_bl_int, isi_bl_str, isi_bl_bool, isi_bl_tuple, isi_bl_list, isi_non_int, isi_non_str, isi_non_bool, isi_non_tuple, isi_non_list, isi_tup_int, isi_tup_str, isi_tup_bool, isi_tup_tuple, isi_tup_list, isi_lst_int, isi_lst_str, isi_lst_bool, isi_lst_tuple, isi_lst_list, comp_seq, comp_seqs, comp_rng,  e_asgt, asgU_some, mk_lstT, mk_lstF0, mk_lstF1, mk_lstF2, szOk_0, last_get, last_set, rc_join, rc_find, rc_index, mt_find, setT_t, setTs_nil, setTs_n, still_d, still_rng, still_rev, still_zip, turnK_nx, turnK_ct, turnK_bk, turnK_rt, forL_nil, forL_cons, List.map_cons, List.map_nil, pyIx_nat, pyIx_lit, pyIxN_lit, seq_ref0, e_setix0, cpow_draw, cpow_30, List.length_cons, List.length_nil, Nat.reduceAdd, Nat.reduceLT, Int.reduceLT, Int.reduceLE, decide_true, decide_false, reduceIte, List.getElem?_cons_zero, List.getElem?_cons_succ, w1_L_place_of, hn, Bool.not_false, h1, hg, hs, hc, mt_index _ _ _ hi]
theorem placeof_miss (C : Ctx) (μ : Mem) (x a : Option Vl) (t : List Char) (P0 : Pat) (s : List Char) (c : Char) (n : Nat) (k : Int) (h1 : t[n]? = some c) (h2 : P0[n]? = some s) (hi : findFrom [c] s 0 = none) :
    evSs C w1_L_place_of [x, some (.d (.str t)), a, some (.d (dp P0)), some (.d (.int k)), some (.d (.int n))] μ = .nx [x, some (.d (.str t)), a, some (.d (dp P0)), some (.d .non), some (.d (.int n))] μ := by
  have hn : decide (D.int k = D.non) = false := decide_eq_false (fun z => nomatch z)
  have hg : ((P0.map D.str).map Vl.d)[n]? = some (.d (.str s)) := by simp [h2]
  have hs : isSub [c] s = false := by rw [isSub_one, hi]; rfl
  rw [dp]
  simp only [eS_nil, eS_cons, eA_nil, eA_cons, eE_c, eE_v, eE_bin, eE_neg, eE_not, eE_and, eE_or, eE_cmp, eE_chain, eE_ite, eE_tup, eE_lst, eE_ix, eE_sl, eE_sls, eE_call, eE_pr, eE_mt, eE_comp, eE_frz, eE_prt, eT_asg, eT_setix, eT_aug, eT_ex, eT_ret, eT_retn, eT_ite, eT_for, eT_whl, eT_brk, eT_cnt, eT_pass, eT_frz, eT_fgt, then1_ok, then2_ok, then3_ok, then4_ok, e_okc, ofO_some, getS_zero, getS_succ, fl1_ok, seqK_nx, seqK_rt, seqK_ct, seqK_bk, e_asgn, e_exE, e_exU, e_ret, e_setE, e_if, if2_true, if2_false, iteK_ok, ite2_true, ite2_false, andK_ok, and2_true, and2_false, orK_ok, or2_true, or2_false, notop, e_neg, chainop, chain1_ok, chain2_true, chain2_false, need_true, List.set_cons_zero, List.set_cons_succ, cx_call, truth_bl, truth_int, truth_str, truth_tup, truth_lst, truth_non, bin_add, bin_adds, bin_addt, bin_addl, bin_sub, bin_mul, bin_fdiv, bin_mod, bin_shl, bin_pow, bin_band, cmp_lt, cmp_le, cmp_gt, cmp_ge, cmp_eqi, cmp_nei, cmp_eqs, cmp_nes, cmp_is, cmp_isn, in_str, p_lens, p_lent, p_lenl, p_int, p_divmod, ix_t, ix_l, ix_s, ix_r, e_for, it_t, it_l, it_s, it_rng, it_rng2, it_rev, it_zip, e_int, sl_s1, sl_s2, sl_s3, sls_1, sls_2, isi_int_int, isi_int_str, isi_int_bool, isi_int_tuple, isi_int_list, isi_str_int, isi_str_str, isi_str_bool, isi_str_tuple, isi_str_list, isi_bl_int, isi_bl_str, isi_bl_bool, isi_bl_tuple, isi_bl_list, isi_non_int, isi_non_str, isi_non_bool, isi_non_tuple, isi_non_list, isi_tup_int, isi_tup_str, isi_tup_bool, isi_tup_tuple, isi_tup_list, isi_lst_int, isi_lst_str, isi_lst_bool, isi_lst_tuple, isi_lst_list, comp_seq, comp_seqs, comp_rng,  e_asgt, asgU_some, mk_lstT, mk_lstF0, mk_lstF1, mk_lstF2, szOk_0, last_get, last_set, rc_join, rc_find, rc_index, mt_find, setT_t, setTs_nil, setTs_n, still_d, still_rng, still_rev, still_zip, turnK_nx, turnK_ct, turnK_bk, turnK_rt, forL_nil, forL_cons, List.map_cons, List.map_nil, pyIx_nat, pyIx_lit, pyIxN_lit, seq_ref0, e_setix0, cpow_draw, cpow_30, List.length_cons, List.length_nil, Nat.reduceAdd, Nat.reduceLT, Int.reduceLT, Int.reduceLE, decide_true, decide_false, reduceIte, List.getElem?_cons_zero, List.getElem?_cons_succ, w1_L_place_of, hn, Bool.not_false, h1, hg, hs]
theorem placeof_non (C : Ctx) (μ : Mem) (x a y z n : Option Vl) : evSs C w1_L_place_of [x, y, a, z, some (.d .non), n] μ = .nx [x, y, a, z, some (.d .non), n] μ := by
  have hn : decide (D.non = D.non) = true := decide_eq_true rfl
  simp only [eS_nil, eS_cons, eA_nil, eA_cons, eE_c, eE_v, eE_bin, eE_neg, eE_not, eE_and, eE_or, eE_cmp, eE_chain, eE_ite, eE_tup, eE_lst, eE_ix, eE_sl, eE_sls, eE_call, eE_pr, eE_mt, eE_comp, eE_frz, eE_prt, eT_asg, eT_setix, eT_aug, eT_ex, eT_ret, eT_retn, eT_ite, eT_for, eT_whl, eT_brk, eT_cnt, eT_pass, eT_frz, eT_fgt, then1_ok, then2_ok, then3_ok, then4_ok, e_okc, ofO_some, getS_zero, getS_succ, fl1_ok, seqK_nx, seqK_rt, seqK_ct, seqK_bk, e_asgn, e_exE, e_exU, e_ret, e_setE, e_if, if2_true, if2_false, iteK_ok, ite2_true, ite2_false, andK_ok, and2_true, and2_false, orK_ok, or2_true, or2_false, notop, e_neg, chainop, chain1_ok, chain2_true, chain2_false, need_true, List.set_cons_zero, List.set_cons_succ, cx_call, truth_bl, truth_int, truth_str, truth_tup, truth_lst, truth_non, bin_add, bin_adds, bin_addt, bin_addl, bin_sub, bin_mul, bin_fdiv, bin_mod, bin_shl, bin_pow, bin_band, cmp_lt, cmp_le, cmp_gt, cmp_ge, cmp_eqi, cmp_nei, cmp_eqs, cmp_nes, cmp_is, cmp_isn, in_str, p_lens, p_lent, p_lenl, p_int, p_divmod, ix_t, ix_l, ix_s, ix_r, e_for, it_t, it_l, it_s, it_rng, it_rng2, it_rev, it_zip, e_int, sl_s1, sl_s2, sl_s3, sls_1, sls_2, isi_int_int, isi_int_str, isi_int_bool, isi_int_tuple, isi_int_list, isi_str_int, isi_str_str, isi_str_bool, isi_str_tuple, isi_str_list, isi_bl_int, isi_bl_str, isi_bl_bool, isi_bl_tuple, isi_bl_list, isi_non_int, isi_non_str, isi_non_bool, isi_non_tuple, isi_non_list, isi_tup_int, isi_tup_str, isi_tup_bool, isi_tup_tuple, isi_tup_list, isi_lst_int, isi_lst_str, isi_lst_bool, isi_lst_tuple, isi_lst_list, comp_seq, comp_seqs, comp_rng,  e_asgt, asgU_some, mk_lstT, mk_lstF0, mk_lstF1, mk_lstF2, szOk_0, last_get, last_set, rc_join, rc_find, rc_index, mt_find, setT_t, setTs_nil, setTs_n, still_d, still_rng, still_rev, still_zip, turnK_nx, turnK_ct, turnK_bk, turnK_rt, forL_nil, forL_cons, List.map_cons, List.map_nil, pyIx_nat, pyIx_lit, pyIxN_lit, seq_ref0, e_setix0, cpow_draw, cpow_30, List.length_cons, List.length_nil, Nat.reduceAdd, Nat.reduceLT, Int.reduceLT, Int.reduceLE, decide_true, decide_false, reduceIte, List.getElem?_cons_zero, List.getElem?_cons_succ, w1_L_place_of, hn, Bool.not_true]
theorem placeof_nons (C : Ctx) (μ : Mem) (x a y z : Option Vl) : ∀ (xs : List Vl) (n : Option Vl), ∃ n', forL (evSs C w1_L_place_of) (.n 5) (fun _ => true) xs [x, y, a, z, some (.d .non), n] μ = .nx [x, y, a, z, some (.d .non), n'] μ
  | [], n => ⟨n, rfl⟩
  | v :: xs, n => by
    obtain ⟨n', e⟩ := placeof_nons C μ x a y z xs (some v)
    refine ⟨n', ?_⟩
    simp only [eS_nil, eS_cons, eA_nil, eA_cons, eE_c, eE_v, eE_bin, eE_neg, eE_not, eE_and, eE_or, eE_cmp, eE_chain, eE_ite, eE_tup, eE_lst, eE_ix, eE_sl, eE_sls, eE_call, eE_pr, eE_mt, eE_comp, eE_frz, eE_prt, eT_asg, eT_setix, eT_aug, eT_ex, eT_ret, eT_retn, eT_ite, eT_for, eT_whl, eT_brk, eT_cnt, eT_pass, eT_frz, eT_fgt, then1_ok, then2_ok, then3_ok, then4_ok, e_okc, ofO_some, getS_zero, getS_succ, fl1_ok, seqK_nx, seqK_rt, seqK_ct, seqK_bk, e_asgn, e_exE, e_exU, e_ret, e_setE, e_if, if2_true, if2_false, iteK_ok, ite2_true, ite2_false, andK_ok, and2_true, and2_false, orK_ok, or2_true, or2_false, notop, e_neg, chainop, chain1_ok, chain2_true, chain2_false, need_true, List.set_cons_zero, List.set_cons_succ, cx_call, truth_bl, truth_int, truth_str, truth_tup, truth_lst, truth_non, bin_add, bin_adds, bin_addt, bin_addl, bin_sub, bin_mul, bin_fdiv, bin_mod, bin_shl, bin_pow, bin_band, cmp_lt, cmp_le, cmp_gt, cmp_ge, cmp_eqi, cmp_nei, cmp_eqs, cmp_nes, cmp_is, cmp_isn, in_str, p_lens, p_lent, p_lenl, p_int, p_divmod, ix_t, ix_l, ix_s, ix_r, e_for, it_t, it_l, it_s, it_rng, it_rng2, it_rev, it_zip, e_int, sl_s1, sl_s2, sl_s3, sls_1, sls_2, isi_int_int, isi_int_str, isi_int_bool, isi_int_tuple, isi_int_list, isi_str_int, isi_str_str, isi_str_bool, isi_str_tuple, isi_str_list, isi_bl_int, isi_bl_str, isi_bl_bool, isi_bl_tuple, isi_bl_list, isi_non_int, isi_non_str, isi_non_bool, isi_non_tuple, isi_non_list, isi_tup_int, isi_tup_str, isi_tup_bool, isi_tup_tuple, isi_tup_list, isi_lst_int, isi_lst_str, isi_lst_bool, isi_lst_tuple, isi_lst_list, comp_seq, comp_seqs, comp_rng,  e_asgt, asgU_some, mk_lstT, mk_lstF0, mk_lstF1, mk_lstF2, szOk_0, last_get, last_set, rc_join, rc_find, rc_index, mt_find, setT_t, setTs_nil, setTs_n, still_d, still_rng, still_rev, still_zip, turnK_nx, turnK_ct, turnK_bk, turnK_rt, forL_nil, forL_cons, List.map_cons, List.map_nil, pyIx_nat, pyIx_lit, pyIxN_lit, seq_ref0, e_setix0, cpow_draw, cpow_30, List.length_cons, List.length_nil, Nat.reduceAdd, Nat.reduceLT, Int.reduceLT, Int.reduceLE, decide_true, decide_false, reduceIte, List.getElem?_cons_zero, List.getElem?_cons_succ]
    rw [placeof_non]
    simp only [eS_nil, eS_cons, eA_nil, eA_cons, eE_c, eE_v, eE_bin, eE_neg, eE_not, eE_and, eE_or, eE_cmp, eE_chain, eE_ite, eE_tup, eE_lst, eE_ix, eE_sl, eE_sls, eE_call, eE_pr, eE_mt, eE_comp, eE_frz, eE_prt, eT_asg, eT_setix, eT_aug, eT_ex, eT_ret, eT_retn, eT_ite, eT_for, eT_whl, eT_brk, eT_cnt, eT_pass, eT_frz, eT_fgt, then1_ok, then2_ok, then3_ok, then4_ok, e_okc, ofO_some, getS_zero, getS_succ, fl1_ok, seqK_nx, seqK_rt, seqK_ct, seqK_bk, e_asgn, e_exE, e_exU, e_ret, e_setE, e_if, if2_true, if2_false, iteK_ok, ite2_true, ite2_false, andK_ok, and2_true, and2_false, orK_ok, or2_true, or2_false, notop, e_neg, chainop, chain1_ok, chain2_true, chain2_false, need_true, List.set_cons_zero, List.set_cons_succ, cx_call, truth_bl, truth_int, truth_str, truth_tup, truth_lst, truth_non, bin_add, bin_adds, bin_addt, bin_addl, bin_sub, bin_mul, bin_fdiv, bin_mod, bin_shl, bin_pow, bin_band, cmp_lt, cmp_le, cmp_gt, cmp_ge, cmp_eqi, cmp_nei, cmp_eqs, cmp_nes, cmp_is, cmp_isn, in_str, p_lens, p_lent, p_lenl, p_int, p_divmod, ix_t, ix_l, ix_s, ix_r, e_for, it_t, it_l, it_s, it_rng, it_rng2, it_rev, it_zip, e_int, sl_s1, sl_s2, sl_s3, sls_1, sls_2, isi_int_int, isi_int_str, isi_int_bool, isi_int_tuple, isi_int_list, isi_str_int, isi_str_str, isi_str_bool, isi_str_tuple, isi_str_list, isi_bl_int, isi_bl_str, isi_bl_bool, isi_bl_tuple, isi_bl_list, isi_non_int, isi_non_str, isi_non_bool, isi_non_tuple, isi_non_list, isi_tup_int, isi_tup_str, isi_tup_bool, isi_tup_tuple, isi_tup_list, isi_lst_int, isi_lst_str, isi_lst_bool, isi_lst_tuple, isi_lst_list, comp_seq, comp_seqs, comp_rng,  e_asgt, asgU_some, mk_lstT, mk_lstF0, mk_lstF1, mk_lstF2, szOk_0, last_get, last_set, rc_join, rc_find, rc_index, mt_find, setT_t, setTs_nil, setTs_n, still_d, still_rng, still_rev, still_zip, turnK_nx, turnK_ct, turnK_bk, turnK_rt, forL_nil, forL_cons, List.map_cons, List.map_nil, pyIx_nat, pyIx_lit, pyIxN_lit, seq_ref0, e_setix0, cpow_draw, cpow_30, List.length_cons, List.length_nil, Nat.reduceAdd, Nat.reduceLT, Int.reduceLT, Int.reduceLE, decide_true, decide_false, reduceIte, List.getElem?_cons_zero, List.getElem?_cons_succ]
    exact e
theorem placeof_run (C : Ctx) (μ : Mem) (x a : Option Vl) (t : List Char) (p : Pat) (hv : VP p) (ht : t.length = p.length) : ∀ (r n k : Nat) (z : Option Vl), n + r = p.length →
    ∃ z', forL (evSs C w1_L_place_of) (.n 5) (fun _ => true) ((List.range' n r).map fun (i : Nat) => Vl.d (.int (i : Int))) [x, some (.d (.str t)), a, some (.d (dp p)), some (.d (.int (k : Int))), z] μ = .nx [x, some (.d (.str t)), a, some (.d (dp p)), some (.d (optD (placeA (p.drop n) (t.drop n) k))), z'] μ
  | 0, n, k, z, h => by
    have e : p.drop n = [] := List.drop_eq_nil_of_le (by omega)
    refine ⟨z, ?_⟩
    rw [e]
    rfl
  | r + 1, n, k, z, h => by
    have hn : n < p.length := by omega
    have hn2 : n < t.length := by omega
    rw [List.range'_succ, List.drop_eq_getElem_cons hn, List.drop_eq_getElem_cons hn2, placeA]
    have h36 : p[n].length ≤ 36 := (hv p[n] (List.getElem_mem hn)).2
    cases hi : findFrom [t[n]] p[n] 0 with
    | some i =>
      obtain ⟨z', e⟩ := placeof_run C μ x a t p hv ht r (n + 1) (k * p[n].length + i) (some (.d (.int n))) (by omega)
      refine ⟨z', ?_⟩
      dsimp only
      simp only [eS_nil, eS_cons, eA_nil, eA_cons, eE_c, eE_v, eE_bin, eE_neg, eE_not, eE_and, eE_or, eE_cmp, eE_chain, eE_ite, eE_tup, eE_lst, eE_ix, eE_sl, eE_sls, eE_call, eE_pr, eE_mt, eE_comp, eE_frz, eE_prt, eT_asg, eT_setix, eT_aug, eT_ex, eT_ret, eT_retn, eT_ite, eT_for, eT_whl, eT_brk, eT_cnt, eT_pass, eT_frz, eT_fgt, then1_ok, then2_ok, then3_ok, then4_ok, e_okc, ofO_some, getS_zero, getS_succ, fl1_ok, seqK_nx, seqK_rt, seqK_ct, seqK_bk, e_asgn, e_exE, e_exU, e_ret, e_setE, e_if, if2_true, if2_false, iteK_ok, ite2_true, ite2_false, andK_ok, and2_true, and2_false, orK_ok, or2_true, or2_false, notop, e_neg, chainop, chain1_ok, chain2_true, chain2_false, need_true, List.set_cons_zero, List.set_cons_succ, cx_call, truth_bl, truth_int, truth_str, truth_tup, truth_lst, truth_non, bin_add, bin_adds, bin_addt, bin_addl, bin_sub, bin_mul, bin_fdiv, bin_mod, bin_shl, bin_pow, bin_band, cmp_lt, cmp_le, cmp_gt, cmp_ge, cmp_eqi, cmp_nei, cmp_eqs, cmp_nes, cmp_is, cmp_isn, in_str, p_lens, p_lent, p_lenl, p_int, p_divmod, ix_t, ix_l, ix_s, ix_r, e_for, it_t, it_l, it_s, it_rng, it_rng2, it_rev, it_zip, e_int, sl_s1, sl_s2, sl_s3, sls_1, sls_2, isi_int_int, isi_int_str, isi_int_bool, isi_int_tuple, isi_int_list, isi_str_int, isi_str_str, isi_str_bool, isi_str_tuple, isi_str_list, isi_bl_int, isi_bl_str, isi_bl_bool, isi_bl_tuple, isi_bl_list, isi_non_int, isi_non_str, isi_non_bool, isi_non_tuple, isi_non_list, isi_tup_int, isi_tup_str, isi_tup_bool, isi_tup_tuple, isi_tup_list, isi_lst_int, isi_lst_str, isi_lst_bool, isi_lst_tuple, isi_lst_list, comp_seq, comp_seqs, comp_rng,  e_asgt, asgU_some, mk_lstT, mk_lstF0, mk_lstF1, mk_lstF2, szOk_0, last_get, last_set, rc_join, rc_find, rc_index, mt_find, setT_t, setTs_nil, setTs_n, still_d, still_rng, still_rev, still_zip, turnK_nx, turnK_ct, turnK_bk, turnK_rt, forL_nil, forL_cons, List.map_cons, List.map_nil, pyIx_nat, pyIx_lit, pyIxN_lit, seq_ref0, e_setix0, cpow_draw, cpow_30, List.length_cons, List.length_nil, Nat.reduceAdd, Nat.reduceLT, Int.reduceLT, Int.reduceLE, decide_true, decide_false, reduceIte, List.getElem?_cons_zero, List.getElem?_cons_succ]
      rw [placeof_hit C μ x a t p p[n] t[n] n k i (List.getElem?_eq_getElem hn2) (List.getElem?_eq_getElem hn) (mul_36 _ _ h36) hi]
      simp only [eS_nil, eS_cons, eA_nil, eA_cons, eE_c, eE_v, eE_bin, eE_neg, eE_not, eE_and, eE_or, eE_cmp, eE_chain, eE_ite, eE_tup, eE_lst, eE_ix, eE_sl, eE_sls, eE_call, eE_pr, eE_mt, eE_comp, eE_frz, eE_prt, eT_asg, eT_setix, eT_aug, eT_ex, eT_ret, eT_retn, eT_ite, eT_for, eT_whl, eT_brk, eT_cnt, eT_pass, eT_frz, eT_fgt, then1_ok, then2_ok, then3_ok, then4_ok, e_okc, ofO_some, getS_zero, getS_succ, fl1_ok, seqK_nx, seqK_rt, seqK_ct, seqK_bk, e_asgn, e_exE, e_exU, e_ret, e_setE, e_if, if2_true, if2_false, iteK_ok, ite2_true, ite2_false, andK_ok, and2_true, and2_false, orK_ok, or2_true, or2_false, notop, e_neg, chainop, chain1_ok, chain2_true, chain2_false, need_true, List.set_cons_zero, List.set_cons_succ, cx_call, truth_bl, truth_int, truth_str, truth_tup, truth_lst, truth_non, bin_add, bin_adds, bin_addt, bin_addl, bin_sub, bin_mul, bin_fdiv, bin_mod, bin_shl, bin_pow, bin_band, cmp_lt, cmp_le, cmp_gt, cmp_ge, cmp_eqi, cmp_nei, cmp_eqs, cmp_nes, cmp_is, cmp_isn, in_str, p_lens, p_lent, p_lenl, p_int, p_divmod, ix_t, ix_l, ix_s, ix_r, e_for, it_t, it_l, it_s, it_rng, it_rng2, it_rev, it_zip, e_int, sl_s1, sl_s2, sl_s3, sls_1, sls_2, isi_int_int, isi_int_str, isi_int_bool, isi_int_tuple, isi_int_list, isi_str_int, isi_str_str, isi_str_bool, isi_str_tuple, isi_str_list, isi_bl_int, isi_bl_str, isi_bl_bool, isi_bl_tuple, isi_bl_list, isi_non_int, isi_non_str, isi_non_bool, isi_non_tuple, isi_non_list, isi_tup_int, isi_tup_str, isi_tup_bool, isi_tup_tuple, isi_tup_list, isi_lst_int, isi_lst_str, isi_lst_bool, isi_lst_tuple, isi_lst_list, comp_seq, comp_seqs, comp_rng,  e_asgt, asgU_some, mk_lstT, mk_lstF0, mk_lstF1, mk_lstF2, szOk_0, last_get, last_set, rc_join, rc_find, rc_index, mt_find, setT_t, setTs_nil, setTs_n, still_d, still_rng, still_rev, still_zip, turnK_nx, turnK_ct, turnK_bk, turnK_rt, forL_nil, forL_cons, List.map_cons, List.map_nil, pyIx_nat, pyIx_lit, pyIxN_lit, seq_ref0, e_setix0, cpow_draw, cpow_30, List.length_cons, List.length_nil, Nat.reduceAdd, Nat.reduceLT, Int.reduceLT, Int.reduceLE, decide_true, decide_false, reduceIte, List.getElem?_cons_zero, List.getElem?_cons_succ]
      rw [← e, Int.natCast_add, Int.natCast_mul]
    | none =>
      obtain ⟨z', e⟩ := placeof_nons C μ x a (some (.d (.str t))) (some (.d (dp p))) ((List.range' (n + 1) r).map fun (i : Nat) => Vl.d (.int (i : Int))) (some (.d (.int n)))
      refine ⟨z', ?_⟩
      dsimp only
      simp only [eS_nil, eS_cons, eA_nil, eA_cons, eE_c, eE_v, eE_bin, eE_neg, eE_not, eE_and, eE_or, eE_cmp, eE_chain, eE_ite, eE_tup, eE_lst, eE_ix, eE_sl, eE_sls, eE_call, eE_pr, eE_mt, eE_comp, eE_frz, eE_prt, eT_asg, eT_setix, eT_aug, eT_ex, eT_ret, eT_retn, eT_ite, eT_for, eT_whl, eT_brk, eT_cnt, eT_pass, eT_frz, eT_fgt, then1_ok, then2_ok, then3_ok, then4_ok, e_okc, ofO_some, getS_zero, getS_succ, fl1_ok, seqK_nx, seqK_rt, seqK_ct, seqK_bk, e_asgn, e_exE, e_exU, e_ret, e_setE, e_if, if2_true, if2_false, iteK_ok, ite2_true, ite2_false, andK_ok, and2_true, and2_false, orK_ok, or2_true, or2_false, notop, e_neg, chainop, chain1_ok, chain2_true, chain2_false, need_true, List.set_cons_zero, List.set_cons_succ, cx_call, truth_bl, truth_int, truth_str, truth_tup, truth_lst, truth_non, bin_add, bin_adds, bin_addt, bin_addl, bin_sub, bin_mul, bin_fdiv, bin_mod, bin_shl, bin_pow, bin_band, cmp_lt, cmp_le, cmp_gt, cmp_ge, cmp_eqi, cmp_nei, cmp_eqs, cmp_nes, cmp_is, cmp_isn, in_str, p_lens, p_lent, p_lenl, p_int, p_divmod, ix_t, ix_l, ix_s, ix_r, e_for, it_t, it_l, it_s, it_rng, it_rng2, it_rev, it_zip, e_int, sl_s1, sl_s2, sl_s3, sls_1, sls_2, isi_int_int, isi_int_str, isi_int_bool, isi_int_tuple, isi_int_list, isi_str_int, isi_str_str, isi_str_bool, isi_str_tuple, isi_str_list, isi_bl_int, isi_bl_str, isi_bl_bool, isi_bl_tuple, isi_bl_list, isi_non_int, isi_non_str, isi_non_bool, isi_non_tuple, isi_non_list, isi_tup_int, isi_tup_str, isi_tup_bool, isi_tup_tuple, isi_tup_list, isi_lst_int, isi_lst_str, isi_lst_bool, isi_lst_tuple, isi_lst_list, comp_seq, comp_seqs, comp_rng,  e_asgt, asgU_some, mk_lstT, mk_lstF0, mk_lstF1, mk_lstF2, szOk_0, last_get, last_set, rc_join, rc_find, rc_index, mt_find, setT_t, setTs_nil, setTs_n, still_d, still_rng, still_rev, still_zip, turnK_nx, turnK_ct, turnK_bk, turnK_rt, forL_nil, forL_cons, List.map_cons, List.map_nil, pyIx_nat, pyIx_lit, pyIxN_lit, seq_ref0, e_setix0, cpow_draw, cpow_30, List.length_cons, List.length_nil, Nat.reduceAdd, Nat.reduceLT, Int.reduceLT, Int.reduceLE, decide_true, decide_false, reduceIte, List.getElem?_cons_zero, List.getElem?_cons_succ]
      rw [placeof_miss C μ x a t p p[n] t[n] n k (List.getElem?_eq_getElem hn2) (List.getElem?_eq_getElem hn) hi]
      simp only [eS_nil, eS_cons, eA_nil, eA_cons, eE_c, eE_v, eE_bin, eE_neg, eE_not, eE_and, eE_or, eE_cmp, eE_chain, eE_ite, eE_tup, eE_lst, eE_ix, eE_sl, eE_sls, eE_call, eE_pr, eE_mt, eE_comp, eE_frz, eE_prt, eT_asg, eT_setix, eT_aug, eT_ex, eT_ret, eT_retn, eT_ite, eT_for, eT_whl, eT_brk, eT_cnt, eT_pass, eT_frz, eT_fgt, then1_ok, then2_ok, then3_ok, then4_ok, e_okc, ofO_some, getS_zero, getS_succ, fl1_ok, seqK_nx, seqK_rt, seqK_ct, seqK_bk, e_asgn, e_exE, e_exU, e_ret, e_setE, e_if, if2_true, if2_false, iteK_ok, ite2_true, ite2_false, andK_ok, and2_true, and2_false, orK_ok, or2_true, or2_false, notop, e_neg, chainop, chain1_ok, chain2_true, chain2_false, need_true, List.set_cons_zero, List.set_cons_succ, cx_call, truth_bl, truth_int, truth_str, truth_tup, truth_lst, truth_non, bin_add, bin_adds, bin_addt, bin_addl, bin_sub, bin_mul, bin_fdiv, bin_mod, bin_shl, bin_pow, bin_band, cmp_lt, cmp_le, cmp_gt, cmp_ge, cmp_eqi, cmp_nei, cmp_eqs, cmp_nes, cmp_is, cmp_isn, in_str, p_lens, p_lent, p_lenl, p_int, p_divmod, ix_t, ix_l, ix_s, ix_r, e_for, it_t, it_l, it_s, it_rng, it_rng2, it_rev, it_zip, e_int, sl_s1, sl_s2, sl_s3, sls_1, sls_2, isi_int_int, isi_int_str, isi_int_bool, isi_int_tuple, isi_int_list, isi_str_int, isi_str_str, isi_str_bool, isi_str_tuple, isi_str_list, isi_bl_int, isi_bl_str, isi_bl_bool, isi_bl_tuple, isi_bl_list, isi_non_int, isi_non_str, isi_non_bool, isi_non_tuple, isi_non_list, isi_tup_int, isi_tup_str, isi_tup_bool, isi_tup_tuple, isi_tup_list, isi_lst_int, isi_lst_str, isi_lst_bool, isi_lst_tuple, isi_lst_list, comp_seq, comp_seqs, comp_rng,  e_asgt, asgU_some, mk_lstT, mk_lstF0, mk_lstF1, mk_lstF2, szOk_0, last_get, last_set, rc_join, rc_find, rc_index, mt_find, setT_t, setTs_nil, setTs_n, still_d, still_rng, still_rev, still_zip, turnK_nx, turnK_ct, turnK_bk, turnK_rt, forL_nil, forL_cons, List.map_cons, List.map_nil, pyIx_nat, pyIx_lit, pyIxN_lit, seq_ref0, e_setix0, cpow_draw, cpow_30, List.length_cons, List.length_nil, Nat.reduceAdd, Nat.reduceLT, Int.reduceLT, Int.reduceLE, decide_true, decide_false, reduceIte, List.getElem?_cons_zero, List.getElem?_cons_succ]
      exact e
theorem placeof_k (C : Ctx) (μ : Mem) (x a : Option Vl) (t : List Char) (p : Pat) (hv : VP p) (z : Option Vl) :
    ∃ z', forL (evSs C w1_L_place_of) (.n 5) (fun _ => true) ((List.range p.length).map fun (i : Nat) => Vl.d (.int (i : Int))) [x, some (.d (.str t)), a, some (.d (dp p)), some (.d (if t.length = p.length then .int 0 else .non)), z] μ = .nx [x, some (.d (.str t)), a, some (.d (dp p)), some (.d (optD (place p t))), z'] μ := by
  rw [List.range_eq_range']
  by_cases h : t.length = p.length
  · rw [if_pos h, place, if_pos h]
    exact placeof_run C μ x a t p hv h p.length 0 0 z (by omega)
  · rw [if_neg h, place, if_neg h]
    exact placeof_nons C μ x a _ _ _ z
theorem placeof_turn (k0 : Nat) (hk : 1 ≤ k0) (p : Pat) (hv : VP p) (h8 : p.length ≤ 8) (t : List Char) (a : Int) (x b c : Option Vl) (μ : Mem) :
    match place p t with
    | some n => evSs (cx P k0) w2_L_place_of [x, some (.d (.str t)), some (.d (.int a)), some (.d (dp p)), b, c] μ = .rt (.d (.int (a + n))) μ
    | none => ∃ b' c', evSs (cx P k0) w2_L_place_of [x, some (.d (.str t)), some (.d (.int a)), some (.d (dp p)), b, c] μ = .nx [x, some (.d (.str t)), some (.d (.int (a + many p))), some (.d (dp p)), b', c'] μ := by
  obtain ⟨z', e⟩ := placeof_k (cx P k0) μ x (some (.d (.int a))) t p hv c
  have sm := s_many' k0 hk p hv
  have hr : decide (-1000000000 ≤ (p.length : Int) ∧ (p.length : Int) ≤ 1000000000) = true := decide_eq_true ⟨by omega, by omega⟩
  cases hq : place p t with
  | some n =>
    have hd : decide (D.int (n : Int) = D.non) = false := decide_eq_false (fun z => nomatch z)
    rw [hq] at e
    rw [dp] at e sm ⊢
    dsimp only
    by_cases h : t.length = p.length
    · have hb : ((t.length : Int) == (p.length : Int)) = true := by simp [h]
      rw [if_pos h] at e
      simp only [eS_nil, eS_cons, eA_nil, eA_cons, eE_c, eE_v, eE_bin, eE_neg, eE_not, eE_and, eE_or, eE_cmp, eE_chain, eE_ite, eE_tup, eE_lst, eE_ix, eE_sl, eE_sls, eE_call, eE_pr, eE_mt, eE_comp, eE_frz, eE_prt, eT_asg, eT_setix, eT_aug, eT_ex, eT_ret, eT_retn, eT_ite, eT_for, eT_whl, eT_brk, eT_cnt, eT_pass, eT_frz, eT_fgt, then1_ok, then2_ok, then3_ok, then4_ok, e_okc, ofO_some, getS_zero, getS_succ, fl1_ok, seqK_nx, seqK_rt, seqK_ct, seqK_bk, e_asgn, e_exE, e_exU, e_ret, e_setE, e_if, if2_true, if2_false, iteK_ok, ite2_true, ite2_false, andK_ok, and2_true, and2_false, orK_ok, or2_true, or2_false, notop, e_neg, chainop, chain1_ok, chain2_true, chain2_false, need_true, List.set_cons_zero, List.set_cons_succ, cx_call, truth_bl, truth_int, truth_str, truth_tup, truth_lst, truth_non, bin_add, bin_adds, bin_addt, bin_addl, bin_sub, bin_mul, bin_fdiv, bin_mod, bin_shl, bin_pow, bin_band, cmp_lt, cmp_le, cmp_gt, cmp_ge, cmp_eqi, cmp_nei, cmp_eqs, cmp_nes, cmp_is, cmp_isn, in_str, p_lens, p_lent, p_lenl, p_int, p_divmod, ix_t, ix_l, ix_s, ix_r, e_for, it_t, it_l, it_s, it_rng, it_rng2, it_rev, it_zip, e_int, sl_s1, sl_s2, sl_s3, sls_1, sls_2, isi_int_int, isi_int_str, isi_int_bool, isi_int_tuple, isi_int_list, isi_str_int, isi_str_str, isi_str_bool, isi_str_tuple, isi_str_list, isi_bl_int, isi_bl_str, isi_bl_bool, isi_bl_tuple, isi_bl_list, isi_non_int, isi_non_str, isi_non_bool, isi_non_tuple, isi_non_list, isi_tup_int, isi_tup_str, isi_tup_bool, isi_tup_tuple, isi_tup_list, isi_lst_int, isi_lst_str, isi_lst_bool, isi_lst_tuple, isi_lst_list, comp_seq, comp_seqs, comp_rng,  e_asgt, asgU_some, mk_lstT, mk_lstF0, mk_lstF1, mk_lstF2, szOk_0, last_get, last_set, rc_join, rc_find, rc_index, mt_find, setT_t, setTs_nil, setTs_n, still_d, still_rng, still_rev, still_zip, turnK_nx, turnK_ct, turnK_bk, turnK_rt, forL_nil, forL_cons, List.map_cons, List.map_nil, pyIx_nat, pyIx_lit, pyIxN_lit, seq_ref0, e_setix0, cpow_draw, cpow_30, List.length_cons, List.length_nil, Nat.reduceAdd, Nat.reduceLT, Int.reduceLT, Int.reduceLE, decide_true, decide_false, reduceIte, List.getElem?_cons_zero, List.getElem?_cons_succ, w2_L_place_of, List.length_map, hb, hr, Int.toNat_natCast, e, optD, hd, Bool.not_false]
    · rw [place, if_neg h] at hq
      cases hq
  | none =>
    have hd : decide (D.non = D.non) = true := decide_eq_true rfl
    rw [hq] at e
    rw [dp] at e sm ⊢
    dsimp only
    refine ⟨some (.d .non), z', ?_⟩
    by_cases h : t.length = p.length
    · have hb : ((t.length : Int) == (p.length : Int)) = true := by simp [h]
      rw [if_pos h] at e
      simp only [eS_nil, eS_cons, eA_nil, eA_cons, eE_c, eE_v, eE_bin, eE_neg, eE_not, eE_and, eE_or, eE_cmp, eE_chain, eE_ite, eE_tup, eE_lst, eE_ix, eE_sl, eE_sls, eE_call, eE_pr, eE_mt, eE_comp, eE_frz, eE_prt, eT_asg, eT_setix, eT_aug, eT_ex, eT_ret, eT_retn, eT_ite, eT_for, eT_whl, eT_brk, eT_cnt, eT_pass, eT_frz, eT_fgt, then1_ok, then2_ok, then3_ok, then4_ok, e_okc, ofO_some, getS_zero, getS_succ, fl1_ok, seqK_nx, seqK_rt, seqK_ct, seqK_bk, e_asgn, e_exE, e_exU, e_ret, e_setE, e_if, if2_true, if2_false, iteK_ok, ite2_true, ite2_false, andK_ok, and2_true, and2_false, orK_ok, or2_true, or2_false, notop, e_neg, chainop, chain1_ok, chain2_true, chain2_false, need_true, List.set_cons_zero, List.set_cons_succ, cx_call, truth_bl, truth_int, truth_str, truth_tup, truth_lst, truth_non, bin_add, bin_adds, bin_addt, bin_addl, bin_sub, bin_mul, bin_fdiv, bin_mod, bin_shl, bin_pow, bin_band, cmp_lt, cmp_le, cmp_gt, cmp_ge, cmp_eqi, cmp_nei, cmp_eqs, cmp_nes, cmp_is, cmp_isn, in_str, p_lens, p_lent, p_lenl, p_int, p_divmod, ix_t, ix_l, ix_s, ix_r, e_for, it_t, it_l, it_s, it_rng, it_rng2, it_rev, it_zip, e_int, sl_s1, sl_s2, sl_s3, sls_1, sls_2, isi_int_int, isi_int_str, isi_int_bool, isi_int_tuple, isi_int_list, isi_str_int, isi_str_str, isi_str_bool, isi_str_tuple, isi_str_list, isi_bl_int, isi_bl_str, isi_bl_bool, isi_bl_tuple, isi_bl_list, isi_non_int, isi_non_str, isi_non_bool, isi_non_tuple, isi_non_list, isi_tup_int, isi_tup_str, isi_tup_bool, isi_tup_tuple, isi_tup_list, isi_lst_int, isi_lst_str, isi_lst_bool, isi_lst_tuple, isi_lst_list, comp_seq, comp_seqs, comp_rng,  e_asgt, asgU_some, mk_lstT, mk_lstF0, mk_lstF1, mk_lstF2, szOk_0, last_get, last_set, rc_join, rc_find, rc_index, mt_find, setT_t, setTs_nil, setTs_n, still_d, still_rng, still_rev, still_zip, turnK_nx, turnK_ct, turnK_bk, turnK_rt, forL_nil, forL_cons, List.map_cons, List.map_nil, pyIx_nat, pyIx_lit, pyIxN_lit, seq_ref0, e_setix0, cpow_draw, cpow_30, List.length_cons, List.length_nil, Nat.reduceAdd, Nat.reduceLT, Int.reduceLT, Int.reduceLE, decide_true, decide_false, reduceIte, List.getElem?_cons_zero, List.getElem?_cons_succ, w2_L_place_of, List.length_map, hb, hr, Int.toNat_natCast, e, optD, hd, Bool.not_true, sm]
    · have hb : ((t.length : Int) == (p.length : Int)) = false := by simp; omega
      rw [if_neg h] at e
      simp only [eS_nil, eS_cons, eA_nil, eA_cons, eE_c, eE_v, eE_bin, eE_neg, eE_not, eE_and, eE_or, eE_cmp, eE_chain, eE_ite, eE_tup, eE_lst, eE_ix, eE_sl, eE_sls, eE_call, eE_pr, eE_mt, eE_comp, eE_frz, eE_prt, eT_asg, eT_setix, eT_aug, eT_ex, eT_ret, eT_retn, eT_ite, eT_for, eT_whl, eT_brk, eT_cnt, eT_pass, eT_frz, eT_fgt, then1_ok, then2_ok, then3_ok, then4_ok, e_okc, ofO_some, getS_zero, getS_succ, fl1_ok, seqK_nx, seqK_rt, seqK_ct, seqK_bk, e_asgn, e_exE, e_exU, e_ret, e_setE, e_if, if2_true, if2_false, iteK_ok, ite2_true, ite2_false, andK_ok, and2_true, and2_false, orK_ok, or2_true, or2_false, notop, e_neg, chainop, chain1_ok, chain2_true, chain2_false, need_true, List.set_cons_zero, List.set_cons_succ, cx_call, truth_bl, truth_int, truth_str, truth_tup, truth_lst, truth_non, bin_add, bin_adds, bin_addt, bin_addl, bin_sub, bin_mul, bin_fdiv, bin_mod, bin_shl, bin_pow, bin_band, cmp_lt, cmp_le, cmp_gt, cmp_ge, cmp_eqi, cmp_nei, cmp_eqs, cmp_nes, cmp_is, cmp_isn, in_str, p_lens, p_lent, p_lenl, p_int, p_divmod, ix_t, ix_l, ix_s, ix_r, e_for, it_t, it_l, it_s, it_rng, it_rng2, it_rev, it_zip, e_int, sl_s1, sl_s2, sl_s3, sls_1, sls_2, isi_int_int, isi_int_str, isi_int_bool, isi_int_tuple, isi_int_list, isi_str_int, isi_str_str, isi_str_bool, isi_str_tuple, isi_str_list, isi_bl_int, isi_bl_str, isi_bl_bool, isi_bl_tuple, isi_bl_list, isi_non_int, isi_non_str, isi_non_bool, isi_non_tuple, isi_non_list, isi_tup_int, isi_tup_str, isi_tup_bool, isi_tup_tuple, isi_tup_list, isi_lst_int, isi_lst_str, isi_lst_bool, isi_lst_tuple, isi_lst_list, comp_seq, comp_seqs, comp_rng,  e_asgt, asgU_some, mk_lstT, mk_lstF0, mk_lstF1, mk_lstF2, szOk_0, last_get, last_set, rc_join, rc_find, rc_index, mt_find, setT_t, setTs_nil, setTs_n, still_d, still_rng, still_rev, still_zip, turnK_nx, turnK_ct, turnK_bk, turnK_rt, forL_nil, forL_cons, List.map_cons, List.map_nil, pyIx_nat, pyIx_lit, pyIxN_lit, seq_ref0, e_setix0, cpow_draw, cpow_30, List.length_cons, List.length_nil, Nat.reduceAdd, Nat.reduceLT, Int.reduceLT, Int.reduceLE, decide_true, decide_false, reduceIte, List.getElem?_cons_zero, List.getElem?_cons_succ, w2_L_place_of, List.length_map, hb, hr, Int.toNat_natCast, e, optD, hd, Bool.not_true, sm]
theorem placeof_loop (k0 : Nat) (hk : 1 ≤ k0) (μ : Mem) (x : Option Vl) (t : List Char) (s : List Pat) : ∀ (a : Int) (y b c : Option Vl), (∀ p ∈ s, VP p ∧ 1 ≤ p.length ∧ p.length ≤ 8) →
    match placeS s t with
    | some n => forL (evSs (cx P k0) w2_L_place_of) (.n 3) (fun _ => true) ((s.map dp).map Vl.d) [x, some (.d (.str t)), some (.d (.int a)), y, b, c] μ = .rt (.d (.int (a + n))) μ
    | none => ∃ a' y' b' c', forL (evSs (cx P k0) w2_L_place_of) (.n 3) (fun _ => true) ((s.map dp).map Vl.d) [x, some (.d (.str t)), some (.d (.int a)), y, b, c] μ = .nx [x, some (.d (.str t)), a', y', b', c'] μ := by
  induction s with
  | nil => intro a y b c _; exact ⟨_, _, _, _, rfl⟩
  | cons p r ih =>
    intro a y b c h
    have hp := h p (by simp)
    rw [placeS]
    have l := placeof_turn k0 hk p hp.1 hp.2.2 t a x b c μ
    cases hq : place p t with
    | some n =>
      rw [hq] at l
      dsimp only at l ⊢
      simp only [eS_nil, eS_cons, eA_nil, eA_cons, eE_c, eE_v, eE_bin, eE_neg, eE_not, eE_and, eE_or, eE_cmp, eE_chain, eE_ite, eE_tup, eE_lst, eE_ix, eE_sl, eE_sls, eE_call, eE_pr, eE_mt, eE_comp, eE_frz, eE_prt, eT_asg, eT_setix, eT_aug, eT_ex, eT_ret, eT_retn, eT_ite, eT_for, eT_whl, eT_brk, eT_cnt, eT_pass, eT_frz, eT_fgt, then1_ok, then2_ok, then3_ok, then4_ok, e_okc, ofO_some, getS_zero, getS_succ, fl1_ok, seqK_nx, seqK_rt, seqK_ct, seqK_bk, e_asgn, e_exE, e_exU, e_ret, e_setE, e_if, if2_true, if2_false, iteK_ok, ite2_true, ite2_false, andK_ok, and2_true, and2_false, orK_ok, or2_true, or2_false, notop, e_neg, chainop, chain1_ok, chain2_true, chain2_false, need_true, List.set_cons_zero, List.set_cons_succ, cx_call, truth_bl, truth_int, truth_str, truth_tup, truth_lst, truth_non, bin_add, bin_adds, bin_addt, bin_addl, bin_sub, bin_mul, bin_fdiv, bin_mod, bin_shl, bin_pow, bin_band, cmp_lt, cmp_le, cmp_gt, cmp_ge, cmp_eqi, cmp_nei, cmp_eqs, cmp_nes, cmp_is, cmp_isn, in_str, p_lens, p_lent, p_lenl, p_int, p_divmod, ix_t, ix_l, ix_s, ix_r, e_for, it_t, it_l, it_s, it_rng, it_rng2, it_rev, it_zip, e_int, sl_s1, sl_s2, sl_s3, sls_1, sls_2, isi_int_int, isi_int_str, isi_int_bool, isi_int_tuple, isi_int_list, isi_str_int, isi_str_str, isi_str_bool, isi_str_tuple, isi_str_list, isi_bl_int, isi_bl_str, isi_bl_bool, isi_bl_tuple, isi_bl_list, isi_non_int, isi_non_str, isi_non_bool, isi_non_tuple, isi_non_list, isi_tup_int, isi_tup_str, isi_tup_bool, isi_tup_tuple, isi_tup_list, isi_lst_int, isi_lst_str, isi_lst_bool, isi_lst_tuple, isi_lst_list, comp_seq, comp_seqs, comp_rng,  e_asgt, asgU_some, mk_lstT, mk_lstF0, mk_lstF1, mk_lstF2, szOk_0, last_get, last_set, rc_join, rc_find, rc_index, mt_find, setT_t, setTs_nil, setTs_n, still_d, still_rng, still_rev, still_zip, turnK_nx, turnK_ct, turnK_bk, turnK_rt, forL_nil, forL_cons, List.map_cons, List.map_nil, pyIx_nat, pyIx_lit, pyIxN_lit, seq_ref0, e_setix0, cpow_draw, cpow_30, List.length_cons, List.length_nil, Nat.reduceAdd, Nat.reduceLT, Int.reduceLT, Int.reduceLE, decide_true, decide_false, reduceIte, List.getElem?_cons_zero, List.getElem?_cons_succ]
      rw [l]
      simp only [eS_nil, eS_cons, eA_nil, eA_cons, eE_c, eE_v, eE_bin, eE_neg, eE_not, eE_and, eE_or, eE_cmp, eE_chain, eE_ite, eE_tup, eE_lst, eE_ix, eE_sl, eE_sls, eE_call, eE_pr, eE_mt, eE_comp, eE_frz, eE_prt, eT_asg, eT_setix, eT_aug, eT_ex, eT_ret, eT_retn, eT_ite, eT_for, eT_whl, eT_brk, eT_cnt, eT_pass, eT_frz, eT_fgt, then1_ok, then2_ok, then3_ok, then4_ok, e_okc, ofO_some, getS_zero, getS_succ, fl1_ok, seqK_nx, seqK_rt, seqK_ct, seqK_bk, e_asgn, e_exE, e_exU, e_ret, e_setE, e_if, if2_true, if2_false, iteK_ok, ite2_true, ite2_false, andK_ok, and2_true, and2_false, orK_ok, or2_true, or2_false, notop, e_neg, chainop, chain1_ok, chain2_true, chain2_false, need_true, List.set_cons_zero, List.set_cons_succ, cx_call, truth_bl, truth_int, truth_str, truth_tup, truth_lst, truth_non, bin_add, bin_adds, bin_addt, bin_addl, bin_sub, bin_mul, bin_fdiv, bin_mod, bin_shl, bin_pow, bin_band, cmp_lt, cmp_le, cmp_gt, cmp_ge, cmp_eqi, cmp_nei, cmp_eqs, cmp_nes, cmp_is, cmp_isn, in_str, p_lens, p_lent, p_lenl, p_int, p_divmod, ix_t, ix_l, ix_s, ix_r, e_for, it_t, it_l, it_s, it_rng, it_rng2, it_rev, it_zip, e_int, sl_s1, sl_s2, sl_s3, sls_1, sls_2, isi_int_int, isi_int_str, isi_int_bool, isi_int_tuple, isi_int_list, isi_str_int, isi_str_str, isi_str_bool, isi_str_tuple, isi_str_list, isi_bl_int, isi_bl_str, isi_bl_bool, isi_bl_tuple, isi_bl_list, isi_non_int, isi_non_str, isi_non_bool, isi_non_tuple, isi_non_list, isi_tup_int, isi_tup_str, isi_tup_bool, isi_tup_tuple, isi_tup_list, isi_lst_int, isi_lst_str, isi_lst_bool, isi_lst_tuple, isi_lst_list, comp_seq, comp_seqs, comp_rng,  e_asgt, asgU_some, mk_lstT, mk_lstF0, mk_lstF1, mk_lstF2, szOk_0, last_get, last_set, rc_join, rc_find, rc_index, mt_find, setT_t, setTs_nil, setTs_n, still_d, still_rng, still_rev, still_zip, turnK_nx, turnK_ct, turnK_bk, turnK_rt, forL_nil, forL_cons, List.map_cons, List.map_nil, pyIx_nat, pyIx_lit, pyIxN_lit, seq_ref0, e_setix0, cpow_draw, cpow_30, List.length_cons, List.length_nil, Nat.reduceAdd, Nat.reduceLT, Int.reduceLT, Int.reduceLE, decide_true, decide_false, reduceIte, List.getElem?_cons_zero, List.getElem?_cons_succ]
    | none =>
      rw [hq] at l
      obtain ⟨b', c', l⟩ := l
      have ih := ih (a + many p) (some (.d (dp p))) b' c' (fun q hq => h q (by simp [hq]))
      dsimp only
      simp only [eS_nil, eS_cons, eA_nil, eA_cons, eE_c, eE_v, eE_bin, eE_neg, eE_not, eE_and, eE_or, eE_cmp, eE_chain, eE_ite, eE_tup, eE_lst, eE_ix, eE_sl, eE_sls, eE_call, eE_pr, eE_mt, eE_comp, eE_frz, eE_prt, eT_asg, eT_setix, eT_aug, eT_ex, eT_ret, eT_retn, eT_ite, eT_for, eT_whl, eT_brk, eT_cnt, eT_pass, eT_frz, eT_fgt, then1_ok, then2_ok, then3_ok, then4_ok, e_okc, ofO_some, getS_zero, getS_succ, fl1_ok, seqK_nx, seqK_rt, seqK_ct, seqK_bk, e_asgn, e_exE, e_exU, e_ret, e_setE, e_if, if2_true, if2_false, iteK_ok, ite2_true, ite2_false, andK_ok, and2_true, and2_false, orK_ok, or2_true, or2_false, notop, e_neg, chainop, chain1_ok, chain2_true, chain2_false, need_true, List.set_cons_zero, List.set_cons_succ, cx_call, truth_bl, truth_int, truth_str, truth_tup, truth_lst, truth_non, bin_add, bin_adds, bin_addt, bin_addl, bin_sub, bin_mul, bin_fdiv, bin_mod, bin_shl, bin_pow, bin_band, cmp_lt, cmp_le, cmp_gt, cmp_ge, cmp_eqi, cmp_nei, cmp_eqs, cmp_nes, cmp_is, cmp_isn, in_str, p_lens, p_lent, p_lenl, p_int, p_divmod, ix_t, ix_l, ix_s, ix_r, e_for, it_t, it_l, it_s, it_rng, it_rng2, it_rev, it_zip, e_int, sl_s1, sl_s2, sl_s3, sls_1, sls_2, isi_int_int, isi_int_str, isi_int_bool, isi_int_tuple, isi_int_list, isi_str_int, isi_str_str, isi_str_bool, isi_str_tuple, isi_str_list, isi_bl_int, isi_bl_str, isi_bl_bool, isi_bl_tuple, isi_bl_list, isi_non_int, isi_non_str, isi_non_bool, isi_non_tuple, isi_non_list, isi_tup_int, isi_tup_str, isi_tup_bool, isi_tup_tuple, isi_tup_list, isi_lst_int, isi_lst_str, isi_lst_bool, isi_lst_tuple, isi_lst_list, comp_seq, comp_seqs, comp_rng,  e_asgt, asgU_some, mk_lstT, mk_lstF0, mk_lstF1, mk_lstF2, szOk_0, last_get, last_set, rc_join, rc_find, rc_index, mt_find, setT_t, setTs_nil, setTs_n, still_d, still_rng, still_rev, still_zip, turnK_nx, turnK_ct, turnK_bk, turnK_rt, forL_nil, forL_cons, List.map_cons, List.map_nil, pyIx_nat, pyIx_lit, pyIxN_lit, seq_ref0, e_setix0, cpow_draw, cpow_30, List.length_cons, List.length_nil, Nat.reduceAdd, Nat.reduceLT, Int.reduceLT, Int.reduceLE, decide_true, decide_false, reduceIte, List.getElem?_cons_zero, List.getElem?_cons_succ]
      rw [l]
      simp only [eS_nil, eS_cons, eA_nil, eA_cons, eE_c, eE_v, eE_bin, eE_neg, eE_not, eE_and, eE_or, eE_cmp, eE_chain, eE_ite, eE_tup, eE_lst, eE_ix, eE_sl, eE_sls, eE_call, eE_pr, eE_mt, eE_comp, eE_frz, eE_prt, eT_asg, eT_setix, eT_aug, eT_ex, eT_ret, eT_retn, eT_ite, eT_for, eT_whl, eT_brk, eT_cnt, eT_pass, eT_frz, eT_fgt, then1_ok, then2_ok, then3_ok, then4_ok, e_okc, ofO_some, getS_zero, getS_succ, fl1_ok, seqK_nx, seqK_rt, seqK_ct, seqK_bk, e_asgn, e_exE, e_exU, e_ret, e_setE, e_if, if2_true, if2_false, iteK_ok, ite2_true, ite2_false, andK_ok, and2_true, and2_false, orK_ok, or2_true, or2_false, notop, e_neg, chainop, chain1_ok, chain2_true, chain2_false, need_true, List.set_cons_zero, List.set_cons_succ, cx_call, truth_bl, truth_int, truth_str, truth_tup, truth_lst, truth_non, bin_add, bin_adds, bin_addt, bin_addl, bin_sub, bin_mul, bin_fdiv, bin_mod, bin_shl, bin_pow, bin_band, cmp_lt, cmp_le, cmp_gt, cmp_ge, cmp_eqi, cmp_nei, cmp_eqs, cmp_nes, cmp_is, cmp_isn, in_str, p_lens, p_lent, p_lenl, p_int, p_divmod, ix_t, ix_l, ix_s, ix_r, e_for, it_t, it_l, it_s, it_rng, it_rng2, it_rev, it_zip, e_int, sl_s1, sl_s2, sl_s3, sls_1, sls_2, isi_int_int, isi_int_str, isi_int_bool, isi_int_tuple, isi_int_list, isi_str_int, isi_str_str, isi_str_bool, isi_str_tuple, isi_str_list, isi_bl_int, isi_bl_str, isi_bl_bool, isi_bl_tuple, isi_bl_list, isi_non_int, isi_non_str, isi_non_bool, isi_non_tuple, isi_non_list, isi_tup_int, isi_tup_str, isi_tup_bool, isi_tup_tuple, isi_tup_list, isi_lst_int, isi_lst_str, isi_lst_bool, isi_lst_tuple, isi_lst_list, comp_seq, comp_seqs, comp_rng,  e_asgt, asgU_some, mk_lstT, mk_lstF0, mk_lstF1, mk_lstF2, szOk_0, last_get, last_set, rc_join, rc_find, rc_index, mt_find, setT_t, setTs_nil, setTs_n, still_d, still_rng, still_rev, still_zip, turnK_nx, turnK_ct, turnK_bk, turnK_rt, forL_nil, forL_cons, List.map_cons, List.map_nil, pyIx_nat, pyIx_lit, pyIxN_lit, seq_ref0, e_setix0, cpow_draw, cpow_30, List.length_cons, List.length_nil, Nat.reduceAdd, Nat.reduceLT, Int.reduceLT, Int.reduceLE, decide_true, decide_false, reduceIte, List.getElem?_cons_zero, List.getElem?_cons_succ]
      cases hr : placeS r t with
      | none => rw [hr] at ih; exact ih
      | some n =>
        rw [hr] at ih
        dsimp only [Option.map_some] at ih ⊢
        rw [ih, Int.natCast_add, Int.add_assoc]
theorem s_placeof (k0 : Nat) (hk : 2 ≤ k0) (s : List Pat) (h : VS s) (t : List Char) (μ : Mem) : sem P k0 16 [.d (ds s), .d (.str t)] μ = .ok (.d (optD (placeS s t))) μ := by
  obtain ⟨k0, rfl⟩ : ∃ j, k0 = j + 1 := ⟨k0 - 1, by omega⟩
  rw [r_L_place_of]
  have l := placeof_loop k0 (by omega) μ (some (.d (ds s))) t s 0 none none none h.2
  rw [ds] at l ⊢
  cases hq : placeS s t with
  | some n =>
    rw [hq] at l
    dsimp only at l
    rw [Int.zero_add] at l
    simp only [eS_nil, eS_cons, eA_nil, eA_cons, eE_c, eE_v, eE_bin, eE_neg, eE_not, eE_and, eE_or, eE_cmp, eE_chain, eE_ite, eE_tup, eE_lst, eE_ix, eE_sl, eE_sls, eE_call, eE_pr, eE_mt, eE_comp, eE_frz, eE_prt, eT_asg, eT_setix, eT_aug, eT_ex, eT_ret, eT_retn, eT_ite, eT_for, eT_whl, eT_brk, eT_cnt, eT_pass, eT_frz, eT_fgt, then1_ok, then2_ok, then3_ok, then4_ok, e_okc, ofO_some, getS_zero, getS_succ, fl1_ok, seqK_nx, seqK_rt, seqK_ct, seqK_bk, e_asgn, e_exE, e_exU, e_ret, e_setE, e_if, if2_true, if2_false, iteK_ok, ite2_true, ite2_false, andK_ok, and2_true, and2_false, orK_ok, or2_true, or2_false, notop, e_neg, chainop, chain1_ok, chain2_true, chain2_false, need_true, List.set_cons_zero, List.set_cons_succ, cx_call, truth_bl, truth_int, truth_str, truth_tup, truth_lst, truth_non, bin_add, bin_adds, bin_addt, bin_addl, bin_sub, bin_mul, bin_fdiv, bin_mod, bin_shl, bin_pow, bin_band, cmp_lt, cmp_le, cmp_gt, cmp_ge, cmp_eqi, cmp_nei, cmp_eqs, cmp_nes, cmp_is, cmp_isn, in_str, p_lens, p_lent, p_lenl, p_int, p_divmod, ix_t, ix_l, ix_s, ix_r, e_for, it_t, it_l, it_s, it_rng, it_rng2, it_rev, it_zip, e_int, sl_s1, sl_s2, sl_s3, sls_1, sls_2, isi_int_int, isi_int_str, isi_int_bool, isi_int_tuple, isi_int_list, isi_str_int, isi_str_str, isi_str_bool, isi_str_tuple, isi_str_list, isi_bl_int, isi_bl_str, isi_bl_bool, isi_bl_tuple, isi_bl_list, isi_non_int, isi_non_str, isi_non_bool, isi_non_tuple, isi_non_list, isi_tup_int, isi_tup_str, isi_tup_bool, isi_tup_tuple, isi_tup_list, isi_lst_int, isi_lst_str, isi_lst_bool, isi_lst_tuple, isi_lst_list, comp_seq, comp_seqs, comp_rng,  e_asgt, asgU_some, mk_lstT, mk_lstF0, mk_lstF1, mk_lstF2, szOk_0, last_get, last_set, rc_join, rc_find, rc_index, mt_find, setT_t, setTs_nil, setTs_n, still_d, still_rng, still_rev, still_zip, turnK_nx, turnK_ct, turnK_bk, turnK_rt, forL_nil, forL_cons, List.map_cons, List.map_nil, pyIx_nat, pyIx_lit, pyIxN_lit, seq_ref0, e_setix0, cpow_draw, cpow_30, List.length_cons, List.length_nil, Nat.reduceAdd, Nat.reduceLT, Int.reduceLT, Int.reduceLE, decide_true, decide_false, reduceIte, List.getElem?_cons_zero, List.getElem?_cons_succ, b_L_place_of, l, end_rt, drop_self, optD]
  | none =>
    rw [hq] at l
    obtain ⟨_, _, _, _, l⟩ := l
    simp only [eS_nil, eS_cons, eA_nil, eA_cons, eE_c, eE_v, eE_bin, eE_neg, eE_not, eE_and, eE_or, eE_cmp, eE_chain, eE_ite, eE_tup, eE_lst, eE_ix, eE_sl, eE_sls, eE_call, eE_pr, eE_mt, eE_comp, eE_frz, eE_prt, eT_asg, eT_setix, eT_aug, eT_ex, eT_ret, eT_retn, eT_ite, eT_for, eT_whl, eT_brk, eT_cnt, eT_pass, eT_frz, eT_fgt, then1_ok, then2_ok, then3_ok, then4_ok, e_okc, ofO_some, getS_zero, getS_succ, fl1_ok, seqK_nx, seqK_rt, seqK_ct, seqK_bk, e_asgn, e_exE, e_exU, e_ret, e_setE, e_if, if2_true, if2_false, iteK_ok, ite2_true, ite2_false, andK_ok, and2_true, and2_false, orK_ok, or2_true, or2_false, notop, e_neg, chainop, chain1_ok, chain2_true, chain2_false, need_true, List.set_cons_zero, List.set_cons_succ, cx_call, truth_bl, truth_int, truth_str, truth_tup, truth_lst, truth_non, bin_add, bin_adds, bin_addt, bin_addl, bin_sub, bin_mul, bin_fdiv, bin_mod, bin_shl, bin_pow, bin_band, cmp_lt, cmp_le, cmp_gt, cmp_ge, cmp_eqi, cmp_nei, cmp_eqs, cmp_nes, cmp_is, cmp_isn, in_str, p_lens, p_lent, p_lenl, p_int, p_divmod, ix_t, ix_l, ix_s, ix_r, e_for, it_t, it_l, it_s, it_rng, it_rng2, it_rev, it_zip, e_int, sl_s1, sl_s2, sl_s3, sls_1, sls_2, isi_int_int, isi_int_str, isi_int_bool, isi_int_tuple, isi_int_list, isi_str_int, isi_str_str, isi_str_bool, isi_str_tuple, isi_str_list, isi_bl_int, isi_bl_str, isi_bl_bool, isi_bl_tuple, isi_bl_list, isi_non_int, isi_non_str, isi_non_bool, isi_non_tuple, isi_non_list, isi_tup_int, isi_tup_str, isi_tup_bool, isi_tup_tuple, isi_tup_list, isi_lst_int, isi_lst_str, isi_lst_bool, isi_lst_tuple, isi_lst_list, comp_seq, comp_seqs, comp_rng,  e_asgt, asgU_some, mk_lstT, mk_lstF0, mk_lstF1, mk_lstF2, szOk_0, last_get, last_set, rc_join, rc_find, rc_index, mt_find, setT_t, setTs_nil, setTs_n, still_d, still_rng, still_rev, still_zip, turnK_nx, turnK_ct, turnK_bk, turnK_rt, forL_nil, forL_cons, List.map_cons, List.map_nil, pyIx_nat, pyIx_lit, pyIxN_lit, seq_ref0, e_setix0, cpow_draw, cpow_30, List.length_cons, List.length_nil, Nat.reduceAdd, Nat.reduceLT, Int.reduceLT, Int.reduceLE, decide_true, decide_false, reduceIte, List.getElem?_cons_zero, List.getElem?_cons_succ, b_L_place_of, l, end_rt, drop_self, optD]
/-! draws -/
theorem s_great (k : Nat) (hk : 2 ≤ k) (o : O) (μ : Mem) (h : DI o) (n : Int) (hn : 0 < n) : ∃ (r : Nat) (o' : O), sem P k 11 [.ref 0, .d (.int n)] (o :: μ) = .ok (.d (.int r)) (o' :: μ) ∧ DI o' ∧ (r : Int) < n := by
  obtain ⟨k, rfl⟩ : ∃ j, k = j + 1 := ⟨k - 1, by omega⟩
  rw [r_L_great]
  have hN : CDivB (1 * 2 ^ Int.toNat 30) = true := div_small (by decide) (by decide)
  have hM : ∀ i, CMulB i (1 * 2 ^ Int.toNat 30) = true := fun i => mul_r (by decide)
  obtain ⟨r1, o1, e1, d1, _, _⟩ := dr k (by omega) o μ h (1 * 2 ^ Int.toNat 30) (.inr hN)
  obtain ⟨r2, o2, e2, d2, _, _⟩ := dr k (by omega) o1 μ d1 (1 * 2 ^ Int.toNat 30) (.inr hN)
  have hd : decide (0 < n) = true := decide_eq_true hn
  have key : endFn (o :: μ) (evSs (cx P k) b_L_great [some (.ref 0), some (.d (.int n))] (o :: μ)) = .ok (.d (.int ((r1 * (1 * 2 ^ Int.toNat 30) + r2) % n))) (o2 :: μ) := by
    simp only [eS_nil, eS_cons, eA_nil, eA_cons, eE_c, eE_v, eE_bin, eE_neg, eE_not, eE_and, eE_or, eE_cmp, eE_chain, eE_ite, eE_tup, eE_lst, eE_ix, eE_sl, eE_sls, eE_call, eE_pr, eE_mt, eE_comp, eE_frz, eE_prt, eT_asg, eT_setix, eT_aug, eT_ex, eT_ret, eT_retn, eT_ite, eT_for, eT_whl, eT_brk, eT_cnt, eT_pass, eT_frz, eT_fgt, then1_ok, then2_ok, then3_ok, then4_ok, e_okc, ofO_some, getS_zero, getS_succ, fl1_ok, seqK_nx, seqK_rt, seqK_ct, seqK_bk, e_asgn, e_exE, e_exU, e_ret, e_setE, e_if, if2_true, if2_false, iteK_ok, ite2_true, ite2_false, andK_ok, and2_true, and2_false, orK_ok, or2_true, or2_false, notop, e_neg, chainop, chain1_ok, chain2_true, chain2_false, need_true, List.set_cons_zero, List.set_cons_succ, cx_call, truth_bl, truth_int, truth_str, truth_tup, truth_lst, truth_non, bin_add, bin_adds, bin_addt, bin_addl, bin_sub, bin_mul, bin_fdiv, bin_mod, bin_shl, bin_pow, bin_band, cmp_lt, cmp_le, cmp_gt, cmp_ge, cmp_eqi, cmp_nei, cmp_eqs, cmp_nes, cmp_is, cmp_isn, in_str, p_lens, p_lent, p_lenl, p_int, p_divmod, ix_t, ix_l, ix_s, ix_r, e_for, it_t, it_l, it_s, it_rng, it_rng2, it_rev, it_zip, e_int, sl_s1, sl_s2, sl_s3, sls_1, sls_2, isi_int_int, isi_int_str, isi_int_bool, isi_int_tuple, isi_int_list, isi_str_int, isi_str_str, isi_str_bool, isi_str_tuple, isi_str_list, isi_bl_int, isi_bl_str, isi_bl_bool, isi_bl_tuple, isi_bl_list, isi_non_int, isi_non_str, isi_non_bool, isi_non_tuple, isi_non_list, isi_tup_int, isi_tup_str, isi_tup_bool, isi_tup_tuple, isi_tup_list, isi_lst_int, isi_lst_str, isi_lst_bool, isi_lst_tuple, isi_lst_list, comp_seq, comp_seqs, comp_rng,  e_asgt, asgU_some, mk_lstT, mk_lstF0, mk_lstF1, mk_lstF2, szOk_0, last_get, last_set, rc_join, rc_find, rc_index, mt_find, setT_t, setTs_nil, setTs_n, still_d, still_rng, still_rev, still_zip, turnK_nx, turnK_ct, turnK_bk, turnK_rt, forL_nil, forL_cons, List.map_cons, List.map_nil, pyIx_nat, pyIx_lit, pyIxN_lit, seq_ref0, e_setix0, cpow_draw, cpow_30, List.length_cons, List.length_nil, Nat.reduceAdd, Nat.reduceLT, Int.reduceLT, Int.reduceLE, decide_true, decide_false, reduceIte, List.getElem?_cons_zero, List.getElem?_cons_succ, b_L_great, e1, e2, hM, hd, end_rt]
    rw [drop_d0 _ _ _ _ d2.pure]
  have hr : 0 ≤ (r1 * (1 * 2 ^ Int.toNat 30) + r2) % n := Int.emod_nonneg _ (by omega)
  have hr2 := Int.emod_lt_of_pos (r1 * (1 * 2 ^ Int.toNat 30) + r2) hn
  generalize (r1 * (1 * 2 ^ Int.toNat 30) + r2) % n = w at key hr hr2
  refine ⟨w.toNat, o2, ?_, d2, by omega⟩
  rw [Int.toNat_of_nonneg hr]
  exact key
theorem s_pick (k : Nat) (hk : 2 ≤ k) (o : O) (μ : Mem) (h : DI o) (xs : List D) (h0 : xs ≠ []) (hl : xs.length ≤ 1000) : ∃ (x : D) (o' : O), sem P k 8 [.ref 0, .d (.lst xs)] (o :: μ) = .ok (.d x) (o' :: μ) ∧ DI o' ∧ x ∈ xs := by
  obtain ⟨k, rfl⟩ : ∃ j, k = j + 1 := ⟨k - 1, by omega⟩
  rw [r_L_pick]
  have hp : 0 < xs.length := List.length_pos_iff.mpr h0
  obtain ⟨r1, o1, e1, d1, h1, h2⟩ := dr k (by omega) o μ h (xs.length : Int) (.inr (div_small (by omega) (by omega)))
  obtain ⟨r, rfl⟩ : ∃ r : Nat, r1 = (r : Int) := ⟨r1.toNat, by omega⟩
  have hr : r < xs.length := by omega
  have hg : (xs.map Vl.d)[r]? = some (.d xs[r]) := by simp [hr]
  refine ⟨xs[r], o1, ?_, d1, List.getElem_mem hr⟩
  simp only [eS_nil, eS_cons, eA_nil, eA_cons, eE_c, eE_v, eE_bin, eE_neg, eE_not, eE_and, eE_or, eE_cmp, eE_chain, eE_ite, eE_tup, eE_lst, eE_ix, eE_sl, eE_sls, eE_call, eE_pr, eE_mt, eE_comp, eE_frz, eE_prt, eT_asg, eT_setix, eT_aug, eT_ex, eT_ret, eT_retn, eT_ite, eT_for, eT_whl, eT_brk, eT_cnt, eT_pass, eT_frz, eT_fgt, then1_ok, then2_ok, then3_ok, then4_ok, e_okc, ofO_some, getS_zero, getS_succ, fl1_ok, seqK_nx, seqK_rt, seqK_ct, seqK_bk, e_asgn, e_exE, e_exU, e_ret, e_setE, e_if, if2_true, if2_false, iteK_ok, ite2_true, ite2_false, andK_ok, and2_true, and2_false, orK_ok, or2_true, or2_false, notop, e_neg, chainop, chain1_ok, chain2_true, chain2_false, need_true, List.set_cons_zero, List.set_cons_succ, cx_call, truth_bl, truth_int, truth_str, truth_tup, truth_lst, truth_non, bin_add, bin_adds, bin_addt, bin_addl, bin_sub, bin_mul, bin_fdiv, bin_mod, bin_shl, bin_pow, bin_band, cmp_lt, cmp_le, cmp_gt, cmp_ge, cmp_eqi, cmp_nei, cmp_eqs, cmp_nes, cmp_is, cmp_isn, in_str, p_lens, p_lent, p_lenl, p_int, p_divmod, ix_t, ix_l, ix_s, ix_r, e_for, it_t, it_l, it_s, it_rng, it_rng2, it_rev, it_zip, e_int, sl_s1, sl_s2, sl_s3, sls_1, sls_2, isi_int_int, isi_int_str, isi_int_bool, isi_int_tuple, isi_int_list, isi_str_int, isi_str_str, isi_str_bool, isi_str_tuple, isi_str_list, isi_bl_int, isi_bl_str, isi_bl_bool, isi_bl_tuple, isi_bl_list, isi_non_int, isi_non_str, isi_non_bool, isi_non_tuple, isi_non_list, isi_tup_int, isi_tup_str, isi_tup_bool, isi_tup_tuple, isi_tup_list, isi_lst_int, isi_lst_str, isi_lst_bool, isi_lst_tuple, isi_lst_list, comp_seq, comp_seqs, comp_rng,  e_asgt, asgU_some, mk_lstT, mk_lstF0, mk_lstF1, mk_lstF2, szOk_0, last_get, last_set, rc_join, rc_find, rc_index, mt_find, setT_t, setTs_nil, setTs_n, still_d, still_rng, still_rev, still_zip, turnK_nx, turnK_ct, turnK_bk, turnK_rt, forL_nil, forL_cons, List.map_cons, List.map_nil, pyIx_nat, pyIx_lit, pyIxN_lit, seq_ref0, e_setix0, cpow_draw, cpow_30, List.length_cons, List.length_nil, Nat.reduceAdd, Nat.reduceLT, Int.reduceLT, Int.reduceLE, decide_true, decide_false, reduceIte, List.getElem?_cons_zero, List.getElem?_cons_succ, b_L_pick, e1, hg, end_rt]
  rw [drop_d0 _ _ _ _ d1.pure]
theorem s_near (k : Nat) (hk : 3 ≤ k) (o : O) (μ : Mem) (h : DI o) (t : List Char) (ht : t.length ≤ 8) : ∃ (u : List Char) (o' : O), sem P k 17 [.ref 0, .d (.str t)] (o :: μ) = .ok (.d (.str u)) (o' :: μ) ∧ DI o' := by
  obtain ⟨k, rfl⟩ : ∃ j, k = j + 1 := ⟨k - 1, by omega⟩
  rw [r_L_near]
  obtain ⟨r1, o1, e1, d1, _, _⟩ := dr k (by omega) o μ h ((t.length : Int) + 1) (.inr (div_small (by omega) (by omega)))
  obtain ⟨x, o2, e2, d2, hx⟩ := s_pick k (by omega) o1 μ d1 ([[], ['0'], ['a'], ['q'], ['z'], ['A'], ['-'], [' '], pyCut t none (some 1)].map D.str) (by simp) (by simp)
  obtain ⟨v, hv, rfl⟩ := List.mem_map.mp hx
  have hvl : v.length ≤ 8 := by
    have hc := cut_le t none (some 1)
    simp only [List.mem_cons, List.not_mem_nil, or_false] at hv
    rcases hv with rfl | rfl | rfl | rfl | rfl | rfl | rfl | rfl | rfl <;> first | decide | omega
  obtain ⟨r3, o3, e3, d3, _, _⟩ := dr k (by omega) o2 μ d2 2 (.inr (div_small (by decide) (by decide)))
  have c1 := cut_le t none (some r1)
  have c2 := cut_le t (some (r1 + r3)) none
  refine ⟨pyCut t none (some r1) ++ v ++ pyCut t (some (r1 + r3)) none, o3, ?_, d3⟩
  have z1 : szOk ((pyCut t none (some r1)).length + v.length) = true := szOk_of (by omega)
  have z2 : szOk ((pyCut t none (some r1) ++ v).length + (pyCut t (some (r1 + r3)) none).length) = true := szOk_of (by rw [List.length_append]; omega)
  have hm : mkLst false [Vl.d (.str []), .d (.str ['0']), .d (.str ['a']), .d (.str ['q']), .d (.str ['z']), .d (.str ['A']), .d (.str ['-']), .d (.str [' ']), .d (.str (pyCut t none (some 1)))] (o1 :: μ) = .ok (.d (.lst ([[], ['0'], ['a'], ['q'], ['z'], ['A'], ['-'], [' '], pyCut t none (some 1)].map D.str))) (o1 :: μ) := rfl
  simp only [List.map_cons, List.map_nil] at e2 hm
  simp only [eS_nil, eS_cons, eA_nil, eA_cons, eE_c, eE_v, eE_bin, eE_neg, eE_not, eE_and, eE_or, eE_cmp, eE_chain, eE_ite, eE_tup, eE_lst, eE_ix, eE_sl, eE_sls, eE_call, eE_pr, eE_mt, eE_comp, eE_frz, eE_prt, eT_asg, eT_setix, eT_aug, eT_ex, eT_ret, eT_retn, eT_ite, eT_for, eT_whl, eT_brk, eT_cnt, eT_pass, eT_frz, eT_fgt, then1_ok, then2_ok, then3_ok, then4_ok, e_okc, ofO_some, getS_zero, getS_succ, fl1_ok, seqK_nx, seqK_rt, seqK_ct, seqK_bk, e_asgn, e_exE, e_exU, e_ret, e_setE, e_if, if2_true, if2_false, iteK_ok, ite2_true, ite2_false, andK_ok, and2_true, and2_false, orK_ok, or2_true, or2_false, notop, e_neg, chainop, chain1_ok, chain2_true, chain2_false, need_true, List.set_cons_zero, List.set_cons_succ, cx_call, truth_bl, truth_int, truth_str, truth_tup, truth_lst, truth_non, bin_add, bin_adds, bin_addt, bin_addl, bin_sub, bin_mul, bin_fdiv, bin_mod, bin_shl, bin_pow, bin_band, cmp_lt, cmp_le, cmp_gt, cmp_ge, cmp_eqi, cmp_nei, cmp_eqs, cmp_nes, cmp_is, cmp_isn, in_str, p_lens, p_lent, p_lenl, p_int, p_divmod, ix_t, ix_l, ix_s, ix_r, e_for, it_t, it_l, it_s, it_rng, it_rng2, it_rev, it_zip, e_int, sl_s1, sl_s2, sl_s3, sls_1, sls_2, isi_int_int, isi_int_str, isi_int_bool, isi_int_tuple, isi_int_list, isi_str_int, isi_str_str, isi_str_bool, isi_str_tuple, isi_str_list, isi_bl_int, isi_bl_str, isi_bl_bool, isi_bl_tuple, isi_bl_list, isi_non_int, isi_non_str, isi_non_bool, isi_non_tuple, isi_non_list, isi_tup_int, isi_tup_str, isi_tup_bool, isi_tup_tuple, isi_tup_list, isi_lst_int, isi_lst_str, isi_lst_bool, isi_lst_tuple, isi_lst_list, comp_seq, comp_seqs, comp_rng,  e_asgt, asgU_some, mk_lstT, mk_lstF0, mk_lstF1, mk_lstF2, szOk_0, last_get, last_set, rc_join, rc_find, rc_index, mt_find, setT_t, setTs_nil, setTs_n, still_d, still_rng, still_rev, still_zip, turnK_nx, turnK_ct, turnK_bk, turnK_rt, forL_nil, forL_cons, List.map_cons, List.map_nil, pyIx_nat, pyIx_lit, pyIxN_lit, seq_ref0, e_setix0, cpow_draw, cpow_30, List.length_cons, List.length_nil, Nat.reduceAdd, Nat.reduceLT, Int.reduceLT, Int.reduceLE, decide_true, decide_false, reduceIte, List.getElem?_cons_zero, List.getElem?_cons_succ, b_L_near, e1, hm, e2, e3, z1, z2, end_rt]
  rw [drop_d0 _ _ _ _ d3.pure]
end K28
end HP
end

section
set_option Elab.async false
set_option linter.all false
set_option maxRecDepth 100000
set_option maxHeartbeats 16000000
namespace HP
namespace K28
/-! plain: places of stems -/
theorem find_at : ∀ (s : List Char) (i j : Nat) (h : i < s.length), s.Nodup → findFrom [s[i]] s j = some (i + j)
  | [], i, j, h, _ => by simp at h
  | c :: t, 0, j, h, _ => by simp [findFrom]
  | c :: t, i + 1, j, h, hn => by
    have hi : i < t.length := by simpa using h
    have hc : t[i] ≠ c := fun e => (List.nodup_cons.mp hn).1 (e ▸ List.getElem_mem hi)
    have ih := find_at t i (j + 1) hi (List.nodup_cons.mp hn).2
    have hp : [t[i]].isPrefixOf (c :: t) = false := by simp [List.isPrefixOf, hc]
    rw [List.getElem_cons_succ, findFrom, hp, if_neg (by decide), ih]
    congr 1
    omega
def VN (p : Pat) : Prop := ∀ s ∈ p, s.Nodup
theorem VN.tl {s : List Char} {r : Pat} (h : VN (s :: r)) : VN r := fun t ht => h t (by simp [ht])
theorem placeA_stem : ∀ (p : Pat) (k a : Nat), VP p → VN p → placeA p (stem p k) a = some (a * many p + k % many p)
  | [], k, a, _, _ => by simp [placeA, stem, many, Nat.mod_one]
  | s :: r, k, a, h, hn => by
    have h0 := h.hd.1
    have hlt : k / many r % s.length < s.length := Nat.mod_lt _ h0
    have hg : s.getD (k / many r % s.length) ' ' = s[k / many r % s.length] := by
      rw [List.getD_eq_getElem?_getD, List.getElem?_eq_getElem hlt]; rfl
    rw [stem, placeA, hg, find_at s _ 0 hlt (hn s (by simp)), Nat.add_zero]
    dsimp only
    rw [placeA_stem r k _ h.tl hn.tl, many, Nat.mul_comm s.length (many r), Nat.mod_mul]
    congr 1
    rw [Nat.add_mul, Nat.mul_assoc, Nat.mul_comm s.length (many r), Nat.mul_comm (k / many r % s.length) (many r)]
    omega
theorem stem_len : ∀ (p : Pat) (k : Nat), (stem p k).length = p.length
  | [], k => rfl
  | s :: r, k => by rw [stem, List.length_cons, stem_len r, List.length_cons]
theorem place_stem (p : Pat) (k : Nat) (h : VP p) (hn : VN p) (hk : k < many p) : place p (stem p k) = some k := by
  rw [place, if_pos (stem_len p k), placeA_stem p k 0 h hn, Nat.zero_mul, Nat.zero_add, Nat.mod_eq_of_lt hk]
/-- no place: some sign is not in its slot -/
theorem placeA_none : ∀ (p : Pat) (t : List Char) (a n : Nat) (s : List Char) (c : Char), p[n]? = some s → t[n]? = some c → findFrom [c] s 0 = none → placeA p t a = none
  | [], t, a, n, s, c, h, _, _ => by simp at h
  | s' :: r, [], a, n, s, c, _, h, _ => by simp at h
  | s' :: r, c' :: t, a, 0, s, c, h1, h2, h3 => by
    simp at h1 h2
    subst h1 h2
    rw [placeA, h3]
  | s' :: r, c' :: t, a, n + 1, s, c, h1, h2, h3 => by
    rw [placeA]
    cases findFrom [c'] s' 0 with
    | none => rfl
    | some i => exact placeA_none r t _ n s c (by simpa using h1) (by simpa using h2) h3
theorem find_none : ∀ (s : List Char) (c : Char) (j : Nat), c ∉ s → findFrom [c] s j = none
  | [], c, j, _ => by simp [findFrom]
  | d :: t, c, j, h => by
    have hc : c ≠ d := fun e => h (by simp [e])
    have hp : [c].isPrefixOf (d :: t) = false := by simp [List.isPrefixOf, hc]
    rw [findFrom, hp, if_neg (by decide)]
    exact find_none t c _ (fun z => h (by simp [z]))
/-- the sign at place n of a stem is of its slot -/
theorem stem_get : ∀ (p : Pat) (k n : Nat) (h : n < p.length), VP p → ∃ c ∈ p[n], (stem p k)[n]? = some c
  | [], k, n, h, _ => by simp at h
  | s :: r, k, 0, h, hv => by
    have hlt : k / many r % s.length < s.length := Nat.mod_lt _ hv.hd.1
    refine ⟨s[k / many r % s.length], List.getElem_mem hlt, ?_⟩
    rw [stem, List.getElem?_cons_zero, List.getD_eq_getElem?_getD, List.getElem?_eq_getElem hlt]; rfl
  | s :: r, k, n + 1, h, hv => by
    obtain ⟨c, hc, e⟩ := stem_get r k n (by simpa using h) hv.tl
    exact ⟨c, by simpa using hc, by rw [stem]; simpa using e⟩
/-- at place n no two patterns share a sign -/
def Apart (n : Nat) (s : List Pat) : Prop := (∀ p ∈ s, n < p.length) ∧ s.Pairwise fun p q => ∀ a b, p[n]? = some a → q[n]? = some b → ∀ c ∈ a, c ∉ b
def VF (s : List Pat) : Prop := (∀ p ∈ s, VP p ∧ 1 ≤ p.length ∧ p.length ≤ 8) ∧ (∀ p ∈ s, VN p) ∧ ∃ n, Apart n s
theorem VF.tl {p : Pat} {s : List Pat} (h : VF (p :: s)) : VF s := ⟨fun q hq => h.1 q (by simp [hq]), fun q hq => h.2.1 q (by simp [hq]), let ⟨n, h1, h2⟩ := h.2.2; ⟨n, fun q hq => h1 q (by simp [hq]), (List.pairwise_cons.mp h2).2⟩⟩
theorem placeS_stemS : ∀ (s : List Pat) (k : Nat) (t : List Char), VF s → stemS s k = some t → placeS s t = some k ∧ (∃ p ∈ s, ∃ j, t = stem p j)
  | [], k, t, _, h => by simp [stemS] at h
  | p :: r, k, t, hv, h => by
    have hp := hv.1 p (by simp)
    have hn := hv.2.1 p (by simp)
    rw [stemS] at h
    by_cases hlt : k < many p
    · rw [if_pos hlt] at h
      cases h
      rw [placeS, place_stem p k hp.1 hn hlt]
      exact ⟨rfl, p, by simp, k, rfl⟩
    · rw [if_neg hlt] at h
      obtain ⟨h1, q, hq, j, rfl⟩ := placeS_stemS r _ t hv.tl h
      have hz : place p (stem q j) = none := by
        obtain ⟨n, a1, a2⟩ := hv.2.2
        have hnp := a1 p (by simp)
        have hnq := a1 q (by simp [hq])
        rw [place]
        by_cases hl : (stem q j).length = p.length
        · rw [if_pos hl]
          obtain ⟨c, hc, e⟩ := stem_get q j n hnq (hv.1 q (by simp [hq])).1
          refine placeA_none p _ 0 n p[n] c (List.getElem?_eq_getElem hnp) e (find_none _ _ _ fun z => ?_)
          exact (List.pairwise_cons.mp a2).1 q hq p[n] q[n] (List.getElem?_eq_getElem hnp) (List.getElem?_eq_getElem hnq) c z hc
        · rw [if_neg hl]
      rw [placeS, hz, h1]
      refine ⟨?_, q, by simp [hq], j, rfl⟩
      dsimp only [Option.map_some]
      congr 1
      omega
theorem stemS_some : ∀ (s : List Pat) (k : Nat), k < total s → ∃ t, stemS s k = some t
  | [], k, h => by simp [total] at h
  | p :: r, k, h => by
    rw [stemS]
    by_cases hlt : k < many p
    · exact ⟨_, if_pos hlt⟩
    · rw [if_neg hlt]
      refine stemS_some r _ ?_
      unfold total at h ⊢
      rw [List.map_cons, List.sum_cons] at h
      omega
end K28
end HP
end

section
set_option Elab.async false
set_option linter.all false
set_option maxRecDepth 100000
set_option maxHeartbeats 16000000
namespace HP
namespace K28
/-! slots of the drawn stocks -/
theorem step_mem {s : List Char} {lo k : Nat} {c : Char} (h : c ∈ pyStep s lo k) : ∃ i, s[lo + i * k]? = some c := by
  unfold pyStep stepIx at h
  obtain ⟨j, hj, e⟩ := List.mem_filterMap.mp h
  obtain ⟨i, _, rfl⟩ := List.mem_map.mp hj
  exact ⟨i, e⟩
theorem get_inj {s : List Char} (hs : s.Nodup) {i j : Nat} {c : Char} (h1 : s[i]? = some c) (h2 : s[j]? = some c) : i = j := by
  obtain ⟨a1, b1⟩ := List.getElem?_eq_some_iff.mp h1
  obtain ⟨a2, b2⟩ := List.getElem?_eq_some_iff.mp h2
  have hp := List.pairwise_iff_getElem.mp hs
  rcases Nat.lt_trichotomy i j with h | h | h
  · exact absurd (b1.trans b2.symm) (hp i j a1 a2 h)
  · exact h
  · exact absurd (b2.trans b1.symm) (hp j i a2 a1 h)
theorem cut_from {α : Type} (xs : List α) (i : Int) (h : 0 ≤ i) : pyCut xs (some i) none = xs.drop i.toNat := by
  have e : pyB xs.length 0 (some i) = min i.toNat xs.length := by
    show (if i < 0 then _ else _) = _
    rw [if_neg (by omega)]
  have e2 : pyB xs.length xs.length none = xs.length := rfl
  unfold pyCut
  rw [e, e2]
  by_cases hl : i.toNat ≤ xs.length
  · rw [Nat.min_eq_left hl, List.take_of_length_le (by rw [List.length_drop]; omega)]
  · rw [Nat.min_eq_right (by omega), Nat.sub_self, List.take_zero, List.drop_eq_nil_of_le (by omega)]
theorem cut_to {α : Type} (xs : List α) (i : Int) (h : 0 ≤ i) : pyCut xs none (some i) = xs.take i.toNat := by
  have e : pyB xs.length xs.length (some i) = min i.toNat xs.length := by
    show (if i < 0 then _ else _) = _
    rw [if_neg (by omega)]
  have e2 : pyB xs.length 0 none = 0 := rfl
  unfold pyCut
  rw [e, e2, List.drop_zero, Nat.sub_zero]
  by_cases hl : i.toNat ≤ xs.length
  · rw [Nat.min_eq_left hl]
  · rw [Nat.min_eq_right (by omega), List.take_of_length_le (Nat.le_refl _), List.take_of_length_le (by omega)]
theorem step_nodup {s : List Char} (hs : s.Nodup) (lo k : Nat) (hk : 0 < k) : (pyStep s lo k).Nodup := by
  unfold pyStep stepIx
  rw [List.Nodup, List.pairwise_filterMap, List.pairwise_map]
  refine List.Pairwise.imp ?_ List.pairwise_lt_range
  intro i j hij b hb b' hb' e
  subst e
  have := get_inj hs hb hb'
  have h2 : i * k = j * k := by omega
  have := Nat.eq_of_mul_eq_mul_right hk h2
  omega
theorem step_pos {s : List Char} {lo k : Nat} (hk : 0 < k) (h : lo < s.length) : 0 < (pyStep s lo k).length := by
  have hm : s[lo] ∈ pyStep s lo k := by
    unfold pyStep
    refine List.mem_filterMap.mpr ⟨lo, ?_, List.getElem?_eq_getElem h⟩
    unfold stepIx
    refine List.mem_map.mpr ⟨0, List.mem_range.mpr ?_, by omega⟩
    exact Nat.div_pos (by omega) hk
  exact List.length_pos_of_mem hm
/-- u is a slot drawn of signs -/
def SlotOf (signs u : List Char) : Prop := 0 < u.length ∧ u.length ≤ signs.length ∧ (signs.Nodup → u.Nodup) ∧ ∀ c ∈ u, c ∈ signs
theorem s_slot (k : Nat) (hk : 2 ≤ k) (o : O) (μ : Mem) (h : DI o) (signs : List Char) (h0 : 0 < signs.length) (h1 : signs.length ≤ 36) (most : Int) (hm : 0 < most ∧ most < 1000) :
    ∃ (u : List Char) (o' : O), sem P k 12 [.ref 0, .d (.str signs), .d (.int most)] (o :: μ) = .ok (.d (.str u)) (o' :: μ) ∧ DI o' ∧ SlotOf signs u := by
  obtain ⟨k, rfl⟩ : ∃ j, k = j + 1 := ⟨k - 1, by omega⟩
  rw [r_L_slot_of]
  obtain ⟨r1, o1, e1, d1, a1, b1⟩ := dr k (by omega) o μ h (signs.length : Int) (.inr (div_small (by omega) (by omega)))
  obtain ⟨r2, o2, e2, d2, a2, b2⟩ := dr k (by omega) o1 μ d1 3 (.inr (div_small (by decide) (by decide)))
  obtain ⟨r3, o3, e3, d3, a3, b3⟩ := dr k (by omega) o2 μ d2 most (.inr (div_small (by omega) (by omega)))
  have hst : decide (0 < 1 + r2 ∧ 1 + r2 < 1000000) = true := decide_eq_true ⟨by omega, by omega⟩
  have hc1 := cut_from signs r1 a1
  refine ⟨pyCut (pyStep (signs.drop r1.toNat) 0 (1 + r2).toNat) none (some (1 + r3)), o3, ?_, d3, ?_⟩
  · simp only [eS_nil, eS_cons, eA_nil, eA_cons, eE_c, eE_v, eE_bin, eE_neg, eE_not, eE_and, eE_or, eE_cmp, eE_chain, eE_ite, eE_tup, eE_lst, eE_ix, eE_sl, eE_sls, eE_call, eE_pr, eE_mt, eE_comp, eE_frz, eE_prt, eT_asg, eT_setix, eT_aug, eT_ex, eT_ret, eT_retn, eT_ite, eT_for, eT_whl, eT_brk, eT_cnt, eT_pass, eT_frz, eT_fgt, then1_ok, then2_ok, then3_ok, then4_ok, e_okc, ofO_some, getS_zero, getS_succ, fl1_ok, seqK_nx, seqK_rt, seqK_ct, seqK_bk, e_asgn, e_exE, e_exU, e_ret, e_setE, e_if, if2_true, if2_false, iteK_ok, ite2_true, ite2_false, andK_ok, and2_true, and2_false, orK_ok, or2_true, or2_false, notop, e_neg, chainop, chain1_ok, chain2_true, chain2_false, need_true, List.set_cons_zero, List.set_cons_succ, cx_call, truth_bl, truth_int, truth_str, truth_tup, truth_lst, truth_non, bin_add, bin_adds, bin_addt, bin_addl, bin_sub, bin_mul, bin_fdiv, bin_mod, bin_shl, bin_pow, bin_band, cmp_lt, cmp_le, cmp_gt, cmp_ge, cmp_eqi, cmp_nei, cmp_eqs, cmp_nes, cmp_is, cmp_isn, in_str, p_lens, p_lent, p_lenl, p_int, p_divmod, ix_t, ix_l, ix_s, ix_r, e_for, it_t, it_l, it_s, it_rng, it_rng2, it_rev, it_zip, e_int, sl_s1, sl_s2, sl_s3, sls_1, sls_2, isi_int_int, isi_int_str, isi_int_bool, isi_int_tuple, isi_int_list, isi_str_int, isi_str_str, isi_str_bool, isi_str_tuple, isi_str_list, isi_bl_int, isi_bl_str, isi_bl_bool, isi_bl_tuple, isi_bl_list, isi_non_int, isi_non_str, isi_non_bool, isi_non_tuple, isi_non_list, isi_tup_int, isi_tup_str, isi_tup_bool, isi_tup_tuple, isi_tup_list, isi_lst_int, isi_lst_str, isi_lst_bool, isi_lst_tuple, isi_lst_list, comp_seq, comp_seqs, comp_rng,  e_asgt, asgU_some, mk_lstT, mk_lstF0, mk_lstF1, mk_lstF2, szOk_0, last_get, last_set, rc_join, rc_find, rc_index, mt_find, setT_t, setTs_nil, setTs_n, still_d, still_rng, still_rev, still_zip, turnK_nx, turnK_ct, turnK_bk, turnK_rt, forL_nil, forL_cons, List.map_cons, List.map_nil, pyIx_nat, pyIx_lit, pyIxN_lit, seq_ref0, e_setix0, cpow_draw, cpow_30, List.length_cons, List.length_nil, Nat.reduceAdd, Nat.reduceLT, Int.reduceLT, Int.reduceLE, decide_true, decide_false, reduceIte, List.getElem?_cons_zero, List.getElem?_cons_succ, b_L_slot_of, e1, e2, hst, hc1, e3, end_rt]
    rw [drop_d0 _ _ _ _ d3.pure]
  · have hp : 0 < (pyStep (signs.drop r1.toNat) 0 (1 + r2).toNat).length := step_pos (by omega) (by rw [List.length_drop]; omega)
    have hl := step_len (signs.drop r1.toNat) 0 (1 + r2).toNat (by omega)
    rw [List.length_drop] at hl
    have hmem : ∀ c ∈ pyStep (signs.drop r1.toNat) 0 (1 + r2).toNat, c ∈ signs := fun c hc => by
      obtain ⟨i, e⟩ := step_mem hc
      exact List.mem_of_mem_drop (List.mem_of_getElem? e)
    have hnd : signs.Nodup → (pyStep (signs.drop r1.toNat) 0 (1 + r2).toNat).Nodup := fun hs => step_nodup (hs.sublist (List.drop_sublist _ _)) _ _ (by omega)
    generalize pyStep (signs.drop r1.toNat) 0 (1 + r2).toNat = w at hp hl hmem hnd
    have hc := cut_to w (1 + r3) (by omega)
    rw [hc]
    refine ⟨?_, ?_, fun hs => (hnd hs).sublist (List.take_sublist _ _), fun c hc => hmem c (List.mem_of_mem_take hc)⟩
    · rw [List.length_take]; omega
    · rw [List.length_take]; omega
end K28
end HP
end

section
set_option Elab.async false
set_option linter.all false
set_option maxRecDepth 100000
set_option maxHeartbeats 16000000
namespace HP
namespace K28
/-! drawn stocks -/
def SG : List Char := ['0', '1', '2', '3', '4', '5', '6', '7', '8', '9', 'a', 'b', 'c', 'd', 'e', 'f', 'g', 'h', 'i', 'j', 'k', 'l', 'm', 'n', 'o', 'p', 'q', 'r', 's', 't', 'u', 'v', 'w', 'x', 'y', 'z']
theorem SG_nd : SG.Nodup := by decide +kernel
theorem SG_len : SG.length = 36 := rfl
def col (k : Nat) : List Char := pyStep SG k 8
theorem g2 (o L x : O) (J : Mem) : (o :: L :: (J ++ [x]))[J.length + 2]? = some x := by simp
theorem t2 (o L x y : O) (J : Mem) : (o :: L :: (J ++ [x])).set (J.length + 2) y = o :: L :: (J ++ [y]) := by simp
theorem slot_self : SlotOf SG SG := ⟨by decide, Nat.le_refl _, fun h => h, fun c h => h⟩
theorem slot_col {k : Nat} {u : List Char} (h : SlotOf (col k) u) : SlotOf SG u :=
  ⟨h.1, Nat.le_trans h.2.1 (step_len _ _ _ (by decide)), fun hs => h.2.2.1 (step_nodup hs _ _ (by decide)), fun c hc => List.mem_of_getElem? (step_mem (h.2.2.2 c hc)).choose_spec⟩
/-- the values that stand still in the loops -/
def fr (most : Int) (longs : List Int) (apart : Int) : List (Option Vl) := [some (.d (.int most)), some (.d (.str SG)), some (.d (.lst (longs.map D.int))), some (.d (.int apart)), some (.ref 1)]
theorem stock_step (k0 : Nat) (hk : 2 ≤ k0) (o L : O) (J : Mem) (h : DI o) (x1 : Option Vl) (longs : List Int) (most apart : Int) (hm : 0 < most ∧ most < 1000) (k n : Nat) (hk8 : k < 8) (us : List (List Char)) (hu : us.length < 100) :
    ∃ (u : List Char) (o' : O), evSs (cx P k0) w1_L_stock_of (some (.ref 0) :: x1 :: (fr most longs apart ++ [some (.d (.int k)), some (.ref (J.length + 2)), some (.d (.int n))])) (o :: L :: (J ++ [.lst (us.map fun s => .d (.str s))])) =
      .nx (some (.ref 0) :: x1 :: (fr most longs apart ++ [some (.d (.int k)), some (.ref (J.length + 2)), some (.d (.int n))])) (o' :: L :: (J ++ [.lst ((us ++ [u]).map fun s => .d (.str s))])) ∧ DI o' ∧ SlotOf SG u ∧ ((n : Int) = apart → SlotOf (col k) u) := by
  have hz : szLt (us.map fun s => Vl.d (.str s)).length = true := szLt_of (by rw [List.length_map]; omega)
  have hap : ∀ u : List Char, (us.map fun s => Vl.d (.str s)) ++ [Vl.d (.str u)] = (us ++ [u]).map fun s => .d (.str s) := fun u => by rw [List.map_append]; rfl
  have hB : pyB SG.length 0 (some (k : Int)) = k := by
    show (if (k : Int) < 0 then ((k : Int) + (SG.length : Int)).toNat else min (k : Int).toNat SG.length) = k
    rw [if_neg (by omega), Int.toNat_natCast, SG_len]
    omega
  have hcol : pyStep SG k (8 : Int).toNat = col k := rfl
  by_cases ha : (n : Int) = apart
  · have hb : ((n : Int) == apart) = true := by simp [ha]
    obtain ⟨u, o1, e1, d1, s1⟩ := s_slot k0 hk o (L :: (J ++ [.lst (us.map fun s => .d (.str s))])) h (col k) (step_pos (by decide) (by rw [SG_len]; omega)) (step_len SG k 8 (by decide)) most hm
    refine ⟨u, o1, ?_, d1, slot_col s1, fun _ => s1⟩
    rw [← hap]
    rw [fr]
    simp only [eS_nil, eS_cons, eA_nil, eA_cons, eE_c, eE_v, eE_bin, eE_neg, eE_not, eE_and, eE_or, eE_cmp, eE_chain, eE_ite, eE_tup, eE_lst, eE_ix, eE_sl, eE_sls, eE_call, eE_pr, eE_mt, eE_comp, eE_frz, eE_prt, eT_asg, eT_setix, eT_aug, eT_ex, eT_ret, eT_retn, eT_ite, eT_for, eT_whl, eT_brk, eT_cnt, eT_pass, eT_frz, eT_fgt, then1_ok, then2_ok, then3_ok, then4_ok, e_okc, ofO_some, getS_zero, getS_succ, fl1_ok, seqK_nx, seqK_rt, seqK_ct, seqK_bk, e_asgn, e_exE, e_exU, e_ret, e_setE, e_if, if2_true, if2_false, iteK_ok, ite2_true, ite2_false, andK_ok, and2_true, and2_false, orK_ok, or2_true, or2_false, notop, e_neg, chainop, chain1_ok, chain2_true, chain2_false, need_true, List.set_cons_zero, List.set_cons_succ, cx_call, truth_bl, truth_int, truth_str, truth_tup, truth_lst, truth_non, bin_add, bin_adds, bin_addt, bin_addl, bin_sub, bin_mul, bin_fdiv, bin_mod, bin_shl, bin_pow, bin_band, cmp_lt, cmp_le, cmp_gt, cmp_ge, cmp_eqi, cmp_nei, cmp_eqs, cmp_nes, cmp_is, cmp_isn, in_str, p_lens, p_lent, p_lenl, p_int, p_divmod, ix_t, ix_l, ix_s, ix_r, e_for, it_t, it_l, it_s, it_rng, it_rng2, it_rev, it_zip, e_int, sl_s1, sl_s2, sl_s3, sls_1, sls_2, isi_int_int, isi_int_str, isi_int_bool, isi_int_tuple, isi_int_list, isi_str_int, isi_str_str, isi_str_bool, isi_str_tuple, isi_str_list, isi_bl_int, isi_bl_str, isi_bl_bool, isi_bl_tuple, isi_bl_list, isi_non_int, isi_non_str, isi_non_bool, isi_non_tuple, isi_non_list, isi_tup_int, isi_tup_str, isi_tup_bool, isi_tup_tuple, isi_tup_list, isi_lst_int, isi_lst_str, isi_lst_bool, isi_lst_tuple, isi_lst_list, comp_seq, comp_seqs, comp_rng,  e_asgt, asgU_some, mk_lstT, mk_lstF0, mk_lstF1, mk_lstF2, szOk_0, last_get, last_set, rc_join, rc_find, rc_index, mt_find, setT_t, setTs_nil, setTs_n, still_d, still_rng, still_rev, still_zip, turnK_nx, turnK_ct, turnK_bk, turnK_rt, forL_nil, forL_cons, List.map_cons, List.map_nil, pyIx_nat, pyIx_lit, pyIxN_lit, seq_ref0, e_setix0, cpow_draw, cpow_30, List.length_cons, List.length_nil, Nat.reduceAdd, Nat.reduceLT, Int.reduceLT, Int.reduceLE, decide_true, decide_false, reduceIte, List.getElem?_cons_zero, List.getElem?_cons_succ, w1_L_stock_of, List.cons_append, List.nil_append, hb, rc_append _ _ (g2 _ _ _ _), and_self, hB, hcol, e1, mt_append _ _ _ (g2 _ _ _ _), hz, t2]
  · have hb : ((n : Int) == apart) = false := by simp [ha]
    by_cases h36 : most = 36
    · subst h36
      obtain ⟨r, o1, e1, d1, a1, b1⟩ := dr k0 (by omega) o (L :: (J ++ [.lst (us.map fun s => .d (.str s))])) h 3 (.inr (div_small (by decide) (by decide)))
      by_cases hr : r = 0
      · subst hr
        refine ⟨SG, o1, ?_, d1, slot_self, fun z => absurd z ha⟩
        rw [← hap, fr]
        simp only [eS_nil, eS_cons, eA_nil, eA_cons, eE_c, eE_v, eE_bin, eE_neg, eE_not, eE_and, eE_or, eE_cmp, eE_chain, eE_ite, eE_tup, eE_lst, eE_ix, eE_sl, eE_sls, eE_call, eE_pr, eE_mt, eE_comp, eE_frz, eE_prt, eT_asg, eT_setix, eT_aug, eT_ex, eT_ret, eT_retn, eT_ite, eT_for, eT_whl, eT_brk, eT_cnt, eT_pass, eT_frz, eT_fgt, then1_ok, then2_ok, then3_ok, then4_ok, e_okc, ofO_some, getS_zero, getS_succ, fl1_ok, seqK_nx, seqK_rt, seqK_ct, seqK_bk, e_asgn, e_exE, e_exU, e_ret, e_setE, e_if, if2_true, if2_false, iteK_ok, ite2_true, ite2_false, andK_ok, and2_true, and2_false, orK_ok, or2_true, or2_false, notop, e_neg, chainop, chain1_ok, chain2_true, chain2_false, need_true, List.set_cons_zero, List.set_cons_succ, cx_call, truth_bl, truth_int, truth_str, truth_tup, truth_lst, truth_non, bin_add, bin_adds, bin_addt, bin_addl, bin_sub, bin_mul, bin_fdiv, bin_mod, bin_shl, bin_pow, bin_band, cmp_lt, cmp_le, cmp_gt, cmp_ge, cmp_eqi, cmp_nei, cmp_eqs, cmp_nes, cmp_is, cmp_isn, in_str, p_lens, p_lent, p_lenl, p_int, p_divmod, ix_t, ix_l, ix_s, ix_r, e_for, it_t, it_l, it_s, it_rng, it_rng2, it_rev, it_zip, e_int, sl_s1, sl_s2, sl_s3, sls_1, sls_2, isi_int_int, isi_int_str, isi_int_bool, isi_int_tuple, isi_int_list, isi_str_int, isi_str_str, isi_str_bool, isi_str_tuple, isi_str_list, isi_bl_int, isi_bl_str, isi_bl_bool, isi_bl_tuple, isi_bl_list, isi_non_int, isi_non_str, isi_non_bool, isi_non_tuple, isi_non_list, isi_tup_int, isi_tup_str, isi_tup_bool, isi_tup_tuple, isi_tup_list, isi_lst_int, isi_lst_str, isi_lst_bool, isi_lst_tuple, isi_lst_list, comp_seq, comp_seqs, comp_rng,  e_asgt, asgU_some, mk_lstT, mk_lstF0, mk_lstF1, mk_lstF2, szOk_0, last_get, last_set, rc_join, rc_find, rc_index, mt_find, setT_t, setTs_nil, setTs_n, still_d, still_rng, still_rev, still_zip, turnK_nx, turnK_ct, turnK_bk, turnK_rt, forL_nil, forL_cons, List.map_cons, List.map_nil, pyIx_nat, pyIx_lit, pyIxN_lit, seq_ref0, e_setix0, cpow_draw, cpow_30, List.length_cons, List.length_nil, Nat.reduceAdd, Nat.reduceLT, Int.reduceLT, Int.reduceLE, decide_true, decide_false, reduceIte, List.getElem?_cons_zero, List.getElem?_cons_succ, w1_L_stock_of, List.cons_append, List.nil_append, hb, beq_self_eq_true, e1, rc_append _ _ (g2 _ _ _ _), mt_append _ _ _ (g2 _ _ _ _), hz, t2]
      · have hr0 : (r == 0) = false := by simp [hr]
        obtain ⟨u, o2, e2, d2, s2⟩ := s_slot k0 hk o1 (L :: (J ++ [.lst (us.map fun s => .d (.str s))])) d1 SG (by decide) (by decide) 36 hm
        refine ⟨u, o2, ?_, d2, s2, fun z => absurd z ha⟩
        rw [← hap, fr]
        simp only [eS_nil, eS_cons, eA_nil, eA_cons, eE_c, eE_v, eE_bin, eE_neg, eE_not, eE_and, eE_or, eE_cmp, eE_chain, eE_ite, eE_tup, eE_lst, eE_ix, eE_sl, eE_sls, eE_call, eE_pr, eE_mt, eE_comp, eE_frz, eE_prt, eT_asg, eT_setix, eT_aug, eT_ex, eT_ret, eT_retn, eT_ite, eT_for, eT_whl, eT_brk, eT_cnt, eT_pass, eT_frz, eT_fgt, then1_ok, then2_ok, then3_ok, then4_ok, e_okc, ofO_some, getS_zero, getS_succ, fl1_ok, seqK_nx, seqK_rt, seqK_ct, seqK_bk, e_asgn, e_exE, e_exU, e_ret, e_setE, e_if, if2_true, if2_false, iteK_ok, ite2_true, ite2_false, andK_ok, and2_true, and2_false, orK_ok, or2_true, or2_false, notop, e_neg, chainop, chain1_ok, chain2_true, chain2_false, need_true, List.set_cons_zero, List.set_cons_succ, cx_call, truth_bl, truth_int, truth_str, truth_tup, truth_lst, truth_non, bin_add, bin_adds, bin_addt, bin_addl, bin_sub, bin_mul, bin_fdiv, bin_mod, bin_shl, bin_pow, bin_band, cmp_lt, cmp_le, cmp_gt, cmp_ge, cmp_eqi, cmp_nei, cmp_eqs, cmp_nes, cmp_is, cmp_isn, in_str, p_lens, p_lent, p_lenl, p_int, p_divmod, ix_t, ix_l, ix_s, ix_r, e_for, it_t, it_l, it_s, it_rng, it_rng2, it_rev, it_zip, e_int, sl_s1, sl_s2, sl_s3, sls_1, sls_2, isi_int_int, isi_int_str, isi_int_bool, isi_int_tuple, isi_int_list, isi_str_int, isi_str_str, isi_str_bool, isi_str_tuple, isi_str_list, isi_bl_int, isi_bl_str, isi_bl_bool, isi_bl_tuple, isi_bl_list, isi_non_int, isi_non_str, isi_non_bool, isi_non_tuple, isi_non_list, isi_tup_int, isi_tup_str, isi_tup_bool, isi_tup_tuple, isi_tup_list, isi_lst_int, isi_lst_str, isi_lst_bool, isi_lst_tuple, isi_lst_list, comp_seq, comp_seqs, comp_rng,  e_asgt, asgU_some, mk_lstT, mk_lstF0, mk_lstF1, mk_lstF2, szOk_0, last_get, last_set, rc_join, rc_find, rc_index, mt_find, setT_t, setTs_nil, setTs_n, still_d, still_rng, still_rev, still_zip, turnK_nx, turnK_ct, turnK_bk, turnK_rt, forL_nil, forL_cons, List.map_cons, List.map_nil, pyIx_nat, pyIx_lit, pyIxN_lit, seq_ref0, e_setix0, cpow_draw, cpow_30, List.length_cons, List.length_nil, Nat.reduceAdd, Nat.reduceLT, Int.reduceLT, Int.reduceLE, decide_true, decide_false, reduceIte, List.getElem?_cons_zero, List.getElem?_cons_succ, w1_L_stock_of, List.cons_append, List.nil_append, hb, beq_self_eq_true, e1, hr0, rc_append _ _ (g2 _ _ _ _), e2, mt_append _ _ _ (g2 _ _ _ _), hz, t2]
    · have h0 : (most == 36) = false := by simp [h36]
      obtain ⟨u, o2, e2, d2, s2⟩ := s_slot k0 hk o (L :: (J ++ [.lst (us.map fun s => .d (.str s))])) h SG (by decide) (by decide) most hm
      refine ⟨u, o2, ?_, d2, s2, fun z => absurd z ha⟩
      rw [← hap, fr]
      simp only [eS_nil, eS_cons, eA_nil, eA_cons, eE_c, eE_v, eE_bin, eE_neg, eE_not, eE_and, eE_or, eE_cmp, eE_chain, eE_ite, eE_tup, eE_lst, eE_ix, eE_sl, eE_sls, eE_call, eE_pr, eE_mt, eE_comp, eE_frz, eE_prt, eT_asg, eT_setix, eT_aug, eT_ex, eT_ret, eT_retn, eT_ite, eT_for, eT_whl, eT_brk, eT_cnt, eT_pass, eT_frz, eT_fgt, then1_ok, then2_ok, then3_ok, then4_ok, e_okc, ofO_some, getS_zero, getS_succ, fl1_ok, seqK_nx, seqK_rt, seqK_ct, seqK_bk, e_asgn, e_exE, e_exU, e_ret, e_setE, e_if, if2_true, if2_false, iteK_ok, ite2_true, ite2_false, andK_ok, and2_true, and2_false, orK_ok, or2_true, or2_false, notop, e_neg, chainop, chain1_ok, chain2_true, chain2_false, need_true, List.set_cons_zero, List.set_cons_succ, cx_call, truth_bl, truth_int, truth_str, truth_tup, truth_lst, truth_non, bin_add, bin_adds, bin_addt, bin_addl, bin_sub, bin_mul, bin_fdiv, bin_mod, bin_shl, bin_pow, bin_band, cmp_lt, cmp_le, cmp_gt, cmp_ge, cmp_eqi, cmp_nei, cmp_eqs, cmp_nes, cmp_is, cmp_isn, in_str, p_lens, p_lent, p_lenl, p_int, p_divmod, ix_t, ix_l, ix_s, ix_r, e_for, it_t, it_l, it_s, it_rng, it_rng2, it_rev, it_zip, e_int, sl_s1, sl_s2, sl_s3, sls_1, sls_2, isi_int_int, isi_int_str, isi_int_bool, isi_int_tuple, isi_int_list, isi_str_int, isi_str_str, isi_str_bool, isi_str_tuple, isi_str_list, isi_bl_int, isi_bl_str, isi_bl_bool, isi_bl_tuple, isi_bl_list, isi_non_int, isi_non_str, isi_non_bool, isi_non_tuple, isi_non_list, isi_tup_int, isi_tup_str, isi_tup_bool, isi_tup_tuple, isi_tup_list, isi_lst_int, isi_lst_str, isi_lst_bool, isi_lst_tuple, isi_lst_list, comp_seq, comp_seqs, comp_rng,  e_asgt, asgU_some, mk_lstT, mk_lstF0, mk_lstF1, mk_lstF2, szOk_0, last_get, last_set, rc_join, rc_find, rc_index, mt_find, setT_t, setTs_nil, setTs_n, still_d, still_rng, still_rev, still_zip, turnK_nx, turnK_ct, turnK_bk, turnK_rt, forL_nil, forL_cons, List.map_cons, List.map_nil, pyIx_nat, pyIx_lit, pyIxN_lit, seq_ref0, e_setix0, cpow_draw, cpow_30, List.length_cons, List.length_nil, Nat.reduceAdd, Nat.reduceLT, Int.reduceLT, Int.reduceLE, decide_true, decide_false, reduceIte, List.getElem?_cons_zero, List.getElem?_cons_succ, w1_L_stock_of, List.cons_append, List.nil_append, hb, h0, rc_append _ _ (g2 _ _ _ _), e2, mt_append _ _ _ (g2 _ _ _ _), hz, t2]
/-- what the slots of the k-th pattern are like, from place n on -/
def Slots (k : Nat) (apart : Int) (n : Nat) (us : List (List Char)) : Prop := ∀ i u, us[i]? = some u → SlotOf SG u ∧ (((n + i : Nat) : Int) = apart → SlotOf (col k) u)
theorem stock_inner (k0 : Nat) (hk : 2 ≤ k0) (L : O) (J : Mem) (x1 : Option Vl) (longs : List Int) (most apart : Int) (hm : 0 < most ∧ most < 1000) (k : Nat) (hk8 : k < 8) : ∀ (r n : Nat) (us : List (List Char)) (o : O) (z : Option Vl), DI o → us.length + r < 100 →
    ∃ (vs : List (List Char)) (o' : O) (z' : Option Vl), forL (evSs (cx P k0) w1_L_stock_of) (.n 9) (fun _ => true) ((List.range' n r).map fun (i : Nat) => Vl.d (.int (i : Int))) [some (.ref 0), x1, some (.d (.int most)), some (.d (.str SG)), some (.d (.lst (longs.map D.int))), some (.d (.int apart)), some (.ref 1), some (.d (.int k)), some (.ref (J.length + 2)), z] (o :: L :: (J ++ [.lst (us.map fun s => .d (.str s))])) =
      .nx [some (.ref 0), x1, some (.d (.int most)), some (.d (.str SG)), some (.d (.lst (longs.map D.int))), some (.d (.int apart)), some (.ref 1), some (.d (.int k)), some (.ref (J.length + 2)), z'] (o' :: L :: (J ++ [.lst ((us ++ vs).map fun s => .d (.str s))])) ∧ DI o' ∧ vs.length = r ∧ Slots k apart n vs
  | 0, n, us, o, z, h, _ => ⟨[], o, z, by rw [List.append_nil]; rfl, h, rfl, fun i u e => by simp at e⟩
  | r + 1, n, us, o, z, h, hu => by
    obtain ⟨u, o1, e1, d1, s1, s2⟩ := stock_step k0 hk o L J h x1 longs most apart hm k n hk8 us (by omega)
    obtain ⟨vs, o2, z2, e2, d2, l2, p2⟩ := stock_inner k0 hk L J x1 longs most apart hm k hk8 r (n + 1) (us ++ [u]) o1 (some (.d (.int n))) d1 (by rw [List.length_append, List.length_singleton]; omega)
    simp only [fr, List.cons_append, List.nil_append] at e1
    refine ⟨u :: vs, o2, z2, ?_, d2, by rw [List.length_cons, l2], fun i v hv => ?_⟩
    · rw [List.range'_succ]
      simp only [eS_nil, eS_cons, eA_nil, eA_cons, eE_c, eE_v, eE_bin, eE_neg, eE_not, eE_and, eE_or, eE_cmp, eE_chain, eE_ite, eE_tup, eE_lst, eE_ix, eE_sl, eE_sls, eE_call, eE_pr, eE_mt, eE_comp, eE_frz, eE_prt, eT_asg, eT_setix, eT_aug, eT_ex, eT_ret, eT_retn, eT_ite, eT_for, eT_whl, eT_brk, eT_cnt, eT_pass, eT_frz, eT_fgt, then1_ok, then2_ok, then3_ok, then4_ok, e_okc, ofO_some, getS_zero, getS_succ, fl1_ok, seqK_nx, seqK_rt, seqK_ct, seqK_bk, e_asgn, e_exE, e_exU, e_ret, e_setE, e_if, if2_true, if2_false, iteK_ok, ite2_true, ite2_false, andK_ok, and2_true, and2_false, orK_ok, or2_true, or2_false, notop, e_neg, chainop, chain1_ok, chain2_true, chain2_false, need_true, List.set_cons_zero, List.set_cons_succ, cx_call, truth_bl, truth_int, truth_str, truth_tup, truth_lst, truth_non, bin_add, bin_adds, bin_addt, bin_addl, bin_sub, bin_mul, bin_fdiv, bin_mod, bin_shl, bin_pow, bin_band, cmp_lt, cmp_le, cmp_gt, cmp_ge, cmp_eqi, cmp_nei, cmp_eqs, cmp_nes, cmp_is, cmp_isn, in_str, p_lens, p_lent, p_lenl, p_int, p_divmod, ix_t, ix_l, ix_s, ix_r, e_for, it_t, it_l, it_s, it_rng, it_rng2, it_rev, it_zip, e_int, sl_s1, sl_s2, sl_s3, sls_1, sls_2, isi_int_int, isi_int_str, isi_int_bool, isi_int_tuple, isi_int_list, isi_str_int, isi_str_str, isi_str_bool, isi_str_tuple, isi_str_list, isi_bl_int, isi_bl_str, isi_bl_bool, isi_bl_tuple, isi_bl_list, isi_non_int, isi_non_str, isi_non_bool, isi_non_tuple, isi_non_list, isi_tup_int, isi_tup_str, isi_tup_bool, isi_tup_tuple, isi_tup_list, isi_lst_int, isi_lst_str, isi_lst_bool, isi_lst_tuple, isi_lst_list, comp_seq, comp_seqs, comp_rng,  e_asgt, asgU_some, mk_lstT, mk_lstF0, mk_lstF1, mk_lstF2, szOk_0, last_get, last_set, rc_join, rc_find, rc_index, mt_find, setT_t, setTs_nil, setTs_n, still_d, still_rng, still_rev, still_zip, turnK_nx, turnK_ct, turnK_bk, turnK_rt, forL_nil, forL_cons, List.map_cons, List.map_nil, pyIx_nat, pyIx_lit, pyIxN_lit, seq_ref0, e_setix0, cpow_draw, cpow_30, List.length_cons, List.length_nil, Nat.reduceAdd, Nat.reduceLT, Int.reduceLT, Int.reduceLE, decide_true, decide_false, reduceIte, List.getElem?_cons_zero, List.getElem?_cons_succ]
      rw [e1]
      simp only [eS_nil, eS_cons, eA_nil, eA_cons, eE_c, eE_v, eE_bin, eE_neg, eE_not, eE_and, eE_or, eE_cmp, eE_chain, eE_ite, eE_tup, eE_lst, eE_ix, eE_sl, eE_sls, eE_call, eE_pr, eE_mt, eE_comp, eE_frz, eE_prt, eT_asg, eT_setix, eT_aug, eT_ex, eT_ret, eT_retn, eT_ite, eT_for, eT_whl, eT_brk, eT_cnt, eT_pass, eT_frz, eT_fgt, then1_ok, then2_ok, then3_ok, then4_ok, e_okc, ofO_some, getS_zero, getS_succ, fl1_ok, seqK_nx, seqK_rt, seqK_ct, seqK_bk, e_asgn, e_exE, e_exU, e_ret, e_setE, e_if, if2_true, if2_false, iteK_ok, ite2_true, ite2_false, andK_ok, and2_true, and2_false, orK_ok, or2_true, or2_false, notop, e_neg, chainop, chain1_ok, chain2_true, chain2_false, need_true, List.set_cons_zero, List.set_cons_succ, cx_call, truth_bl, truth_int, truth_str, truth_tup, truth_lst, truth_non, bin_add, bin_adds, bin_addt, bin_addl, bin_sub, bin_mul, bin_fdiv, bin_mod, bin_shl, bin_pow, bin_band, cmp_lt, cmp_le, cmp_gt, cmp_ge, cmp_eqi, cmp_nei, cmp_eqs, cmp_nes, cmp_is, cmp_isn, in_str, p_lens, p_lent, p_lenl, p_int, p_divmod, ix_t, ix_l, ix_s, ix_r, e_for, it_t, it_l, it_s, it_rng, it_rng2, it_rev, it_zip, e_int, sl_s1, sl_s2, sl_s3, sls_1, sls_2, isi_int_int, isi_int_str, isi_int_bool, isi_int_tuple, isi_int_list, isi_str_int, isi_str_str, isi_str_bool, isi_str_tuple, isi_str_list, isi_bl_int, isi_bl_str, isi_bl_bool, isi_bl_tuple, isi_bl_list, isi_non_int, isi_non_str, isi_non_bool, isi_non_tuple, isi_non_list, isi_tup_int, isi_tup_str, isi_tup_bool, isi_tup_tuple, isi_tup_list, isi_lst_int, isi_lst_str, isi_lst_bool, isi_lst_tuple, isi_lst_list, comp_seq, comp_seqs, comp_rng,  e_asgt, asgU_some, mk_lstT, mk_lstF0, mk_lstF1, mk_lstF2, szOk_0, last_get, last_set, rc_join, rc_find, rc_index, mt_find, setT_t, setTs_nil, setTs_n, still_d, still_rng, still_rev, still_zip, turnK_nx, turnK_ct, turnK_bk, turnK_rt, forL_nil, forL_cons, List.map_cons, List.map_nil, pyIx_nat, pyIx_lit, pyIxN_lit, seq_ref0, e_setix0, cpow_draw, cpow_30, List.length_cons, List.length_nil, Nat.reduceAdd, Nat.reduceLT, Int.reduceLT, Int.reduceLE, decide_true, decide_false, reduceIte, List.getElem?_cons_zero, List.getElem?_cons_succ]
      rw [e2, List.append_assoc]
      rfl
    · cases i with
      | zero =>
        simp at hv
        subst hv
        exact ⟨s1, fun e => s2 (by omega)⟩
      | succ i =>
        have q := p2 i v (by simpa using hv)
        exact ⟨q.1, fun e => q.2 (by omega)⟩
theorem p_tupr (n : Nat) (m : Mem) (ss : List (List Char)) (h : m[n]? = some (.lst (ss.map fun s => Vl.d (.str s)))) : prim .tuple [.ref n] m = .ok (.d (dp ss)) m := by
  have e1 : lstOf (.ref n) m = some (ss.map D.str) := by
    show (match m[n]? with | some (.lst xs) => pures xs | _ => none) = _
    rw [h]
    have : (ss.map fun s => Vl.d (.str s)) = (ss.map D.str).map Vl.d := by rw [List.map_map]; rfl
    rw [this]
    exact pures_map _
  show (match lstOf (.ref n) m with | some xs => R.ok (Vl.d (.tup xs)) m | none => .st) = _
  rw [e1]
  rfl
theorem p_tups (n : Nat) (m : Mem) (ss : List Pat) (h : m[n]? = some (.lst (ss.map fun s => Vl.d (dp s)))) : prim .tuple [.ref n] m = .ok (.d (ds ss)) m := by
  have e1 : lstOf (.ref n) m = some (ss.map dp) := by
    show (match m[n]? with | some (.lst xs) => pures xs | _ => none) = _
    rw [h]
    have : (ss.map fun s => Vl.d (dp s)) = (ss.map dp).map Vl.d := by rw [List.map_map]; rfl
    rw [this]
    exact pures_map _
  show (match lstOf (.ref n) m with | some xs => R.ok (Vl.d (.tup xs)) m | none => .st) = _
  rw [e1]
  rfl
theorem g1 (o L : O) (J : Mem) : (o :: L :: J)[1]? = some L := rfl
theorem t1 (o L L' : O) (J : Mem) : (o :: L :: J).set 1 L' = o :: L' :: J := rfl
theorem stock_turn (k0 : Nat) (hk : 2 ≤ k0) (F : List Pat) (J : Mem) (x1 : Option Vl) (longs : List Int) (most apart : Int) (hm : 0 < most ∧ most < 1000) (k : Nat) (hk8 : k < 8) (n : Nat) (hn : longs[k]? = some (n : Int)) (hn8 : n ≤ 8) (hF : F.length < 100) (o : O) (h : DI o) (y z : Option Vl) :
    ∃ (p : Pat) (o' : O) (J' : Mem) (y' z' : Option Vl), evSs (cx P k0) w2_L_stock_of [some (.ref 0), x1, some (.d (.int most)), some (.d (.str SG)), some (.d (.lst (longs.map D.int))), some (.d (.int apart)), some (.ref 1), some (.d (.int k)), y, z] (o :: .lst (F.map fun s => .d (dp s)) :: J) =
      .nx [some (.ref 0), x1, some (.d (.int most)), some (.d (.str SG)), some (.d (.lst (longs.map D.int))), some (.d (.int apart)), some (.ref 1), some (.d (.int k)), y', z'] (o' :: .lst ((F ++ [p]).map fun s => .d (dp s)) :: J') ∧ DI o' ∧ p.length = n ∧ Slots k apart 0 p := by
  obtain ⟨vs, o1, z1, e1, d1, l1, p1⟩ := stock_inner k0 hk (.lst (F.map fun s => .d (dp s))) J x1 longs most apart hm k hk8 n 0 [] o z h (by rw [List.length_nil]; omega)
  rw [List.nil_append, ← List.range_eq_range', List.map_nil] at e1
  refine ⟨vs, o1, J ++ [.lst (vs.map fun s => .d (.str s))], some (.ref (J.length + 2)), z1, ?_, d1, l1, p1⟩
  have hg : ((longs.map D.int).map Vl.d)[k]? = some (.d (.int (n : Int))) := by simp [hn]
  have hr : decide (-1000000000 ≤ (n : Int) ∧ (n : Int) ≤ 1000000000) = true := decide_eq_true ⟨by omega, by omega⟩
  have hz : szLt (F.map fun s => Vl.d (dp s)).length = true := szLt_of (by rw [List.length_map]; omega)
  have hl : (o :: O.lst (F.map fun s => .d (dp s)) :: J).length = J.length + 2 := rfl
  have ha : (o :: O.lst (F.map fun s => .d (dp s)) :: J) ++ [O.lst []] = o :: .lst (F.map fun s => .d (dp s)) :: (J ++ [.lst []]) := rfl
  have hmk : mkLst true [] (o :: O.lst (F.map fun s => .d (dp s)) :: J) = .ok (.ref (J.length + 2)) (o :: .lst (F.map fun s => .d (dp s)) :: (J ++ [.lst []])) := rfl
  have hap : (F.map fun s => Vl.d (dp s)) ++ [Vl.d (dp vs)] = (F ++ [vs]).map fun s => .d (dp s) := by rw [List.map_append]; rfl
  rw [← hap]
  simp only [eS_nil, eS_cons, eA_nil, eA_cons, eE_c, eE_v, eE_bin, eE_neg, eE_not, eE_and, eE_or, eE_cmp, eE_chain, eE_ite, eE_tup, eE_lst, eE_ix, eE_sl, eE_sls, eE_call, eE_pr, eE_mt, eE_comp, eE_frz, eE_prt, eT_asg, eT_setix, eT_aug, eT_ex, eT_ret, eT_retn, eT_ite, eT_for, eT_whl, eT_brk, eT_cnt, eT_pass, eT_frz, eT_fgt, then1_ok, then2_ok, then3_ok, then4_ok, e_okc, ofO_some, getS_zero, getS_succ, fl1_ok, seqK_nx, seqK_rt, seqK_ct, seqK_bk, e_asgn, e_exE, e_exU, e_ret, e_setE, e_if, if2_true, if2_false, iteK_ok, ite2_true, ite2_false, andK_ok, and2_true, and2_false, orK_ok, or2_true, or2_false, notop, e_neg, chainop, chain1_ok, chain2_true, chain2_false, need_true, List.set_cons_zero, List.set_cons_succ, cx_call, truth_bl, truth_int, truth_str, truth_tup, truth_lst, truth_non, bin_add, bin_adds, bin_addt, bin_addl, bin_sub, bin_mul, bin_fdiv, bin_mod, bin_shl, bin_pow, bin_band, cmp_lt, cmp_le, cmp_gt, cmp_ge, cmp_eqi, cmp_nei, cmp_eqs, cmp_nes, cmp_is, cmp_isn, in_str, p_lens, p_lent, p_lenl, p_int, p_divmod, ix_t, ix_l, ix_s, ix_r, e_for, it_t, it_l, it_s, it_rng, it_rng2, it_rev, it_zip, e_int, sl_s1, sl_s2, sl_s3, sls_1, sls_2, isi_int_int, isi_int_str, isi_int_bool, isi_int_tuple, isi_int_list, isi_str_int, isi_str_str, isi_str_bool, isi_str_tuple, isi_str_list, isi_bl_int, isi_bl_str, isi_bl_bool, isi_bl_tuple, isi_bl_list, isi_non_int, isi_non_str, isi_non_bool, isi_non_tuple, isi_non_list, isi_tup_int, isi_tup_str, isi_tup_bool, isi_tup_tuple, isi_tup_list, isi_lst_int, isi_lst_str, isi_lst_bool, isi_lst_tuple, isi_lst_list, comp_seq, comp_seqs, comp_rng,  e_asgt, asgU_some, mk_lstT, mk_lstF0, mk_lstF1, mk_lstF2, szOk_0, last_get, last_set, rc_join, rc_find, rc_index, mt_find, setT_t, setTs_nil, setTs_n, still_d, still_rng, still_rev, still_zip, turnK_nx, turnK_ct, turnK_bk, turnK_rt, forL_nil, forL_cons, List.map_cons, List.map_nil, pyIx_nat, pyIx_lit, pyIxN_lit, seq_ref0, e_setix0, cpow_draw, cpow_30, List.length_cons, List.length_nil, Nat.reduceAdd, Nat.reduceLT, Int.reduceLT, Int.reduceLE, decide_true, decide_false, reduceIte, List.getElem?_cons_zero, List.getElem?_cons_succ, w2_L_stock_of, hmk, hg, hr, Int.toNat_natCast, e1, rc_append _ _ (g1 _ _ _), p_tupr _ _ _ (g2 _ _ _ _), mt_append _ _ _ (g1 _ _ _), hz, t1]
theorem stock_loop (k0 : Nat) (hk : 2 ≤ k0) (x1 : Option Vl) (longs : List Int) (most apart : Int) (hm : 0 < most ∧ most < 1000) (hls : ∀ l ∈ longs, 1 ≤ l ∧ l ≤ 8) (hl8 : longs.length ≤ 8) : ∀ (r k : Nat) (F : List Pat) (J : Mem) (o : O) (w y z : Option Vl), DI o → k + r = longs.length → F.length + r < 100 →
    ∃ (ps : List Pat) (o' : O) (J' : Mem) (w' y' z' : Option Vl), forL (evSs (cx P k0) w2_L_stock_of) (.n 7) (fun _ => true) ((List.range' k r).map fun (i : Nat) => Vl.d (.int (i : Int))) [some (.ref 0), x1, some (.d (.int most)), some (.d (.str SG)), some (.d (.lst (longs.map D.int))), some (.d (.int apart)), some (.ref 1), w, y, z] (o :: .lst (F.map fun s => .d (dp s)) :: J) =
      .nx [some (.ref 0), x1, some (.d (.int most)), some (.d (.str SG)), some (.d (.lst (longs.map D.int))), some (.d (.int apart)), some (.ref 1), w', y', z'] (o' :: .lst ((F ++ ps).map fun s => .d (dp s)) :: J') ∧ DI o' ∧ ps.length = r ∧ ∀ i p, ps[i]? = some p → longs[k + i]? = some (p.length : Int) ∧ Slots (k + i) apart 0 p
  | 0, k, F, J, o, w, y, z, h, _, _ => ⟨[], o, J, w, y, z, by rw [List.append_nil]; rfl, h, rfl, fun i p e => by simp at e⟩
  | r + 1, k, F, J, o, w, y, z, h, hkr, hF => by
    have hlt : k < longs.length := by omega
    have hb := hls longs[k] (List.getElem_mem hlt)
    obtain ⟨n, hn⟩ : ∃ n : Nat, longs[k] = (n : Int) := ⟨longs[k].toNat, by omega⟩
    have hg : longs[k]? = some (n : Int) := by rw [List.getElem?_eq_getElem hlt, hn]
    obtain ⟨p, o1, J1, y1, z1, e1, d1, l1, p1⟩ := stock_turn k0 hk F J x1 longs most apart hm k (by omega) n hg (by omega) (by omega) o h y z
    obtain ⟨ps, o2, J2, w2, y2, z2, e2, d2, l2, p2⟩ := stock_loop k0 hk x1 longs most apart hm hls hl8 r (k + 1) (F ++ [p]) J1 o1 (some (.d (.int k))) y1 z1 d1 (by omega) (by rw [List.length_append, List.length_singleton]; omega)
    refine ⟨p :: ps, o2, J2, w2, y2, z2, ?_, d2, by rw [List.length_cons, l2], fun i q hq => ?_⟩
    · rw [List.range'_succ]
      simp only [eS_nil, eS_cons, eA_nil, eA_cons, eE_c, eE_v, eE_bin, eE_neg, eE_not, eE_and, eE_or, eE_cmp, eE_chain, eE_ite, eE_tup, eE_lst, eE_ix, eE_sl, eE_sls, eE_call, eE_pr, eE_mt, eE_comp, eE_frz, eE_prt, eT_asg, eT_setix, eT_aug, eT_ex, eT_ret, eT_retn, eT_ite, eT_for, eT_whl, eT_brk, eT_cnt, eT_pass, eT_frz, eT_fgt, then1_ok, then2_ok, then3_ok, then4_ok, e_okc, ofO_some, getS_zero, getS_succ, fl1_ok, seqK_nx, seqK_rt, seqK_ct, seqK_bk, e_asgn, e_exE, e_exU, e_ret, e_setE, e_if, if2_true, if2_false, iteK_ok, ite2_true, ite2_false, andK_ok, and2_true, and2_false, orK_ok, or2_true, or2_false, notop, e_neg, chainop, chain1_ok, chain2_true, chain2_false, need_true, List.set_cons_zero, List.set_cons_succ, cx_call, truth_bl, truth_int, truth_str, truth_tup, truth_lst, truth_non, bin_add, bin_adds, bin_addt, bin_addl, bin_sub, bin_mul, bin_fdiv, bin_mod, bin_shl, bin_pow, bin_band, cmp_lt, cmp_le, cmp_gt, cmp_ge, cmp_eqi, cmp_nei, cmp_eqs, cmp_nes, cmp_is, cmp_isn, in_str, p_lens, p_lent, p_lenl, p_int, p_divmod, ix_t, ix_l, ix_s, ix_r, e_for, it_t, it_l, it_s, it_rng, it_rng2, it_rev, it_zip, e_int, sl_s1, sl_s2, sl_s3, sls_1, sls_2, isi_int_int, isi_int_str, isi_int_bool, isi_int_tuple, isi_int_list, isi_str_int, isi_str_str, isi_str_bool, isi_str_tuple, isi_str_list, isi_bl_int, isi_bl_str, isi_bl_bool, isi_bl_tuple, isi_bl_list, isi_non_int, isi_non_str, isi_non_bool, isi_non_tuple, isi_non_list, isi_tup_int, isi_tup_str, isi_tup_bool, isi_tup_tuple, isi_tup_list, isi_lst_int, isi_lst_str, isi_lst_bool, isi_lst_tuple, isi_lst_list, comp_seq, comp_seqs, comp_rng,  e_asgt, asgU_some, mk_lstT, mk_lstF0, mk_lstF1, mk_lstF2, szOk_0, last_get, last_set, rc_join, rc_find, rc_index, mt_find, setT_t, setTs_nil, setTs_n, still_d, still_rng, still_rev, still_zip, turnK_nx, turnK_ct, turnK_bk, turnK_rt, forL_nil, forL_cons, List.map_cons, List.map_nil, pyIx_nat, pyIx_lit, pyIxN_lit, seq_ref0, e_setix0, cpow_draw, cpow_30, List.length_cons, List.length_nil, Nat.reduceAdd, Nat.reduceLT, Int.reduceLT, Int.reduceLE, decide_true, decide_false, reduceIte, List.getElem?_cons_zero, List.getElem?_cons_succ]
      rw [e1]
      simp only [eS_nil, eS_cons, eA_nil, eA_cons, eE_c, eE_v, eE_bin, eE_neg, eE_not, eE_and, eE_or, eE_cmp, eE_chain, eE_ite, eE_tup, eE_lst, eE_ix, eE_sl, eE_sls, eE_call, eE_pr, eE_mt, eE_comp, eE_frz, eE_prt, eT_asg, eT_setix, eT_aug, eT_ex, eT_ret, eT_retn, eT_ite, eT_for, eT_whl, eT_brk, eT_cnt, eT_pass, eT_frz, eT_fgt, then1_ok, then2_ok, then3_ok, then4_ok, e_okc, ofO_some, getS_zero, getS_succ, fl1_ok, seqK_nx, seqK_rt, seqK_ct, seqK_bk, e_asgn, e_exE, e_exU, e_ret, e_setE, e_if, if2_true, if2_false, iteK_ok, ite2_true, ite2_false, andK_ok, and2_true, and2_false, orK_ok, or2_true, or2_false, notop, e_neg, chainop, chain1_ok, chain2_true, chain2_false, need_true, List.set_cons_zero, List.set_cons_succ, cx_call, truth_bl, truth_int, truth_str, truth_tup, truth_lst, truth_non, bin_add, bin_adds, bin_addt, bin_addl, bin_sub, bin_mul, bin_fdiv, bin_mod, bin_shl, bin_pow, bin_band, cmp_lt, cmp_le, cmp_gt, cmp_ge, cmp_eqi, cmp_nei, cmp_eqs, cmp_nes, cmp_is, cmp_isn, in_str, p_lens, p_lent, p_lenl, p_int, p_divmod, ix_t, ix_l, ix_s, ix_r, e_for, it_t, it_l, it_s, it_rng, it_rng2, it_rev, it_zip, e_int, sl_s1, sl_s2, sl_s3, sls_1, sls_2, isi_int_int, isi_int_str, isi_int_bool, isi_int_tuple, isi_int_list, isi_str_int, isi_str_str, isi_str_bool, isi_str_tuple, isi_str_list, isi_bl_int, isi_bl_str, isi_bl_bool, isi_bl_tuple, isi_bl_list, isi_non_int, isi_non_str, isi_non_bool, isi_non_tuple, isi_non_list, isi_tup_int, isi_tup_str, isi_tup_bool, isi_tup_tuple, isi_tup_list, isi_lst_int, isi_lst_str, isi_lst_bool, isi_lst_tuple, isi_lst_list, comp_seq, comp_seqs, comp_rng,  e_asgt, asgU_some, mk_lstT, mk_lstF0, mk_lstF1, mk_lstF2, szOk_0, last_get, last_set, rc_join, rc_find, rc_index, mt_find, setT_t, setTs_nil, setTs_n, still_d, still_rng, still_rev, still_zip, turnK_nx, turnK_ct, turnK_bk, turnK_rt, forL_nil, forL_cons, List.map_cons, List.map_nil, pyIx_nat, pyIx_lit, pyIxN_lit, seq_ref0, e_setix0, cpow_draw, cpow_30, List.length_cons, List.length_nil, Nat.reduceAdd, Nat.reduceLT, Int.reduceLT, Int.reduceLE, decide_true, decide_false, reduceIte, List.getElem?_cons_zero, List.getElem?_cons_succ]
      rw [e2, List.append_assoc]
      rfl
    · cases i with
      | zero =>
        simp at hq
        subst hq
        exact ⟨by rw [Nat.add_zero, hg, l1], by rw [Nat.add_zero]; exact p1⟩
      | succ i =>
        have q2 := p2 i q (by simpa using hq)
        rw [show k + (i + 1) = k + 1 + i by omega]
        exact q2
theorem compL_n (c e : Sl → Mem → R Vl) (i : Nat) (σ : Sl) (x : Vl) (xs : List Vl) (m : Mem) (acc : List Vl) : compL c e (.n i) (fun _ => true) σ (x :: xs) m acc = compK e (compL c e (.n i) (fun _ => true) σ xs) (σ.set i (some x)) acc (c (σ.set i (some x)) m) := by
  simp only [compL, setT_n]
theorem compK_t (e : Sl → Mem → R Vl) (k : Mem → List Vl → R (List Vl)) (σ : Sl) (acc : List Vl) (m : Mem) : compK e k σ acc (.ok (.d (.bl true)) m) = compK2 k acc (e σ m) := rfl
theorem compK2_ok (k : Mem → List Vl → R (List Vl)) (acc : List Vl) (v : Vl) (m : Mem) : compK2 k acc (.ok v m) = need (szLt acc.length) (k m (acc ++ [v])) := rfl
theorem longs_comp (k0 : Nat) (hk : 1 ≤ k0) (longest : Nat) (hl : 1 ≤ longest ∧ longest ≤ 8) (x2 x3 : Option Vl) (μ : Mem) : ∀ (xs : List Vl) (acc : List Vl) (o : O), DI o → acc.length + xs.length < 100 →
    ∃ (ls : List Int) (o' : O), compL (evE (cx P k0) (.c (.bl true))) (evE (cx P k0) (.bin .add (.c (.int 1)) (.call 7 (.cons (.v 0) (.cons (.v 1) .nil))))) (.n 7) (fun _ => true) [some (.ref 0), some (.d (.int (longest : Int))), x2, x3, none, none, none, none, none, none] xs (o :: μ) acc = .ok (acc ++ (ls.map D.int).map Vl.d) (o' :: μ) ∧ DI o' ∧ ls.length = xs.length ∧ ∀ l ∈ ls, 1 ≤ l ∧ l ≤ longest
  | [], acc, o, h, _ => ⟨[], o, by rw [List.map_nil, List.map_nil, List.append_nil]; rfl, h, rfl, fun l hl => by simp at hl⟩
  | x :: xs, acc, o, h, hz => by
    rw [List.length_cons] at hz
    obtain ⟨r, o1, e1, d1, a1, b1⟩ := dr k0 hk o μ h (longest : Int) (.inr (div_small (by omega) (by omega)))
    obtain ⟨ls, o2, e2, d2, l2, p2⟩ := longs_comp k0 hk longest hl x2 x3 μ xs (acc ++ [.d (.int (1 + r))]) o1 d1 (by rw [List.length_append, List.length_singleton]; omega)
    refine ⟨(1 + r) :: ls, o2, ?_, d2, by rw [List.length_cons, List.length_cons, l2], fun l hl => ?_⟩
    · rw [compL_n]
      simp only [eS_nil, eS_cons, eA_nil, eA_cons, eE_c, eE_v, eE_bin, eE_neg, eE_not, eE_and, eE_or, eE_cmp, eE_chain, eE_ite, eE_tup, eE_lst, eE_ix, eE_sl, eE_sls, eE_call, eE_pr, eE_mt, eE_comp, eE_frz, eE_prt, eT_asg, eT_setix, eT_aug, eT_ex, eT_ret, eT_retn, eT_ite, eT_for, eT_whl, eT_brk, eT_cnt, eT_pass, eT_frz, eT_fgt, then1_ok, then2_ok, then3_ok, then4_ok, e_okc, ofO_some, getS_zero, getS_succ, fl1_ok, seqK_nx, seqK_rt, seqK_ct, seqK_bk, e_asgn, e_exE, e_exU, e_ret, e_setE, e_if, if2_true, if2_false, iteK_ok, ite2_true, ite2_false, andK_ok, and2_true, and2_false, orK_ok, or2_true, or2_false, notop, e_neg, chainop, chain1_ok, chain2_true, chain2_false, need_true, List.set_cons_zero, List.set_cons_succ, cx_call, truth_bl, truth_int, truth_str, truth_tup, truth_lst, truth_non, bin_add, bin_adds, bin_addt, bin_addl, bin_sub, bin_mul, bin_fdiv, bin_mod, bin_shl, bin_pow, bin_band, cmp_lt, cmp_le, cmp_gt, cmp_ge, cmp_eqi, cmp_nei, cmp_eqs, cmp_nes, cmp_is, cmp_isn, in_str, p_lens, p_lent, p_lenl, p_int, p_divmod, ix_t, ix_l, ix_s, ix_r, e_for, it_t, it_l, it_s, it_rng, it_rng2, it_rev, it_zip, e_int, sl_s1, sl_s2, sl_s3, sls_1, sls_2, isi_int_int, isi_int_str, isi_int_bool, isi_int_tuple, isi_int_list, isi_str_int, isi_str_str, isi_str_bool, isi_str_tuple, isi_str_list, isi_bl_int, isi_bl_str, isi_bl_bool, isi_bl_tuple, isi_bl_list, isi_non_int, isi_non_str, isi_non_bool, isi_non_tuple, isi_non_list, isi_tup_int, isi_tup_str, isi_tup_bool, isi_tup_tuple, isi_tup_list, isi_lst_int, isi_lst_str, isi_lst_bool, isi_lst_tuple, isi_lst_list, comp_seq, comp_seqs, comp_rng,  e_asgt, asgU_some, mk_lstT, mk_lstF0, mk_lstF1, mk_lstF2, szOk_0, last_get, last_set, rc_join, rc_find, rc_index, mt_find, setT_t, setTs_nil, setTs_n, still_d, still_rng, still_rev, still_zip, turnK_nx, turnK_ct, turnK_bk, turnK_rt, forL_nil, forL_cons, List.map_cons, List.map_nil, pyIx_nat, pyIx_lit, pyIxN_lit, seq_ref0, e_setix0, cpow_draw, cpow_30, List.length_cons, List.length_nil, Nat.reduceAdd, Nat.reduceLT, Int.reduceLT, Int.reduceLE, decide_true, decide_false, reduceIte, List.getElem?_cons_zero, List.getElem?_cons_succ, compK_t, compK2_ok, e1, szLt_of (show acc.length < 16777216 by omega)]
      rw [e2, List.append_assoc]
      rfl
    · rcases List.mem_cons.mp hl with rfl | hl
      · omega
      · exact p2 l hl
theorem p_min (ns : List Int) (m : Mem) (h : ns ≠ []) : prim .min [.d (.lst (ns.map D.int))] m = .ok (.d (.int (minL ns))) m := by
  show (match intsOf ((ns.map D.int).map Vl.d) with | some ns => need (!ns.isEmpty) (R.ok (Vl.d (.int (minL ns))) m) | none => .st) = _
  rw [intsOf_ints]
  dsimp only
  rw [need_of]
  cases ns with
  | nil => exact absurd rfl h
  | cons _ _ => rfl
theorem stock_vf (longs : List Int) (apart : Int) (ps : List Pat) (hls : ∀ l ∈ longs, 1 ≤ l ∧ l ≤ 8) (hl8 : ps.length ≤ 8) (ha : 0 ≤ apart) (hap : ∀ l ∈ longs, apart < l) (hp : ∀ i p, ps[i]? = some p → longs[0 + i]? = some (p.length : Int) ∧ Slots (0 + i) apart 0 p) : VF ps := by
  have lens : ∀ p ∈ ps, (1 ≤ p.length ∧ p.length ≤ 8) ∧ apart < (p.length : Int) ∧ ∀ s ∈ p, SlotOf SG s := fun p hm => by
    obtain ⟨i, hi⟩ := List.getElem?_of_mem hm
    obtain ⟨q1, q2⟩ := hp i p hi
    have hmem := List.mem_of_getElem? q1
    have h1 := hls _ hmem
    have h2 := hap _ hmem
    refine ⟨⟨by omega, by omega⟩, h2, fun s hs => ?_⟩
    obtain ⟨j, hj⟩ := List.getElem?_of_mem hs
    exact (q2 j s hj).1
  refine ⟨fun p hm => ?_, fun p hm => ?_, apart.toNat, fun p hm => ?_, ?_⟩
  · obtain ⟨h1, _, h3⟩ := lens p hm
    exact ⟨fun s hs => ⟨(h3 s hs).1, (h3 s hs).2.1⟩, h1.1, h1.2⟩
  · exact fun s hs => ((lens p hm).2.2 s hs).2.2.1 SG_nd
  · have := (lens p hm).2.1
    omega
  · rw [List.pairwise_iff_getElem]
    intro i j hi hj hij a b e1 e2 c hc1 hc2
    have q1 := (hp i ps[i] (List.getElem?_eq_getElem hi)).2 apart.toNat a e1
    have q2 := (hp j ps[j] (List.getElem?_eq_getElem hj)).2 apart.toNat b e2
    have s1 := q1.2 (by omega)
    have s2 := q2.2 (by omega)
    obtain ⟨x, hx⟩ := step_mem (s1.2.2.2 c hc1)
    obtain ⟨y, hy⟩ := step_mem (s2.2.2.2 c hc2)
    have := get_inj SG_nd hx hy
    omega
theorem s_stock (k0 : Nat) (hk : 3 ≤ k0) (o : O) (h : DI o) (longest : Nat) (most : Int) (hl : 1 ≤ longest ∧ longest ≤ 8) (hm : 0 < most ∧ most < 1000) :
    ∃ (st : List Pat) (o' : O), sem P k0 13 [.ref 0, .d (.int (longest : Int)), .d (.int most)] [o] = .ok (.d (ds st)) [o'] ∧ DI o' ∧ VF st ∧ st.length ≤ 8 ∧ 1 ≤ st.length := by
  obtain ⟨k0, rfl⟩ : ∃ j, k0 = j + 1 := ⟨k0 - 1, by omega⟩
  rw [r_L_stock_of]
  obtain ⟨r1, o1, e1, d1, a1, b1⟩ := dr k0 (by omega) o [] h 8 (.inr (div_small (by decide) (by decide)))
  obtain ⟨n, hn⟩ : ∃ n : Nat, 1 + r1 = (n : Int) := ⟨(1 + r1).toNat, by omega⟩
  obtain ⟨ls, o2, e2, d2, l2, p2⟩ := longs_comp k0 (by omega) longest hl (some (.d (.int most))) (some (.d (.str SG))) [] ((List.range n).map fun (i : Nat) => Vl.d (.int (i : Int))) [] o1 d1 (by rw [List.length_map, List.length_range, List.length_nil]; omega)
  rw [List.length_map, List.length_range] at l2
  have hne : ls ≠ [] := fun z => by subst z; simp at l2; omega
  have hmin := minL_spec hne
  have hmb := p2 _ hmin.1
  obtain ⟨ap, o3, e3, d3, a3, b3⟩ := dr k0 (by omega) o2 [] d2 (minL ls) (.inr (div_small (by omega) (by omega)))
  obtain ⟨ps, o4, J4, w4, y4, z4, e4, d4, l4, p4⟩ := stock_loop k0 (by omega) (some (.d (.int (longest : Int)))) ls most ap hm (fun l hl2 => ⟨(p2 l hl2).1, by have := (p2 l hl2).2; omega⟩) (by omega) ls.length 0 [] [] o3 none none none d3 (by omega) (by rw [List.length_nil]; omega)
  rw [List.nil_append, List.map_nil, ← List.range_eq_range'] at e4
  have hr : decide (-1000000000 ≤ (n : Int) ∧ (n : Int) ≤ 1000000000) = true := decide_eq_true ⟨by omega, by omega⟩
  have hr2 : decide (-1000000000 ≤ (ls.length : Int) ∧ (ls.length : Int) ≤ 1000000000) = true := decide_eq_true ⟨by omega, by omega⟩
  have hz : szOk ls.length = true := szOk_of (by omega)
  have hmk : mkLst true [] [o3] = .ok (.ref 1) [o3, .lst []] := rfl
  have hSG : (['0', '1', '2', '3', '4', '5', '6', '7', '8', '9', 'a', 'b', 'c', 'd', 'e', 'f', 'g', 'h', 'i', 'j', 'k', 'l', 'm', 'n', 'o', 'p', 'q', 'r', 's', 't', 'u', 'v', 'w', 'x', 'y', 'z'] : List Char) = SG := rfl
  rw [List.nil_append] at e2
  refine ⟨ps, o4, ?_, d4, stock_vf ls ap ps (fun l hl2 => ⟨(p2 l hl2).1, by have := (p2 l hl2).2; omega⟩) (by omega) a3 (fun l hl2 => ?_) p4, by omega, by omega⟩
  · simp only [eS_nil, eS_cons, eA_nil, eA_cons, eE_c, eE_v, eE_bin, eE_neg, eE_not, eE_and, eE_or, eE_cmp, eE_chain, eE_ite, eE_tup, eE_lst, eE_ix, eE_sl, eE_sls, eE_call, eE_pr, eE_mt, eE_comp, eE_frz, eE_prt, eT_asg, eT_setix, eT_aug, eT_ex, eT_ret, eT_retn, eT_ite, eT_for, eT_whl, eT_brk, eT_cnt, eT_pass, eT_frz, eT_fgt, then1_ok, then2_ok, then3_ok, then4_ok, e_okc, ofO_some, getS_zero, getS_succ, fl1_ok, seqK_nx, seqK_rt, seqK_ct, seqK_bk, e_asgn, e_exE, e_exU, e_ret, e_setE, e_if, if2_true, if2_false, iteK_ok, ite2_true, ite2_false, andK_ok, and2_true, and2_false, orK_ok, or2_true, or2_false, notop, e_neg, chainop, chain1_ok, chain2_true, chain2_false, need_true, List.set_cons_zero, List.set_cons_succ, cx_call, truth_bl, truth_int, truth_str, truth_tup, truth_lst, truth_non, bin_add, bin_adds, bin_addt, bin_addl, bin_sub, bin_mul, bin_fdiv, bin_mod, bin_shl, bin_pow, bin_band, cmp_lt, cmp_le, cmp_gt, cmp_ge, cmp_eqi, cmp_nei, cmp_eqs, cmp_nes, cmp_is, cmp_isn, in_str, p_lens, p_lent, p_lenl, p_int, p_divmod, ix_t, ix_l, ix_s, ix_r, e_for, it_t, it_l, it_s, it_rng, it_rng2, it_rev, it_zip, e_int, sl_s1, sl_s2, sl_s3, sls_1, sls_2, isi_int_int, isi_int_str, isi_int_bool, isi_int_tuple, isi_int_list, isi_str_int, isi_str_str, isi_str_bool, isi_str_tuple, isi_str_list, isi_bl_int, isi_bl_str, isi_bl_bool, isi_bl_tuple, isi_bl_list, isi_non_int, isi_non_str, isi_non_bool, isi_non_tuple, isi_non_list, isi_tup_int, isi_tup_str, isi_tup_bool, isi_tup_tuple, isi_tup_list, isi_lst_int, isi_lst_str, isi_lst_bool, isi_lst_tuple, isi_lst_list, comp_seq, comp_seqs, comp_rng,  e_asgt, asgU_some, mk_lstT, mk_lstF0, mk_lstF1, mk_lstF2, szOk_0, last_get, last_set, rc_join, rc_find, rc_index, mt_find, setT_t, setTs_nil, setTs_n, still_d, still_rng, still_rev, still_zip, turnK_nx, turnK_ct, turnK_bk, turnK_rt, forL_nil, forL_cons, List.map_cons, List.map_nil, pyIx_nat, pyIx_lit, pyIxN_lit, seq_ref0, e_setix0, cpow_draw, cpow_30, List.length_cons, List.length_nil, Nat.reduceAdd, Nat.reduceLT, Int.reduceLT, Int.reduceLE, decide_true, decide_false, reduceIte, List.getElem?_cons_zero, List.getElem?_cons_succ, b_L_stock_of, hSG, e1, hn, hr, Int.toNat_natCast, Tg.sets, fgt, e2, mk_lstF, hz, p_min _ _ hne, e3, hmk, List.length_map, hr2, e4, p_tups _ _ _ (g1 _ _ _), end_rt]
    rw [show (o4 :: O.lst (ps.map fun s => .d (dp s)) :: J4) = o4 :: ([] ++ (O.lst (ps.map fun s => .d (dp s)) :: J4)) from rfl, ds, drop_d _ _ _ _ _ d4.pure]
  · have := hmin.2 l hl2
    omega
end K28
end HP
end

section
set_option Elab.async false
set_option linter.all false
set_option maxRecDepth 100000
set_option maxHeartbeats 16000000
namespace HP
namespace K28
/-! the law's listing of all stems -/
def dls (rows : List (List Char)) : D := .lst (rows.map D.str)
def ext (row : List Char) (s : List Char) : List (List Char) := s.map fun c => row ++ [c]
def rstep (rows : List (List Char)) (s : List Char) : List (List Char) := rows.flatMap fun row => ext row s
theorem ext_comp (C : Ctx) (x : List (Option Vl)) (row s : List Char) (hr : row.length < 100) (hs : s.length ≤ 36) (v0 v1 v2 v3 v4 v5 v7 : Option Vl) (μ : Mem) :
    compL (evE C (.c (.bl true))) (evE C (.bin .add (.v 6) (.v 7))) (.n 7) (fun _ => true) [v0, v1, v2, v3, v4, v5, some (.d (.str row)), v7] (s.map fun c => Vl.d (.str [c])) μ [] = .ok ((ext row s).map fun t => Vl.d (.str t)) μ := by
  have := compL_map (c := evE C (.c (.bl true))) (e := evE C (.bin .add (.v 6) (.v 7))) (tg := .n 7) (ok := fun _ => true) (σ := [v0, v1, v2, v3, v4, v5, some (.d (.str row)), v7]) (m := μ) (f := fun c => Vl.d (.str [c])) (g := fun c => Vl.d (.str (row ++ [c]))) rfl (fun s => by simp only [eS_nil, eS_cons, eA_nil, eA_cons, eE_c, eE_v, eE_bin, eE_neg, eE_not, eE_and, eE_or, eE_cmp, eE_chain, eE_ite, eE_tup, eE_lst, eE_ix, eE_sl, eE_sls, eE_call, eE_pr, eE_mt, eE_comp, eE_frz, eE_prt, eT_asg, eT_setix, eT_aug, eT_ex, eT_ret, eT_retn, eT_ite, eT_for, eT_whl, eT_brk, eT_cnt, eT_pass, eT_frz, eT_fgt, then1_ok, then2_ok, then3_ok, then4_ok, e_okc, ofO_some, getS_zero, getS_succ, fl1_ok, seqK_nx, seqK_rt, seqK_ct, seqK_bk, e_asgn, e_exE, e_exU, e_ret, e_setE, e_if, if2_true, if2_false, iteK_ok, ite2_true, ite2_false, andK_ok, and2_true, and2_false, orK_ok, or2_true, or2_false, notop, e_neg, chainop, chain1_ok, chain2_true, chain2_false, need_true, List.set_cons_zero, List.set_cons_succ, cx_call, truth_bl, truth_int, truth_str, truth_tup, truth_lst, truth_non, bin_add, bin_adds, bin_addt, bin_addl, bin_sub, bin_mul, bin_fdiv, bin_mod, bin_shl, bin_pow, bin_band, cmp_lt, cmp_le, cmp_gt, cmp_ge, cmp_eqi, cmp_nei, cmp_eqs, cmp_nes, cmp_is, cmp_isn, in_str, p_lens, p_lent, p_lenl, p_int, p_divmod, ix_t, ix_l, ix_s, ix_r, e_for, it_t, it_l, it_s, it_rng, it_rng2, it_rev, it_zip, e_int, sl_s1, sl_s2, sl_s3, sls_1, sls_2, isi_int_int, isi_int_str, isi_int_bool, isi_int_tuple, isi_int_list, isi_str_int, isi_str_str, isi_str_bool, isi_str_tuple, isi_str_list, isi_bl_int, isi_bl_str, isi_bl_bool, isi_bl_tuple, isi_bl_list, isi_non_int, isi_non_str, isi_non_bool, isi_non_tuple, isi_non_list, isi_tup_int, isi_tup_str, isi_tup_bool, isi_tup_tuple, isi_tup_list, isi_lst_int, isi_lst_str, isi_lst_bool, isi_lst_tuple, isi_lst_list, comp_seq, comp_seqs, comp_rng,  e_asgt, asgU_some, mk_lstT, mk_lstF0, mk_lstF1, mk_lstF2, szOk_0, last_get, last_set, rc_join, rc_find, rc_index, mt_find, setT_t, setTs_nil, setTs_n, still_d, still_rng, still_rev, still_zip, turnK_nx, turnK_ct, turnK_bk, turnK_rt, forL_nil, forL_cons, List.map_cons, List.map_nil, pyIx_nat, pyIx_lit, pyIxN_lit, seq_ref0, e_setix0, cpow_draw, cpow_30, List.length_cons, List.length_nil, Nat.reduceAdd, Nat.reduceLT, Int.reduceLT, Int.reduceLE, decide_true, decide_false, reduceIte, List.getElem?_cons_zero, List.getElem?_cons_succ]) s (by omega) (fun c hc => ⟨_, setT_n .., by simp only [eS_nil, eS_cons, eA_nil, eA_cons, eE_c, eE_v, eE_bin, eE_neg, eE_not, eE_and, eE_or, eE_cmp, eE_chain, eE_ite, eE_tup, eE_lst, eE_ix, eE_sl, eE_sls, eE_call, eE_pr, eE_mt, eE_comp, eE_frz, eE_prt, eT_asg, eT_setix, eT_aug, eT_ex, eT_ret, eT_retn, eT_ite, eT_for, eT_whl, eT_brk, eT_cnt, eT_pass, eT_frz, eT_fgt, then1_ok, then2_ok, then3_ok, then4_ok, e_okc, ofO_some, getS_zero, getS_succ, fl1_ok, seqK_nx, seqK_rt, seqK_ct, seqK_bk, e_asgn, e_exE, e_exU, e_ret, e_setE, e_if, if2_true, if2_false, iteK_ok, ite2_true, ite2_false, andK_ok, and2_true, and2_false, orK_ok, or2_true, or2_false, notop, e_neg, chainop, chain1_ok, chain2_true, chain2_false, need_true, List.set_cons_zero, List.set_cons_succ, cx_call, truth_bl, truth_int, truth_str, truth_tup, truth_lst, truth_non, bin_add, bin_adds, bin_addt, bin_addl, bin_sub, bin_mul, bin_fdiv, bin_mod, bin_shl, bin_pow, bin_band, cmp_lt, cmp_le, cmp_gt, cmp_ge, cmp_eqi, cmp_nei, cmp_eqs, cmp_nes, cmp_is, cmp_isn, in_str, p_lens, p_lent, p_lenl, p_int, p_divmod, ix_t, ix_l, ix_s, ix_r, e_for, it_t, it_l, it_s, it_rng, it_rng2, it_rev, it_zip, e_int, sl_s1, sl_s2, sl_s3, sls_1, sls_2, isi_int_int, isi_int_str, isi_int_bool, isi_int_tuple, isi_int_list, isi_str_int, isi_str_str, isi_str_bool, isi_str_tuple, isi_str_list, isi_bl_int, isi_bl_str, isi_bl_bool, isi_bl_tuple, isi_bl_list, isi_non_int, isi_non_str, isi_non_bool, isi_non_tuple, isi_non_list, isi_tup_int, isi_tup_str, isi_tup_bool, isi_tup_tuple, isi_tup_list, isi_lst_int, isi_lst_str, isi_lst_bool, isi_lst_tuple, isi_lst_list, comp_seq, comp_seqs, comp_rng,  e_asgt, asgU_some, mk_lstT, mk_lstF0, mk_lstF1, mk_lstF2, szOk_0, last_get, last_set, rc_join, rc_find, rc_index, mt_find, setT_t, setTs_nil, setTs_n, still_d, still_rng, still_rev, still_zip, turnK_nx, turnK_ct, turnK_bk, turnK_rt, forL_nil, forL_cons, List.map_cons, List.map_nil, pyIx_nat, pyIx_lit, pyIxN_lit, seq_ref0, e_setix0, cpow_draw, cpow_30, List.length_cons, List.length_nil, Nat.reduceAdd, Nat.reduceLT, Int.reduceLT, Int.reduceLE, decide_true, decide_false, reduceIte, List.getElem?_cons_zero, List.getElem?_cons_succ, szOk_of (show row.length + 1 ≤ 16777216 by omega)]⟩)
  rw [this, ext, List.map_map]
  rfl
theorem row_step (C : Ctx) (row s : List Char) (acc : List (List Char)) (hr : row.length < 100) (hs : s.length ≤ 36) (ha : acc.length ≤ 1000) (v0 v1 v2 v3 : Option Vl) (μ : Mem) :
    evSs C w1_L_stems [v0, v1, v2, v3, some (.d (.str s)), some (.d (dls acc)), some (.d (.str row)), none] μ = .nx [v0, v1, v2, v3, some (.d (.str s)), some (.d (dls (acc ++ ext row s))), some (.d (.str row)), none] μ := by
  have e := ext_comp C [] row s hr hs v0 v1 v2 v3 (some (.d (.str s))) (some (.d (dls acc))) none μ
  have hm : ((ext row s).map fun t => Vl.d (.str t)) = ((ext row s).map D.str).map Vl.d := by rw [List.map_map]; rfl
  have hl : (ext row s).length = s.length := by rw [ext, List.length_map]
  rw [hm] at e
  have z1 : szOk (ext row s).length = true := szOk_of (by omega)
  have z2 : szOk (acc.length + (ext row s).length) = true := szOk_of (by omega)
  rw [dls] at e ⊢
  simp only [eS_nil, eS_cons, eA_nil, eA_cons, eE_c, eE_v, eE_bin, eE_neg, eE_not, eE_and, eE_or, eE_cmp, eE_chain, eE_ite, eE_tup, eE_lst, eE_ix, eE_sl, eE_sls, eE_call, eE_pr, eE_mt, eE_comp, eE_frz, eE_prt, eT_asg, eT_setix, eT_aug, eT_ex, eT_ret, eT_retn, eT_ite, eT_for, eT_whl, eT_brk, eT_cnt, eT_pass, eT_frz, eT_fgt, then1_ok, then2_ok, then3_ok, then4_ok, e_okc, ofO_some, getS_zero, getS_succ, fl1_ok, seqK_nx, seqK_rt, seqK_ct, seqK_bk, e_asgn, e_exE, e_exU, e_ret, e_setE, e_if, if2_true, if2_false, iteK_ok, ite2_true, ite2_false, andK_ok, and2_true, and2_false, orK_ok, or2_true, or2_false, notop, e_neg, chainop, chain1_ok, chain2_true, chain2_false, need_true, List.set_cons_zero, List.set_cons_succ, cx_call, truth_bl, truth_int, truth_str, truth_tup, truth_lst, truth_non, bin_add, bin_adds, bin_addt, bin_addl, bin_sub, bin_mul, bin_fdiv, bin_mod, bin_shl, bin_pow, bin_band, cmp_lt, cmp_le, cmp_gt, cmp_ge, cmp_eqi, cmp_nei, cmp_eqs, cmp_nes, cmp_is, cmp_isn, in_str, p_lens, p_lent, p_lenl, p_int, p_divmod, ix_t, ix_l, ix_s, ix_r, e_for, it_t, it_l, it_s, it_rng, it_rng2, it_rev, it_zip, e_int, sl_s1, sl_s2, sl_s3, sls_1, sls_2, isi_int_int, isi_int_str, isi_int_bool, isi_int_tuple, isi_int_list, isi_str_int, isi_str_str, isi_str_bool, isi_str_tuple, isi_str_list, isi_bl_int, isi_bl_str, isi_bl_bool, isi_bl_tuple, isi_bl_list, isi_non_int, isi_non_str, isi_non_bool, isi_non_tuple, isi_non_list, isi_tup_int, isi_tup_str, isi_tup_bool, isi_tup_tuple, isi_tup_list, isi_lst_int, isi_lst_str, isi_lst_bool, isi_lst_tuple, isi_lst_list, comp_seq, comp_seqs, comp_rng,  e_asgt, asgU_some, mk_lstT, mk_lstF0, mk_lstF1, mk_lstF2, szOk_0, last_get, last_set, rc_join, rc_find, rc_index, mt_find, setT_t, setTs_nil, setTs_n, still_d, still_rng, still_rev, still_zip, turnK_nx, turnK_ct, turnK_bk, turnK_rt, forL_nil, forL_cons, List.map_cons, List.map_nil, pyIx_nat, pyIx_lit, pyIxN_lit, seq_ref0, e_setix0, cpow_draw, cpow_30, List.length_cons, List.length_nil, Nat.reduceAdd, Nat.reduceLT, Int.reduceLT, Int.reduceLE, decide_true, decide_false, reduceIte, List.getElem?_cons_zero, List.getElem?_cons_succ, w1_L_stems, Tg.sets, fgt, e, mk_lstF, List.length_map, z1, z2]
  rw [dls, List.map_append]
theorem row_loop (C : Ctx) (s : List Char) (hs : s.length ≤ 36) (v0 v1 v2 v3 : Option Vl) (μ : Mem) : ∀ (rows acc : List (List Char)) (z : Option Vl), (∀ r ∈ rows, r.length < 100) → acc.length + rows.length * 36 ≤ 100000 → (∀ n, acc.length + n * s.length ≤ 1000 ∨ rows.length < n) →
    ∃ z', forL (evSs C w1_L_stems) (.n 6) (fun _ => true) ((rows.map D.str).map Vl.d) [v0, v1, v2, v3, some (.d (.str s)), some (.d (dls acc)), z, none] μ = .nx [v0, v1, v2, v3, some (.d (.str s)), some (.d (dls (acc ++ rstep rows s))), z', none] μ
  | [], acc, z, _, _, _ => ⟨z, by rw [rstep, List.flatMap_nil, List.append_nil]; rfl⟩
  | r :: rows, acc, z, hr, hb, hn => by
    have ha : acc.length ≤ 1000 := by
      have := hn 0
      rw [Nat.zero_mul] at this
      rcases this with h | h
      · omega
      · simp at h
    have hl : (ext r s).length = s.length := by rw [ext, List.length_map]
    obtain ⟨z', e⟩ := row_loop C s hs v0 v1 v2 v3 μ rows (acc ++ ext r s) (some (.d (.str r))) (fun t ht => hr t (by simp [ht])) (by rw [List.length_append, hl]; rw [List.length_cons] at hb; omega) (fun n => by
      have := hn (n + 1)
      rw [List.length_append, hl]
      rw [List.length_cons, Nat.add_mul, Nat.one_mul] at this
      omega)
    refine ⟨z', ?_⟩
    simp only [eS_nil, eS_cons, eA_nil, eA_cons, eE_c, eE_v, eE_bin, eE_neg, eE_not, eE_and, eE_or, eE_cmp, eE_chain, eE_ite, eE_tup, eE_lst, eE_ix, eE_sl, eE_sls, eE_call, eE_pr, eE_mt, eE_comp, eE_frz, eE_prt, eT_asg, eT_setix, eT_aug, eT_ex, eT_ret, eT_retn, eT_ite, eT_for, eT_whl, eT_brk, eT_cnt, eT_pass, eT_frz, eT_fgt, then1_ok, then2_ok, then3_ok, then4_ok, e_okc, ofO_some, getS_zero, getS_succ, fl1_ok, seqK_nx, seqK_rt, seqK_ct, seqK_bk, e_asgn, e_exE, e_exU, e_ret, e_setE, e_if, if2_true, if2_false, iteK_ok, ite2_true, ite2_false, andK_ok, and2_true, and2_false, orK_ok, or2_true, or2_false, notop, e_neg, chainop, chain1_ok, chain2_true, chain2_false, need_true, List.set_cons_zero, List.set_cons_succ, cx_call, truth_bl, truth_int, truth_str, truth_tup, truth_lst, truth_non, bin_add, bin_adds, bin_addt, bin_addl, bin_sub, bin_mul, bin_fdiv, bin_mod, bin_shl, bin_pow, bin_band, cmp_lt, cmp_le, cmp_gt, cmp_ge, cmp_eqi, cmp_nei, cmp_eqs, cmp_nes, cmp_is, cmp_isn, in_str, p_lens, p_lent, p_lenl, p_int, p_divmod, ix_t, ix_l, ix_s, ix_r, e_for, it_t, it_l, it_s, it_rng, it_rng2, it_rev, it_zip, e_int, sl_s1, sl_s2, sl_s3, sls_1, sls_2, isi_int_int, isi_int_str, isi_int_bool, isi_int_tuple, isi_int_list, isi_str_int, isi_str_str, isi_str_bool, isi_str_tuple, isi_str_list, isi_bl_int, isi_bl_str, isi_bl_bool, isi_bl_tuple, isi_bl_list, isi_non_int, isi_non_str, isi_non_bool, isi_non_tuple, isi_non_list, isi_tup_int, isi_tup_str, isi_tup_bool, isi_tup_tuple, isi_tup_list, isi_lst_int, isi_lst_str, isi_lst_bool, isi_lst_tuple, isi_lst_list, comp_seq, comp_seqs, comp_rng,  e_asgt, asgU_some, mk_lstT, mk_lstF0, mk_lstF1, mk_lstF2, szOk_0, last_get, last_set, rc_join, rc_find, rc_index, mt_find, setT_t, setTs_nil, setTs_n, still_d, still_rng, still_rev, still_zip, turnK_nx, turnK_ct, turnK_bk, turnK_rt, forL_nil, forL_cons, List.map_cons, List.map_nil, pyIx_nat, pyIx_lit, pyIxN_lit, seq_ref0, e_setix0, cpow_draw, cpow_30, List.length_cons, List.length_nil, Nat.reduceAdd, Nat.reduceLT, Int.reduceLT, Int.reduceLE, decide_true, decide_false, reduceIte, List.getElem?_cons_zero, List.getElem?_cons_succ]
    rw [row_step C r s acc (hr r (by simp)) hs ha]
    simp only [eS_nil, eS_cons, eA_nil, eA_cons, eE_c, eE_v, eE_bin, eE_neg, eE_not, eE_and, eE_or, eE_cmp, eE_chain, eE_ite, eE_tup, eE_lst, eE_ix, eE_sl, eE_sls, eE_call, eE_pr, eE_mt, eE_comp, eE_frz, eE_prt, eT_asg, eT_setix, eT_aug, eT_ex, eT_ret, eT_retn, eT_ite, eT_for, eT_whl, eT_brk, eT_cnt, eT_pass, eT_frz, eT_fgt, then1_ok, then2_ok, then3_ok, then4_ok, e_okc, ofO_some, getS_zero, getS_succ, fl1_ok, seqK_nx, seqK_rt, seqK_ct, seqK_bk, e_asgn, e_exE, e_exU, e_ret, e_setE, e_if, if2_true, if2_false, iteK_ok, ite2_true, ite2_false, andK_ok, and2_true, and2_false, orK_ok, or2_true, or2_false, notop, e_neg, chainop, chain1_ok, chain2_true, chain2_false, need_true, List.set_cons_zero, List.set_cons_succ, cx_call, truth_bl, truth_int, truth_str, truth_tup, truth_lst, truth_non, bin_add, bin_adds, bin_addt, bin_addl, bin_sub, bin_mul, bin_fdiv, bin_mod, bin_shl, bin_pow, bin_band, cmp_lt, cmp_le, cmp_gt, cmp_ge, cmp_eqi, cmp_nei, cmp_eqs, cmp_nes, cmp_is, cmp_isn, in_str, p_lens, p_lent, p_lenl, p_int, p_divmod, ix_t, ix_l, ix_s, ix_r, e_for, it_t, it_l, it_s, it_rng, it_rng2, it_rev, it_zip, e_int, sl_s1, sl_s2, sl_s3, sls_1, sls_2, isi_int_int, isi_int_str, isi_int_bool, isi_int_tuple, isi_int_list, isi_str_int, isi_str_str, isi_str_bool, isi_str_tuple, isi_str_list, isi_bl_int, isi_bl_str, isi_bl_bool, isi_bl_tuple, isi_bl_list, isi_non_int, isi_non_str, isi_non_bool, isi_non_tuple, isi_non_list, isi_tup_int, isi_tup_str, isi_tup_bool, isi_tup_tuple, isi_tup_list, isi_lst_int, isi_lst_str, isi_lst_bool, isi_lst_tuple, isi_lst_list, comp_seq, comp_seqs, comp_rng,  e_asgt, asgU_some, mk_lstT, mk_lstF0, mk_lstF1, mk_lstF2, szOk_0, last_get, last_set, rc_join, rc_find, rc_index, mt_find, setT_t, setTs_nil, setTs_n, still_d, still_rng, still_rev, still_zip, turnK_nx, turnK_ct, turnK_bk, turnK_rt, forL_nil, forL_cons, List.map_cons, List.map_nil, pyIx_nat, pyIx_lit, pyIxN_lit, seq_ref0, e_setix0, cpow_draw, cpow_30, List.length_cons, List.length_nil, Nat.reduceAdd, Nat.reduceLT, Int.reduceLT, Int.reduceLE, decide_true, decide_false, reduceIte, List.getElem?_cons_zero, List.getElem?_cons_succ]
    rw [e, rstep, rstep, List.flatMap_cons, List.append_assoc]
theorem rstep_len (s : List Char) : ∀ rows : List (List Char), (rstep rows s).length = rows.length * s.length
  | [] => by simp [rstep]
  | r :: rows => by
    have ih := rstep_len s rows
    rw [rstep] at ih ⊢
    rw [List.flatMap_cons, List.length_append, ih, ext, List.length_map, List.length_cons, Nat.add_mul, Nat.one_mul, Nat.add_comm]
theorem rstep_mem {s : List Char} {rows : List (List Char)} {n : Nat} (h : ∀ r ∈ rows, r.length = n) : ∀ r ∈ rstep rows s, r.length = n + 1 := fun r hr => by
  obtain ⟨q, hq, hr⟩ := List.mem_flatMap.mp hr
  obtain ⟨c, _, rfl⟩ := List.mem_map.mp hr
  rw [List.length_append, h q hq]; rfl
theorem slot_turn (C : Ctx) (s : List Char) (hs : s.length ≤ 36) (rows : List (List Char)) (n : Nat) (hn : n < 100) (hr : ∀ r ∈ rows, r.length = n) (hb : rows.length * s.length ≤ 1000) (hb2 : rows.length ≤ 1000) (v0 v1 v2 v5 v6 : Option Vl) (μ : Mem) :
    ∃ v5' v6', evSs C w2_L_stems [v0, v1, v2, some (.d (dls rows)), some (.d (.str s)), v5, v6, none] μ = .nx [v0, v1, v2, some (.d (dls (rstep rows s))), some (.d (.str s)), v5', v6', none] μ := by
  obtain ⟨z', e⟩ := row_loop C s hs v0 v1 v2 (some (.d (dls rows))) μ rows [] v6 (fun r h => by rw [hr r h]; exact hn) (by rw [List.length_nil]; omega) (fun m => by
    rw [List.length_nil, Nat.zero_add]
    by_cases hm : rows.length < m
    · exact .inr hm
    · exact .inl (Nat.le_trans (Nat.mul_le_mul_right _ (by omega)) hb))
  rw [List.nil_append] at e
  refine ⟨some (.d (dls (rstep rows s))), z', ?_⟩
  have e0 : dls [] = D.lst [] := rfl
  rw [e0] at e
  have e1 : dls rows = D.lst (rows.map D.str) := rfl
  rw [e1] at e ⊢
  simp only [eS_nil, eS_cons, eA_nil, eA_cons, eE_c, eE_v, eE_bin, eE_neg, eE_not, eE_and, eE_or, eE_cmp, eE_chain, eE_ite, eE_tup, eE_lst, eE_ix, eE_sl, eE_sls, eE_call, eE_pr, eE_mt, eE_comp, eE_frz, eE_prt, eT_asg, eT_setix, eT_aug, eT_ex, eT_ret, eT_retn, eT_ite, eT_for, eT_whl, eT_brk, eT_cnt, eT_pass, eT_frz, eT_fgt, then1_ok, then2_ok, then3_ok, then4_ok, e_okc, ofO_some, getS_zero, getS_succ, fl1_ok, seqK_nx, seqK_rt, seqK_ct, seqK_bk, e_asgn, e_exE, e_exU, e_ret, e_setE, e_if, if2_true, if2_false, iteK_ok, ite2_true, ite2_false, andK_ok, and2_true, and2_false, orK_ok, or2_true, or2_false, notop, e_neg, chainop, chain1_ok, chain2_true, chain2_false, need_true, List.set_cons_zero, List.set_cons_succ, cx_call, truth_bl, truth_int, truth_str, truth_tup, truth_lst, truth_non, bin_add, bin_adds, bin_addt, bin_addl, bin_sub, bin_mul, bin_fdiv, bin_mod, bin_shl, bin_pow, bin_band, cmp_lt, cmp_le, cmp_gt, cmp_ge, cmp_eqi, cmp_nei, cmp_eqs, cmp_nes, cmp_is, cmp_isn, in_str, p_lens, p_lent, p_lenl, p_int, p_divmod, ix_t, ix_l, ix_s, ix_r, e_for, it_t, it_l, it_s, it_rng, it_rng2, it_rev, it_zip, e_int, sl_s1, sl_s2, sl_s3, sls_1, sls_2, isi_int_int, isi_int_str, isi_int_bool, isi_int_tuple, isi_int_list, isi_str_int, isi_str_str, isi_str_bool, isi_str_tuple, isi_str_list, isi_bl_int, isi_bl_str, isi_bl_bool, isi_bl_tuple, isi_bl_list, isi_non_int, isi_non_str, isi_non_bool, isi_non_tuple, isi_non_list, isi_tup_int, isi_tup_str, isi_tup_bool, isi_tup_tuple, isi_tup_list, isi_lst_int, isi_lst_str, isi_lst_bool, isi_lst_tuple, isi_lst_list, comp_seq, comp_seqs, comp_rng,  e_asgt, asgU_some, mk_lstT, mk_lstF0, mk_lstF1, mk_lstF2, szOk_0, last_get, last_set, rc_join, rc_find, rc_index, mt_find, setT_t, setTs_nil, setTs_n, still_d, still_rng, still_rev, still_zip, turnK_nx, turnK_ct, turnK_bk, turnK_rt, forL_nil, forL_cons, List.map_cons, List.map_nil, pyIx_nat, pyIx_lit, pyIxN_lit, seq_ref0, e_setix0, cpow_draw, cpow_30, List.length_cons, List.length_nil, Nat.reduceAdd, Nat.reduceLT, Int.reduceLT, Int.reduceLE, decide_true, decide_false, reduceIte, List.getElem?_cons_zero, List.getElem?_cons_succ, w2_L_stems, e]
theorem slots_loop (C : Ctx) (v0 v1 v2 : Option Vl) (μ : Mem) (p : Pat) : ∀ (rows : List (List Char)) (n : Nat) (v4 v5 v6 : Option Vl), VP p → (∀ r ∈ rows, r.length = n) → n + p.length < 100 → rows.length * many p ≤ 300 →
    ∃ v4' v5' v6', forL (evSs C w2_L_stems) (.n 4) (fun _ => true) ((p.map D.str).map Vl.d) [v0, v1, v2, some (.d (dls rows)), v4, v5, v6, none] μ = .nx [v0, v1, v2, some (.d (dls (p.foldl rstep rows))), v4', v5', v6', none] μ := by
  induction p with
  | nil => intro rows n v4 v5 v6 _ _ _ _; exact ⟨v4, v5, v6, rfl⟩
  | cons s r ih =>
    intro rows n v4 v5 v6 h hr hn hb
    have hp := many_pos h.tl
    rw [many, ← Nat.mul_assoc] at hb
    have h1 : rows.length * s.length ≤ 300 := Nat.le_trans (Nat.le_mul_of_pos_right _ hp) hb
    have h2 : rows.length ≤ 300 := Nat.le_trans (Nat.le_mul_of_pos_right _ h.hd.1) h1
    rw [List.length_cons] at hn
    obtain ⟨a5, a6, e1⟩ := slot_turn C s h.hd.2 rows n (by omega) hr (by omega) (by omega) v0 v1 v2 v5 v6 μ
    obtain ⟨b4, b5, b6, e2⟩ := ih (rstep rows s) (n + 1) (some (.d (.str s))) a5 a6 h.tl (rstep_mem hr) (by omega) (by rw [rstep_len]; exact hb)
    refine ⟨b4, b5, b6, ?_⟩
    simp only [eS_nil, eS_cons, eA_nil, eA_cons, eE_c, eE_v, eE_bin, eE_neg, eE_not, eE_and, eE_or, eE_cmp, eE_chain, eE_ite, eE_tup, eE_lst, eE_ix, eE_sl, eE_sls, eE_call, eE_pr, eE_mt, eE_comp, eE_frz, eE_prt, eT_asg, eT_setix, eT_aug, eT_ex, eT_ret, eT_retn, eT_ite, eT_for, eT_whl, eT_brk, eT_cnt, eT_pass, eT_frz, eT_fgt, then1_ok, then2_ok, then3_ok, then4_ok, e_okc, ofO_some, getS_zero, getS_succ, fl1_ok, seqK_nx, seqK_rt, seqK_ct, seqK_bk, e_asgn, e_exE, e_exU, e_ret, e_setE, e_if, if2_true, if2_false, iteK_ok, ite2_true, ite2_false, andK_ok, and2_true, and2_false, orK_ok, or2_true, or2_false, notop, e_neg, chainop, chain1_ok, chain2_true, chain2_false, need_true, List.set_cons_zero, List.set_cons_succ, cx_call, truth_bl, truth_int, truth_str, truth_tup, truth_lst, truth_non, bin_add, bin_adds, bin_addt, bin_addl, bin_sub, bin_mul, bin_fdiv, bin_mod, bin_shl, bin_pow, bin_band, cmp_lt, cmp_le, cmp_gt, cmp_ge, cmp_eqi, cmp_nei, cmp_eqs, cmp_nes, cmp_is, cmp_isn, in_str, p_lens, p_lent, p_lenl, p_int, p_divmod, ix_t, ix_l, ix_s, ix_r, e_for, it_t, it_l, it_s, it_rng, it_rng2, it_rev, it_zip, e_int, sl_s1, sl_s2, sl_s3, sls_1, sls_2, isi_int_int, isi_int_str, isi_int_bool, isi_int_tuple, isi_int_list, isi_str_int, isi_str_str, isi_str_bool, isi_str_tuple, isi_str_list, isi_bl_int, isi_bl_str, isi_bl_bool, isi_bl_tuple, isi_bl_list, isi_non_int, isi_non_str, isi_non_bool, isi_non_tuple, isi_non_list, isi_tup_int, isi_tup_str, isi_tup_bool, isi_tup_tuple, isi_tup_list, isi_lst_int, isi_lst_str, isi_lst_bool, isi_lst_tuple, isi_lst_list, comp_seq, comp_seqs, comp_rng,  e_asgt, asgU_some, mk_lstT, mk_lstF0, mk_lstF1, mk_lstF2, szOk_0, last_get, last_set, rc_join, rc_find, rc_index, mt_find, setT_t, setTs_nil, setTs_n, still_d, still_rng, still_rev, still_zip, turnK_nx, turnK_ct, turnK_bk, turnK_rt, forL_nil, forL_cons, List.map_cons, List.map_nil, pyIx_nat, pyIx_lit, pyIxN_lit, seq_ref0, e_setix0, cpow_draw, cpow_30, List.length_cons, List.length_nil, Nat.reduceAdd, Nat.reduceLT, Int.reduceLT, Int.reduceLE, decide_true, decide_false, reduceIte, List.getElem?_cons_zero, List.getElem?_cons_succ]
    rw [e1]
    simp only [eS_nil, eS_cons, eA_nil, eA_cons, eE_c, eE_v, eE_bin, eE_neg, eE_not, eE_and, eE_or, eE_cmp, eE_chain, eE_ite, eE_tup, eE_lst, eE_ix, eE_sl, eE_sls, eE_call, eE_pr, eE_mt, eE_comp, eE_frz, eE_prt, eT_asg, eT_setix, eT_aug, eT_ex, eT_ret, eT_retn, eT_ite, eT_for, eT_whl, eT_brk, eT_cnt, eT_pass, eT_frz, eT_fgt, then1_ok, then2_ok, then3_ok, then4_ok, e_okc, ofO_some, getS_zero, getS_succ, fl1_ok, seqK_nx, seqK_rt, seqK_ct, seqK_bk, e_asgn, e_exE, e_exU, e_ret, e_setE, e_if, if2_true, if2_false, iteK_ok, ite2_true, ite2_false, andK_ok, and2_true, and2_false, orK_ok, or2_true, or2_false, notop, e_neg, chainop, chain1_ok, chain2_true, chain2_false, need_true, List.set_cons_zero, List.set_cons_succ, cx_call, truth_bl, truth_int, truth_str, truth_tup, truth_lst, truth_non, bin_add, bin_adds, bin_addt, bin_addl, bin_sub, bin_mul, bin_fdiv, bin_mod, bin_shl, bin_pow, bin_band, cmp_lt, cmp_le, cmp_gt, cmp_ge, cmp_eqi, cmp_nei, cmp_eqs, cmp_nes, cmp_is, cmp_isn, in_str, p_lens, p_lent, p_lenl, p_int, p_divmod, ix_t, ix_l, ix_s, ix_r, e_for, it_t, it_l, it_s, it_rng, it_rng2, it_rev, it_zip, e_int, sl_s1, sl_s2, sl_s3, sls_1, sls_2, isi_int_int, isi_int_str, isi_int_bool, isi_int_tuple, isi_int_list, isi_str_int, isi_str_str, isi_str_bool, isi_str_tuple, isi_str_list, isi_bl_int, isi_bl_str, isi_bl_bool, isi_bl_tuple, isi_bl_list, isi_non_int, isi_non_str, isi_non_bool, isi_non_tuple, isi_non_list, isi_tup_int, isi_tup_str, isi_tup_bool, isi_tup_tuple, isi_tup_list, isi_lst_int, isi_lst_str, isi_lst_bool, isi_lst_tuple, isi_lst_list, comp_seq, comp_seqs, comp_rng,  e_asgt, asgU_some, mk_lstT, mk_lstF0, mk_lstF1, mk_lstF2, szOk_0, last_get, last_set, rc_join, rc_find, rc_index, mt_find, setT_t, setTs_nil, setTs_n, still_d, still_rng, still_rev, still_zip, turnK_nx, turnK_ct, turnK_bk, turnK_rt, forL_nil, forL_cons, List.map_cons, List.map_nil, pyIx_nat, pyIx_lit, pyIxN_lit, seq_ref0, e_setix0, cpow_draw, cpow_30, List.length_cons, List.length_nil, Nat.reduceAdd, Nat.reduceLT, Int.reduceLT, Int.reduceLE, decide_true, decide_false, reduceIte, List.getElem?_cons_zero, List.getElem?_cons_succ]
    rw [e2, List.foldl_cons]
def listP (p : Pat) : List (List Char) := p.foldl rstep [[]]
theorem fold_len (p : Pat) : ∀ rows : List (List Char), (p.foldl rstep rows).length = rows.length * many p := by
  induction p with
  | nil => intro rows; rw [many, Nat.mul_one]; rfl
  | cons s r ih => intro rows; rw [List.foldl_cons, ih, rstep_len, many, Nat.mul_assoc]
theorem listP_len (p : Pat) : (listP p).length = many p := by rw [listP, fold_len, List.length_singleton, Nat.one_mul]
theorem pat_turn (C : Ctx) (p : Pat) (h : VP p) (h8 : p.length ≤ 8) (hm : many p ≤ 300) (acc : List (List Char)) (ha : acc.length ≤ 1000) (v0 v3 v4 v5 v6 : Option Vl) (μ : Mem) :
    ∃ v3' v4' v5' v6', evSs C w3_L_stems [v0, some (.d (dls acc)), some (.d (dp p)), v3, v4, v5, v6, none] μ = .nx [v0, some (.d (dls (acc ++ listP p))), some (.d (dp p)), v3', v4', v5', v6', none] μ := by
  obtain ⟨v4', v5', v6', e⟩ := slots_loop C v0 (some (.d (dls acc))) (some (.d (dp p))) μ p [[]] 0 v4 v5 v6 h (by simp) (by omega) (by rw [List.length_singleton, Nat.one_mul]; exact hm)
  refine ⟨some (.d (dls (listP p))), v4', v5', v6', ?_⟩
  have e0 : dls [[]] = D.lst [.str []] := rfl
  rw [e0] at e
  rw [dp] at e ⊢
  have z : szOk (acc.length + (listP p).length) = true := szOk_of (by rw [listP_len]; omega)
  have el : p.foldl rstep [[]] = listP p := rfl
  rw [el] at e
  have hap : dls (acc ++ listP p) = .lst (acc.map D.str ++ (listP p).map D.str) := by rw [dls, List.map_append]
  rw [hap]
  rw [dls] at e ⊢
  simp only [eS_nil, eS_cons, eA_nil, eA_cons, eE_c, eE_v, eE_bin, eE_neg, eE_not, eE_and, eE_or, eE_cmp, eE_chain, eE_ite, eE_tup, eE_lst, eE_ix, eE_sl, eE_sls, eE_call, eE_pr, eE_mt, eE_comp, eE_frz, eE_prt, eT_asg, eT_setix, eT_aug, eT_ex, eT_ret, eT_retn, eT_ite, eT_for, eT_whl, eT_brk, eT_cnt, eT_pass, eT_frz, eT_fgt, then1_ok, then2_ok, then3_ok, then4_ok, e_okc, ofO_some, getS_zero, getS_succ, fl1_ok, seqK_nx, seqK_rt, seqK_ct, seqK_bk, e_asgn, e_exE, e_exU, e_ret, e_setE, e_if, if2_true, if2_false, iteK_ok, ite2_true, ite2_false, andK_ok, and2_true, and2_false, orK_ok, or2_true, or2_false, notop, e_neg, chainop, chain1_ok, chain2_true, chain2_false, need_true, List.set_cons_zero, List.set_cons_succ, cx_call, truth_bl, truth_int, truth_str, truth_tup, truth_lst, truth_non, bin_add, bin_adds, bin_addt, bin_addl, bin_sub, bin_mul, bin_fdiv, bin_mod, bin_shl, bin_pow, bin_band, cmp_lt, cmp_le, cmp_gt, cmp_ge, cmp_eqi, cmp_nei, cmp_eqs, cmp_nes, cmp_is, cmp_isn, in_str, p_lens, p_lent, p_lenl, p_int, p_divmod, ix_t, ix_l, ix_s, ix_r, e_for, it_t, it_l, it_s, it_rng, it_rng2, it_rev, it_zip, e_int, sl_s1, sl_s2, sl_s3, sls_1, sls_2, isi_int_int, isi_int_str, isi_int_bool, isi_int_tuple, isi_int_list, isi_str_int, isi_str_str, isi_str_bool, isi_str_tuple, isi_str_list, isi_bl_int, isi_bl_str, isi_bl_bool, isi_bl_tuple, isi_bl_list, isi_non_int, isi_non_str, isi_non_bool, isi_non_tuple, isi_non_list, isi_tup_int, isi_tup_str, isi_tup_bool, isi_tup_tuple, isi_tup_list, isi_lst_int, isi_lst_str, isi_lst_bool, isi_lst_tuple, isi_lst_list, comp_seq, comp_seqs, comp_rng,  e_asgt, asgU_some, mk_lstT, mk_lstF0, mk_lstF1, mk_lstF2, szOk_0, last_get, last_set, rc_join, rc_find, rc_index, mt_find, setT_t, setTs_nil, setTs_n, still_d, still_rng, still_rev, still_zip, turnK_nx, turnK_ct, turnK_bk, turnK_rt, forL_nil, forL_cons, List.map_cons, List.map_nil, pyIx_nat, pyIx_lit, pyIxN_lit, seq_ref0, e_setix0, cpow_draw, cpow_30, List.length_cons, List.length_nil, Nat.reduceAdd, Nat.reduceLT, Int.reduceLT, Int.reduceLE, decide_true, decide_false, reduceIte, List.getElem?_cons_zero, List.getElem?_cons_succ, w3_L_stems, e, dls, List.length_map, z]
theorem pats_loop (C : Ctx) (v0 : Option Vl) (μ : Mem) (s : List Pat) : ∀ (acc : List (List Char)) (v2 v3 v4 v5 v6 : Option Vl), (∀ p ∈ s, VP p ∧ 1 ≤ p.length ∧ p.length ≤ 8) → acc.length + total s ≤ 300 →
    ∃ v2' v3' v4' v5' v6', forL (evSs C w3_L_stems) (.n 2) (fun _ => true) ((s.map dp).map Vl.d) [v0, some (.d (dls acc)), v2, v3, v4, v5, v6, none] μ = .nx [v0, some (.d (dls (acc ++ s.flatMap listP))), v2', v3', v4', v5', v6', none] μ := by
  induction s with
  | nil => intro acc v2 v3 v4 v5 v6 _ _; exact ⟨v2, v3, v4, v5, v6, by rw [List.flatMap_nil, List.append_nil]; rfl⟩
  | cons p r ih =>
    intro acc v2 v3 v4 v5 v6 h hb
    have hp := h p (by simp)
    have ht : total (p :: r) = many p + total r := by unfold total; rw [List.map_cons, List.sum_cons]
    rw [ht] at hb
    obtain ⟨a3, a4, a5, a6, e1⟩ := pat_turn C p hp.1 hp.2.2 (by omega) acc (by omega) v0 v3 v4 v5 v6 μ
    obtain ⟨b2, b3, b4, b5, b6, e2⟩ := ih (acc ++ listP p) (some (.d (dp p))) a3 a4 a5 a6 (fun q hq => h q (by simp [hq])) (by rw [List.length_append, listP_len]; omega)
    refine ⟨b2, b3, b4, b5, b6, ?_⟩
    simp only [eS_nil, eS_cons, eA_nil, eA_cons, eE_c, eE_v, eE_bin, eE_neg, eE_not, eE_and, eE_or, eE_cmp, eE_chain, eE_ite, eE_tup, eE_lst, eE_ix, eE_sl, eE_sls, eE_call, eE_pr, eE_mt, eE_comp, eE_frz, eE_prt, eT_asg, eT_setix, eT_aug, eT_ex, eT_ret, eT_retn, eT_ite, eT_for, eT_whl, eT_brk, eT_cnt, eT_pass, eT_frz, eT_fgt, then1_ok, then2_ok, then3_ok, then4_ok, e_okc, ofO_some, getS_zero, getS_succ, fl1_ok, seqK_nx, seqK_rt, seqK_ct, seqK_bk, e_asgn, e_exE, e_exU, e_ret, e_setE, e_if, if2_true, if2_false, iteK_ok, ite2_true, ite2_false, andK_ok, and2_true, and2_false, orK_ok, or2_true, or2_false, notop, e_neg, chainop, chain1_ok, chain2_true, chain2_false, need_true, List.set_cons_zero, List.set_cons_succ, cx_call, truth_bl, truth_int, truth_str, truth_tup, truth_lst, truth_non, bin_add, bin_adds, bin_addt, bin_addl, bin_sub, bin_mul, bin_fdiv, bin_mod, bin_shl, bin_pow, bin_band, cmp_lt, cmp_le, cmp_gt, cmp_ge, cmp_eqi, cmp_nei, cmp_eqs, cmp_nes, cmp_is, cmp_isn, in_str, p_lens, p_lent, p_lenl, p_int, p_divmod, ix_t, ix_l, ix_s, ix_r, e_for, it_t, it_l, it_s, it_rng, it_rng2, it_rev, it_zip, e_int, sl_s1, sl_s2, sl_s3, sls_1, sls_2, isi_int_int, isi_int_str, isi_int_bool, isi_int_tuple, isi_int_list, isi_str_int, isi_str_str, isi_str_bool, isi_str_tuple, isi_str_list, isi_bl_int, isi_bl_str, isi_bl_bool, isi_bl_tuple, isi_bl_list, isi_non_int, isi_non_str, isi_non_bool, isi_non_tuple, isi_non_list, isi_tup_int, isi_tup_str, isi_tup_bool, isi_tup_tuple, isi_tup_list, isi_lst_int, isi_lst_str, isi_lst_bool, isi_lst_tuple, isi_lst_list, comp_seq, comp_seqs, comp_rng,  e_asgt, asgU_some, mk_lstT, mk_lstF0, mk_lstF1, mk_lstF2, szOk_0, last_get, last_set, rc_join, rc_find, rc_index, mt_find, setT_t, setTs_nil, setTs_n, still_d, still_rng, still_rev, still_zip, turnK_nx, turnK_ct, turnK_bk, turnK_rt, forL_nil, forL_cons, List.map_cons, List.map_nil, pyIx_nat, pyIx_lit, pyIxN_lit, seq_ref0, e_setix0, cpow_draw, cpow_30, List.length_cons, List.length_nil, Nat.reduceAdd, Nat.reduceLT, Int.reduceLT, Int.reduceLE, decide_true, decide_false, reduceIte, List.getElem?_cons_zero, List.getElem?_cons_succ]
    rw [e1]
    simp only [eS_nil, eS_cons, eA_nil, eA_cons, eE_c, eE_v, eE_bin, eE_neg, eE_not, eE_and, eE_or, eE_cmp, eE_chain, eE_ite, eE_tup, eE_lst, eE_ix, eE_sl, eE_sls, eE_call, eE_pr, eE_mt, eE_comp, eE_frz, eE_prt, eT_asg, eT_setix, eT_aug, eT_ex, eT_ret, eT_retn, eT_ite, eT_for, eT_whl, eT_brk, eT_cnt, eT_pass, eT_frz, eT_fgt, then1_ok, then2_ok, then3_ok, then4_ok, e_okc, ofO_some, getS_zero, getS_succ, fl1_ok, seqK_nx, seqK_rt, seqK_ct, seqK_bk, e_asgn, e_exE, e_exU, e_ret, e_setE, e_if, if2_true, if2_false, iteK_ok, ite2_true, ite2_false, andK_ok, and2_true, and2_false, orK_ok, or2_true, or2_false, notop, e_neg, chainop, chain1_ok, chain2_true, chain2_false, need_true, List.set_cons_zero, List.set_cons_succ, cx_call, truth_bl, truth_int, truth_str, truth_tup, truth_lst, truth_non, bin_add, bin_adds, bin_addt, bin_addl, bin_sub, bin_mul, bin_fdiv, bin_mod, bin_shl, bin_pow, bin_band, cmp_lt, cmp_le, cmp_gt, cmp_ge, cmp_eqi, cmp_nei, cmp_eqs, cmp_nes, cmp_is, cmp_isn, in_str, p_lens, p_lent, p_lenl, p_int, p_divmod, ix_t, ix_l, ix_s, ix_r, e_for, it_t, it_l, it_s, it_rng, it_rng2, it_rev, it_zip, e_int, sl_s1, sl_s2, sl_s3, sls_1, sls_2, isi_int_int, isi_int_str, isi_int_bool, isi_int_tuple, isi_int_list, isi_str_int, isi_str_str, isi_str_bool, isi_str_tuple, isi_str_list, isi_bl_int, isi_bl_str, isi_bl_bool, isi_bl_tuple, isi_bl_list, isi_non_int, isi_non_str, isi_non_bool, isi_non_tuple, isi_non_list, isi_tup_int, isi_tup_str, isi_tup_bool, isi_tup_tuple, isi_tup_list, isi_lst_int, isi_lst_str, isi_lst_bool, isi_lst_tuple, isi_lst_list, comp_seq, comp_seqs, comp_rng,  e_asgt, asgU_some, mk_lstT, mk_lstF0, mk_lstF1, mk_lstF2, szOk_0, last_get, last_set, rc_join, rc_find, rc_index, mt_find, setT_t, setTs_nil, setTs_n, still_d, still_rng, still_rev, still_zip, turnK_nx, turnK_ct, turnK_bk, turnK_rt, forL_nil, forL_cons, List.map_cons, List.map_nil, pyIx_nat, pyIx_lit, pyIxN_lit, seq_ref0, e_setix0, cpow_draw, cpow_30, List.length_cons, List.length_nil, Nat.reduceAdd, Nat.reduceLT, Int.reduceLT, Int.reduceLE, decide_true, decide_false, reduceIte, List.getElem?_cons_zero, List.getElem?_cons_succ]
    rw [e2, List.flatMap_cons, List.append_assoc]
theorem s_stems (k0 : Nat) (hk : 1 ≤ k0) (s : List Pat) (h : VS s) (hb : total s ≤ 300) (μ : Mem) : sem P k0 9 [.d (ds s)] μ = .ok (.d (dls (s.flatMap listP))) μ := by
  obtain ⟨k0, rfl⟩ : ∃ j, k0 = j + 1 := ⟨k0 - 1, by omega⟩
  rw [r_L_stems]
  obtain ⟨v2, v3, v4, v5, v6, e⟩ := pats_loop (cx P k0) (some (.d (ds s))) μ s [] none none none none none h.2 (by rw [List.length_nil]; omega)
  rw [List.nil_append] at e
  have e0 : dls [] = D.lst [] := rfl
  rw [e0] at e
  rw [ds] at e ⊢
  simp only [eS_nil, eS_cons, eA_nil, eA_cons, eE_c, eE_v, eE_bin, eE_neg, eE_not, eE_and, eE_or, eE_cmp, eE_chain, eE_ite, eE_tup, eE_lst, eE_ix, eE_sl, eE_sls, eE_call, eE_pr, eE_mt, eE_comp, eE_frz, eE_prt, eT_asg, eT_setix, eT_aug, eT_ex, eT_ret, eT_retn, eT_ite, eT_for, eT_whl, eT_brk, eT_cnt, eT_pass, eT_frz, eT_fgt, then1_ok, then2_ok, then3_ok, then4_ok, e_okc, ofO_some, getS_zero, getS_succ, fl1_ok, seqK_nx, seqK_rt, seqK_ct, seqK_bk, e_asgn, e_exE, e_exU, e_ret, e_setE, e_if, if2_true, if2_false, iteK_ok, ite2_true, ite2_false, andK_ok, and2_true, and2_false, orK_ok, or2_true, or2_false, notop, e_neg, chainop, chain1_ok, chain2_true, chain2_false, need_true, List.set_cons_zero, List.set_cons_succ, cx_call, truth_bl, truth_int, truth_str, truth_tup, truth_lst, truth_non, bin_add, bin_adds, bin_addt, bin_addl, bin_sub, bin_mul, bin_fdiv, bin_mod, bin_shl, bin_pow, bin_band, cmp_lt, cmp_le, cmp_gt, cmp_ge, cmp_eqi, cmp_nei, cmp_eqs, cmp_nes, cmp_is, cmp_isn, in_str, p_lens, p_lent, p_lenl, p_int, p_divmod, ix_t, ix_l, ix_s, ix_r, e_for, it_t, it_l, it_s, it_rng, it_rng2, it_rev, it_zip, e_int, sl_s1, sl_s2, sl_s3, sls_1, sls_2, isi_int_int, isi_int_str, isi_int_bool, isi_int_tuple, isi_int_list, isi_str_int, isi_str_str, isi_str_bool, isi_str_tuple, isi_str_list, isi_bl_int, isi_bl_str, isi_bl_bool, isi_bl_tuple, isi_bl_list, isi_non_int, isi_non_str, isi_non_bool, isi_non_tuple, isi_non_list, isi_tup_int, isi_tup_str, isi_tup_bool, isi_tup_tuple, isi_tup_list, isi_lst_int, isi_lst_str, isi_lst_bool, isi_lst_tuple, isi_lst_list, comp_seq, comp_seqs, comp_rng,  e_asgt, asgU_some, mk_lstT, mk_lstF0, mk_lstF1, mk_lstF2, szOk_0, last_get, last_set, rc_join, rc_find, rc_index, mt_find, setT_t, setTs_nil, setTs_n, still_d, still_rng, still_rev, still_zip, turnK_nx, turnK_ct, turnK_bk, turnK_rt, forL_nil, forL_cons, List.map_cons, List.map_nil, pyIx_nat, pyIx_lit, pyIxN_lit, seq_ref0, e_setix0, cpow_draw, cpow_30, List.length_cons, List.length_nil, Nat.reduceAdd, Nat.reduceLT, Int.reduceLT, Int.reduceLE, decide_true, decide_false, reduceIte, List.getElem?_cons_zero, List.getElem?_cons_succ, b_L_stems, e, end_rt, drop_self]
theorem rstep_get (s : List Char) (h0 : 0 < s.length) : ∀ (rows : List (List Char)) (i : Nat), i < rows.length * s.length → (rstep rows s)[i]? = some (rows.getD (i / s.length) [] ++ [s.getD (i % s.length) ' '])
  | [], i, h => by simp at h
  | r :: rows, i, h => by
    have ih := rstep_get s h0 rows (i - s.length)
    rw [rstep] at ih ⊢
    rw [List.flatMap_cons]
    have hl : (ext r s).length = s.length := by rw [ext, List.length_map]
    by_cases hi : i < s.length
    · rw [List.getElem?_append_left (by omega), Nat.div_eq_of_lt hi, Nat.mod_eq_of_lt hi, ext, List.getElem?_map, List.getElem?_eq_getElem hi, List.getD_eq_getElem?_getD, List.getD_eq_getElem?_getD, List.getElem?_eq_getElem hi]
      rfl
    · rw [List.length_cons, Nat.add_mul, Nat.one_mul] at h
      rw [List.getElem?_append_right (by omega), hl, ih (by omega)]
      have e1 : i / s.length = (i - s.length) / s.length + 1 := Nat.div_eq_sub_div h0 (by omega)
      have e2 : i % s.length = (i - s.length) % s.length := Nat.mod_eq_sub_mod (by omega)
      rw [e1, e2]
      rfl
theorem fold_get (p : Pat) : ∀ (rows : List (List Char)) (i : Nat), VP p → i < rows.length * many p → (p.foldl rstep rows)[i]? = some (rows.getD (i / many p) [] ++ stem p i) := by
  induction p with
  | nil =>
    intro rows i _ h
    rw [many, Nat.mul_one] at h
    rw [many, Nat.div_one, stem, List.append_nil, List.getD_eq_getElem?_getD, List.foldl_nil, List.getElem?_eq_getElem h]
    rfl
  | cons s r ih =>
    intro rows i h hi
    have hp := many_pos h.tl
    have h2 : i < (rstep rows s).length * many r := by rw [rstep_len, Nat.mul_assoc]; exact hi
    have h3 : i / many r < rows.length * s.length := Nat.div_lt_of_lt_mul (by rw [Nat.mul_comm, Nat.mul_assoc]; exact hi)
    rw [List.foldl_cons, ih _ i h.tl h2, List.getD_eq_getElem?_getD, rstep_get s h.hd.1 rows _ h3, stem, many, Nat.div_div_eq_div_mul, Nat.mul_comm (many r) s.length]
    dsimp only [Option.getD_some]
    rw [List.append_assoc]
    rfl
theorem listP_get (p : Pat) (h : VP p) (i : Nat) (hi : i < many p) : (listP p)[i]? = some (stem p i) := by
  rw [listP, fold_get p [[]] i h (by rw [List.length_singleton, Nat.one_mul]; exact hi), Nat.div_eq_of_lt hi]
  rfl
theorem list_get : ∀ (s : List Pat) (i : Nat), (∀ p ∈ s, VP p) → (s.flatMap listP)[i]? = stemS s i
  | [], i, _ => by simp [stemS]
  | p :: r, i, h => by
    rw [List.flatMap_cons, stemS]
    by_cases hi : i < many p
    · rw [if_pos hi, List.getElem?_append_left (by rw [listP_len]; exact hi), listP_get p (h p (by simp)) i hi]
    · rw [if_neg hi, List.getElem?_append_right (by rw [listP_len]; omega), listP_len, list_get r _ (fun q hq => h q (by simp [hq]))]
theorem list_len (s : List Pat) : (s.flatMap listP).length = total s := by
  induction s with
  | nil => rfl
  | cons p r ih =>
    rw [List.flatMap_cons, List.length_append, ih, listP_len]
    unfold total
    rw [List.map_cons, List.sum_cons]
end K28
end HP
end

section
set_option Elab.async false
set_option linter.all false
set_option maxRecDepth 100000
set_option maxHeartbeats 16000000
namespace HP
namespace K28
/-! a stock's numbers -/
theorem VF.vs {s : List Pat} (h : VF s) (h8 : s.length ≤ 8) : VS s := ⟨h8, h.1⟩
theorem stem8 {s : List Pat} (h : VF s) {k : Nat} {t : List Char} (e : stemS s k = some t) : t.length ≤ 8 := by
  obtain ⟨_, p, hp, j, rfl⟩ := placeS_stemS s k t h e
  rw [stem_len]
  exact (h.1 p hp).2.2
/-- due, either road -/
theorem num_turn (k0 : Nat) (hk : 4 ≤ k0) (s : List Pat) (h : VF s) (h8 : s.length ≤ 8) (o : O) (ho : DI o) (v2 v3 v4 v5 v8 v9 : Option Vl) (ls : List (List Char)) (hls : ls = [] ∨ ls = s.flatMap listP) (k : Nat) (hkt : k < total s) :
    ∃ (o' : O) (v8' v9' : Option Vl), evSs (cx P k0) w2_L_numbered [some (.ref 0), some (.d (ds s)), v2, v3, v4, v5, some (.d (dls ls)), some (.d (.int k)), v8, v9] [o] = .nx [some (.ref 0), some (.d (ds s)), v2, v3, v4, v5, some (.d (dls ls)), some (.d (.int k)), v8', v9'] [o'] ∧ DI o' := by
  have hs := h.vs h8
  obtain ⟨t, ht⟩ := stemS_some s k hkt
  obtain ⟨hpl, _⟩ := placeS_stemS s k t h ht
  obtain ⟨u, o1, e1, d1⟩ := s_near k0 (by omega) o [] ho t (stem8 h ht)
  have a1 := s_stemat k0 (by omega) s hs k [o]
  have a2 := s_placein k0 (by omega) s hs t [o]
  have a3 := s_placein k0 (by omega) s hs u [o1]
  have a4 := s_placeof k0 (by omega) s hs u [o1]
  have a5 := s_stemof k0 (by omega) s hs k [o]
  have a6 := s_exact_opt k0 (by omega) (placeS s u) [o1]
  have a7 := s_exact_str k0 (by omega) t [o]
  have a8 := s_exact_int k0 (by omega) k [o]
  rw [ht] at a1 a5
  rw [hpl] at a2
  rw [optS] at a1 a5
  rw [optD] at a2
  refine ⟨o1, some (.d (.str t)), some (.d (.str u)), ?_, d1⟩
  rcases hls with rfl | rfl
  · have e0 : dls [] = D.lst [] := rfl
    rw [e0]
    simp only [eS_nil, eS_cons, eA_nil, eA_cons, eE_c, eE_v, eE_bin, eE_neg, eE_not, eE_and, eE_or, eE_cmp, eE_chain, eE_ite, eE_tup, eE_lst, eE_ix, eE_sl, eE_sls, eE_call, eE_pr, eE_mt, eE_comp, eE_frz, eE_prt, eT_asg, eT_setix, eT_aug, eT_ex, eT_ret, eT_retn, eT_ite, eT_for, eT_whl, eT_brk, eT_cnt, eT_pass, eT_frz, eT_fgt, then1_ok, then2_ok, then3_ok, then4_ok, e_okc, ofO_some, getS_zero, getS_succ, fl1_ok, seqK_nx, seqK_rt, seqK_ct, seqK_bk, e_asgn, e_exE, e_exU, e_ret, e_setE, e_if, if2_true, if2_false, iteK_ok, ite2_true, ite2_false, andK_ok, and2_true, and2_false, orK_ok, or2_true, or2_false, notop, e_neg, chainop, chain1_ok, chain2_true, chain2_false, need_true, List.set_cons_zero, List.set_cons_succ, cx_call, truth_bl, truth_int, truth_str, truth_tup, truth_lst, truth_non, bin_add, bin_adds, bin_addt, bin_addl, bin_sub, bin_mul, bin_fdiv, bin_mod, bin_shl, bin_pow, bin_band, cmp_lt, cmp_le, cmp_gt, cmp_ge, cmp_eqi, cmp_nei, cmp_eqs, cmp_nes, cmp_is, cmp_isn, in_str, p_lens, p_lent, p_lenl, p_int, p_divmod, ix_t, ix_l, ix_s, ix_r, e_for, it_t, it_l, it_s, it_rng, it_rng2, it_rev, it_zip, e_int, sl_s1, sl_s2, sl_s3, sls_1, sls_2, isi_int_int, isi_int_str, isi_int_bool, isi_int_tuple, isi_int_list, isi_str_int, isi_str_str, isi_str_bool, isi_str_tuple, isi_str_list, isi_bl_int, isi_bl_str, isi_bl_bool, isi_bl_tuple, isi_bl_list, isi_non_int, isi_non_str, isi_non_bool, isi_non_tuple, isi_non_list, isi_tup_int, isi_tup_str, isi_tup_bool, isi_tup_tuple, isi_tup_list, isi_lst_int, isi_lst_str, isi_lst_bool, isi_lst_tuple, isi_lst_list, comp_seq, comp_seqs, comp_rng,  e_asgt, asgU_some, mk_lstT, mk_lstF0, mk_lstF1, mk_lstF2, szOk_0, last_get, last_set, rc_join, rc_find, rc_index, mt_find, setT_t, setTs_nil, setTs_n, still_d, still_rng, still_rev, still_zip, turnK_nx, turnK_ct, turnK_bk, turnK_rt, forL_nil, forL_cons, List.map_cons, List.map_nil, pyIx_nat, pyIx_lit, pyIxN_lit, seq_ref0, e_setix0, cpow_draw, cpow_30, List.length_cons, List.length_nil, Nat.reduceAdd, Nat.reduceLT, Int.reduceLT, Int.reduceLE, decide_true, decide_false, reduceIte, List.getElem?_cons_zero, List.getElem?_cons_succ, w2_L_numbered, List.isEmpty_nil, Bool.not_true, Bool.not_false, a1, a2, a3, a4, a5, a6, a7, a8, e1]
  · have hg : (((s.flatMap listP).map D.str).map Vl.d)[k]? = some (.d (.str t)) := by
      rw [List.getElem?_map, List.getElem?_map, list_get s k (fun p hp => (h.1 p hp).1), ht]; rfl
    have hne : ((s.flatMap listP).map D.str).isEmpty = false := by
      cases q : (s.flatMap listP).map D.str with
      | nil =>
        have := congrArg List.length q
        rw [List.length_map, list_len] at this
        simp at this
        omega
      | cons _ _ => rfl
    rw [dls]
    simp only [eS_nil, eS_cons, eA_nil, eA_cons, eE_c, eE_v, eE_bin, eE_neg, eE_not, eE_and, eE_or, eE_cmp, eE_chain, eE_ite, eE_tup, eE_lst, eE_ix, eE_sl, eE_sls, eE_call, eE_pr, eE_mt, eE_comp, eE_frz, eE_prt, eT_asg, eT_setix, eT_aug, eT_ex, eT_ret, eT_retn, eT_ite, eT_for, eT_whl, eT_brk, eT_cnt, eT_pass, eT_frz, eT_fgt, then1_ok, then2_ok, then3_ok, then4_ok, e_okc, ofO_some, getS_zero, getS_succ, fl1_ok, seqK_nx, seqK_rt, seqK_ct, seqK_bk, e_asgn, e_exE, e_exU, e_ret, e_setE, e_if, if2_true, if2_false, iteK_ok, ite2_true, ite2_false, andK_ok, and2_true, and2_false, orK_ok, or2_true, or2_false, notop, e_neg, chainop, chain1_ok, chain2_true, chain2_false, need_true, List.set_cons_zero, List.set_cons_succ, cx_call, truth_bl, truth_int, truth_str, truth_tup, truth_lst, truth_non, bin_add, bin_adds, bin_addt, bin_addl, bin_sub, bin_mul, bin_fdiv, bin_mod, bin_shl, bin_pow, bin_band, cmp_lt, cmp_le, cmp_gt, cmp_ge, cmp_eqi, cmp_nei, cmp_eqs, cmp_nes, cmp_is, cmp_isn, in_str, p_lens, p_lent, p_lenl, p_int, p_divmod, ix_t, ix_l, ix_s, ix_r, e_for, it_t, it_l, it_s, it_rng, it_rng2, it_rev, it_zip, e_int, sl_s1, sl_s2, sl_s3, sls_1, sls_2, isi_int_int, isi_int_str, isi_int_bool, isi_int_tuple, isi_int_list, isi_str_int, isi_str_str, isi_str_bool, isi_str_tuple, isi_str_list, isi_bl_int, isi_bl_str, isi_bl_bool, isi_bl_tuple, isi_bl_list, isi_non_int, isi_non_str, isi_non_bool, isi_non_tuple, isi_non_list, isi_tup_int, isi_tup_str, isi_tup_bool, isi_tup_tuple, isi_tup_list, isi_lst_int, isi_lst_str, isi_lst_bool, isi_lst_tuple, isi_lst_list, comp_seq, comp_seqs, comp_rng,  e_asgt, asgU_some, mk_lstT, mk_lstF0, mk_lstF1, mk_lstF2, szOk_0, last_get, last_set, rc_join, rc_find, rc_index, mt_find, setT_t, setTs_nil, setTs_n, still_d, still_rng, still_rev, still_zip, turnK_nx, turnK_ct, turnK_bk, turnK_rt, forL_nil, forL_cons, List.map_cons, List.map_nil, pyIx_nat, pyIx_lit, pyIxN_lit, seq_ref0, e_setix0, cpow_draw, cpow_30, List.length_cons, List.length_nil, Nat.reduceAdd, Nat.reduceLT, Int.reduceLT, Int.reduceLE, decide_true, decide_false, reduceIte, List.getElem?_cons_zero, List.getElem?_cons_succ, w2_L_numbered, hne, hg, Bool.not_true, Bool.not_false, a1, a2, a3, a4, a6, a7, a8, e1]
def dn (ns : List Nat) : D := .lst (ns.map fun (n : Nat) => D.int (n : Int))
theorem num_loop (k0 : Nat) (hk : 4 ≤ k0) (s : List Pat) (h : VF s) (h8 : s.length ≤ 8) (v2 v3 v4 v5 : Option Vl) (ls : List (List Char)) (hls : ls = [] ∨ ls = s.flatMap listP) : ∀ (ns : List Nat) (o : O) (v7 v8 v9 : Option Vl), DI o → (∀ n ∈ ns, n < total s) →
    ∃ (o' : O) (v7' v8' v9' : Option Vl), forL (evSs (cx P k0) w2_L_numbered) (.n 7) (fun _ => true) ((ns.map fun (n : Nat) => D.int (n : Int)).map Vl.d) [some (.ref 0), some (.d (ds s)), v2, v3, v4, v5, some (.d (dls ls)), v7, v8, v9] [o] = .nx [some (.ref 0), some (.d (ds s)), v2, v3, v4, v5, some (.d (dls ls)), v7', v8', v9'] [o'] ∧ DI o'
  | [], o, v7, v8, v9, ho, _ => ⟨o, v7, v8, v9, rfl, ho⟩
  | n :: ns, o, v7, v8, v9, ho, hn => by
    obtain ⟨o1, a8, a9, e1, d1⟩ := num_turn k0 hk s h h8 o ho v2 v3 v4 v5 v8 v9 ls hls n (hn n (by simp))
    obtain ⟨o2, b7, b8, b9, e2, d2⟩ := num_loop k0 hk s h h8 v2 v3 v4 v5 ls hls ns o1 (some (.d (.int n))) a8 a9 d1 (fun m hm => hn m (by simp [hm]))
    refine ⟨o2, b7, b8, b9, ?_, d2⟩
    simp only [eS_nil, eS_cons, eA_nil, eA_cons, eE_c, eE_v, eE_bin, eE_neg, eE_not, eE_and, eE_or, eE_cmp, eE_chain, eE_ite, eE_tup, eE_lst, eE_ix, eE_sl, eE_sls, eE_call, eE_pr, eE_mt, eE_comp, eE_frz, eE_prt, eT_asg, eT_setix, eT_aug, eT_ex, eT_ret, eT_retn, eT_ite, eT_for, eT_whl, eT_brk, eT_cnt, eT_pass, eT_frz, eT_fgt, then1_ok, then2_ok, then3_ok, then4_ok, e_okc, ofO_some, getS_zero, getS_succ, fl1_ok, seqK_nx, seqK_rt, seqK_ct, seqK_bk, e_asgn, e_exE, e_exU, e_ret, e_setE, e_if, if2_true, if2_false, iteK_ok, ite2_true, ite2_false, andK_ok, and2_true, and2_false, orK_ok, or2_true, or2_false, notop, e_neg, chainop, chain1_ok, chain2_true, chain2_false, need_true, List.set_cons_zero, List.set_cons_succ, cx_call, truth_bl, truth_int, truth_str, truth_tup, truth_lst, truth_non, bin_add, bin_adds, bin_addt, bin_addl, bin_sub, bin_mul, bin_fdiv, bin_mod, bin_shl, bin_pow, bin_band, cmp_lt, cmp_le, cmp_gt, cmp_ge, cmp_eqi, cmp_nei, cmp_eqs, cmp_nes, cmp_is, cmp_isn, in_str, p_lens, p_lent, p_lenl, p_int, p_divmod, ix_t, ix_l, ix_s, ix_r, e_for, it_t, it_l, it_s, it_rng, it_rng2, it_rev, it_zip, e_int, sl_s1, sl_s2, sl_s3, sls_1, sls_2, isi_int_int, isi_int_str, isi_int_bool, isi_int_tuple, isi_int_list, isi_str_int, isi_str_str, isi_str_bool, isi_str_tuple, isi_str_list, isi_bl_int, isi_bl_str, isi_bl_bool, isi_bl_tuple, isi_bl_list, isi_non_int, isi_non_str, isi_non_bool, isi_non_tuple, isi_non_list, isi_tup_int, isi_tup_str, isi_tup_bool, isi_tup_tuple, isi_tup_list, isi_lst_int, isi_lst_str, isi_lst_bool, isi_lst_tuple, isi_lst_list, comp_seq, comp_seqs, comp_rng,  e_asgt, asgU_some, mk_lstT, mk_lstF0, mk_lstF1, mk_lstF2, szOk_0, last_get, last_set, rc_join, rc_find, rc_index, mt_find, setT_t, setTs_nil, setTs_n, still_d, still_rng, still_rev, still_zip, turnK_nx, turnK_ct, turnK_bk, turnK_rt, forL_nil, forL_cons, List.map_cons, List.map_nil, pyIx_nat, pyIx_lit, pyIxN_lit, seq_ref0, e_setix0, cpow_draw, cpow_30, List.length_cons, List.length_nil, Nat.reduceAdd, Nat.reduceLT, Int.reduceLT, Int.reduceLE, decide_true, decide_false, reduceIte, List.getElem?_cons_zero, List.getElem?_cons_succ]
    rw [e1]
    simp only [eS_nil, eS_cons, eA_nil, eA_cons, eE_c, eE_v, eE_bin, eE_neg, eE_not, eE_and, eE_or, eE_cmp, eE_chain, eE_ite, eE_tup, eE_lst, eE_ix, eE_sl, eE_sls, eE_call, eE_pr, eE_mt, eE_comp, eE_frz, eE_prt, eT_asg, eT_setix, eT_aug, eT_ex, eT_ret, eT_retn, eT_ite, eT_for, eT_whl, eT_brk, eT_cnt, eT_pass, eT_frz, eT_fgt, then1_ok, then2_ok, then3_ok, then4_ok, e_okc, ofO_some, getS_zero, getS_succ, fl1_ok, seqK_nx, seqK_rt, seqK_ct, seqK_bk, e_asgn, e_exE, e_exU, e_ret, e_setE, e_if, if2_true, if2_false, iteK_ok, ite2_true, ite2_false, andK_ok, and2_true, and2_false, orK_ok, or2_true, or2_false, notop, e_neg, chainop, chain1_ok, chain2_true, chain2_false, need_true, List.set_cons_zero, List.set_cons_succ, cx_call, truth_bl, truth_int, truth_str, truth_tup, truth_lst, truth_non, bin_add, bin_adds, bin_addt, bin_addl, bin_sub, bin_mul, bin_fdiv, bin_mod, bin_shl, bin_pow, bin_band, cmp_lt, cmp_le, cmp_gt, cmp_ge, cmp_eqi, cmp_nei, cmp_eqs, cmp_nes, cmp_is, cmp_isn, in_str, p_lens, p_lent, p_lenl, p_int, p_divmod, ix_t, ix_l, ix_s, ix_r, e_for, it_t, it_l, it_s, it_rng, it_rng2, it_rev, it_zip, e_int, sl_s1, sl_s2, sl_s3, sls_1, sls_2, isi_int_int, isi_int_str, isi_int_bool, isi_int_tuple, isi_int_list, isi_str_int, isi_str_str, isi_str_bool, isi_str_tuple, isi_str_list, isi_bl_int, isi_bl_str, isi_bl_bool, isi_bl_tuple, isi_bl_list, isi_non_int, isi_non_str, isi_non_bool, isi_non_tuple, isi_non_list, isi_tup_int, isi_tup_str, isi_tup_bool, isi_tup_tuple, isi_tup_list, isi_lst_int, isi_lst_str, isi_lst_bool, isi_lst_tuple, isi_lst_list, comp_seq, comp_seqs, comp_rng,  e_asgt, asgU_some, mk_lstT, mk_lstF0, mk_lstF1, mk_lstF2, szOk_0, last_get, last_set, rc_join, rc_find, rc_index, mt_find, setT_t, setTs_nil, setTs_n, still_d, still_rng, still_rev, still_zip, turnK_nx, turnK_ct, turnK_bk, turnK_rt, forL_nil, forL_cons, List.map_cons, List.map_nil, pyIx_nat, pyIx_lit, pyIxN_lit, seq_ref0, e_setix0, cpow_draw, cpow_30, List.length_cons, List.length_nil, Nat.reduceAdd, Nat.reduceLT, Int.reduceLT, Int.reduceLE, decide_true, decide_false, reduceIte, List.getElem?_cons_zero, List.getElem?_cons_succ]
    exact e2
theorem great_comp (k0 : Nat) (hk : 2 ≤ k0) (x : Option Vl) (N : Nat) (hN : 0 < N) : ∀ (xs : List Vl) (acc : List Vl) (o : O), DI o → acc.length + xs.length < 100 →
    ∃ (ls : List Nat) (o' : O), compL (evE (cx P k0) (.c (.bl true))) (evE (cx P k0) (.call 11 (.cons (.v 0) (.cons (.v 2) .nil)))) (.n 7) (fun _ => true) [some (.ref 0), x, some (.d (.int (N : Int))), none, none, none, none, none, none, none] xs [o] acc = .ok (acc ++ (ls.map fun (n : Nat) => D.int (n : Int)).map Vl.d) [o'] ∧ DI o' ∧ ls.length = xs.length ∧ ∀ l ∈ ls, l < N
  | [], acc, o, h, _ => ⟨[], o, by rw [List.map_nil, List.map_nil, List.append_nil]; rfl, h, rfl, fun l hl => by simp at hl⟩
  | y :: xs, acc, o, h, hz => by
    rw [List.length_cons] at hz
    obtain ⟨r, o1, e1, d1, b1⟩ := s_great k0 hk o [] h (N : Int) (by omega)
    obtain ⟨ls, o2, e2, d2, l2, p2⟩ := great_comp k0 hk x N hN xs (acc ++ [.d (.int r)]) o1 d1 (by rw [List.length_append, List.length_singleton]; omega)
    refine ⟨r :: ls, o2, ?_, d2, by rw [List.length_cons, List.length_cons, l2], fun l hl => ?_⟩
    · rw [compL_n]
      simp only [eS_nil, eS_cons, eA_nil, eA_cons, eE_c, eE_v, eE_bin, eE_neg, eE_not, eE_and, eE_or, eE_cmp, eE_chain, eE_ite, eE_tup, eE_lst, eE_ix, eE_sl, eE_sls, eE_call, eE_pr, eE_mt, eE_comp, eE_frz, eE_prt, eT_asg, eT_setix, eT_aug, eT_ex, eT_ret, eT_retn, eT_ite, eT_for, eT_whl, eT_brk, eT_cnt, eT_pass, eT_frz, eT_fgt, then1_ok, then2_ok, then3_ok, then4_ok, e_okc, ofO_some, getS_zero, getS_succ, fl1_ok, seqK_nx, seqK_rt, seqK_ct, seqK_bk, e_asgn, e_exE, e_exU, e_ret, e_setE, e_if, if2_true, if2_false, iteK_ok, ite2_true, ite2_false, andK_ok, and2_true, and2_false, orK_ok, or2_true, or2_false, notop, e_neg, chainop, chain1_ok, chain2_true, chain2_false, need_true, List.set_cons_zero, List.set_cons_succ, cx_call, truth_bl, truth_int, truth_str, truth_tup, truth_lst, truth_non, bin_add, bin_adds, bin_addt, bin_addl, bin_sub, bin_mul, bin_fdiv, bin_mod, bin_shl, bin_pow, bin_band, cmp_lt, cmp_le, cmp_gt, cmp_ge, cmp_eqi, cmp_nei, cmp_eqs, cmp_nes, cmp_is, cmp_isn, in_str, p_lens, p_lent, p_lenl, p_int, p_divmod, ix_t, ix_l, ix_s, ix_r, e_for, it_t, it_l, it_s, it_rng, it_rng2, it_rev, it_zip, e_int, sl_s1, sl_s2, sl_s3, sls_1, sls_2, isi_int_int, isi_int_str, isi_int_bool, isi_int_tuple, isi_int_list, isi_str_int, isi_str_str, isi_str_bool, isi_str_tuple, isi_str_list, isi_bl_int, isi_bl_str, isi_bl_bool, isi_bl_tuple, isi_bl_list, isi_non_int, isi_non_str, isi_non_bool, isi_non_tuple, isi_non_list, isi_tup_int, isi_tup_str, isi_tup_bool, isi_tup_tuple, isi_tup_list, isi_lst_int, isi_lst_str, isi_lst_bool, isi_lst_tuple, isi_lst_list, comp_seq, comp_seqs, comp_rng,  e_asgt, asgU_some, mk_lstT, mk_lstF0, mk_lstF1, mk_lstF2, szOk_0, last_get, last_set, rc_join, rc_find, rc_index, mt_find, setT_t, setTs_nil, setTs_n, still_d, still_rng, still_rev, still_zip, turnK_nx, turnK_ct, turnK_bk, turnK_rt, forL_nil, forL_cons, List.map_cons, List.map_nil, pyIx_nat, pyIx_lit, pyIxN_lit, seq_ref0, e_setix0, cpow_draw, cpow_30, List.length_cons, List.length_nil, Nat.reduceAdd, Nat.reduceLT, Int.reduceLT, Int.reduceLE, decide_true, decide_false, reduceIte, List.getElem?_cons_zero, List.getElem?_cons_succ, compK_t, compK2_ok, e1, szLt_of (show acc.length < 16777216 by omega)]
      rw [e2, List.append_assoc]
      rfl
    · rcases List.mem_cons.mp hl with rfl | hl
      · omega
      · exact p2 l hl
theorem ahead_step (k0 : Nat) (hk : 1 ≤ k0) (x v6 v7 v8 v9 : Option Vl) (N : Int) (hN : decide (0 < N) = true) (ns : List D) (a b c e : Int) (p : Pat) (hv : VP p) (m : Mem) (hp : (many p : Int) = b) (hc : a + b = c) (he : c % N = e) (hz : szOk (ns.length + 2) = true) :
    evSs (cx P k0) w1_L_numbered [some (.ref 0), x, some (.d (.int N)), some (.d (.lst ns)), some (.d (.int a)), some (.d (dp p)), v6, v7, v8, v9] m = .nx [some (.ref 0), x, some (.d (.int N)), some (.d (.lst (ns ++ [.int (c - 1), .int e]))), some (.d (.int c)), some (.d (dp p)), v6, v7, v8, v9] m := by
  have sm := s_many' k0 hk p hv m
  rw [hp] at sm
  simp only [eS_nil, eS_cons, eA_nil, eA_cons, eE_c, eE_v, eE_bin, eE_neg, eE_not, eE_and, eE_or, eE_cmp, eE_chain, eE_ite, eE_tup, eE_lst, eE_ix, eE_sl, eE_sls, eE_call, eE_pr, eE_mt, eE_comp, eE_frz, eE_prt, eT_asg, eT_setix, eT_aug, eT_ex, eT_ret, eT_retn, eT_ite, eT_for, eT_whl, eT_brk, eT_cnt, eT_pass, eT_frz, eT_fgt, then1_ok, then2_ok, then3_ok, then4_ok, e_okc, ofO_some, getS_zero, getS_succ, fl1_ok, seqK_nx, seqK_rt, seqK_ct, seqK_bk, e_asgn, e_exE, e_exU, e_ret, e_setE, e_if, if2_true, if2_false, iteK_ok, ite2_true, ite2_false, andK_ok, and2_true, and2_false, orK_ok, or2_true, or2_false, notop, e_neg, chainop, chain1_ok, chain2_true, chain2_false, need_true, List.set_cons_zero, List.set_cons_succ, cx_call, truth_bl, truth_int, truth_str, truth_tup, truth_lst, truth_non, bin_add, bin_adds, bin_addt, bin_addl, bin_sub, bin_mul, bin_fdiv, bin_mod, bin_shl, bin_pow, bin_band, cmp_lt, cmp_le, cmp_gt, cmp_ge, cmp_eqi, cmp_nei, cmp_eqs, cmp_nes, cmp_is, cmp_isn, in_str, p_lens, p_lent, p_lenl, p_int, p_divmod, ix_t, ix_l, ix_s, ix_r, e_for, it_t, it_l, it_s, it_rng, it_rng2, it_rev, it_zip, e_int, sl_s1, sl_s2, sl_s3, sls_1, sls_2, isi_int_int, isi_int_str, isi_int_bool, isi_int_tuple, isi_int_list, isi_str_int, isi_str_str, isi_str_bool, isi_str_tuple, isi_str_list, isi_bl_int, isi_bl_str, isi_bl_bool, isi_bl_tuple, isi_bl_list, isi_non_int, isi_non_str, isi_non_bool, isi_non_tuple, isi_non_list, isi_tup_int, isi_tup_str, isi_tup_bool, isi_tup_tuple, isi_tup_list, isi_lst_int, isi_lst_str, isi_lst_bool, isi_lst_tuple, isi_lst_list, comp_seq, comp_seqs, comp_rng,  e_asgt, asgU_some, mk_lstT, mk_lstF0, mk_lstF1, mk_lstF2, szOk_0, last_get, last_set, rc_join, rc_find, rc_index, mt_find, setT_t, setTs_nil, setTs_n, still_d, still_rng, still_rev, still_zip, turnK_nx, turnK_ct, turnK_bk, turnK_rt, forL_nil, forL_cons, List.map_cons, List.map_nil, pyIx_nat, pyIx_lit, pyIxN_lit, seq_ref0, e_setix0, cpow_draw, cpow_30, List.length_cons, List.length_nil, Nat.reduceAdd, Nat.reduceLT, Int.reduceLT, Int.reduceLE, decide_true, decide_false, reduceIte, List.getElem?_cons_zero, List.getElem?_cons_succ, w1_L_numbered, sm, hc, hN, he, hz]
theorem ahead_loop (k0 : Nat) (hk : 1 ≤ k0) (x v6 v7 v8 v9 : Option Vl) (N : Nat) (hN : 0 < N) (m : Mem) : ∀ (q : List Pat) (a : Nat) (ns : List Nat) (v5 : Option Vl), (∀ p ∈ q, VP p) → a + total q ≤ N → ns.length + 2 * q.length < 100 →
    ∃ (ms : List Nat) (v4' v5' : Option Vl), forL (evSs (cx P k0) w1_L_numbered) (.n 5) (fun _ => true) ((q.map dp).map Vl.d) [some (.ref 0), x, some (.d (.int (N : Int))), some (.d (dn ns)), some (.d (.int (a : Int))), v5, v6, v7, v8, v9] m = .nx [some (.ref 0), x, some (.d (.int (N : Int))), some (.d (dn (ns ++ ms))), v4', v5', v6, v7, v8, v9] m ∧ ∀ k ∈ ms, k < N
  | [], a, ns, v5, _, _, _ => ⟨[], _, v5, by rw [List.append_nil]; rfl, fun k hk => by simp at hk⟩
  | p :: q, a, ns, v5, h, hb, hl => by
    have hv := h p (by simp)
    have hp := many_pos hv
    have ht : total (p :: q) = many p + total q := by unfold total; rw [List.map_cons, List.sum_cons]
    rw [ht] at hb
    rw [List.length_cons] at hl
    obtain ⟨ms, b4, b5, e2, p2⟩ := ahead_loop k0 hk x v6 v7 v8 v9 N hN m q (a + many p) (ns ++ [a + many p - 1, (a + many p) % N]) (some (.d (dp p))) (fun r hr => h r (by simp [hr])) (by omega) (by rw [List.length_append]; show ns.length + 2 + _ < 100; omega)
    have e1 := ahead_step k0 hk x v6 v7 v8 v9 (N : Int) (decide_eq_true (by omega)) (ns.map fun (n : Nat) => D.int (n : Int)) (a : Int) (many p : Int) ((a + many p : Nat) : Int) (((a + many p) % N : Nat) : Int) p hv m rfl (Int.natCast_add ..).symm (Int.natCast_emod ..).symm (szOk_of (by rw [List.length_map]; omega))
    have e3 : (D.lst ((ns.map fun (n : Nat) => D.int (n : Int)) ++ [.int (((a + many p : Nat) : Int) - 1), .int (((a + many p) % N : Nat) : Int)])) = dn (ns ++ [a + many p - 1, (a + many p) % N]) := by
      rw [dn, List.map_append, show (((a + many p : Nat) : Int) - 1) = ((a + many p - 1 : Nat) : Int) by omega]
      rfl
    rw [e3] at e1
    refine ⟨(a + many p - 1) :: (a + many p) % N :: ms, b4, b5, ?_, fun k hk => ?_⟩
    · simp only [eS_nil, eS_cons, eA_nil, eA_cons, eE_c, eE_v, eE_bin, eE_neg, eE_not, eE_and, eE_or, eE_cmp, eE_chain, eE_ite, eE_tup, eE_lst, eE_ix, eE_sl, eE_sls, eE_call, eE_pr, eE_mt, eE_comp, eE_frz, eE_prt, eT_asg, eT_setix, eT_aug, eT_ex, eT_ret, eT_retn, eT_ite, eT_for, eT_whl, eT_brk, eT_cnt, eT_pass, eT_frz, eT_fgt, then1_ok, then2_ok, then3_ok, then4_ok, e_okc, ofO_some, getS_zero, getS_succ, fl1_ok, seqK_nx, seqK_rt, seqK_ct, seqK_bk, e_asgn, e_exE, e_exU, e_ret, e_setE, e_if, if2_true, if2_false, iteK_ok, ite2_true, ite2_false, andK_ok, and2_true, and2_false, orK_ok, or2_true, or2_false, notop, e_neg, chainop, chain1_ok, chain2_true, chain2_false, need_true, List.set_cons_zero, List.set_cons_succ, cx_call, truth_bl, truth_int, truth_str, truth_tup, truth_lst, truth_non, bin_add, bin_adds, bin_addt, bin_addl, bin_sub, bin_mul, bin_fdiv, bin_mod, bin_shl, bin_pow, bin_band, cmp_lt, cmp_le, cmp_gt, cmp_ge, cmp_eqi, cmp_nei, cmp_eqs, cmp_nes, cmp_is, cmp_isn, in_str, p_lens, p_lent, p_lenl, p_int, p_divmod, ix_t, ix_l, ix_s, ix_r, e_for, it_t, it_l, it_s, it_rng, it_rng2, it_rev, it_zip, e_int, sl_s1, sl_s2, sl_s3, sls_1, sls_2, isi_int_int, isi_int_str, isi_int_bool, isi_int_tuple, isi_int_list, isi_str_int, isi_str_str, isi_str_bool, isi_str_tuple, isi_str_list, isi_bl_int, isi_bl_str, isi_bl_bool, isi_bl_tuple, isi_bl_list, isi_non_int, isi_non_str, isi_non_bool, isi_non_tuple, isi_non_list, isi_tup_int, isi_tup_str, isi_tup_bool, isi_tup_tuple, isi_tup_list, isi_lst_int, isi_lst_str, isi_lst_bool, isi_lst_tuple, isi_lst_list, comp_seq, comp_seqs, comp_rng,  e_asgt, asgU_some, mk_lstT, mk_lstF0, mk_lstF1, mk_lstF2, szOk_0, last_get, last_set, rc_join, rc_find, rc_index, mt_find, setT_t, setTs_nil, setTs_n, still_d, still_rng, still_rev, still_zip, turnK_nx, turnK_ct, turnK_bk, turnK_rt, forL_nil, forL_cons, List.map_cons, List.map_nil, pyIx_nat, pyIx_lit, pyIxN_lit, seq_ref0, e_setix0, cpow_draw, cpow_30, List.length_cons, List.length_nil, Nat.reduceAdd, Nat.reduceLT, Int.reduceLT, Int.reduceLE, decide_true, decide_false, reduceIte, List.getElem?_cons_zero, List.getElem?_cons_succ]
      rw [show dn ns = D.lst (ns.map fun (n : Nat) => D.int (n : Int)) from rfl, e1]
      simp only [eS_nil, eS_cons, eA_nil, eA_cons, eE_c, eE_v, eE_bin, eE_neg, eE_not, eE_and, eE_or, eE_cmp, eE_chain, eE_ite, eE_tup, eE_lst, eE_ix, eE_sl, eE_sls, eE_call, eE_pr, eE_mt, eE_comp, eE_frz, eE_prt, eT_asg, eT_setix, eT_aug, eT_ex, eT_ret, eT_retn, eT_ite, eT_for, eT_whl, eT_brk, eT_cnt, eT_pass, eT_frz, eT_fgt, then1_ok, then2_ok, then3_ok, then4_ok, e_okc, ofO_some, getS_zero, getS_succ, fl1_ok, seqK_nx, seqK_rt, seqK_ct, seqK_bk, e_asgn, e_exE, e_exU, e_ret, e_setE, e_if, if2_true, if2_false, iteK_ok, ite2_true, ite2_false, andK_ok, and2_true, and2_false, orK_ok, or2_true, or2_false, notop, e_neg, chainop, chain1_ok, chain2_true, chain2_false, need_true, List.set_cons_zero, List.set_cons_succ, cx_call, truth_bl, truth_int, truth_str, truth_tup, truth_lst, truth_non, bin_add, bin_adds, bin_addt, bin_addl, bin_sub, bin_mul, bin_fdiv, bin_mod, bin_shl, bin_pow, bin_band, cmp_lt, cmp_le, cmp_gt, cmp_ge, cmp_eqi, cmp_nei, cmp_eqs, cmp_nes, cmp_is, cmp_isn, in_str, p_lens, p_lent, p_lenl, p_int, p_divmod, ix_t, ix_l, ix_s, ix_r, e_for, it_t, it_l, it_s, it_rng, it_rng2, it_rev, it_zip, e_int, sl_s1, sl_s2, sl_s3, sls_1, sls_2, isi_int_int, isi_int_str, isi_int_bool, isi_int_tuple, isi_int_list, isi_str_int, isi_str_str, isi_str_bool, isi_str_tuple, isi_str_list, isi_bl_int, isi_bl_str, isi_bl_bool, isi_bl_tuple, isi_bl_list, isi_non_int, isi_non_str, isi_non_bool, isi_non_tuple, isi_non_list, isi_tup_int, isi_tup_str, isi_tup_bool, isi_tup_tuple, isi_tup_list, isi_lst_int, isi_lst_str, isi_lst_bool, isi_lst_tuple, isi_lst_list, comp_seq, comp_seqs, comp_rng,  e_asgt, asgU_some, mk_lstT, mk_lstF0, mk_lstF1, mk_lstF2, szOk_0, last_get, last_set, rc_join, rc_find, rc_index, mt_find, setT_t, setTs_nil, setTs_n, still_d, still_rng, still_rev, still_zip, turnK_nx, turnK_ct, turnK_bk, turnK_rt, forL_nil, forL_cons, List.map_cons, List.map_nil, pyIx_nat, pyIx_lit, pyIxN_lit, seq_ref0, e_setix0, cpow_draw, cpow_30, List.length_cons, List.length_nil, Nat.reduceAdd, Nat.reduceLT, Int.reduceLT, Int.reduceLE, decide_true, decide_false, reduceIte, List.getElem?_cons_zero, List.getElem?_cons_succ]
      rw [e2, List.append_assoc]
      rfl
    · rcases List.mem_cons.mp hk with rfl | hk
      · omega
      · rcases List.mem_cons.mp hk with rfl | hk
        · exact Nat.mod_lt _ hN
        · exact p2 k hk
theorem place_nil : ∀ (s : List Pat), (∀ p ∈ s, VP p ∧ 1 ≤ p.length ∧ p.length ≤ 8) → placeS s [] = none
  | [], _ => rfl
  | p :: r, h => by
    have hp := h p (by simp)
    have e : place p [] = none := by
      rw [place, if_neg (by rw [List.length_nil]; omega)]
    rw [placeS, e, place_nil r fun q hq => h q (by simp [hq])]
    rfl
theorem total_pos {s : List Pat} (h : ∀ p ∈ s, VP p) (h1 : 1 ≤ s.length) : 0 < total s := by
  cases s with
  | nil => simp at h1
  | cons p r =>
    have := many_pos (h p (by simp))
    unfold total
    rw [List.map_cons, List.sum_cons]
    omega
theorem s_numbered (k0 : Nat) (hk : 5 ≤ k0) (s : List Pat) (h : VF s) (h8 : s.length ≤ 8) (h1 : 1 ≤ s.length) (o : O) (ho : DI o) : ∃ o', sem P k0 18 [.ref 0, .d (ds s)] [o] = .ok (.d (.bl true)) [o'] ∧ DI o' := by
  obtain ⟨k0, rfl⟩ : ∃ j, k0 = j + 1 := ⟨k0 - 1, by omega⟩
  rw [r_L_numbered]
  have hs := h.vs h8
  have hN := total_pos (fun p hp => (h.1 p hp).1) h1
  have c1 := many_comp (cx P k0) 14 (fun p μ hp => s_many' k0 (by omega) p hp μ) 5 [some (.ref 0), some (.d (ds s)), none, none, none, none, none, none, none, none] (fun v => rfl) s hs [o]
  have c2 := s_total k0 (by omega) s hs [o]
  have c3 := s_exact_int k0 (by omega) (total s) [o]
  obtain ⟨gs, o1, e1, d1, l1, p1⟩ := great_comp k0 (by omega) (some (.d (ds s))) (total s) hN ((List.range (Int.toNat 5)).map fun (i : Nat) => Vl.d (.int (i : Int))) [] o ho (by simp)
  rw [List.length_map, List.length_range] at l1
  have l1' : gs.length = 5 := l1
  rw [List.nil_append] at e1
  obtain ⟨ms, b4, b5, e2, p2⟩ := ahead_loop k0 (by omega) (some (.d (ds s))) none none none none (total s) hN [o1] s 0 (0 :: gs) none (fun p hp => (h.1 p hp).1) (by omega) (by rw [List.length_cons, l1']; omega)
  have hall : ∀ n ∈ 0 :: gs ++ ms, n < total s := fun n hn => by
    rcases List.mem_append.mp hn with hn | hn
    · rcases List.mem_cons.mp hn with rfl | hn
      · exact hN
      · exact p1 n hn
    · exact p2 n hn
  have q5 : ∀ o' : O, sem P k0 5 [.d (ds s), .d (.str [])] [o'] = .ok (.d .non) [o'] := fun o' => by
    have := s_placein k0 (by omega) s hs [] [o']
    rw [place_nil s h.1] at this
    exact this
  have hnn : decide (D.non = D.non) = true := decide_eq_true rfl
  have z1 : szOk s.length = true := szOk_of (by omega)
  have z2 : szOk gs.length = true := szOk_of (by omega)
  have z3 : szOk (1 + gs.length) = true := szOk_of (by omega)
  have hr : decide (-1000000000 ≤ (5 : Int) ∧ (5 : Int) ≤ 1000000000) = true := by decide
  have hdn : D.lst ([D.int 0] ++ gs.map fun (n : Nat) => D.int (n : Int)) = dn (0 :: gs) := rfl
  have cds : ∀ (c e : Sl → Mem → HP.R Vl) (tg : Tg) (σ : Sl) (m : Mem), compop c e tg .seq σ [.d (ds s)] m = compL c e tg (fun _ => true) (fgt σ tg.sets) ((s.map dp).map Vl.d) m [] := fun _ _ _ _ _ => rfl
  have ids : ∀ m, itemsOf .seq [.d (ds s)] m = .ok ((s.map dp).map Vl.d) m := fun _ => rfl
  have idn : ∀ (l : List Nat) m, itemsOf .seq [.d (dn l)] m = .ok ((l.map fun (n : Nat) => D.int (n : Int)).map Vl.d) m := fun _ _ => rfl
  rw [show ((0 : Nat) : Int) = 0 from rfl] at e2
  by_cases h300 : total s ≤ 300
  · have hd : decide ((total s : Int) ≤ 300) = true := decide_eq_true (by omega)
    have q9 := s_stems k0 (by omega) s hs h300 [o1]
    obtain ⟨o2, b7, b8, b9, e3, d3⟩ := num_loop k0 (by omega) s h h8 (some (.d (.int (total s : Int)))) (some (.d (dn (0 :: gs ++ ms)))) b4 b5 (s.flatMap listP) (.inr rfl) (0 :: gs ++ ms) o1 none none none d1 hall
    refine ⟨o2, ?_, d3⟩
    have q6 := q5 o2
    simp only [eS_nil, eS_cons, eA_nil, eA_cons, eE_c, eE_v, eE_bin, eE_neg, eE_not, eE_and, eE_or, eE_cmp, eE_chain, eE_ite, eE_tup, eE_lst, eE_ix, eE_sl, eE_sls, eE_call, eE_pr, eE_mt, eE_comp, eE_frz, eE_prt, eT_asg, eT_setix, eT_aug, eT_ex, eT_ret, eT_retn, eT_ite, eT_for, eT_whl, eT_brk, eT_cnt, eT_pass, eT_frz, eT_fgt, then1_ok, then2_ok, then3_ok, then4_ok, e_okc, ofO_some, getS_zero, getS_succ, fl1_ok, seqK_nx, seqK_rt, seqK_ct, seqK_bk, e_asgn, e_exE, e_exU, e_ret, e_setE, e_if, if2_true, if2_false, iteK_ok, ite2_true, ite2_false, andK_ok, and2_true, and2_false, orK_ok, or2_true, or2_false, notop, e_neg, chainop, chain1_ok, chain2_true, chain2_false, need_true, List.set_cons_zero, List.set_cons_succ, cx_call, truth_bl, truth_int, truth_str, truth_tup, truth_lst, truth_non, bin_add, bin_adds, bin_addt, bin_addl, bin_sub, bin_mul, bin_fdiv, bin_mod, bin_shl, bin_pow, bin_band, cmp_lt, cmp_le, cmp_gt, cmp_ge, cmp_eqi, cmp_nei, cmp_eqs, cmp_nes, cmp_is, cmp_isn, in_str, p_lens, p_lent, p_lenl, p_int, p_divmod, ix_t, ix_l, ix_s, ix_r, e_for, it_t, it_l, it_s, it_rng, it_rng2, it_rev, it_zip, e_int, sl_s1, sl_s2, sl_s3, sls_1, sls_2, isi_int_int, isi_int_str, isi_int_bool, isi_int_tuple, isi_int_list, isi_str_int, isi_str_str, isi_str_bool, isi_str_tuple, isi_str_list, isi_bl_int, isi_bl_str, isi_bl_bool, isi_bl_tuple, isi_bl_list, isi_non_int, isi_non_str, isi_non_bool, isi_non_tuple, isi_non_list, isi_tup_int, isi_tup_str, isi_tup_bool, isi_tup_tuple, isi_tup_list, isi_lst_int, isi_lst_str, isi_lst_bool, isi_lst_tuple, isi_lst_list, comp_seq, comp_seqs, comp_rng,  e_asgt, asgU_some, mk_lstT, mk_lstF0, mk_lstF1, mk_lstF2, szOk_0, last_get, last_set, rc_join, rc_find, rc_index, mt_find, setT_t, setTs_nil, setTs_n, still_d, still_rng, still_rev, still_zip, turnK_nx, turnK_ct, turnK_bk, turnK_rt, forL_nil, forL_cons, List.map_cons, List.map_nil, pyIx_nat, pyIx_lit, pyIxN_lit, seq_ref0, e_setix0, cpow_draw, cpow_30, List.length_cons, List.length_nil, Nat.reduceAdd, Nat.reduceLT, Int.reduceLT, Int.reduceLE, decide_true, decide_false, reduceIte, List.getElem?_cons_zero, List.getElem?_cons_succ, b_L_numbered, Tg.sets, fgt, cds, c1, mk_lstF, List.length_map, z1, p_sum, sum_cast, c2, c3, Bool.not_true, and_self, e1, z2, z3, hdn, ids, e2, hd, q9, idn, e3, q6, hnn, end_rt]
    rw [drop_d0 _ _ _ _ d3.pure]
  · have hd : decide ((total s : Int) ≤ 300) = false := decide_eq_false (by omega)
    obtain ⟨o2, b7, b8, b9, e3, d3⟩ := num_loop k0 (by omega) s h h8 (some (.d (.int (total s : Int)))) (some (.d (dn (0 :: gs ++ ms)))) b4 b5 [] (.inl rfl) (0 :: gs ++ ms) o1 none none none d1 hall
    refine ⟨o2, ?_, d3⟩
    have q6 := q5 o2
    have e0 : dls [] = D.lst [] := rfl
    rw [e0] at e3
    simp only [eS_nil, eS_cons, eA_nil, eA_cons, eE_c, eE_v, eE_bin, eE_neg, eE_not, eE_and, eE_or, eE_cmp, eE_chain, eE_ite, eE_tup, eE_lst, eE_ix, eE_sl, eE_sls, eE_call, eE_pr, eE_mt, eE_comp, eE_frz, eE_prt, eT_asg, eT_setix, eT_aug, eT_ex, eT_ret, eT_retn, eT_ite, eT_for, eT_whl, eT_brk, eT_cnt, eT_pass, eT_frz, eT_fgt, then1_ok, then2_ok, then3_ok, then4_ok, e_okc, ofO_some, getS_zero, getS_succ, fl1_ok, seqK_nx, seqK_rt, seqK_ct, seqK_bk, e_asgn, e_exE, e_exU, e_ret, e_setE, e_if, if2_true, if2_false, iteK_ok, ite2_true, ite2_false, andK_ok, and2_true, and2_false, orK_ok, or2_true, or2_false, notop, e_neg, chainop, chain1_ok, chain2_true, chain2_false, need_true, List.set_cons_zero, List.set_cons_succ, cx_call, truth_bl, truth_int, truth_str, truth_tup, truth_lst, truth_non, bin_add, bin_adds, bin_addt, bin_addl, bin_sub, bin_mul, bin_fdiv, bin_mod, bin_shl, bin_pow, bin_band, cmp_lt, cmp_le, cmp_gt, cmp_ge, cmp_eqi, cmp_nei, cmp_eqs, cmp_nes, cmp_is, cmp_isn, in_str, p_lens, p_lent, p_lenl, p_int, p_divmod, ix_t, ix_l, ix_s, ix_r, e_for, it_t, it_l, it_s, it_rng, it_rng2, it_rev, it_zip, e_int, sl_s1, sl_s2, sl_s3, sls_1, sls_2, isi_int_int, isi_int_str, isi_int_bool, isi_int_tuple, isi_int_list, isi_str_int, isi_str_str, isi_str_bool, isi_str_tuple, isi_str_list, isi_bl_int, isi_bl_str, isi_bl_bool, isi_bl_tuple, isi_bl_list, isi_non_int, isi_non_str, isi_non_bool, isi_non_tuple, isi_non_list, isi_tup_int, isi_tup_str, isi_tup_bool, isi_tup_tuple, isi_tup_list, isi_lst_int, isi_lst_str, isi_lst_bool, isi_lst_tuple, isi_lst_list, comp_seq, comp_seqs, comp_rng,  e_asgt, asgU_some, mk_lstT, mk_lstF0, mk_lstF1, mk_lstF2, szOk_0, last_get, last_set, rc_join, rc_find, rc_index, mt_find, setT_t, setTs_nil, setTs_n, still_d, still_rng, still_rev, still_zip, turnK_nx, turnK_ct, turnK_bk, turnK_rt, forL_nil, forL_cons, List.map_cons, List.map_nil, pyIx_nat, pyIx_lit, pyIxN_lit, seq_ref0, e_setix0, cpow_draw, cpow_30, List.length_cons, List.length_nil, Nat.reduceAdd, Nat.reduceLT, Int.reduceLT, Int.reduceLE, decide_true, decide_false, reduceIte, List.getElem?_cons_zero, List.getElem?_cons_succ, b_L_numbered, Tg.sets, fgt, cds, c1, mk_lstF, List.length_map, z1, p_sum, sum_cast, c2, c3, Bool.not_true, and_self, e1, z2, z3, hdn, ids, e2, hd, idn, e3, q6, hnn, end_rt]
    rw [drop_d0 _ _ _ _ d3.pure]
end K28
end HP
end

section
set_option Elab.async false
set_option linter.all false
set_option maxRecDepth 100000
set_option maxHeartbeats 16000000
namespace HP
namespace K28
theorem p_scr (ns : List Int) (m : Mem) : prim (.list false) [.scr ns] m = .ok (.d (.lst (ns.map D.int))) m := rfl
theorem s_begin (k0 : Nat) (hk : 1 ≤ k0) (ns : List Int) : ∃ o, sem P k0 6 [.scr ns] [] = .ok (.ref 0) [o] ∧ DI o := by
  obtain ⟨k0, rfl⟩ : ∃ j, k0 = j + 1 := ⟨k0 - 1, by omega⟩
  refine ⟨.lst [.d (.lst (ns.map D.int)), .d (.int ((0 : Nat) : Int)), .d (.int ((0 : Nat) : Int)), .d (.int 7), .d (.int 0)], ?_, ⟨ns, 0, 0, 7, 0, rfl⟩⟩
  rw [r_L_begin]
  have hz : ∀ x : Vl, mkLst true [x, .d (.int 0), .d (.int 0), .d (.int 7), .d (.int 0)] ([] : Mem) = .ok (.ref 0) [.lst [x, .d (.int 0), .d (.int 0), .d (.int 7), .d (.int 0)]] := fun _ => rfl
  simp only [eS_nil, eS_cons, eA_nil, eA_cons, eE_c, eE_v, eE_bin, eE_neg, eE_not, eE_and, eE_or, eE_cmp, eE_chain, eE_ite, eE_tup, eE_lst, eE_ix, eE_sl, eE_sls, eE_call, eE_pr, eE_mt, eE_comp, eE_frz, eE_prt, eT_asg, eT_setix, eT_aug, eT_ex, eT_ret, eT_retn, eT_ite, eT_for, eT_whl, eT_brk, eT_cnt, eT_pass, eT_frz, eT_fgt, then1_ok, then2_ok, then3_ok, then4_ok, e_okc, ofO_some, getS_zero, getS_succ, fl1_ok, seqK_nx, seqK_rt, seqK_ct, seqK_bk, e_asgn, e_exE, e_exU, e_ret, e_setE, e_if, if2_true, if2_false, iteK_ok, ite2_true, ite2_false, andK_ok, and2_true, and2_false, orK_ok, or2_true, or2_false, notop, e_neg, chainop, chain1_ok, chain2_true, chain2_false, need_true, List.set_cons_zero, List.set_cons_succ, cx_call, truth_bl, truth_int, truth_str, truth_tup, truth_lst, truth_non, bin_add, bin_adds, bin_addt, bin_addl, bin_sub, bin_mul, bin_fdiv, bin_mod, bin_shl, bin_pow, bin_band, cmp_lt, cmp_le, cmp_gt, cmp_ge, cmp_eqi, cmp_nei, cmp_eqs, cmp_nes, cmp_is, cmp_isn, in_str, p_lens, p_lent, p_lenl, p_int, p_divmod, ix_t, ix_l, ix_s, ix_r, e_for, it_t, it_l, it_s, it_rng, it_rng2, it_rev, it_zip, e_int, sl_s1, sl_s2, sl_s3, sls_1, sls_2, isi_int_int, isi_int_str, isi_int_bool, isi_int_tuple, isi_int_list, isi_str_int, isi_str_str, isi_str_bool, isi_str_tuple, isi_str_list, isi_bl_int, isi_bl_str, isi_bl_bool, isi_bl_tuple, isi_bl_list, isi_non_int, isi_non_str, isi_non_bool, isi_non_tuple, isi_non_list, isi_tup_int, isi_tup_str, isi_tup_bool, isi_tup_tuple, isi_tup_list, isi_lst_int, isi_lst_str, isi_lst_bool, isi_lst_tuple, isi_lst_list, comp_seq, comp_seqs, comp_rng,  e_asgt, asgU_some, mk_lstT, mk_lstF0, mk_lstF1, mk_lstF2, szOk_0, last_get, last_set, rc_join, rc_find, rc_index, mt_find, setT_t, setTs_nil, setTs_n, still_d, still_rng, still_rev, still_zip, turnK_nx, turnK_ct, turnK_bk, turnK_rt, forL_nil, forL_cons, List.map_cons, List.map_nil, pyIx_nat, pyIx_lit, pyIxN_lit, seq_ref0, e_setix0, cpow_draw, cpow_30, List.length_cons, List.length_nil, Nat.reduceAdd, Nat.reduceLT, Int.reduceLT, Int.reduceLE, decide_true, decide_false, reduceIte, List.getElem?_cons_zero, List.getElem?_cons_succ, b_L_begin, p_scr, hz, end_rt]
  rfl
theorem law_turn (k0 : Nat) (hk : 5 ≤ k0) (s l : List Pat) (hs : VF s ∧ s.length ≤ 8 ∧ 1 ≤ s.length) (hl : VF l ∧ l.length ≤ 8 ∧ 1 ≤ l.length) (x z : Option Vl) (o : O) (ho : DI o) :
    ∃ o', evSs (cx P k0) w1_law [x, some (.ref 0), some (.d (ds s)), some (.d (ds l)), z] [o] = .nx [x, some (.ref 0), some (.d (ds s)), some (.d (ds l)), z] [o'] ∧ DI o' := by
  obtain ⟨o1, e1, d1⟩ := s_numbered k0 hk s hs.1 hs.2.1 hs.2.2 o ho
  obtain ⟨o2, e2, d2⟩ := s_numbered k0 hk l hl.1 hl.2.1 hl.2.2 o1 d1
  refine ⟨o2, ?_, d2⟩
  simp only [eS_nil, eS_cons, eA_nil, eA_cons, eE_c, eE_v, eE_bin, eE_neg, eE_not, eE_and, eE_or, eE_cmp, eE_chain, eE_ite, eE_tup, eE_lst, eE_ix, eE_sl, eE_sls, eE_call, eE_pr, eE_mt, eE_comp, eE_frz, eE_prt, eT_asg, eT_setix, eT_aug, eT_ex, eT_ret, eT_retn, eT_ite, eT_for, eT_whl, eT_brk, eT_cnt, eT_pass, eT_frz, eT_fgt, then1_ok, then2_ok, then3_ok, then4_ok, e_okc, ofO_some, getS_zero, getS_succ, fl1_ok, seqK_nx, seqK_rt, seqK_ct, seqK_bk, e_asgn, e_exE, e_exU, e_ret, e_setE, e_if, if2_true, if2_false, iteK_ok, ite2_true, ite2_false, andK_ok, and2_true, and2_false, orK_ok, or2_true, or2_false, notop, e_neg, chainop, chain1_ok, chain2_true, chain2_false, need_true, List.set_cons_zero, List.set_cons_succ, cx_call, truth_bl, truth_int, truth_str, truth_tup, truth_lst, truth_non, bin_add, bin_adds, bin_addt, bin_addl, bin_sub, bin_mul, bin_fdiv, bin_mod, bin_shl, bin_pow, bin_band, cmp_lt, cmp_le, cmp_gt, cmp_ge, cmp_eqi, cmp_nei, cmp_eqs, cmp_nes, cmp_is, cmp_isn, in_str, p_lens, p_lent, p_lenl, p_int, p_divmod, ix_t, ix_l, ix_s, ix_r, e_for, it_t, it_l, it_s, it_rng, it_rng2, it_rev, it_zip, e_int, sl_s1, sl_s2, sl_s3, sls_1, sls_2, isi_int_int, isi_int_str, isi_int_bool, isi_int_tuple, isi_int_list, isi_str_int, isi_str_str, isi_str_bool, isi_str_tuple, isi_str_list, isi_bl_int, isi_bl_str, isi_bl_bool, isi_bl_tuple, isi_bl_list, isi_non_int, isi_non_str, isi_non_bool, isi_non_tuple, isi_non_list, isi_tup_int, isi_tup_str, isi_tup_bool, isi_tup_tuple, isi_tup_list, isi_lst_int, isi_lst_str, isi_lst_bool, isi_lst_tuple, isi_lst_list, comp_seq, comp_seqs, comp_rng,  e_asgt, asgU_some, mk_lstT, mk_lstF0, mk_lstF1, mk_lstF2, szOk_0, last_get, last_set, rc_join, rc_find, rc_index, mt_find, setT_t, setTs_nil, setTs_n, still_d, still_rng, still_rev, still_zip, turnK_nx, turnK_ct, turnK_bk, turnK_rt, forL_nil, forL_cons, List.map_cons, List.map_nil, pyIx_nat, pyIx_lit, pyIxN_lit, seq_ref0, e_setix0, cpow_draw, cpow_30, List.length_cons, List.length_nil, Nat.reduceAdd, Nat.reduceLT, Int.reduceLT, Int.reduceLE, decide_true, decide_false, reduceIte, List.getElem?_cons_zero, List.getElem?_cons_succ, w1_law, e1, e2, Bool.not_true]
theorem main (ns : List Int) (hl : ns.length ≤ 63) : ∃ m, sem (progOf tab gls) 12 19 [.scr ns] [] = .ok (.d (.bl true)) m := by
  obtain ⟨o, e0, d0⟩ := s_begin 11 (by omega) ns
  obtain ⟨s, o1, e1, d1, hs⟩ := s_stock 11 (by omega) o d0 3 3 (by omega) (by omega)
  obtain ⟨l, o2, e2, d2, hl⟩ := s_stock 11 (by omega) o1 d1 8 36 (by omega) (by omega)
  obtain ⟨o3, e3, d3⟩ := law_turn 11 (by omega) s l hs hl (some (.scr ns)) (some (.d (.int ((0 : Nat) : Int)))) o2 d2
  obtain ⟨o4, e4, d4⟩ := law_turn 11 (by omega) s l hs hl (some (.scr ns)) (some (.d (.int ((1 : Nat) : Int)))) o3 d3
  rw [show ((3 : Nat) : Int) = 3 from rfl] at e1
  rw [show ((8 : Nat) : Int) = 8 from rfl] at e2
  have hr : (List.range (Int.toNat 2)).map (fun (i : Nat) => Vl.d (.int (i : Int))) = [.d (.int ((0 : Nat) : Int)), .d (.int ((1 : Nat) : Int))] := rfl
  refine ⟨[], ?_⟩
  rw [show (12 : Nat) = 11 + 1 from rfl, r_law]
  simp only [eS_nil, eS_cons, eA_nil, eA_cons, eE_c, eE_v, eE_bin, eE_neg, eE_not, eE_and, eE_or, eE_cmp, eE_chain, eE_ite, eE_tup, eE_lst, eE_ix, eE_sl, eE_sls, eE_call, eE_pr, eE_mt, eE_comp, eE_frz, eE_prt, eT_asg, eT_setix, eT_aug, eT_ex, eT_ret, eT_retn, eT_ite, eT_for, eT_whl, eT_brk, eT_cnt, eT_pass, eT_frz, eT_fgt, then1_ok, then2_ok, then3_ok, then4_ok, e_okc, ofO_some, getS_zero, getS_succ, fl1_ok, seqK_nx, seqK_rt, seqK_ct, seqK_bk, e_asgn, e_exE, e_exU, e_ret, e_setE, e_if, if2_true, if2_false, iteK_ok, ite2_true, ite2_false, andK_ok, and2_true, and2_false, orK_ok, or2_true, or2_false, notop, e_neg, chainop, chain1_ok, chain2_true, chain2_false, need_true, List.set_cons_zero, List.set_cons_succ, cx_call, truth_bl, truth_int, truth_str, truth_tup, truth_lst, truth_non, bin_add, bin_adds, bin_addt, bin_addl, bin_sub, bin_mul, bin_fdiv, bin_mod, bin_shl, bin_pow, bin_band, cmp_lt, cmp_le, cmp_gt, cmp_ge, cmp_eqi, cmp_nei, cmp_eqs, cmp_nes, cmp_is, cmp_isn, in_str, p_lens, p_lent, p_lenl, p_int, p_divmod, ix_t, ix_l, ix_s, ix_r, e_for, it_t, it_l, it_s, it_rng, it_rng2, it_rev, it_zip, e_int, sl_s1, sl_s2, sl_s3, sls_1, sls_2, isi_int_int, isi_int_str, isi_int_bool, isi_int_tuple, isi_int_list, isi_str_int, isi_str_str, isi_str_bool, isi_str_tuple, isi_str_list, isi_bl_int, isi_bl_str, isi_bl_bool, isi_bl_tuple, isi_bl_list, isi_non_int, isi_non_str, isi_non_bool, isi_non_tuple, isi_non_list, isi_tup_int, isi_tup_str, isi_tup_bool, isi_tup_tuple, isi_tup_list, isi_lst_int, isi_lst_str, isi_lst_bool, isi_lst_tuple, isi_lst_list, comp_seq, comp_seqs, comp_rng,  e_asgt, asgU_some, mk_lstT, mk_lstF0, mk_lstF1, mk_lstF2, szOk_0, last_get, last_set, rc_join, rc_find, rc_index, mt_find, setT_t, setTs_nil, setTs_n, still_d, still_rng, still_rev, still_zip, turnK_nx, turnK_ct, turnK_bk, turnK_rt, forL_nil, forL_cons, List.map_cons, List.map_nil, pyIx_nat, pyIx_lit, pyIxN_lit, seq_ref0, e_setix0, cpow_draw, cpow_30, List.length_cons, List.length_nil, Nat.reduceAdd, Nat.reduceLT, Int.reduceLT, Int.reduceLE, decide_true, decide_false, reduceIte, List.getElem?_cons_zero, List.getElem?_cons_succ, b_law, e0, e1, e2, and_self, hr, e3, e4, end_rt]
  rfl
end K28
end HP
end

section
set_option Elab.async false
set_option maxRecDepth 100000
open PySem PySem.W PyProof.Rows
set_option maxHeartbeats 0 in
theorem PySem.Challenge.cw_hushedpages_k28_stems_numbered_holds : PySem.Challenge.rw_hushedpages_k28_stems_numbered.Holds := by
  w_on; o_law; k_head; (case hw => w_witness2)
  k_fill
  refine L2.walk_of (l := PySem.Challenge.rw_hushedpages_k28_stems_numbered) (n := 63) (k := 12) (x := "_law_script") (CX := fun w => L2.CX PySem.Challenge.rw_hushedpages_k28_stems_numbered.prog w) (sp := fun w => HP.spOf _ ⟨fun _ => none⟩ (HP.progOf HP.K28.tab HP.K28.gls) 12 19) rfl (by decide) rfl ⟨rfl, by decide, by decide⟩ (fun w h Y => PySem.W.kIn_of Y) ?F (fun _ _ a ns hl _ hS => HP.law_sp (HP.K28.main ns hl).choose_spec hS) (fun _ _ _ _ _ h => HP.noCX h)
  case F =>
    intro w mg fa h KX G hmg
    refine HP.law_mk (tab := HP.K28.tab) (gls := HP.K28.gls) (blt := HP.K28.blt) ?D ?L ?B HP.K28.all_ok 12 19 HP.K28.f_law "_law_script" rfl rfl hmg
    case D =>
      refine List.forall_mem_cons.mpr ⟨?_, ?_⟩
      · refine' HP.def_mk HP.K28.f_pattern_many KX G ?a ?l ?c ?k HP.K28.u_pattern_many
        (case a => k_is); (case l => k_is); (case c => k_is); (case k => k_is)
      refine List.forall_mem_cons.mpr ⟨?_, ?_⟩
      · refine' HP.def_mk HP.K28.f_pattern_stem KX G ?a ?l ?c ?k HP.K28.u_pattern_stem
        (case a => k_is); (case l => k_is); (case c => k_is); (case k => k_is)
      refine List.forall_mem_cons.mpr ⟨?_, ?_⟩
      · refine' HP.def_mk HP.K28.f_pattern_place KX G ?a ?l ?c ?k HP.K28.u_pattern_place
        (case a => k_is); (case l => k_is); (case c => k_is); (case k => k_is)
      refine List.forall_mem_cons.mpr ⟨?_, ?_⟩
      · refine' HP.def_mk HP.K28.f_stems_many KX G ?a ?l ?c ?k HP.K28.u_stems_many
        (case a => k_is); (case l => k_is); (case c => k_is); (case k => k_is)
      refine List.forall_mem_cons.mpr ⟨?_, ?_⟩
      · refine' HP.def_mk HP.K28.f_stem_at KX G ?a ?l ?c ?k HP.K28.u_stem_at
        (case a => k_is); (case l => k_is); (case c => k_is); (case k => k_is)
      refine List.forall_mem_cons.mpr ⟨?_, ?_⟩
      · refine' HP.def_mk HP.K28.f_place_in KX G ?a ?l ?c ?k HP.K28.u_place_in
        (case a => k_is); (case l => k_is); (case c => k_is); (case k => k_is)
      refine List.forall_mem_cons.mpr ⟨?_, ?_⟩
      · refine' HP.def_mk HP.K28.f_L_begin KX G ?a ?l ?c ?k HP.K28.u_L_begin
        (case a => k_is); (case l => k_is); (case c => k_is); (case k => k_is)
      refine List.forall_mem_cons.mpr ⟨?_, ?_⟩
      · refine' HP.def_mk HP.K28.f_L_draw KX G ?a ?l ?c ?k HP.K28.u_L_draw
        (case a => k_is); (case l => k_is); (case c => k_is); (case k => k_is)
      refine List.forall_mem_cons.mpr ⟨?_, ?_⟩
      · refine' HP.def_mk HP.K28.f_L_pick KX G ?a ?l ?c ?k HP.K28.u_L_pick
        (case a => k_is); (case l => k_is); (case c => k_is); (case k => k_is)
      refine List.forall_mem_cons.mpr ⟨?_, ?_⟩
      · refine' HP.def_mk HP.K28.f_L_stems KX G ?a ?l ?c ?k HP.K28.u_L_stems
        (case a => k_is); (case l => k_is); (case c => k_is); (case k => k_is)
      refine List.forall_mem_cons.mpr ⟨?_, ?_⟩
      · refine' HP.def_mk HP.K28.f_L_exact KX G ?a ?l ?c ?k HP.K28.u_L_exact
        (case a => k_is); (case l => k_is); (case c => k_is); (case k => k_is)
      refine List.forall_mem_cons.mpr ⟨?_, ?_⟩
      · refine' HP.def_mk HP.K28.f_L_great KX G ?a ?l ?c ?k HP.K28.u_L_great
        (case a => k_is); (case l => k_is); (case c => k_is); (case k => k_is)
      refine List.forall_mem_cons.mpr ⟨?_, ?_⟩
      · refine' HP.def_mk HP.K28.f_L_slot_of KX G ?a ?l ?c ?k HP.K28.u_L_slot_of
        (case a => k_is); (case l => k_is); (case c => k_is); (case k => k_is)
      refine List.forall_mem_cons.mpr ⟨?_, ?_⟩
      · refine' HP.def_mk HP.K28.f_L_stock_of KX G ?a ?l ?c ?k HP.K28.u_L_stock_of
        (case a => k_is); (case l => k_is); (case c => k_is); (case k => k_is)
      refine List.forall_mem_cons.mpr ⟨?_, ?_⟩
      · refine' HP.def_mk HP.K28.f_L_many_of KX G ?a ?l ?c ?k HP.K28.u_L_many_of
        (case a => k_is); (case l => k_is); (case c => k_is); (case k => k_is)
      refine List.forall_mem_cons.mpr ⟨?_, ?_⟩
      · refine' HP.def_mk HP.K28.f_L_stem_of KX G ?a ?l ?c ?k HP.K28.u_L_stem_of
        (case a => k_is); (case l => k_is); (case c => k_is); (case k => k_is)
      refine List.forall_mem_cons.mpr ⟨?_, ?_⟩
      · refine' HP.def_mk HP.K28.f_L_place_of KX G ?a ?l ?c ?k HP.K28.u_L_place_of
        (case a => k_is); (case l => k_is); (case c => k_is); (case k => k_is)
      refine List.forall_mem_cons.mpr ⟨?_, ?_⟩
      · refine' HP.def_mk HP.K28.f_L_near KX G ?a ?l ?c ?k HP.K28.u_L_near
        (case a => k_is); (case l => k_is); (case c => k_is); (case k => k_is)
      refine List.forall_mem_cons.mpr ⟨?_, ?_⟩
      · refine' HP.def_mk HP.K28.f_L_numbered KX G ?a ?l ?c ?k HP.K28.u_L_numbered
        (case a => k_is); (case l => k_is); (case c => k_is); (case k => k_is)
      refine List.forall_mem_cons.mpr ⟨?_, ?_⟩
      · refine' HP.def_mk HP.K28.f_law KX G ?a ?l ?c ?k HP.K28.u_law
        (case a => k_is); (case l => k_is); (case c => k_is); (case k => k_is)
      exact fun _ z => nomatch z
    case L =>
      exact fun _ z => nomatch z
    case B =>
      refine List.forall_mem_cons.mpr ⟨?_, ?_⟩
      · exact PySem.W.mg_none_of KX G (by k_is)
      refine List.forall_mem_cons.mpr ⟨?_, ?_⟩
      · exact PySem.W.mg_none_of KX G (by k_is)
      refine List.forall_mem_cons.mpr ⟨?_, ?_⟩
      · exact PySem.W.mg_none_of KX G (by k_is)
      refine List.forall_mem_cons.mpr ⟨?_, ?_⟩
      · exact PySem.W.mg_none_of KX G (by k_is)
      refine List.forall_mem_cons.mpr ⟨?_, ?_⟩
      · exact PySem.W.mg_none_of KX G (by k_is)
      refine List.forall_mem_cons.mpr ⟨?_, ?_⟩
      · exact PySem.W.mg_none_of KX G (by k_is)
      refine List.forall_mem_cons.mpr ⟨?_, ?_⟩
      · exact PySem.W.mg_none_of KX G (by k_is)
      refine List.forall_mem_cons.mpr ⟨?_, ?_⟩
      · exact PySem.W.mg_none_of KX G (by k_is)
      refine List.forall_mem_cons.mpr ⟨?_, ?_⟩
      · exact PySem.W.mg_none_of KX G (by k_is)
      refine List.forall_mem_cons.mpr ⟨?_, ?_⟩
      · exact PySem.W.mg_none_of KX G (by k_is)
      refine List.forall_mem_cons.mpr ⟨?_, ?_⟩
      · exact PySem.W.mg_none_of KX G (by k_is)
      refine List.forall_mem_cons.mpr ⟨?_, ?_⟩
      · exact PySem.W.mg_none_of KX G (by k_is)
      refine List.forall_mem_cons.mpr ⟨?_, ?_⟩
      · exact PySem.W.mg_none_of KX G (by k_is)
      exact fun _ z => nomatch z
end
