import PyProof.Rows.All
import Wide.All
import OpenK.AllK
import Wide.FinOn
import KE.SortData
import KE.SortLaws
import HandS.ForMost
import HandS.Exc
import HandS.TupAny
import HandS.TupMul
import KE.KDictKeyed
import KE.KeyNested
import HandS.Wide
import HandS.Deep
import HandS.Dict
import HandS.Text
import HandS.Steps
import HandS.Iter
import HandS.Style
import HandS.More
import HandS.IsInst
import HandS.TupSets
import HandS.TupLen
import HandS.RaiseMore
import KE.OsSetLaws
import HandS.Replace
import PyProof.StrLawsTight
import KE.KxLen
import PyProof.FitsInt
import PyProof.Ascii
import PyProof.ReprRoads
import HandS.Star
import HandS.Words
import HandS.Comp
import HandS.Ends
import HandS.Records
import HandS.ReCall
import HandS.NoneIn
import KE.GoesEnum
import HandS.DictComp
import HandS.Property
import HandS.Conv
import PySem.Challenge.RW_fewslips_k64_courses_and_what_is_heard
section
set_option Elab.async false
set_option linter.all false
set_option maxRecDepth 100000
/-! LA: the functional evaluator. Data D (trees, no references), logical values VL, the logical heap LH, the core syntax CE/CS, evE/evS/callN. -/
namespace L3

/-- data without references -/
inductive D where
  | non
  | bl (b : Bool)
  | int (i : Int)
  | str (s : List Nat)
  | tup (xs : List D)
  | lst (xs : List D)
  | dct (ks vs : List D)
  | obj (c : Nat) (ns : List Nat) (vs : List D)
  /-- a class -/
  | cls (c : Nat)
  /-- the law's own argument: a list that is sliced, walked, counted -/
  | scr (xs : List D)
  deriving Inhabited

mutual
def D.beq : D → D → Bool
  | .non, .non => true
  | .bl a, .bl b => a == b
  | .int a, .int b => a == b
  | .str a, .str b => a == b
  | .tup a, .tup b => D.beqs a b
  | .lst a, .lst b => D.beqs a b
  | .dct a b, .dct c d => D.beqs a c && D.beqs b d
  | .obj a n b, .obj c m d => a == c && n == m && D.beqs b d
  | .cls a, .cls b => a == b
  | .scr a, .scr b => D.beqs a b
  | _, _ => false
def D.beqs : List D → List D → Bool
  | [], [] => true
  | x :: xs, y :: ys => D.beq x y && D.beqs xs ys
  | _, _ => false
end
mutual
theorem D.beq_iff : ∀ x y : D, D.beq x y = true ↔ x = y
  | x, y => by
    cases x <;> cases y <;> simp only [D.beq, Bool.and_eq_true, beq_iff_eq, D.bl.injEq, D.int.injEq, D.str.injEq, D.tup.injEq, D.lst.injEq, D.dct.injEq, D.obj.injEq, D.cls.injEq, D.scr.injEq, reduceCtorEq, Bool.false_eq_true]
    · rename_i a b; exact D.beqs_iff a b
    · rename_i a b; exact D.beqs_iff a b
    · rename_i a b c d; rw [D.beqs_iff a c, D.beqs_iff b d]
    · rename_i a n b c m d; rw [D.beqs_iff b d]; exact ⟨fun h => ⟨h.1.1, h.1.2, h.2⟩, fun h => ⟨⟨h.1, h.2.1⟩, h.2.2⟩⟩
    · rename_i a b; exact D.beqs_iff a b
theorem D.beqs_iff : ∀ x y : List D, D.beqs x y = true ↔ x = y
  | [], [] => by simp [D.beqs]
  | [], _ :: _ => by simp [D.beqs]
  | _ :: _, [] => by simp [D.beqs]
  | x :: xs, y :: ys => by simp only [D.beqs, Bool.and_eq_true, List.cons.injEq]; rw [D.beq_iff x y, D.beqs_iff xs ys]
end
instance : DecidableEq D := fun x y => if h : D.beq x y = true then isTrue ((D.beq_iff x y).mp h) else isFalse fun e => h ((D.beq_iff x y).mpr e)

/-- a logical value: data, or a mutable object -/
inductive VL where
  | d (x : D)
  | r (n : Nat)
  deriving DecidableEq, Inhabited
/-- a mutable object -/
inductive LO where
  | lst (xs : List VL)
  | dct (ks : List D) (vs : List VL)
  | obj (c : Nat) (ns : List Nat) (vs : List VL)
  | dead
  deriving DecidableEq, Inhabited
abbrev LH := List LO

inductive Res (α : Type) where
  | ok (a : α) (L : LH)
  | exn (e : D) (L : LH)
  | stuck
def Res.bind {α β : Type} : Res α → (α → LH → Res β) → Res β
  | .ok a L, f => f a L
  | .exn e L, _ => .exn e L
  | .stuck, _ => .stuck
@[simp] theorem Res.bind_ok {α β : Type} (a : α) (L : LH) (f : α → LH → Res β) : (Res.ok a L).bind f = f a L := rfl
@[simp] theorem Res.bind_exn {α β : Type} (e : D) (L : LH) (f : α → LH → Res β) : (Res.exn e L).bind f = .exn e L := rfl
@[simp] theorem Res.bind_stuck {α β : Type} (f : α → LH → Res β) : (Res.stuck : Res α).bind f = .stuck := rfl
/-- where nothing may be raised -/
def Res.noX {α : Type} : Res α → Res α
  | .ok a L => .ok a L
  | _ => .stuck
@[simp] theorem Res.noX_ok {α : Type} (a : α) (L : LH) : (Res.ok a L).noX = .ok a L := rfl
def ofOpt {α : Type} (o : Option α) (L : LH) : Res α := match o with
  | some a => .ok a L
  | none => .stuck
@[simp] theorem ofOpt_some {α : Type} (a : α) (L : LH) : ofOpt (some a) L = .ok a L := rfl
@[simp] theorem ofOpt_none {α : Type} (L : LH) : ofOpt (none : Option α) L = .stuck := rfl

/-- the most items of a list, a text -/
abbrev lim : Nat := 16777216

/-! ### the core syntax -/
inductive BOp where | add | sub | mul | fdiv | mod | pow deriving DecidableEq, Inhabited
inductive COp where | eq | ne | lt | le | gt | ge | isin | notin | isN | notN deriving DecidableEq, Inhabited
inductive Ty where | int | str | tuple | list | bool | dict | cls (c : Nat) deriving DecidableEq, Inhabited
inductive BF where | len | int | str | repr | list (m : Bool) | tuple | sum | min | max | all | any | lenset | isinst (t : Ty) | sorted (m : Bool) deriving DecidableEq, Inhabited
inductive MF where | append | extend | pop | sindex | lindex | join | split (m : Bool) | upper | get | setdefault | update deriving DecidableEq, Inhabited
mutual
inductive CE where
  | var (i : Nat)
  | lit (d : D)
  | tup (es : List CA)
  | lst (m : Bool) (es : List CA)
  | dict (m : Bool) (es : List CE)
  | bin (op : BOp) (a b : CE)
  | neg (a : CE)
  | not (a : CE)
  | cmp (op : COp) (a b : CE)
  | chain (o1 o2 : COp) (a b c : CE)
  | and (a b : CE)
  | or (a b : CE)
  | ite (c : CB) (a b : CE)
  | call (f : Nat) (es : List CE)
  | callK (f : Nat) (es : List CE) (ks : List Nat) (ws : List CE)
  | make (c : Nat) (es : List CE)
  | callB (b : BF) (es : List CE)
  | meth (m : MF) (o : CE) (es : List CE)
  | umeth (m : Nat) (o : CE) (es : List CE)
  | attr (a : Nat) (o : CE)
  | idx (a i : CE)
  | slc (m : Bool) (a : CE) (lo hi : Option CE)
  | rev (m : Bool) (a : CE)
  | lc (m : Bool) (own : List Nat) (t : CT) (it : CIt) (c : Option CB) (e : CE)
  | lc2 (m : Bool) (own : List Nat) (t : CT) (it : CIt) (c : Option CB) (own2 : List Nat) (t2 : CT) (it2 : CIt) (c2 : Option CB) (e : CE)
  | dc (m : Bool) (own : List Nat) (t : CT) (it : CIt) (c : Option CB) (k v : CE)
  | lof (m : Bool) (it : CIt)
  | frz (e : CE)
  | isinst (t : Ty) (a : CE)
  | lenset (a : CE)
  | lrange (m : Bool) (a : CE)
  | wall
inductive CB where
  | e (a : CE)
  | cmp (op : COp) (a b : CE)
  | chain (o1 o2 : COp) (a b c : CE)
  | not (a : CB)
  | and (a b : CB)
  | or (a b : CB)
inductive CA where
  | one (e : CE)
  | star (e : CE)
inductive CT where
  | name (i : Nat)
  | tup (ts : List CT)
inductive CIt where
  | of (e : CE)
  | range1 (a : CE)
  | range2 (a b : CE)
  | enum (e : CE) (st : Option CE)
  | zip (es : List CE)
  | items (e : CE)
end
inductive CS where
  | asg (t : CT) (e : CE)
  | par (is : List Nat) (es : List CE)
  | setI (o i e : CE)
  | setA (o : CE) (a : Nat) (e : CE)
  | aug (i : Nat) (op : BOp) (e : CE)
  | expr (e : CE)
  | ret (e : CE)
  | ite (c : CB) (a b : List CS)
  | whil (c : CB) (b : List CS)
  | forr (t : CT) (it : CIt) (b : List CS)
  | brk | cont | pass
  | raise (c : Nat) (es : List CE)
  | wall
  | tryE (b : List CS) (h : List (Nat × Option Nat × List CS))
instance : Inhabited CE := ⟨.var 0⟩
instance : Inhabited CS := ⟨.pass⟩

/-- a def: its slots, its parameters (the first ones), its body; keep: what it makes stays mutable behind it -/
structure FDef where
  nslots : Nat
  npar : Nat
  body : List CS
  keep : Bool
  deriving Inhabited
/-- a class: its methods and properties by their names' numbers, its __init__; frozen: its instances never change behind __init__ -/
structure CDef where
  meths : List (Nat × Nat)
  props : List (Nat × Nat)
  init : Nat
  frozen : Bool
  /-- its attributes: no class has them -/
  flds : List Nat
  eq : Option Nat := none
  deriving Inhabited
structure Tab where
  fns : List FDef
  clss : List CDef
  fuel : Nat
  /-- exception classes (by number) and their fields -/
  excs : List (Nat × List Nat) := []

/-! ### operations on data -/
mutual
/-- plain data of at most that depth: no dict, no instance -/
def D.okq : Nat → D → Bool
  | _, .non | _, .bl _ | _, .int _ | _, .str _ => true
  | 0, .tup _ | 0, .lst _ => false
  | k + 1, .tup xs | k + 1, .lst xs => D.okqs k xs
  | _, .dct _ _ | _, .obj _ _ _ | _, .cls _ | _, .scr _ => false
def D.okqs : Nat → List D → Bool
  | _, [] => true
  | k, x :: xs => D.okq k x && D.okqs k xs
end
mutual
/-- == of plain data -/
def D.eqv : D → D → Bool
  | .non, .non => true
  | .bl a, .bl b => a == b
  | .bl a, .int j => (if a then 1 else 0) == j
  | .int i, .bl b => i == (if b then 1 else 0)
  | .int i, .int j => i == j
  | .str x, .str y => x == y
  | .lst xs, .lst ys => D.eqvs xs ys
  | .tup xs, .tup ys => D.eqvs xs ys
  | _, _ => false
def D.eqvs : List D → List D → Bool
  | [], [] => true
  | x :: xs, y :: ys => D.eqv x y && D.eqvs xs ys
  | _, _ => false
end
def eqLim : Nat := 60
/-! a key of a dict: an int, a text, or a tuple of such and None (no bool among them) -/
mutual
def D.keyT : Nat → D → Bool
  | _, .int _ | _, .str _ | _, .non => true
  | k + 1, .tup xs => D.keyTs k xs
  | _, _ => false
def D.keyTs : Nat → List D → Bool
  | _, [] => true
  | k, x :: xs => D.keyT k x && D.keyTs k xs
end
/-- all keys are of one kind: ofInts, texts, None; or tuples -/
def D.isTup : D → Bool
  | .tup _ => true
  | _ => false
def keyOk : D → Bool
  | .int _ | .str _ => true
  | .tup xs => D.keyTs 7 xs
  | _ => false
def keysOk (ks : List D) (k : D) : Bool := keyOk k && ks.all fun j => j.isTup == k.isTup

def allD : List VL → Option (List D)
  | [] => some []
  | .d x :: r => (allD r).map (x :: ·)
  | .r _ :: _ => none
/-- the items of a list or a tuple -/
def seqOf (L : LH) : VL → Option (List VL)
  | .d (.tup xs) => some (xs.map .d)
  | .d (.lst xs) => some (xs.map .d)
  | .r n => match L[n]? with
    | some (.lst xs) => some xs
    | _ => none
  | _ => none
def isL (L : LH) : VL → Bool
  | .d (.lst _) => true
  | .r n => match L[n]? with
    | some (.lst _) => true
    | _ => false
  | _ => false
def mapO {α β : Type} (f : α → Option β) : List α → Option (List β)
  | [] => some []
  | x :: xs => match f x, mapO f xs with
    | some y, some ys => some (y :: ys)
    | _, _ => none
/-- what a value is as data, now -/
def dv : Nat → LH → VL → Option D
  | _, _, .d x => some x
  | 0, _, .r _ => none
  | k + 1, L, .r n => match L[n]? with
    | some (.lst xs) => (mapO (dv k L) xs).map .lst
    | some (.dct ks vs) => (mapO (dv k L) vs).map (.dct ks)
    | _ => none
abbrev dvs (k : Nat) (L : LH) (xs : List VL) : Option (List D) := mapO (dv k L) xs
def dvLim : Nat := 4
def mapF {α β γ : Type} (f : γ → α → Option (β × γ)) : γ → List α → Option (List β × γ)
  | L, [] => some ([], L)
  | L, x :: xs => match f L x with
    | some (y, L') => (mapF f L' xs).map fun p => (y :: p.1, p.2)
    | none => none
/-- a mutable object (and what it holds) becomes data -/
def frz : Nat → LH → VL → Option (D × LH)
  | _, L, .d x => some (x, L)
  | 0, _, .r _ => none
  | k + 1, L, .r n => match L[n]? with
    | some (.lst xs) => (mapF (frz k) (L.set n .dead) xs).map fun p => (.lst p.1, p.2)
    | some (.dct ks vs) => (mapF (frz k) (L.set n .dead) vs).map fun p => (.dct ks p.1, p.2)
    | some (.obj c ns vs) => (mapF (frz k) (L.set n .dead) vs).map fun p => (.obj c ns p.1, p.2)
    | _ => none
def frzLim : Nat := 6

def alloc (o : LO) (L : LH) : Res VL := .ok (.r L.length) (L ++ [o])
/-- a new list -/
def mkL (m : Bool) (xs : List VL) (L : LH) : Res VL :=
  if xs.length ≤ lim then (if m then alloc (.lst xs) L else match allD xs with
    | some ds => .ok (.d (.lst ds)) L
    | none => alloc (.lst xs) L) else .stuck
def mkT (xs : List VL) (L : LH) : Res VL :=
  if xs.length ≤ lim then (match allD xs with
    | some ds => .ok (.d (.tup ds)) L
    | none => .stuck) else .stuck

def chars (s : List Nat) : List D := s.map fun c => .str [c]
/-- the place of an index among n -/
def ixAt (n : Nat) (i : Int) : Option Nat := if 0 ≤ i then (if i < n then some i.toNat else none) else if -(n : Int) ≤ i then some (i + n).toNat else none
def bound (n d : Nat) : Option Int → Nat
  | none => d
  | some v => if v < 0 then (v + (n : Int)).toNat else min v.toNat n
def cut {α : Type} (xs : List α) (lo hi : Option Int) : List α := (xs.drop (bound xs.length 0 lo)).take (bound xs.length xs.length hi - bound xs.length 0 lo)
def dlook {α : Type} : List D → List α → D → Option α
  | k :: ks, v :: vs, x => if k = x then some v else dlook ks vs x
  | _, _, _ => none
def dput {α : Type} : List D → List α → D → α → List D × List α
  | k :: ks, v :: vs, x, y => if k = x then (k :: ks, y :: vs) else (k :: (dput ks vs x y).1, v :: (dput ks vs x y).2)
  | _, _, x, y => ([x], [y])

def digits (i : Int) : List Nat := (toString i).toList.map Char.toNat

def powOk (i j : Int) : Bool := decide (0 ≤ j ∧ j ≤ 1000000 ∧ i.natAbs < 2 ^ 64)
def mulOk (i j : Int) : Bool := decide ((-(2 ^ 64) < i ∧ i < 2 ^ 64) ∨ (-(2 ^ 64) < j ∧ j < 2 ^ 64))
def binI : BOp → Int → Int → Option Int
  | .add, i, j => some (i + j)
  | .sub, i, j => some (i - j)
  | .mul, i, j => if mulOk i j then some (i * j) else none
  | .fdiv, i, j => if 0 < j ∧ j < 1073741824 then some (i / j) else none
  | .mod, i, j => if 0 < j then some (i % j) else none
  | .pow, i, j => if powOk i j then some (i ^ j.toNat) else none
def binop (op : BOp) (x y : VL) (L : LH) : Res VL :=
  match x, y with
  | .d (.int i), .d (.int j) => (ofOpt (binI op i j) L).bind fun k L => .ok (.d (.int k)) L
  | .d (.str s), .d (.str t) => if op = .add ∧ s.length + t.length ≤ lim then .ok (.d (.str (s ++ t))) L else .stuck
  | .d (.tup s), .d (.tup t) => if op = .add ∧ s.length + t.length ≤ lim then .ok (.d (.tup (s ++ t))) L else .stuck
  | .d (.tup s), .d (.int k) => if op = .mul ∧ -1000 ≤ k ∧ k ≤ 1000 ∧ s.length ≤ 1000 then .ok (.d (.tup (List.replicate k.toNat s).flatten)) L else .stuck
  | .d (.lst s), .d (.int k) => if op = .mul ∧ -1000 ≤ k ∧ k ≤ 1000 ∧ s.length ≤ 1000 then mkL false (List.replicate k.toNat (s.map .d)).flatten L else .stuck
  | x, y => match op, isL L x && isL L y, seqOf L x, seqOf L y with
    | .add, true, some a, some b => mkL false (a ++ b) L
    | _, _, _, _ => .stuck

/-- == where no __eq__ of an own class is asked -/
def eqD (L : LH) (x y : VL) : Option Bool := match dv dvLim L x, dv dvLim L y with
  | some a, some b => if D.okq eqLim a && D.okq eqLim b then some (D.eqv a b) else none
  | _, _ => none
def inD (L : LH) (x y : VL) : Option Bool := match x, y with
  | .d (.str c), .d (.str s) => if c.length = 1 then some (decide (c.headD 0 ∈ s)) else none
  | .d x, .d (.dct ks _) => if keysOk ks x then some (decide (x ∈ ks)) else none
  | .d x, .r n => match L[n]? with
    | some (.dct ks _) => if keysOk ks x then some (decide (x ∈ ks)) else none
    | some (.lst xs) => match dvs dvLim L xs with
      | some ds => if D.okqs eqLim ds && D.okq eqLim x then some (ds.any fun z => D.eqv z x) else none
      | none => none
    | _ => none
  | .d x, .d (.tup ds) => if D.okqs eqLim ds && D.okq eqLim x then some (ds.any fun z => D.eqv z x) else none
  | .d x, .d (.lst ds) => if D.okqs eqLim ds && D.okq eqLim x then some (ds.any fun z => D.eqv z x) else none
  | _, _ => none
def ordV (f : Int → Int → Bool) (g : List Nat → List Nat → Bool) (x y : VL) : Option Bool := match x, y with
  | .d (.int i), .d (.int j) => some (f i j)
  | .d (.str i), .d (.str j) => some (g i j)
  | _, _ => none
def cmpop (op : COp) (L : LH) (x y : VL) : Option Bool := match op with
  | .eq => eqD L x y
  | .ne => (eqD L x y).map (!·)
  | .isin => inD L x y
  | .notin => (inD L x y).map (!·)
  | .isN => if y = .d .non then some (decide (x = .d .non)) else none
  | .notN => if y = .d .non then some (!decide (x = .d .non)) else none
  | .lt => ordV (fun i j => decide (i < j)) (fun i j => decide (i < j)) x y
  | .le => ordV (fun i j => decide (i ≤ j)) (fun i j => !decide (j < i)) x y
  | .gt => ordV (fun i j => decide (j < i)) (fun i j => decide (j < i)) x y
  | .ge => ordV (fun i j => decide (j ≤ i)) (fun i j => !decide (i < j)) x y
def truth (L : LH) : VL → Option Bool
  | .d .non => some false
  | .d (.bl b) => some b
  | .d (.int i) => some (i != 0)
  | .d (.str s) => some (!s.isEmpty)
  | .d (.tup s) => some (!s.isEmpty)
  | .d (.lst s) => some (!s.isEmpty)
  | .d (.dct ks _) => some (!ks.isEmpty)
  | .r n => match L[n]? with
    | some (.lst s) => some (!s.isEmpty)
    | some (.dct ks _) => some (!ks.isEmpty)
    | _ => none
  | _ => none
def getI (L : LH) (x i : VL) : Option VL := match x, i with
  | .d (.str s), .d (.int i) => (ixAt s.length i).bind fun j => s[j]?.map fun c => .d (.str [c])
  | .d (.dct ks vs), .d k => if keysOk ks k then (dlook ks vs k).map .d else none
  | .r n, .d k => match L[n]?, k with
    | some (.dct ks vs), k => if keysOk ks k then dlook ks vs k else none
    | some (.lst xs), .int i => (ixAt xs.length i).bind fun j => xs[j]?
    | _, _ => none
  | .d (.tup xs), .d (.int i) => (ixAt xs.length i).bind fun j => xs[j]?.map .d
  | .d (.lst xs), .d (.int i) => (ixAt xs.length i).bind fun j => xs[j]?.map .d
  | _, _ => none
def setI (x i v : VL) (L : LH) : Option LH := match x, i with
  | .r n, .d k => match L[n]?, k with
    | some (.dct ks vs), k => if keysOk ks k ∧ ks.length < lim then some (L.set n (.dct (dput ks vs k v).1 (dput ks vs k v).2)) else none
    | some (.lst xs), .int i => (ixAt xs.length i).map fun j => L.set n (.lst (xs.set j v))
    | _, _ => none
  | _, _ => none
def optI : Option VL → Option (Option Int)
  | none => some none
  | some (.d (.int i)) => some (some i)
  | some (.d .non) => some none
  | _ => none
def slice (m : Bool) (x : VL) (lo hi : Option Int) (L : LH) : Res VL := match x with
  | .d (.str s) => .ok (.d (.str (cut s lo hi))) L
  | .d (.tup s) => .ok (.d (.tup (cut s lo hi))) L
  | .d (.scr s) => mkL m ((cut s lo hi).map .d) L
  | x => match isL L x, seqOf L x with
    | true, some xs => mkL m (cut xs lo hi) L
    | _, _ => .stuck
def revOp (m : Bool) (x : VL) (L : LH) : Res VL := match isL L x, seqOf L x with
  | true, some xs => mkL m xs.reverse L
  | _, _ => .stuck
/-- the items of a list -/
def lstOf (L : LH) (x : VL) : Option (List VL) := if isL L x then seqOf L x else none
def ofInts : List VL → Option (List Int)
  | [] => some []
  | .d (.int i) :: r => (ofInts r).map (i :: ·)
  | _ :: _ => none
def ofBools : List VL → Option (List Bool)
  | [] => some []
  | .d (.bl i) :: r => (ofBools r).map (i :: ·)
  | _ :: _ => none
def ofStrs : List VL → Option (List (List Nat))
  | [] => some []
  | .d (.str i) :: r => (ofStrs r).map (i :: ·)
  | _ :: _ => none
def tyOf (L : LH) : VL → Option (List Ty)
  | .d .non => some []
  | .d (.bl _) => some [.bool, .int]
  | .d (.int _) => some [.int]
  | .d (.str _) => some [.str]
  | .d (.tup _) => some [.tuple]
  | .d (.lst _) => some [.list]
  | .d (.dct _ _) => some [.dict]
  | .d (.obj _ _ _) => none
  | .d (.cls _) | .d (.scr _) => none
  | .r n => match L[n]? with
    | some (.lst _) => some [.list]
    | some (.dct _ _) => some [.dict]
    | _ => none
/-- joined by a separator -/
def joinS (sep : List Nat) : List (List Nat) → List Nat
  | [] => []
  | [x] => x
  | x :: y :: r => x ++ sep ++ joinS sep (y :: r)
/-- cut at each sign c -/
def splitS (c : Nat) : List Nat → List (List Nat)
  | [] => [[]]
  | x :: xs => if x = c then [] :: splitS c xs else match splitS c xs with
    | [] => [[x]]
    | w :: ws => (x :: w) :: ws
def st (s : List Nat) : PySem.Str := ⟨s.toArray⟩
/-- a text that can be -/
def SOk (s : List Nat) : Prop := (∀ c ∈ s, c < 1114112) ∧ s.length ≤ lim
instance (s : List Nat) : Decidable (SOk s) := by unfold SOk; infer_instance
mutual
def py : D → PySem.PyData
  | .non => .none
  | .bl b => .bool b
  | .int i => .int i
  | .str s => .str (st s)
  | .tup xs => .tuple (pys xs)
  | .lst xs => .list (pys xs)
  | .dct ks vs => .dict (List.zip (pys ks) (pys vs))
  | _ => .none
def pys : List D → List PySem.PyData
  | [] => []
  | x :: xs => py x :: pys xs
end
/-- what repr gives, of plain data -/
def D.shown (d : D) : List Nat := (PySem.PyData.shown (py d)).cps.toList
def D.canShow (d : D) : Prop := D.okq eqLim d = true ∧ (py d).showable = true ∧ SOk d.shown
instance (d : D) : Decidable d.canShow := by unfold D.canShow; infer_instance

def bLen (xs : List VL) (L : LH) : Res VL := match xs with
  | [x] => match x with
    | .d (.str s) => .ok (.d (.int s.length)) L
    | .d (.dct ks _) => .ok (.d (.int ks.length)) L
    | .r n => match L[n]? with
      | some (.lst s) => .ok (.d (.int s.length)) L
      | some (.dct ks _) => .ok (.d (.int ks.length)) L
      | _ => .stuck
    | .d (.tup s) => .ok (.d (.int s.length)) L
    | .d (.lst s) => .ok (.d (.int s.length)) L
    | .d (.scr s) => .ok (.d (.int s.length)) L
    | _ => .stuck
  | _ => .stuck
def bInt (xs : List VL) (L : LH) : Res VL := match xs with
  | [.d (.int i)] => .ok (.d (.int i)) L
  | [.d (.bl b)] => .ok (.d (.int (if b then 1 else 0))) L
  | [.d (.str s)] => match PySem.intText? (st s) with
    | some n => if s.length ≤ 640 then .ok (.d (.int n)) L else .stuck
    | none => .stuck
  | _ => .stuck
def bStr (xs : List VL) (L : LH) : Res VL := match xs with
  | [.d (.int i)] => if i.natAbs.log2 < 1920 then .ok (.d (.str (digits i))) L else .stuck
  | _ => .stuck
def bRepr (xs : List VL) (L : LH) : Res VL := match xs with
  | [x] => match dv dvLim L x with
    | some a => if a.canShow then .ok (.d (.str a.shown)) L else .stuck
    | none => .stuck
  | _ => .stuck
def bList (m : Bool) (xs : List VL) (L : LH) : Res VL := match xs with
  | [x] => match seqOf L x with
    | some ys => mkL m ys L
    | none => .stuck
  | _ => .stuck
def bTuple (xs : List VL) (L : LH) : Res VL := match xs with
  | [x] => match seqOf L x with
    | some ys => mkT ys L
    | none => .stuck
  | _ => .stuck
def bSum (xs : List VL) (L : LH) : Res VL := match xs with
  | [x] => match (lstOf L x).bind ofInts with
    | some ns => .ok (.d (.int ns.sum)) L
    | none => .stuck
  | _ => .stuck
def bMax (xs : List VL) (L : LH) : Res VL := match xs with
  | [.d (.int i), .d (.int j)] => .ok (.d (.int (if j > i then j else i))) L
  | _ => .stuck
def bMin (xs : List VL) (L : LH) : Res VL := match xs with
  | [.d (.int i), .d (.int j)] => .ok (.d (.int (if j < i then j else i))) L
  | _ => .stuck
def bAll (xs : List VL) (L : LH) : Res VL := match xs with
  | [x] => match (lstOf L x).bind ofBools with
    | some bs => .ok (.d (.bl (bs.all id))) L
    | none => .stuck
  | _ => .stuck
def bAny (xs : List VL) (L : LH) : Res VL := match xs with
  | [x] => match (lstOf L x).bind ofBools with
    | some bs => .ok (.d (.bl (bs.any id))) L
    | none => .stuck
  | _ => .stuck
def bLenset (xs : List VL) (L : LH) : Res VL := match xs with
  | [x] => match (lstOf L x).bind ofInts with
    | some ns => if ns.length < 64 then .ok (.d (.int ns.eraseDups.length)) L else .stuck
    | none => .stuck
  | _ => .stuck
def bIsinst (t : Ty) (xs : List VL) (L : LH) : Res VL := match xs with
  | [x] => match tyOf L x with
    | some us => .ok (.d (.bl (us.contains t))) L
    | none => .stuck
  | _ => .stuck
/-- data that sorted takes: alike, all of them tuples with items, or none of them a tuple or None -/
def sortB (ds : List D) : Bool := (ds.all fun a => ds.all fun b => PySem.W.alike (py a) (py b)) && ((ds.all fun a => match a with | .tup (_ :: _) => true | _ => false) || ds.all fun a => match a with | .tup _ | .non => false | _ => true)
def bSorted (m : Bool) (xs : List VL) (L : LH) : Res VL := match xs with
  | [x] => match lstOf L x with
    | some ys => match allD ys with
      | some ds => if D.okqs eqLim ds && sortB ds then mkL m ((ds.mergeSort (PySem.W.dataLe false py)).map .d) L else .stuck
      | none => .stuck
    | none => .stuck
  | _ => .stuck
def bfun (b : BF) (xs : List VL) (L : LH) : Res VL := match b with
  | .len => bLen xs L
  | .int => bInt xs L
  | .str => bStr xs L
  | .repr => bRepr xs L
  | .list m => bList m xs L
  | .sorted m => bSorted m xs L
  | .tuple => bTuple xs L
  | .sum => bSum xs L
  | .max => bMax xs L
  | .min => bMin xs L
  | .all => bAll xs L
  | .any => bAny xs L
  | .lenset => bLenset xs L
  | .isinst t => bIsinst t xs L

/-- the place of the first equal item -/
def firstAt (x : D) : List D → Nat → Option Nat
  | [], _ => none
  | y :: ys, i => if D.eqv y x then some i else firstAt x ys (i + 1)
def mAppend (o : VL) (xs : List VL) (L : LH) : Res VL := match o, xs with
  | .r n, [y] => match L[n]? with
    | some (.lst s) => if s.length < lim then .ok (.d .non) (L.set n (.lst (s ++ [y]))) else .stuck
    | _ => .stuck
  | _, _ => .stuck
def mExtend (o : VL) (xs : List VL) (L : LH) : Res VL := match o, xs with
  | .r n, [y] => match L[n]?, lstOf L y with
    | some (.lst s), some t => if s.length + t.length ≤ lim ∧ y ≠ .r n then .ok (.d .non) (L.set n (.lst (s ++ t))) else .stuck
    | _, _ => .stuck
  | _, _ => .stuck
def mPop (o : VL) (xs : List VL) (L : LH) : Res VL := match o, xs with
  | .r n, [] => match L[n]? with
    | some (.lst s) => match s.getLast? with
      | some y => .ok y (L.set n (.lst s.dropLast))
      | none => .stuck
    | _ => .stuck
  | _, _ => .stuck
def mSindex (o : VL) (xs : List VL) (L : LH) : Res VL := match o, xs with
  | .d (.str s), [.d (.str c)] => if c.length = 1 ∧ c.headD 0 ∈ s then .ok (.d (.int (s.idxOf (c.headD 0)))) L else .stuck
  | _, _ => .stuck
def mLindex (o : VL) (xs : List VL) (L : LH) : Res VL := match xs with
  | [.d x] => match (lstOf L o).bind (dvs dvLim L) with
    | some ds => if D.okqs eqLim ds && D.okq eqLim x then (match firstAt x ds 0 with
      | some j => .ok (.d (.int j)) L
      | none => .stuck) else .stuck
    | none => .stuck
  | _ => .stuck
def mJoin (o : VL) (xs : List VL) (L : LH) : Res VL := match o, xs with
  | .d (.str s), [y] => match (seqOf L y).bind ofStrs with
    | some ts => if (ts.map fun t => t.length + s.length).sum ≤ lim then .ok (.d (.str (joinS s ts))) L else .stuck
    | none => .stuck
  | _, _ => .stuck
def mSplit (m : Bool) (o : VL) (xs : List VL) (L : LH) : Res VL := match o, xs with
  | .d (.str s), [.d (.str c)] => if c.length = 1 ∧ s.length + 2 ≤ lim then mkL m ((splitS (c.headD 0) s).map fun w => .d (.str w)) L else .stuck
  | _, _ => .stuck
/-- a dict's keys and values -/
def dctOf (L : LH) : VL → Option (List D × List VL)
  | .d (.dct ks vs) => some (ks, vs.map .d)
  | .r n => match L[n]? with
    | some (.dct ks vs) => some (ks, vs)
    | _ => none
  | _ => none
def mGet (o : VL) (xs : List VL) (L : LH) : Res VL := match dctOf L o, xs with
  | some (ks, vs), [.d k] => if keysOk ks k then .ok ((dlook ks vs k).getD (.d .non)) L else .stuck
  | some (ks, vs), [.d k, x] => if keysOk ks k then .ok ((dlook ks vs k).getD x) L else .stuck
  | _, _ => .stuck
/-- the receiver's type -/
def mTy (m : MF) (L : LH) (x : VL) : Bool := match m with
  | .append | .extend | .pop | .lindex => isL L x
  | .sindex | .join | .split _ => (match x with
    | .d (.str _) => true
    | _ => false)
  | .get => (dctOf L x).isSome
  | _ => false
def mfun (m : MF) (o : VL) (xs : List VL) (L : LH) : Res VL := match m with
  | .append => mAppend o xs L
  | .extend => mExtend o xs L
  | .pop => mPop o xs L
  | .sindex => mSindex o xs L
  | .lindex => mLindex o xs L
  | .join => mJoin o xs L
  | .split m => mSplit m o xs L
  | .get => mGet o xs L
  | _ => .stuck

/-! ### frames -/
abbrev Env := List (Option VL)
def wipeE (ρ : Env) : List Nat → Env
  | [] => ρ
  | v :: vs => (wipeE ρ vs).set v none
mutual
def asgT (L : LH) : CT → VL → Env → Option Env
  | .name i, v, ρ => some (ρ.set i (some v))
  | .tup ts, v, ρ => match seqOf L v with
    | some xs => asgTs L ts xs ρ
    | none => none
def asgTs (L : LH) : List CT → List VL → Env → Option Env
  | [], [], ρ => some ρ
  | t :: ts, x :: xs, ρ => match asgT L t x ρ with
    | some ρ' => asgTs L ts xs ρ'
    | none => none
  | _, _, _ => none
end
inductive Fl where
  | next (ρ : Env) (L : LH)
  | ret (v : VL) (L : LH)
  | brk (ρ : Env) (L : LH)
  | cont (ρ : Env) (L : LH)
  | exn (e : D) (ρ : Env) (L : LH)
  | stuck
def Res.fl {α : Type} (r : Res α) (ρ : Env) (f : α → LH → Fl) : Fl := match r with
  | .ok a L => f a L
  | .exn e L => .exn e ρ L
  | .stuck => .stuck
@[simp] theorem Res.fl_ok {α : Type} (a : α) (L : LH) (ρ : Env) (f : α → LH → Fl) : (Res.ok a L).fl ρ f = f a L := rfl
@[simp] theorem Res.fl_exn {α : Type} (e : D) (L : LH) (ρ : Env) (f : α → LH → Fl) : (Res.exn e L : Res α).fl ρ f = .exn e ρ L := rfl
@[simp] theorem Res.fl_stuck {α : Type} (ρ : Env) (f : α → LH → Fl) : (Res.stuck : Res α).fl ρ f = .stuck := rfl
def Fl.seq : Fl → (Env → LH → Fl) → Fl
  | .next ρ L, f => f ρ L
  | r, _ => r
@[simp] theorem Fl.seq_next (ρ : Env) (L : LH) (f : Env → LH → Fl) : (Fl.next ρ L).seq f = f ρ L := rfl
@[simp] theorem Fl.seq_ret (v : VL) (L : LH) (f : Env → LH → Fl) : (Fl.ret v L).seq f = .ret v L := rfl
@[simp] theorem Fl.seq_exn (e : D) (ρ : Env) (L : LH) (f : Env → LH → Fl) : (Fl.exn e ρ L).seq f = .exn e ρ L := rfl
@[simp] theorem Fl.seq_brk (ρ : Env) (L : LH) (f : Env → LH → Fl) : (Fl.brk ρ L).seq f = .brk ρ L := rfl
@[simp] theorem Fl.seq_cont (ρ : Env) (L : LH) (f : Env → LH → Fl) : (Fl.cont ρ L).seq f = .cont ρ L := rfl
@[simp] theorem Fl.seq_stuck (f : Env → LH → Fl) : Fl.stuck.seq f = .stuck := rfl

/-- what is walked: its items, and the mutable lists that must stand still meanwhile -/
structure Walked where
  items : List VL
  still : List (Nat × LO)
def stands (g : List (Nat × LO)) (L : LH) : Bool := g.all fun p => decide (L[p.1]? = some p.2)
@[simp] theorem stands_nil (L : LH) : stands [] L = true := rfl
def walkOf (L : LH) : VL → Option Walked
  | .d (.str s) => some ⟨(chars s).map .d, []⟩
  | .d (.tup xs) => some ⟨xs.map .d, []⟩
  | .d (.lst xs) => some ⟨xs.map .d, []⟩
  | .d (.scr xs) => some ⟨xs.map .d, []⟩
  | .r n => match L[n]? with
    | some (.lst xs) => some ⟨xs, [(n, .lst xs)]⟩
    | _ => none
  | _ => none
def walksOf (L : LH) : List VL → Option (List Walked)
  | [] => some []
  | x :: xs => match walkOf L x, walksOf L xs with
    | some w, some ws => some (w :: ws)
    | _, _ => none
def rangeI (lo : Int) (n : Nat) : List VL := (List.range n).map fun i : Nat => VL.d (.int (lo + (i : Int)))
def small (i : Int) : Bool := decide (-(2 ^ 62) ≤ i ∧ i < 2 ^ 62)
def enumD (k : Int) : List D → List VL
  | [] => []
  | x :: xs => .d (.tup [.int k, x]) :: enumD (k + 1) xs
/-- the rows of several lists, as long as the shortest -/
def zipD : List (List D) → List (List D)
  | [] => []
  | [xs] => xs.map fun x => [x]
  | xs :: r => List.zipWith (fun x y => x :: y) xs (zipD r)

/-- the loop of a comprehension -/
def mapR (g : List (Nat × LO)) (f : VL → LH → Res (List VL)) : List VL → LH → Res (List VL)
  | [], L => if stands g L then .ok [] L else .stuck
  | x :: xs, L => if stands g L then (f x L).bind fun ys L => (mapR g f xs L).bind fun zs L => .ok (ys ++ zs) L else .stuck
/-- the loop of a for -/
def forR (g : List (Nat × LO)) (f : VL → Env → LH → Fl) : List VL → Env → LH → Fl
  | [], ρ, L => if stands g L then .next ρ L else .stuck
  | x :: xs, ρ, L => if stands g L then (match f x ρ L with
    | .next ρ L => forR g f xs ρ L
    | .cont ρ L => forR g f xs ρ L
    | .brk ρ L => .next ρ L
    | r => r) else .stuck
def whileR (c : Env → LH → Res Bool) (f : Env → LH → Fl) : Nat → Env → LH → Fl
  | 0, _, _ => .stuck
  | n + 1, ρ, L => (c ρ L).fl ρ fun b L => if b then (match f ρ L with
    | .next ρ L => whileR c f n ρ L
    | .cont ρ L => whileR c f n ρ L
    | .brk ρ L => .next ρ L
    | r => r) else .next ρ L

/-- nothing of it is beyond n -/
def VL.below (n : Nat) : VL → Bool
  | .d _ => true
  | .r m => decide (m < n)
def LO.below (n : Nat) : LO → Bool
  | .lst xs => xs.all (·.below n)
  | .dct _ vs => vs.all (·.below n)
  | .obj _ _ vs => vs.all (·.below n)
  | .dead => true
def cutOkB (L L' : LH) : Bool := decide (L.length ≤ L'.length) && (List.range L.length).all fun i => decide (L'[i]? = L[i]?) || ((L'[i]?).map (LO.below L.length)).getD false
def CutOk (L L' : LH) : Prop := L.length ≤ L'.length ∧ ∀ i, i < L.length → L'[i]? = L[i]? ∨ ∃ o, L'[i]? = some o ∧ o.below L.length = true
open Classical in
/-- a def is left: what it made is let go -/
noncomputable def leave (keep : Bool) (L : LH) (v : VL) (L' : LH) : Res VL :=
  if keep then .ok v L' else if CutOk L L' ∧ v.below L.length = true then .ok v (L'.take L.length) else .stuck
open Classical in
noncomputable def leaveX (keep : Bool) (L : LH) (e : D) (L' : LH) : Res VL :=
  if keep then .exn e L' else if CutOk L L' then .exn e (L'.take L.length) else .stuck

section
variable (T : Tab) (call : Nat → List VL → LH → Res VL)
def initOf (c : Nat) : Option CDef := T.clss[c]?
/-- C(..) -/
noncomputable def makeR (c : Nat) (xs : List VL) (L : LH) : Res VL := match T.clss[c]? with
  | some k => match call k.init (.r L.length :: xs) (L ++ [.obj c [] []]) with
    | .ok (.d .non) L' => if k.frozen then (match frz frzLim L' (.r L.length) with
        | some (o, L'') => leave false L (.d o) L''
        | none => .stuck) else .ok (.r L.length) L'
    | .exn e L' => leaveX (!k.frozen) L e L'
    | _ => .stuck
  | none => .stuck
def clsOf (L : LH) : VL → Option (Nat × List Nat × List VL)
  | .d (.obj c ns vs) => some (c, ns, vs.map .d)
  | .r n => match L[n]? with
    | some (.obj c ns vs) => some (c, ns, vs)
    | _ => none
  | _ => none
def nlook {α : Type} : List Nat → List α → Nat → Option α
  | k :: ks, v :: vs, x => if k = x then some v else nlook ks vs x
  | _, _, _ => none
def nput {α : Type} : List Nat → List α → Nat → α → List Nat × List α
  | k :: ks, v :: vs, x, y => if k = x then (k :: ks, y :: vs) else (k :: (nput ks vs x y).1, v :: (nput ks vs x y).2)
  | _, _, x, y => ([x], [y])
def attrR (a : Nat) (o : VL) (L : LH) : Res VL := match clsOf L o with
  | some (c, ns, vs) => match T.clss[c]? with
    | some k => if k.flds.contains a then ofOpt (nlook ns vs a) L else match k.props.lookup a with
      | some f => (call f [o] L).noX
      | none => .stuck
    | none => .stuck
  | none => .stuck
def methOf (L : LH) (o : VL) (m : Nat) : Option Nat := match clsOf L o with
  | some (c, ns, vs) => match nlook ns vs m with
    | none => (T.clss[c]?).bind fun k => k.meths.lookup m
    | some _ => none
  | none => none
def setAttr (a : Nat) (o v : VL) (L : LH) : Option LH := match o with
  | .r n => match L[n]? with
    | some (.obj c ns vs) => if ns.length < 900 ∧ ((T.clss[c]?).map fun k => k.flds.contains a) = some true then some (L.set n (.obj c (nput ns vs a v).1 (nput ns vs a v).2)) else none
    | _ => none
  | _ => none
/-- the keywords' values among the positional ones -/
def placeG {α : Type} (d : α) (n : Nat) (xs : List α) (ks : List Nat) (ws : List α) : List α := (List.range n).map fun i => if i < xs.length then xs.getD i d else ws.getD (ks.idxOf i) d

def dpairs : List VL → List D → List VL → Option (List D × List VL)
  | [], ks, vs => some (ks, vs)
  | .d k :: v :: r, ks, vs => if keysOk ks k then dpairs r (dput ks vs k v).1 (dput ks vs k v).2 else none
  | _, _, _ => none
/-- a new dict of keys and values -/
def mkK (m : Bool) (ks : List D) (vs : List VL) (L : LH) : Res VL := if m then alloc (.dct ks vs) L else match allD vs with
    | some ds => .ok (.d (.dct ks ds)) L
    | none => alloc (.dct ks vs) L
def mkD (m : Bool) (xs : List VL) (L : LH) : Res VL := if xs.length ≤ lim then match dpairs xs [] [] with
  | some p => mkK m p.1 p.2 L
  | none => .stuck else .stuck
mutual
noncomputable def evE (ρ : Env) : CE → LH → Res VL
  | .var i, L => match ρ[i]? with
    | some (some v) => .ok v L
    | _ => .stuck
  | .lit d, L => .ok (.d d) L
  | .tup es, L => (evA ρ es L).bind fun xs L => mkT xs L
  | .lst m es, L => (evA ρ es L).bind fun xs L => mkL m xs L
  | .dict m es, L => (evL ρ es L).bind fun xs L => mkD m xs L
  | .bin op a b, L => (evE ρ a L).bind fun x L => (evE ρ b L).bind fun y L => binop op x y L
  | .neg a, L => (evE ρ a L).bind fun x L => match x with
    | .d (.int i) => .ok (.d (.int (-i))) L
    | _ => .stuck
  | .not a, L => (evE ρ a L).bind fun x L => match x with
    | .d (.bl b) => .ok (.d (.bl (!b))) L
    | _ => .stuck
  | .cmp op a b, L => (evE ρ a L).bind fun x L => (evE ρ b L).bind fun y L => (ofOpt (cmpop op L x y) L).bind fun b L => .ok (.d (.bl b)) L
  | .chain o1 o2 a b c, L => (evE ρ a L).bind fun x L => (evE ρ b L).bind fun y L => (ofOpt (cmpop o1 L x y) L).bind fun t L =>
      if t then (evE ρ c L).bind fun z L => (ofOpt (cmpop o2 L y z) L).bind fun t L => .ok (.d (.bl t)) L else .ok (.d (.bl false)) L
  | .and a b, L => (evE ρ a L).bind fun x L => match x with
    | .d (.bl true) => evE ρ b L
    | .d (.bl false) => .ok (.d (.bl false)) L
    | _ => .stuck
  | .or a b, L => (evE ρ a L).bind fun x L => match x with
    | .d (.bl true) => .ok (.d (.bl true)) L
    | .d (.bl false) => evE ρ b L
    | _ => .stuck
  | .ite c a b, L => (evB ρ c L).bind fun t L => if t then evE ρ a L else evE ρ b L
  | .call f es, L => (evL ρ es L).bind fun xs L => call f xs L
  | .callK f es ks ws, L => (evL ρ es L).bind fun xs L => (evL ρ ws L).bind fun zs L => call f (placeG (.d .non) (xs.length + zs.length) xs ks zs) L
  | .make c es, L => (evL ρ es L).bind fun xs L => makeR T call c xs L
  | .callB b es, L => (evL ρ es L).bind fun xs L => bfun b xs L
  | .meth m o es, L => (evE ρ o L).bind fun x L => if mTy m L x then (evL ρ es L).bind fun xs L => mfun m x xs L else .stuck
  | .umeth m o es, L => (evE ρ o L).bind fun x L => match methOf T L x m with
    | some f => (evL ρ es L).bind fun xs L => call f (x :: xs) L
    | none => .stuck
  | .attr a o, L => (evE ρ o L).bind fun x L => attrR T call a x L
  | .idx a i, L => (evE ρ a L).bind fun x L => (evE ρ i L).bind fun y L => ofOpt (getI L x y) L
  | .slc m a lo hi, L => (evE ρ a L).bind fun x L => (evO ρ lo L).bind fun l L => (evO ρ hi L).bind fun h L => match optI l, optI h with
    | some l, some h => slice m x l h L
    | _, _ => .stuck
  | .rev m a, L => (evE ρ a L).bind fun x L => revOp m x L
  | .lc m own t it c e, L => (evI ρ it L).bind fun w L => (mapR w.still (fun x L => match asgT L t x (wipeE ρ own) with
      | some ρ' => ((evC ρ' c L).bind fun b L => if b then (evE ρ' e L).bind fun v L => .ok [v] L else .ok [] L).noX
      | none => .stuck) w.items L).bind fun xs L => mkL m xs L
  | .lc2 m own t it c own2 t2 it2 c2 e, L => (evI ρ it L).bind fun w L => (mapR w.still (fun x L => match asgT L t x (wipeE ρ own) with
      | some ρ' => ((evC ρ' c L).bind fun b L => if b then (evI ρ' it2 L).bind fun w2 L => mapR (w.still ++ w2.still) (fun y L => match asgT L t2 y (wipeE ρ' own2) with
          | some ρ'' => (evC ρ'' c2 L).bind fun b L => if b then (evE ρ'' e L).bind fun v L => .ok [v] L else .ok [] L
          | none => .stuck) w2.items L else .ok [] L).noX
      | none => .stuck) w.items L).bind fun xs L => mkL m xs L
  | .dc m own t it c k v, L => (evI ρ it L).bind fun w L => (mapR w.still (fun x L => match asgT L t x (wipeE ρ own) with
      | some ρ' => ((evC ρ' c L).bind fun b L => if b then (evE ρ' k L).bind fun k L => (evE ρ' v L).bind fun v L => .ok [k, v] L else .ok [] L).noX
      | none => .stuck) w.items L).bind fun xs L => mkD m xs L
  | .lof m it, L => (evI ρ it L).bind fun w L => mkL m w.items L
  | .frz e, L => (evE ρ e L).bind fun x L => match frz frzLim L x with
    | some (y, L) => .ok (.d y) L
    | none => .stuck
  | .isinst t a, L => (evE ρ a L).bind fun x L => bIsinst t [x] L
  | .lenset a, L => (evE ρ a L).bind fun x L => bLenset [x] L
  | .lrange m a, L => (evE ρ a L).bind fun x L => match x with
    | .d (.int j) => if small j then mkL m (rangeI 0 j.toNat) L else .stuck
    | _ => .stuck
  | .wall, _ => .stuck
/-- a test -/
noncomputable def evB (ρ : Env) : CB → LH → Res Bool
  | .e a, L => (evE ρ a L).bind fun x L => ofOpt (truth L x) L
  | .cmp op a b, L => (evE ρ a L).bind fun x L => (evE ρ b L).bind fun y L => ofOpt (cmpop op L x y) L
  | .chain o1 o2 a b c, L => (evE ρ a L).bind fun x L => (evE ρ b L).bind fun y L => (ofOpt (cmpop o1 L x y) L).bind fun t L =>
      if t then (evE ρ c L).bind fun z L => ofOpt (cmpop o2 L y z) L else .ok false L
  | .not a, L => (evB ρ a L).bind fun b L => .ok (!b) L
  | .and a b, L => (evB ρ a L).bind fun t L => if t then evB ρ b L else .ok false L
  | .or a b, L => (evB ρ a L).bind fun t L => if t then .ok true L else evB ρ b L
noncomputable def evC (ρ : Env) : Option CB → LH → Res Bool
  | none, L => .ok true L
  | some c, L => evB ρ c L
noncomputable def evO (ρ : Env) : Option CE → LH → Res (Option VL)
  | none, L => .ok none L
  | some e, L => (evE ρ e L).bind fun v L => match v with
    | .d (.int i) => .ok (some (.d (.int i))) L
    | _ => .stuck
noncomputable def evL (ρ : Env) : List CE → LH → Res (List VL)
  | [], L => .ok [] L
  | e :: es, L => (evE ρ e L).bind fun v L => (evL ρ es L).bind fun vs L => .ok (v :: vs) L
noncomputable def evA (ρ : Env) : List CA → LH → Res (List VL)
  | [], L => .ok [] L
  | .one e :: es, L => (evE ρ e L).bind fun v L => (evA ρ es L).bind fun vs L => .ok (v :: vs) L
  | .star e :: es, L => (evE ρ e L).bind fun v L => match seqOf L v with
    | some xs => (evA ρ es L).bind fun vs L => .ok (xs ++ vs) L
    | none => .stuck
noncomputable def evI (ρ : Env) : CIt → LH → Res Walked
  | .of e, L => (evE ρ e L).bind fun x L => ofOpt (walkOf L x) L
  | .range1 a, L => (evE ρ a L).bind fun x L => match x with
    | .d (.int j) => if small j then .ok ⟨rangeI 0 j.toNat, []⟩ L else .stuck
    | _ => .stuck
  | .range2 a b, L => (evE ρ a L).bind fun x L => (evE ρ b L).bind fun y L => match x, y with
    | .d (.int i), .d (.int j) => if small i && small j then .ok ⟨rangeI i (j - i).toNat, []⟩ L else .stuck
    | _, _ => .stuck
  | .enum e st, L => (evE ρ e L).bind fun x L => (evO ρ st L).bind fun s L => match walkOf L x, optI s with
    | some w, some k => (match allD w.items with
      | some ds => .ok ⟨enumD (k.getD 0) ds, w.still⟩ L
      | none => .stuck)
    | _, _ => .stuck
  | .zip es, L => (evL ρ es L).bind fun xs L => match walksOf L xs with
    | some ws => (match (ws.mapM fun w => allD w.items) with
      | some ds => .ok ⟨(zipD ds).map fun r => .d (.tup r), (ws.map (·.still)).flatten⟩ L
      | none => .stuck)
    | none => .stuck
  | .items e, L => (evE ρ e L).bind fun x L => match x with
    | .d (.dct ks vs) => .ok ⟨(List.zipWith (fun k v => VL.d (.tup [k, v])) ks vs), []⟩ L
    | .r n => match L[n]? with
      | some (.dct ks vs) => (match allD vs with
        | some ds => .ok ⟨(List.zipWith (fun k v => VL.d (.tup [k, v])) ks ds), [(n, .dct ks vs)]⟩ L
        | none => .stuck)
      | _ => .stuck
    | _ => .stuck
end
end

section
variable (T : Tab) (call : Nat → List VL → LH → Res VL)
mutual
noncomputable def evS : CS → Env → LH → Fl
  | .asg t e, ρ, L => (evE T call ρ e L).fl ρ fun v L => match asgT L t v ρ with
    | some ρ' => .next ρ' L
    | none => .stuck
  | .par is es, ρ, L => (evL T call ρ es L).fl ρ fun vs L => match asgTs L (is.map .name) vs ρ with
    | some ρ' => .next ρ' L
    | none => .stuck
  | .setI o i e, ρ, L => (evE T call ρ e L).fl ρ fun v L => (evE T call ρ o L).fl ρ fun x L => (evE T call ρ i L).fl ρ fun y L => match setI x y v L with
    | some L => .next ρ L
    | none => .stuck
  | .setA o a e, ρ, L => (evE T call ρ e L).fl ρ fun v L => (evE T call ρ o L).fl ρ fun x L => match setAttr T a x v L with
    | some L => .next ρ L
    | none => .stuck
  | .aug i op e, ρ, L => match ρ[i]? with
    | some (some x) => (evE T call ρ e L).fl ρ fun y L => match x, y with
      | .d (.int a), .d (.int b) => (match binI op a b with
        | some k => .next (ρ.set i (some (.d (.int k)))) L
        | none => .stuck)
      | _, _ => .stuck
    | _ => .stuck
  | .expr e, ρ, L => (evE T call ρ e L).fl ρ fun _ L => .next ρ L
  | .ret e, ρ, L => (evE T call ρ e L).fl ρ fun v L => .ret v L
  | .ite c a b, ρ, L => (evB T call ρ c L).fl ρ fun t L => if t then evSs a ρ L else evSs b ρ L
  | .whil c b, ρ, L => whileR (fun ρ L => evB T call ρ c L) (fun ρ L => evSs b ρ L) T.fuel ρ L
  | .forr t it b, ρ, L => (evI T call ρ it L).fl ρ fun w L => forR w.still (fun x ρ L => match asgT L t x ρ with
    | some ρ' => evSs b ρ' L
    | none => .stuck) w.items ρ L
  | .brk, ρ, L => .brk ρ L
  | .cont, ρ, L => .cont ρ L
  | .pass, ρ, L => .next ρ L
  | .wall, _, _ => .stuck
  | .raise c es, ρ, L => (evL T call ρ es L).fl ρ fun vs L => match allD vs, T.excs.lookup c with
    | some ds, some ns => if ds.length = ns.length then .exn (.obj c ns ds) ρ L else .stuck
    | _, _ => .stuck
  | .tryE b h, ρ, L => match evSs b ρ L with
    | .exn _ _ _ => .stuck
    | r => r
noncomputable def evSs : List CS → Env → LH → Fl
  | [], ρ, L => .next ρ L
  | s :: ss, ρ, L => (evS s ρ L).seq fun ρ L => evSs ss ρ L
end
end
/-- a def's run -/
noncomputable def runFn (T : Tab) (call : Nat → List VL → LH → Res VL) (f : Nat) (xs : List VL) (L : LH) : Res VL := match T.fns[f]? with
  | some d => if xs.length = d.npar then (match evSs T call d.body (xs.map some ++ List.replicate (d.nslots - d.npar) none) L with
    | .next _ L' => leave d.keep L (.d .non) L'
    | .ret v L' => leave d.keep L v L'
    | .exn e _ L' => leaveX d.keep L e L'
    | _ => .stuck) else .stuck
  | none => .stuck
noncomputable def callN (T : Tab) : Nat → Nat → List VL → LH → Res VL
  | 0 => fun _ _ _ => .stuck
  | k + 1 => runFn T (callN T k)
end L3
end
section
set_option Elab.async false
set_option linter.all false
set_option maxRecDepth 100000
set_option maxHeartbeats 4000000
/-! LB: how logical values and objects stand in the abstract heap. -/
namespace L3
open PySem PySem.Spec PyProof.Rows L2
abbrev Sg := L2.St

/-- what the numbers of the core syntax mean: attribute names, the addresses of classes -/
structure Lk where
  w : World
  K : PySem.W.Frag
  nm : Nat → Str
  ca : Nat → Addr
  inj : ∀ i j, nm i = nm j → i = j

/-- a key up to == -/
def nk : D → NestedKey
  | .int i => .num i
  | .str s => .text (st s)
  | .tup xs => .tup (nks xs)
  | _ => .none
where nks : List D → List NestedKey
  | [] => []
  | x :: xs => nk x :: nks xs

/-- a dict's own object, by its entries -/
def dx (a : Addr) (es : List DictEntry) : HO := .ext fun h => (∃ o ep, h.get? a = some o ∧ o.ExactDict ∧ o.data = .dict es.toArray ep) ∧ (a == sysModules) = false ∧ es.length ≤ sizeLine
/-- the hash of a key -/
def hashD (w : World) : D → Int
  | .int i => hashInt i
  | .str s => hashStr w (st s)
  | x => (nk x).hash w
/-- keys of a dict: each of them a key, no two alike, all of one kind -/
structure GK (ks : List D) : Prop where
  nd : ks.Nodup
  ok : ∀ k ∈ ks, keyOk k = true
  one : ∀ j ∈ ks, ∀ k ∈ ks, j.isTup = k.isTup

/-- a list that is never written again -/
def LF (H : Hp) (a : Addr) (vs : List V) : Prop := ∃ o, H a = some (.frz o (.lst vs))
/-- .. or is the law's argument -/
def LK (K : PySem.W.Frag) (H : Hp) (a : Addr) (vs : List V) : Prop :=
  (∃ o, H a = some (.frz o (.lst vs))) ∨
    ∃ (o : Obj) (its : Array Value) (n : Nat), K.lookup a = some o ∧ o.cls = .type "list" ∧ o.dict = none ∧ o.data = .seq its n ∧ its.size ≤ sizeLine ∧ Vals vs its.toList
theorem LF.lk {K : PySem.W.Frag} {H : Hp} {a : Addr} {vs : List V} (h : LF H a vs) : LK K H a vs := .inl h
theorem LK.sq {K : PySem.W.Frag} {H : Hp} {a : Addr} {vs : List V} (h : LK K H a vs) : SqL K H a vs := by
  rcases h with ⟨o, h⟩ | h
  · exact .inl (.inr ⟨o, h⟩)
  · exact .inr h

mutual
/-- data in the abstract heap -/
inductive RD (Z : Lk) (H : Hp) : D → V → Prop
  | non : RD Z H .non .non
  | bl (b : Bool) : RD Z H (.bl b) (.bl b)
  | int (i : Int) : RD Z H (.int i) (.int i)
  | str (s : List Nat) : SOk s → RD Z H (.str s) (.str (st s))
  | tup {a : Addr} {ds : List D} {vs : List V} : SqT Z.K H a vs → RDs Z H ds vs → RD Z H (.tup ds) (.ref a)
  | lst {a : Addr} {ds : List D} {vs : List V} : LF H a vs → RDs Z H ds vs → RD Z H (.lst ds) (.ref a)
  | dct {a : Addr} {ks ds : List D} {o : Obj} {es : List DictEntry} : GK ks → H a = some (.frz o (dx a es)) → RDkv Z H ks ds es → RD Z H (.dct ks ds) (.ref a)
  | obj {a x : Addr} {c : Nat} {ns : List Nat} {ds : List D} {o : Obj} {fs : List (Str × V)} : H a = some (.frz o (.ins (Z.ca c) x fs)) → fs.map (·.1) = ns.map Z.nm → RDs Z H ds (fs.map (·.2)) → RD Z H (.obj c ns ds) (.ref a)
  | cls (c : Nat) : RD Z H (.cls c) (.ref (Z.ca c))
  | scr {a : Addr} {ds : List D} {vs : List V} : LK Z.K H a vs → RDs Z H ds vs → RD Z H (.scr ds) (.ref a)
inductive RDs (Z : Lk) (H : Hp) : List D → List V → Prop
  | nil : RDs Z H [] []
  | cons {d : D} {ds : List D} {v : V} {vs : List V} : RD Z H d v → RDs Z H ds vs → RDs Z H (d :: ds) (v :: vs)
inductive RDkv (Z : Lk) (H : Hp) : List D → List D → List DictEntry → Prop
  | nil : RDkv Z H [] [] []
  | cons {k d : D} {ks ds : List D} {e : DictEntry} {es : List DictEntry} {kx vx : V} : RD Z H k kx → RelV kx e.key → e.hash = hashD Z.w k → RD Z H d vx → RelV vx e.val → RDkv Z H ks ds es → RDkv Z H (k :: ks) (d :: ds) (e :: es)
end
/-- what stays whatever is done -/
def Persist (H H' : Hp) : Prop := (∀ b xs, H b = some (.tup xs) → H' b = some (.tup xs)) ∧ ∀ b o u, H b = some (.frz o u) → H' b = some (.frz o u)
theorem Persist.refl {H : Hp} : Persist H H := ⟨fun _ _ h => h, fun _ _ _ h => h⟩
theorem Persist.trans {A B C : Hp} (h : Persist A B) (k : Persist B C) : Persist A C := ⟨fun b xs q => k.1 b xs (h.1 b xs q), fun b o u q => k.2 b o u (h.2 b o u q)⟩
theorem Persist.new {H : Hp} {p : Addr} {o : HO} (h : H p = none) : Persist H (upd H p o) :=
  ⟨fun b xs q => by rw [upd_ne (ne_of_none q h)]; exact q, fun b o u q => by rw [upd_ne (ne_of_none q h)]; exact q⟩
/-- a mutable object is written -/
theorem Persist.write {H : Hp} {p : Addr} {o : HO} (h : Mut (H p)) : Persist H (upd H p o) :=
  ⟨fun b xs q => by rw [upd_ne (fun e => by subst e; rw [q] at h; exact h)]; exact q, fun b o u q => by rw [upd_ne (fun e => by subst e; rw [q] at h; exact h)]; exact q⟩
theorem Rd.persist {H H' : Hp} {a : Addr} {vs : List V} (p : Persist H H') (h : Rd H a (.tup vs)) : Rd H' a (.tup vs) := by
  rcases h with h | ⟨o, h⟩
  · exact .inl (p.1 _ _ h)
  · exact .inr ⟨o, p.2 _ _ _ h⟩
theorem SqT.persist {K : PySem.W.Frag} {H H' : Hp} {a : Addr} {vs : List V} (p : Persist H H') (h : SqT K H a vs) : SqT K H' a vs := by
  rcases h with h | h
  · exact .inl (Rd.persist p h)
  · exact .inr h
theorem LF.persist {H H' : Hp} {a : Addr} {vs : List V} (p : Persist H H') (h : LF H a vs) : LF H' a vs := let ⟨o, h⟩ := h; ⟨o, p.2 _ _ _ h⟩
theorem LK.persist {K : PySem.W.Frag} {H H' : Hp} {a : Addr} {vs : List V} (p : Persist H H') (h : LK K H a vs) : LK K H' a vs := by
  rcases h with ⟨o, h⟩ | h
  · exact .inl ⟨o, p.2 _ _ _ h⟩
  · exact .inr h
section
variable {Z : Lk} {H H' : Hp}
mutual
theorem RD.persist (p : Persist H H') : ∀ {d : D} {v : V}, RD Z H d v → RD Z H' d v
  | _, _, .non => .non
  | _, _, .bl b => .bl b
  | _, _, .int i => .int i
  | _, _, .str s q => .str s q
  | _, _, .tup h1 h2 => .tup (SqT.persist p h1) (RDs.persist p h2)
  | _, _, .lst h1 h2 => .lst (LF.persist p h1) (RDs.persist p h2)
  | _, _, .dct g h1 h2 => .dct g (p.2 _ _ _ h1) (RDkv.persist p h2)
  | _, _, .obj h1 h2 h3 => .obj (p.2 _ _ _ h1) h2 (RDs.persist p h3)
  | _, _, .cls c => .cls c
  | _, _, .scr h1 h2 => .scr (LK.persist p h1) (RDs.persist p h2)
theorem RDs.persist (p : Persist H H') : ∀ {ds : List D} {vs : List V}, RDs Z H ds vs → RDs Z H' ds vs
  | _, _, .nil => .nil
  | _, _, .cons h1 h2 => .cons (RD.persist p h1) (RDs.persist p h2)
theorem RDkv.persist (p : Persist H H') : ∀ {ks ds : List D} {es : List DictEntry}, RDkv Z H ks ds es → RDkv Z H' ks ds es
  | _, _, _, .nil => .nil
  | _, _, _, .cons h1 h2 h3 h4 h5 h6 => .cons (RD.persist p h1) h2 h3 (RD.persist p h4) h5 (RDkv.persist p h6)
end
theorem RDs.length : ∀ {ds : List D} {vs : List V}, RDs Z H ds vs → ds.length = vs.length
  | [], _, h => by cases h; rfl
  | _ :: ds, _, h => by cases h with | cons h1 h2 => simp [RDs.length h2]
theorem RDs.append : ∀ {ds es : List D} {vs ws : List V}, RDs Z H ds vs → RDs Z H es ws → RDs Z H (ds ++ es) (vs ++ ws)
  | [], _, _, _, h, k => by cases h; exact k
  | _ :: ds, _, _, _, h, k => by cases h with | cons h1 h2 => exact .cons h1 (RDs.append h2 k)
theorem RDs.get : ∀ {ds : List D} {vs : List V} {i : Nat} {d : D}, RDs Z H ds vs → ds[i]? = some d → ∃ v, vs[i]? = some v ∧ RD Z H d v
  | [], _, _, _, h, e => by simp at e
  | _ :: ds, _, 0, _, h, e => by cases h with | cons h1 h2 => simp at e; subst e; exact ⟨_, rfl, h1⟩
  | _ :: ds, _, i + 1, _, h, e => by
    cases h with
    | cons h1 h2 =>
      obtain ⟨v, q, r⟩ := RDs.get (i := i) h2 (by simpa using e)
      exact ⟨v, by simpa using q, r⟩
theorem RDs.take : ∀ {ds : List D} {vs : List V} (n : Nat), RDs Z H ds vs → RDs Z H (ds.take n) (vs.take n)
  | [], _, _, h => by cases h; simp; exact .nil
  | _ :: _, _, 0, h => by cases h; exact .nil
  | _ :: ds, _, n + 1, h => by cases h with | cons h1 h2 => exact .cons h1 (RDs.take n h2)
theorem RDs.drop : ∀ {ds : List D} {vs : List V} (n : Nat), RDs Z H ds vs → RDs Z H (ds.drop n) (vs.drop n)
  | [], _, _, h => by cases h; simp; exact .nil
  | _ :: _, _, 0, h => h
  | _ :: ds, _, n + 1, h => by cases h with | cons h1 h2 => exact RDs.drop n h2
theorem RDs.reverse : ∀ {ds : List D} {vs : List V}, RDs Z H ds vs → RDs Z H ds.reverse vs.reverse
  | [], _, h => by cases h; exact .nil
  | _ :: ds, _, h => by
    cases h with
    | cons h1 h2 => rw [List.reverse_cons, List.reverse_cons]; exact RDs.append (RDs.reverse h2) (.cons h1 .nil)
end

/-- a logical value in the abstract heap; io: where the mutable objects stand -/
inductive RVl (Z : Lk) (io : List Addr) (H : Hp) : VL → V → Prop
  | d {x : D} {v : V} : RD Z H x v → RVl Z io H (.d x) v
  | r {n : Nat} {a : Addr} : io[n]? = some a → RVl Z io H (.r n) (.ref a)
inductive RVs (Z : Lk) (io : List Addr) (H : Hp) : List VL → List V → Prop
  | nil : RVs Z io H [] []
  | cons {x : VL} {xs : List VL} {v : V} {vs : List V} : RVl Z io H x v → RVs Z io H xs vs → RVs Z io H (x :: xs) (v :: vs)
/-- a dict's entries: their keys, their values -/
def RKeys (Z : Lk) (H : Hp) : List D → List DictEntry → Prop := Paired fun (k : D) (e : DictEntry) => ∃ kx, RD Z H k kx ∧ RelV kx e.key ∧ e.hash = hashD Z.w k
def RVals (Z : Lk) (io : List Addr) (H : Hp) : List VL → List DictEntry → Prop := Paired fun (x : VL) (e : DictEntry) => ∃ vx, RVl Z io H x vx ∧ RelV vx e.val
/-- a mutable object at its address -/
def RO (Z : Lk) (io : List Addr) (H : Hp) : LO → Addr → Prop
  | .lst xs, a => ∃ vs, H a = some (.lst vs) ∧ RVs Z io H xs vs
  | .dct ks xs, a => GK ks ∧ ∃ es, H a = some (dx a es) ∧ RKeys Z H ks es ∧ RVals Z io H xs es
  | .obj c ns xs, a => ∃ x fs, H a = some (.ins (Z.ca c) x fs) ∧ fs.map (·.1) = ns.map Z.nm ∧ RVs Z io H xs (fs.map (·.2))
  | .dead, a => ∃ o u, H a = some (.frz o u)
/-- the logical heap in the abstract heap -/
structure Rep (Z : Lk) (io : List Addr) (H : Hp) (L : LH) : Prop where
  len : io.length = L.length
  nd : io.Nodup
  at_ : ∀ (n : Nat) (o : LO), L[n]? = some o → ∃ a, io[n]? = some a ∧ RO Z io H o a
/-- the slots -/
def Slots (Z : Lk) (io : List Addr) (H : Hp) (σ : Sg) (ρ : Env) : Prop := σ.length = ρ.length ∧ ∀ (i : Nat) v, ρ[i]? = some (some v) → ∃ x, σ[i]? = some (some x) ∧ RVl Z io H v x
def Ex0 (io : List Addr) (H : Hp) (io' : List Addr) (H' : Hp) : Prop := io <+: io' ∧ Persist H H'
/-- the heap goes on: logical objects stay logical objects, what persists persists, and what is tracked but is no logical object stands as it is -/
structure Ext (io : List Addr) (H : Hp) (io' : List Addr) (H' : Hp) : Prop where
  pre : io <+: io'
  per : Persist H H'
  frm : ∀ b, H b ≠ none → b ∉ io → b ∉ io' ∧ H' b = H b
theorem Ex0.refl {io : List Addr} {H : Hp} : Ex0 io H io H := ⟨List.prefix_refl _, .refl⟩
theorem Ex0.trans {i1 i2 i3 : List Addr} {A B C : Hp} (h : Ex0 i1 A i2 B) (k : Ex0 i2 B i3 C) : Ex0 i1 A i3 C := ⟨h.1.trans k.1, h.2.trans k.2⟩
theorem Ext.w {io io' : List Addr} {H H' : Hp} (x : Ext io H io' H') : Ex0 io H io' H' := ⟨x.pre, x.per⟩
theorem Ext.refl {io : List Addr} {H : Hp} : Ext io H io H := ⟨List.prefix_refl _, .refl, fun _ _ n => ⟨n, rfl⟩⟩
theorem Ext.trans {i1 i2 i3 : List Addr} {A B C : Hp} (h : Ext i1 A i2 B) (k : Ext i2 B i3 C) : Ext i1 A i3 C := ⟨h.pre.trans k.pre, h.per.trans k.per, fun b hb n => by
  obtain ⟨n2, e2⟩ := h.frm b hb n
  obtain ⟨n3, e3⟩ := k.frm b (by rw [e2]; exact hb) n2
  exact ⟨n3, e3.trans e2⟩⟩
theorem Ext.write {io : List Addr} {H : Hp} {n : Nat} {a : Addr} {u : HO} (h : io[n]? = some a) (m : Mut (H a)) : Ext io H io (upd H a u) := ⟨List.prefix_refl _, Persist.write m, fun b _ nb => ⟨nb, upd_ne fun e => nb (by subst e; exact List.mem_of_getElem? h)⟩⟩
theorem prefix_get {io io' : List Addr} (h : io <+: io') {n : Nat} {a : Addr} (e : io[n]? = some a) : io'[n]? = some a := by
  obtain ⟨t, rfl⟩ := h
  rw [List.getElem?_append_left (List.getElem?_eq_some_iff.mp e).1]; exact e
section
variable {Z : Lk} {io io' : List Addr} {H H' : Hp}
theorem RVl.ext0 (x : Ex0 io H io' H') {v : VL} {y : V} (h : RVl Z io H v y) : RVl Z io' H' v y := by
  cases h with
  | d q => exact .d (RD.persist x.2 q)
  | r q => exact .r (prefix_get x.1 q)
theorem RVs.ext0 (x : Ex0 io H io' H') : ∀ {v : List VL} {y : List V}, RVs Z io H v y → RVs Z io' H' v y
  | _, _, .nil => .nil
  | _, _, .cons h t => .cons (h.ext0 x) (RVs.ext0 x t)
theorem RKeys.ext (x : Persist H H') {ks : List D} {y : List DictEntry} (h : RKeys Z H ks y) : RKeys Z H' ks y := Paired.mapP h fun _ _ ⟨kx, a, b, c⟩ => ⟨kx, RD.persist x a, b, c⟩
theorem RVals.ext0 (x : Ex0 io H io' H') {v : List VL} {y : List DictEntry} (h : RVals Z io H v y) : RVals Z io' H' v y := Paired.mapP h fun _ _ ⟨vx, a, b⟩ => ⟨vx, a.ext0 x, b⟩
theorem RVl.ext (x : Ext io H io' H') {v : VL} {y : V} (h : RVl Z io H v y) : RVl Z io' H' v y := h.ext0 x.w
theorem RVs.ext (x : Ext io H io' H') {v : List VL} {y : List V} (h : RVs Z io H v y) : RVs Z io' H' v y := h.ext0 x.w
theorem RVals.ext (x : Ext io H io' H') {v : List VL} {y : List DictEntry} (h : RVals Z io H v y) : RVals Z io' H' v y := h.ext0 x.w
theorem Slots.ext (x : Ext io H io' H') {σ : Sg} {ρ : Env} (h : Slots Z io H σ ρ) : Slots Z io' H' σ ρ :=
  ⟨h.1, fun i v e => let ⟨y, e', r⟩ := h.2 i v e; ⟨y, e', r.ext x⟩⟩
theorem Slots.ext0 (x : Ex0 io H io' H') {σ : Sg} {ρ : Env} (h : Slots Z io H σ ρ) : Slots Z io' H' σ ρ :=
  ⟨h.1, fun i v e => let ⟨y, e', r⟩ := h.2 i v e; ⟨y, e', r.ext0 x⟩⟩
theorem RVs.length : ∀ {v : List VL} {y : List V}, RVs Z io H v y → v.length = y.length
  | _, _, .nil => rfl
  | _, _, .cons _ t => by simp [RVs.length t]
theorem RVs.append : ∀ {v v' : List VL} {y y' : List V}, RVs Z io H v y → RVs Z io H v' y' → RVs Z io H (v ++ v') (y ++ y')
  | _, _, _, _, .nil, k => k
  | _, _, _, _, .cons h t, k => .cons h (RVs.append t k)
theorem RVs.get : ∀ {v : List VL} {y : List V} {i : Nat} {x : VL}, RVs Z io H v y → v[i]? = some x → ∃ z, y[i]? = some z ∧ RVl Z io H x z
  | _, _, _, _, .nil, e => by simp at e
  | _, _, 0, _, .cons h t, e => by simp at e; subst e; exact ⟨_, rfl, h⟩
  | _, _, i + 1, _, .cons h t, e => by
    obtain ⟨z, q, r⟩ := RVs.get (i := i) t (by simpa using e)
    exact ⟨z, by simpa using q, r⟩
theorem RVs.take : ∀ {v : List VL} {y : List V} (n : Nat), RVs Z io H v y → RVs Z io H (v.take n) (y.take n)
  | _, _, _, .nil => by simp; exact .nil
  | _, _, 0, .cons _ _ => .nil
  | _, _, n + 1, .cons h t => .cons h (RVs.take n t)
theorem RVs.drop : ∀ {v : List VL} {y : List V} (n : Nat), RVs Z io H v y → RVs Z io H (v.drop n) (y.drop n)
  | _, _, _, .nil => by simp; exact .nil
  | _, _, 0, .cons h t => .cons h t
  | _, _, n + 1, .cons h t => RVs.drop n t
theorem RVs.reverse : ∀ {v : List VL} {y : List V}, RVs Z io H v y → RVs Z io H v.reverse y.reverse
  | _, _, .nil => .nil
  | _, _, .cons h t => by rw [List.reverse_cons, List.reverse_cons]; exact (RVs.reverse t).append (.cons h .nil)
theorem RVs.set : ∀ {v : List VL} {y : List V} (n : Nat) {x : VL} {z : V}, RVs Z io H v y → RVl Z io H x z → RVs Z io H (v.set n x) (y.set n z)
  | _, _, _, _, _, .nil, _ => .nil
  | _, _, 0, _, _, .cons _ t, k => .cons k t
  | _, _, n + 1, _, _, .cons h t, k => .cons h (RVs.set n t k)
theorem RVs.of_ds : ∀ {ds : List D} {y : List V}, RDs Z H ds y → RVs Z io H (ds.map .d) y
  | [], _, h => by cases h; exact .nil
  | _ :: ds, _, h => by cases h with | cons h1 h2 => exact .cons (.d h1) (RVs.of_ds h2)
theorem RVs.all : ∀ {xs : List VL} {ds : List D} {y : List V}, allD xs = some ds → RVs Z io H xs y → RDs Z H ds y
  | [], ds, _, e, h => by cases h; simp only [allD, Option.some.injEq] at e; subst e; exact .nil
  | .d x :: xs, ds, _, e, h => by
    cases h with
    | cons h1 h2 =>
      cases h1 with
      | d h1 =>
        simp only [allD, Option.map_eq_some_iff] at e
        obtain ⟨a, e1, rfl⟩ := e
        exact .cons h1 (RVs.all e1 h2)
  | .r _ :: _, _, _, e, _ => by simp [allD] at e
theorem RDkv.split : ∀ {ks ds : List D} {es : List DictEntry}, RDkv Z H ks ds es → RKeys Z H ks es ∧ RVals Z io H (ds.map .d) es
  | _, _, _, .nil => ⟨.nil, .nil⟩
  | _, _, _, .cons h1 h2 h3 h4 h5 h6 => ⟨.cons ⟨_, h1, h2, h3⟩ (RDkv.split h6).1, .cons ⟨_, .d h4, h5⟩ (RDkv.split h6).2⟩
theorem RDkv.join : ∀ {ks ds : List D} {es : List DictEntry}, RKeys Z H ks es → RVals Z io H (ds.map .d) es → RDkv Z H ks ds es
  | [], [], _, .nil, _ => .nil
  | [], _ :: _, _, .nil, h => nomatch h
  | _ :: _, [], _, .cons _ _, h => nomatch h
  | _ :: _, _ :: _, _, .cons ⟨_, a, b, c⟩ t, .cons ⟨_, .d d, e⟩ u => .cons a b c d e (RDkv.join t u)
theorem allD_length : ∀ {xs : List VL} {ds : List D}, allD xs = some ds → ds.length = xs.length
  | [], ds, e => by simp only [allD, Option.some.injEq] at e; subst e; rfl
  | .d x :: xs, ds, e => by
    simp only [allD, Option.map_eq_some_iff] at e
    obtain ⟨a, e1, rfl⟩ := e
    simp [allD_length e1]
  | .r _ :: _, _, e => by simp [allD] at e
@[simp] theorem allD_map : ∀ ds : List D, allD (ds.map .d) = some ds
  | [] => rfl
  | d :: ds => by simp [allD, allD_map ds]
end

/-! ### the logical heap changes -/
section
variable {Z : Lk} {io : List Addr} {H : Hp} {L : LH}
theorem Rep.get (R : Rep Z io H L) {n : Nat} {o : LO} (h : L[n]? = some o) : ∃ a, io[n]? = some a ∧ RO Z io H o a := R.at_ n o h
theorem RO.some_of {o : LO} {a : Addr} (h : RO Z io H o a) : H a ≠ none := by
  cases o with
  | lst xs => obtain ⟨_, e, _⟩ := h; rw [e]; simp
  | dct ks xs => obtain ⟨_, _, e, _⟩ := h; rw [e]; simp
  | obj c ns xs => obtain ⟨_, _, e, _⟩ := h; rw [e]; simp
  | dead => obtain ⟨_, _, e⟩ := h; rw [e]; simp
theorem Rep.ne_none (R : Rep Z io H L) {n : Nat} {a : Addr} (h : io[n]? = some a) : H a ≠ none := by
  have hn : n < L.length := by rw [← R.len]; exact (List.getElem?_eq_some_iff.mp h).1
  obtain ⟨b, hb, r⟩ := R.at_ n L[n] (by simp [hn])
  rw [h] at hb; cases hb
  exact r.some_of
/-- all objects but that at p stand -/
theorem RO.keep {io' : List Addr} {H' : Hp} (x : Ex0 io H io' H') {o : LO} {a : Addr} (e : H' a = H a) (h : RO Z io H o a) : RO Z io' H' o a := by
  cases o with
  | lst xs => obtain ⟨vs, h1, h2⟩ := h; exact ⟨vs, e.trans h1, h2.ext0 x⟩
  | dct ks xs => obtain ⟨g, es, h1, h2, h3⟩ := h; exact ⟨g, es, e.trans h1, h2.ext x.2, h3.ext0 x⟩
  | obj c ns xs => obtain ⟨y, fs, h1, h2, h3⟩ := h; exact ⟨y, fs, e.trans h1, h2, h3.ext0 x⟩
  | dead => obtain ⟨o, u, h1⟩ := h; exact ⟨o, u, e.trans h1⟩
theorem nodup_at {io : List Addr} (nd : io.Nodup) {n m : Nat} {a : Addr} (h : io[n]? = some a) (k : io[m]? = some a) : n = m := by
  obtain ⟨h1, e1⟩ := List.getElem?_eq_some_iff.mp h
  obtain ⟨h2, e2⟩ := List.getElem?_eq_some_iff.mp k
  exact (List.getElem_inj nd).mp (e1.trans e2.symm)
/-- the heap changes at addresses of no mutable object -/
theorem Rep.other (R : Rep Z io H L) {H' : Hp} (p : Persist H H') (k : ∀ (n : Nat) (a : Addr), io[n]? = some a → H' a = H a) : Rep Z io H' L :=
  ⟨R.len, R.nd, fun n o h => let ⟨a, e, r⟩ := R.at_ n o h; ⟨a, e, r.keep ⟨List.prefix_refl _, p⟩ (k n a e)⟩⟩
theorem Rep.new (R : Rep Z io H L) {p : Addr} {u : HO} (h : H p = none) : Rep Z io (upd H p u) L :=
  R.other (Persist.new h) fun n a e => upd_ne fun q => by subst q; exact R.ne_none e h
theorem Ext.new {p : Addr} {u : HO} (h : H p = none) : Ext io H io (upd H p u) := ⟨List.prefix_refl _, Persist.new h, fun b hb nb => ⟨nb, upd_ne fun e => hb (by subst e; exact h)⟩⟩
/-- a mutable object more -/
theorem Rep.alloc (R : Rep Z io H L) {p : Addr} {u : HO} {o : LO} (h : H p = none) (r : RO Z (io ++ [p]) (upd H p u) o p) : Rep Z (io ++ [p]) (upd H p u) (L ++ [o]) := by
  refine ⟨by simp [R.len], ?_, fun n o' e => ?_⟩
  · rw [List.nodup_append]
    refine ⟨R.nd, by simp, fun a ha b hb => ?_⟩
    simp only [List.mem_singleton] at hb
    subst hb
    obtain ⟨n, hn, e⟩ := List.mem_iff_getElem.mp ha
    rintro rfl
    exact R.ne_none (n := n) (a := a) (by simp [hn, e]) h
  · have x : Ex0 io H (io ++ [p]) (upd H p u) := ⟨List.prefix_append _ _, Persist.new h⟩
    by_cases hn : n < L.length
    · rw [List.getElem?_append_left hn] at e
      obtain ⟨a, q, r'⟩ := R.at_ n o' e
      exact ⟨a, prefix_get x.1 q, r'.keep x (upd_ne fun z => by subst z; exact R.ne_none q h)⟩
    · rw [List.getElem?_append_right (by omega)] at e
      have hz : n - L.length = 0 := by
        rcases Nat.eq_zero_or_pos (n - L.length) with z | z
        · exact z
        · rw [List.getElem?_eq_none (by simp only [List.length_cons, List.length_nil]; omega)] at e; cases e
      rw [hz] at e
      simp only [List.getElem?_cons_zero, Option.some.injEq] at e
      subst e
      refine ⟨p, ?_, r⟩
      rw [List.getElem?_append_right (by rw [R.len]; omega), R.len, hz]; rfl
theorem Ext.alloc {p : Addr} {u : HO} (h : H p = none) : Ext io H (io ++ [p]) (upd H p u) := ⟨List.prefix_append _ _, Persist.new h, fun b hb nb => by
  have ne : b ≠ p := fun e => hb (by subst e; exact h)
  exact ⟨fun hm => (List.mem_append.mp hm).elim nb fun z => ne (by simpa using z), upd_ne ne⟩⟩
theorem Rep.last (R : Rep Z io H L) {p : Addr} : (io ++ [p])[L.length]? = some p := by
  rw [List.getElem?_append_right (by rw [R.len]; exact Nat.le_refl _), R.len]; simp
/-- a mutable object is written -/
theorem Rep.write (R : Rep Z io H L) {n : Nat} {a : Addr} {o : LO} {u : HO} (h : io[n]? = some a) (p : Persist H (upd H a u)) (r : RO Z io (upd H a u) o a) : Rep Z io (upd H a u) (L.set n o) := by
  refine ⟨by simp [R.len], R.nd, fun m o' e => ?_⟩
  by_cases hm : n = m
  · subst hm
    have hn : n < L.length := by rw [← R.len]; exact (List.getElem?_eq_some_iff.mp h).1
    rw [List.getElem?_set_self hn] at e
    cases e
    exact ⟨a, h, r⟩
  · rw [List.getElem?_set_ne hm] at e
    obtain ⟨b, q, r'⟩ := R.at_ m o' e
    exact ⟨b, q, r'.keep ⟨List.prefix_refl _, p⟩ (upd_ne fun z => by subst z; exact hm (nodup_at R.nd h q))⟩
end
end L3
end
section
set_option Elab.async false
set_option linter.all false
set_option maxRecDepth 100000
set_option maxHeartbeats 4000000
/-! LB2: a tuple so many times, where the number is none, one, or below. -/
namespace L3
open PySem PySem.Spec PyProof.Rows L2
theorem tupmul_same (l : Addr) (items : Array Value) (n : Nat) (dd : Option Addr) (sl : Array (Option Value)) (x : Int) (u : Tok) (c0 : (decide (x < -(2 ^ 63)) || decide (x ≥ 2 ^ 63)) = false) (c1 : (items.isEmpty || x == 1) = true) :
    Meets (Builtin.«tuple.__mul__» ⟨[.ref l, .int x u], []⟩) (fun _ R s => s.heap.get? l = some { cls := .type "tuple", dict := dd, data := .seq items n, slots := sl } ∧ R (.ok (.ret (Value.ref l))) s) :=
  .of_wp fun prog w A R s h => by
    obtain ⟨hp, g, d, tk, os⟩ := s
    obtain ⟨hl, h⟩ := h
    have f1 := AutoSeq1.idx_int
    wp_walk using wpAny_loadPart' hl
    repeat (first
      | (refine wpAny_ite_false (decide_eq_false (by rw [c0]; exact Bool.false_ne_true)) ?_; wp_walk using wpAny_loadPart' hl)
      | (refine wpAny_ite_true (decide_eq_true c1) ?_; wp_walk using wpAny_loadPart' hl))
    exact ⟨_, rfl, h⟩
theorem tupmul_none (l : Addr) (items : Array Value) (n : Nat) (dd : Option Addr) (sl : Array (Option Value)) (x : Int) (u : Tok) (c0 : (decide (x < -(2 ^ 63)) || decide (x ≥ 2 ^ 63)) = false) (c1 : (items.isEmpty || x == 1) = false) (c2 : (decide (x ≤ 0) || items.isEmpty) = true) :
    Meets (Builtin.«tuple.__mul__» ⟨[.ref l, .int x u], []⟩) (fun _ R s => s.heap.get? l = some { cls := .type "tuple", dict := dd, data := .seq items n, slots := sl } ∧ R (.ok (.ret (Value.ref s.heap.objs.size))) { s with heap := s.heap.push { cls := Value.type "tuple", data := Data.seq #[] }, toks := s.toks }) :=
  .of_wp fun prog w A R s h => by
    obtain ⟨hp, g, d, tk, os⟩ := s
    obtain ⟨hl, h⟩ := h
    have f1 := AutoSeq1.idx_int
    wp_walk using wpAny_loadPart' hl
    repeat (first
      | (refine wpAny_ite_false (decide_eq_false (by rw [c0]; exact Bool.false_ne_true)) ?_; wp_walk using wpAny_loadPart' hl)
      | (refine wpAny_ite_false (decide_eq_false (by rw [c1]; exact Bool.false_ne_true)) ?_; wp_walk using wpAny_loadPart' hl)
      | (refine wpAny_ite_true (decide_eq_true c2) ?_; wp_walk using wpAny_loadPart' hl)
      | (refine wpAny_ite_false (decide_eq_false (Nat.not_lt.mpr (Nat.zero_le _))) ?_; wp_walk using wpAny_loadPart' hl))
    exact ⟨_, rfl, h⟩
/-- a tuple k times: itself, a new empty one, or a new one -/
def rTimes (K : PySem.W.Frag) : R2 := fun x y H Q => ∃ l k xs, x = .ref l ∧ y = .int k ∧ SqT K H l xs ∧ -1000 ≤ k ∧ k ≤ 1000 ∧ xs.length ≤ 1000 ∧ ((xs = [] ∨ k = 1) → Q (.ref l) H) ∧ (xs ≠ [] → k ≠ 1 → ∀ p, H p = none → Q (.ref p) (upd H p (.tup (List.replicate k.toNat xs).flatten)))
theorem op_times {X : Cx} : OpR X (binaryOp .Mult) (rTimes X.K) := by
  intro pins s σ H x y v u Q I rx ry h
  obtain ⟨l, k, xs, rfl, rfl, hT, g1, g2, hz, q1, q2⟩ := h
  by_cases hbig : xs ≠ [] ∧ 2 ≤ k
  · exact op_repT pins s σ H _ _ v u Q I rx ry ⟨l, k, xs, rfl, rfl, hT, hbig.1, hbig.2, g2, hz, q2 hbig.1 (by omega)⟩
  cases rx
  obtain ⟨t, rfl⟩ := ry
  obtain ⟨its, r, ⟨⟨cls, dd, data, sl⟩, ho, hc, n, hd⟩, hs⟩ := I.tuple hT
  simp only at hc hd
  subst hc hd
  have hle : its.length = xs.length := r.length.symm
  have c0 : (decide (k < -(2 ^ 63)) || decide (k ≥ 2 ^ 63)) = false := by
    rw [decide_eq_false (by omega), decide_eq_false (by omega)]; rfl
  have iff : its.toArray.isEmpty = true ↔ xs = [] := by
    constructor
    · intro e
      have : its = [] := by simpa using e
      rw [this] at hle
      exact List.eq_nil_of_length_eq_zero hle.symm
    · intro e
      rw [e] at hle
      have : its = [] := List.eq_nil_of_length_eq_zero hle
      rw [this]; rfl
  by_cases hs1 : xs = [] ∨ k = 1
  · have c1 : (its.toArray.isEmpty || k == 1) = true := by
      rw [Bool.or_eq_true]
      rcases hs1 with e | e
      · exact .inl (iff.mpr e)
      · exact .inr (beq_iff_eq.mpr e)
    refine wpAny_binaryOp_repeat_ref (T := "tuple") (U := "int") (by decide) ⟨_, ho, rfl⟩ (fun s' => typeIs_int s' k t) noFill_tuple_mul F.fills_int_mul F.slot_int_rmul repeat_tuple F.slot_int_index.lookup
      (call_meets F.slot_int_rmul (typeIs_int s k t) F.entry_int_rmul (F.args_int_rmul_2 _ _) (int_rmul_tuple k t l its.toArray n dd sl)
        ⟨ho, rfl, ⟨_, ho, rfl⟩, call_meets F.slot_tuple_mul ⟨_, ho, rfl⟩ F.entry_tuple_mul (F.args_tuple_mul_2 _ _) (tupmul_same l its.toArray n dd sl k t c0 c1) ⟨ho, ?_⟩⟩)
    exact ⟨.ref l, H, I.tok _, rfl, q1 hs1⟩
  · have n1 : ¬ xs = [] := fun e => hs1 (.inl e)
    have n2 : ¬ k = 1 := fun e => hs1 (.inr e)
    have hk : k ≤ 0 := by
      have : ¬ 2 ≤ k := fun e => hbig ⟨n1, e⟩
      omega
    have ie : its.toArray.isEmpty = false := Bool.eq_false_iff.mpr fun e => n1 (iff.mp e)
    have c1 : (its.toArray.isEmpty || k == 1) = false := by
      rw [ie, Bool.false_or]; exact beq_eq_false_iff_ne.mpr n2
    have c2 : (decide (k ≤ 0) || its.toArray.isEmpty) = true := by
      rw [decide_eq_true hk]; rfl
    refine wpAny_binaryOp_repeat_ref (T := "tuple") (U := "int") (by decide) ⟨_, ho, rfl⟩ (fun s' => typeIs_int s' k t) noFill_tuple_mul F.fills_int_mul F.slot_int_rmul repeat_tuple F.slot_int_index.lookup
      (call_meets F.slot_int_rmul (typeIs_int s k t) F.entry_int_rmul (F.args_int_rmul_2 _ _) (int_rmul_tuple k t l its.toArray n dd sl)
        ⟨ho, rfl, ⟨_, ho, rfl⟩, call_meets F.slot_tuple_mul ⟨_, ho, rfl⟩ F.entry_tuple_mul (F.args_tuple_mul_2 _ _) (tupmul_none l its.toArray n dd sl k t c0 c1 c2) ⟨ho, ?_⟩⟩)
    have e0 : (List.replicate k.toNat xs).flatten = [] := by
      rw [show k.toNat = 0 by omega]; rfl
    refine ⟨.ref s.heap.objs.size, _, I.laid (t' := s.toks) (o := .tup []) (fun b ob q => Heap.get?_push_of_some _ q) (Nat.le_refl _) ?_, rfl, by have := q2 n1 n2 _ (I.hok.fresh (Nat.le_refl s.heap.objs.size)); rw [e0] at this; exact this⟩
    exact ⟨Nat.zero_le _, [], .nil, IsTup.new _ _⟩
end L3
end
section
set_option Elab.async false
set_option linter.all false
set_option maxRecDepth 100000
set_option maxHeartbeats 4000000
/-! LC: what is wanted behind a logical result; the operators by values. -/
namespace L3
open PySem PySem.Spec PyProof.Rows L2

/-- an exception in the abstract heap: its class, its own dict -/
def RX (Z : Lk) (H : Hp) : D → Value → Option Addr → Prop
  | .obj c ns ds, cls, d => cls = .ref (Z.ca c) ∧ ((ns = [] ∧ d = none) ∨ ∃ dd fs, d = some dd ∧ H dd = some (.xd fs) ∧ fs.map (·.1) = ns.map Z.nm ∧ RDs Z H ds (fs.map (·.2)))
  | _, _, _ => False
section
variable {α β γ δ : Type}
/-- what follows a logical result -/
def Post (Z : Lk) (rel : List Addr → Hp → α → β → Prop) (io : List Addr) (H : Hp) (r : Res α) (Q : β → Hp → Prop) (E : XK) : Prop := match r with
  | .ok v L' => ∀ io' x H', Ext io H io' H' → Rep Z io' H' L' → rel io' H' v x → Q x H'
  | .exn e L' => ∀ io' c d H', Ext io H io' H' → Rep Z io' H' L' → RX Z H' e c d → E c d H'
  | .stuck => False
variable {Z : Lk} {rel : List Addr → Hp → α → β → Prop} {rel2 : List Addr → Hp → γ → δ → Prop} {io io' : List Addr} {H H' : Hp} {r : Res α} {Q Q' : β → Hp → Prop} {E E' : XK}
theorem Post.ext (h : Post Z rel io H r Q E) (x : Ext io H io' H') : Post Z rel io' H' r Q E := by
  cases r with
  | ok v L' => exact fun i y G x' => h i y G (x.trans x')
  | exn e L' => exact fun i c d G x' => h i c d G (x.trans x')
  | stuck => exact h
theorem Post.imp (h : Post Z rel io H r Q E) (hq : ∀ x H', Q x H' → Q' x H') (he : ∀ c d H', E c d H' → E' c d H') : Post Z rel io H r Q' E' := by
  cases r with
  | ok v L' => exact fun i y G x a b => hq _ _ (h i y G x a b)
  | exn e L' => exact fun i c d G x a b => he _ _ _ (h i c d G x a b)
  | stuck => exact h
theorem Post.bind {g : α → LH → Res γ} {Qd : δ → Hp → Prop} (h : Post Z rel2 io H (r.bind g) Qd E) :
    Post Z rel io H r (fun x H' => ∃ io' v L', Ext io H io' H' ∧ Rep Z io' H' L' ∧ rel io' H' v x ∧ Post Z rel2 io' H' (g v L') Qd E) E := by
  cases r with
  | ok v L' => exact fun i y G x a b => ⟨i, v, L', x, a, b, Post.ext (r := g v L') h x⟩
  | exn e L' => exact h
  | stuck => exact h
end
/-- the reading of an expression whose value is f -/
def tR {α β : Type} (Z : Lk) (W : WX) (rel : List Addr → Hp → α → β → Prop) (f : Env → LH → Res α) : Sg → Hp → (β → Hp → Prop) → Prop := fun σ H Q =>
  ∃ io ρ L, Rep Z io H L ∧ Slots Z io H σ ρ ∧ Post Z rel io H (f ρ L) Q (fun c d H' => W c d σ H')
theorem tR_bind {α β γ δ : Type} {Z : Lk} {W : WX} {rel : List Addr → Hp → α → β → Prop} {rel2 : List Addr → Hp → γ → δ → Prop} {f : Env → LH → Res α} {g : Env → α → LH → Res γ} {σ : Sg} {H : Hp} {Q : δ → Hp → Prop}
    (h : tR Z W rel2 (fun ρ L => (f ρ L).bind (g ρ)) σ H Q) :
    tR Z W rel f σ H (fun x H' => ∃ io ρ v L, Rep Z io H' L ∧ Slots Z io H' σ ρ ∧ rel io H' v x ∧ Post Z rel2 io H' (g ρ v L) Q (fun c d H' => W c d σ H')) := by
  obtain ⟨io, ρ, L, R, S, p⟩ := h
  refine ⟨io, ρ, L, R, S, p.bind.imp (fun x H' ⟨i, v, L', xt, a, b, q⟩ => ⟨i, ρ, v, L', a, S.ext xt, b, q⟩) fun _ _ _ q => q⟩
theorem tR_imp {α β : Type} {Z : Lk} {W : WX} {rel : List Addr → Hp → α → β → Prop} {f : Env → LH → Res α} {σ : Sg} {H : Hp} {Q Q' : β → Hp → Prop} (h : tR Z W rel f σ H Q) (hq : ∀ x H', Q x H' → Q' x H') : tR Z W rel f σ H Q' := by
  obtain ⟨io, ρ, L, R, S, p⟩ := h
  exact ⟨io, ρ, L, R, S, p.imp hq fun _ _ _ q => q⟩

/-! ### weaker readings -/
section
variable {X : Cx} {e : Expr}
theorem _root_.L2.PE.imp {t t' : TE} (h : PE X e t) (i : ∀ σ H Q, t' σ H Q → t σ H Q) : PE X e t' := ⟨fun pins s σ H Q I q => h.run pins s σ H Q I (i σ H Q q)⟩
theorem _root_.L2.PT.imp {t t' : TT} (h : PT X e t) (i : ∀ σ H Q, t' σ H Q → t σ H Q) : PT X e t' := ⟨fun pins s σ H Q I q => h.run pins s σ H Q I (i σ H Q q)⟩
theorem _root_.L2.PA.imp {es : List Expr} {t t' : TA} (h : PA X es t) (i : ∀ σ H Q, t' σ H Q → t σ H Q) : PA X es t' := ⟨fun pos pins s σ H Q I q => h.run pos pins s σ H Q I (i σ H Q q)⟩
theorem _root_.L2.PS.imp {st : Stmt} {t t' : TS} (h : PS X st t) (i : ∀ D σ H, t' D σ H → t D σ H) : PS X st t' := ⟨fun pins s σ H D I q => h.run pins s σ H D I (i D σ H q)⟩
theorem _root_.L2.PSs.imp {st : List Stmt} {t t' : TS} (h : PSs X st t) (i : ∀ D σ H, t' D σ H → t D σ H) : PSs X st t' := ⟨fun pins s σ H D I q => h.run pins s σ H D I (i D σ H q)⟩
end

/-! ### operators by values -/
/-- a two-place operation on values -/
def r2 (Z : Lk) (f : VL → VL → LH → Res VL) : R2 := fun x y H Q => ∃ io L vx vy E, Rep Z io H L ∧ RVl Z io H vx x ∧ RVl Z io H vy y ∧ Post Z (RVl Z) io H (f vx vy L) Q E
section
variable {Z : Lk} {io : List Addr} {H : Hp} {L : LH} {E : XK} {Q : VK}
/-- data handed back, nothing changed -/
theorem okD {d : D} {x : V} (h : Post Z (RVl Z) io H (.ok (.d d) L) Q E) (R : Rep Z io H L) (r : RD Z H d x) : Q x H := h io x H .refl R (.d r)
/-- .. a new object beside -/
theorem okN {d : D} {x : V} {p : Addr} {u : HO} (h : Post Z (RVl Z) io H (.ok (.d d) L) Q E) (R : Rep Z io H L) (hp : H p = none) (r : RD Z (upd H p u) d x) : Q x (upd H p u) :=
  h io x _ (Ext.new hp) (R.new hp) (.d r)
theorem RVl.int {i : Int} {x : V} (h : RVl Z io H (.d (.int i)) x) : x = .int i := by cases h with | d h => cases h; rfl
theorem RVl.bl {i : Bool} {x : V} (h : RVl Z io H (.d (.bl i)) x) : x = .bl i := by cases h with | d h => cases h; rfl
theorem RVl.non {x : V} (h : RVl Z io H (.d .non) x) : x = .non := by cases h with | d h => cases h; rfl
theorem RVl.str {s : List Nat} {x : V} (h : RVl Z io H (.d (.str s)) x) : x = .str (st s) ∧ SOk s := by cases h with | d h => cases h with | str _ q => exact ⟨rfl, q⟩
theorem RVl.tup {ds : List D} {x : V} (h : RVl Z io H (.d (.tup ds)) x) : ∃ a vs, x = .ref a ∧ SqT Z.K H a vs ∧ RDs Z H ds vs := by cases h with | d h => cases h with | tup h1 h2 => exact ⟨_, _, rfl, h1, h2⟩
theorem RVl.lst {ds : List D} {x : V} (h : RVl Z io H (.d (.lst ds)) x) : ∃ a vs, x = .ref a ∧ LF H a vs ∧ RDs Z H ds vs := by cases h with | d h => cases h with | lst h1 h2 => exact ⟨_, _, rfl, h1, h2⟩
theorem RVl.scr {ds : List D} {x : V} (h : RVl Z io H (.d (.scr ds)) x) : ∃ a vs, x = .ref a ∧ LK Z.K H a vs ∧ RDs Z H ds vs := by cases h with | d h => cases h with | scr h1 h2 => exact ⟨_, _, rfl, h1, h2⟩
/-- a list of the evaluator is a tracked list, or a frozen one -/
def LAny (H : Hp) (a : Addr) (vs : List V) : Prop := H a = some (.lst vs) ∨ LF H a vs
theorem LAny.sq {K : PySem.W.Frag} {H : Hp} {a : Addr} {vs : List V} (h : LAny H a vs) : SqL K H a vs := by
  rcases h with h | ⟨o, h⟩
  · exact .inl (.inl h)
  · exact .inl (.inr ⟨o, h⟩)
theorem isL_of (R : Rep Z io H L) {v : VL} {xs : List VL} {x : V} (h1 : isL L v = true) (h2 : seqOf L v = some xs) (r : RVl Z io H v x) : ∃ a vs, x = .ref a ∧ LAny H a vs ∧ RVs Z io H xs vs := by
  cases r with
  | d r =>
    rename_i d
    cases d with
    | lst ds =>
      simp only [seqOf, Option.some.injEq] at h2
      subst h2
      cases r with
      | lst q1 q2 => exact ⟨_, _, rfl, .inr q1, .of_ds q2⟩
    | _ => simp [isL] at h1
  | r q =>
    rename_i n a
    simp only [isL] at h1
    simp only [seqOf] at h2
    cases e : L[n]? with
    | none => rw [e] at h1; simp at h1
    | some o =>
      rw [e] at h1 h2
      cases o with
      | lst ys =>
        simp only [Option.some.injEq] at h2
        subst h2
        obtain ⟨b, q', r'⟩ := R.get e
        rw [q] at q'; cases q'
        obtain ⟨vs, r1, r2⟩ := r'
        exact ⟨a, vs, rfl, .inl r1, r2⟩
      | _ => simp at h1
/-- a list or a tuple -/
theorem seqOf_of (R : Rep Z io H L) {v : VL} {xs : List VL} {x : V} (h2 : seqOf L v = some xs) (r : RVl Z io H v x) : ∃ a vs, x = .ref a ∧ (LAny H a vs ∨ SqT Z.K H a vs) ∧ RVs Z io H xs vs := by
  cases hl : isL L v with
  | true =>
    obtain ⟨a, vs, e, h, r⟩ := isL_of R hl h2 r
    exact ⟨a, vs, e, .inl h, r⟩
  | false =>
    cases r with
    | d r =>
      rename_i d
      cases d with
      | tup ds =>
        simp only [seqOf, Option.some.injEq] at h2
        subst h2
        cases r with
        | tup q1 q2 => exact ⟨_, _, rfl, .inr q1, .of_ds q2⟩
      | lst ds => simp [isL] at hl
      | _ => simp [seqOf] at h2
    | r q =>
      rename_i n a
      simp only [isL] at hl
      simp only [seqOf] at h2
      cases e : L[n]? with
      | none => rw [e] at h2; simp at h2
      | some o =>
        rw [e] at hl h2
        cases o with
        | lst ys => simp at hl
        | _ => simp at h2
theorem line_eq : lim = sizeLine := by rw [sizeLine_eq]
end
section
variable {X : Cx} {pins : List (Addr × Obj)} {σ : Sg} {H : Hp} {s : Shared} {a : Addr} {vs : List V}
theorem Inv.lany (I : Inv X pins σ H s) (h : LAny H a vs) : vs.length ≤ sizeLine ∧ ∃ (its : List Value) (n : Nat), Vals vs its ∧ vs.length = its.length ∧ s.heap.get? a = some { cls := .type "list", data := .seq its.toArray n } := by
  rcases h with h | ⟨o, h⟩
  · exact I.lstM h
  · obtain ⟨e, z, its, n, r, q⟩ := (show ObjOk X.prog X.w H s.heap a (.frz o (.lst vs)) from I.hok a _ h)
    exact ⟨z, its, n, r, r.length, q⟩
end
/-- a new list as mkL gives it: mutable, or frozen -/
theorem okL {Z : Lk} {io : List Addr} {H : Hp} {L : LH} {E : XK} {Q : VK} {m : Bool} {xs : List VL} {vs : List V} {p : Addr} (h : Post Z (RVl Z) io H (mkL m xs L) Q E) (R : Rep Z io H L) (hp : H p = none) (r : RVs Z io H xs vs) :
    xs.length ≤ lim ∧ (Q (.ref p) (upd H p (.lst vs)) ∨ ∀ o, Q (.ref p) (upd H p (.frz o (.lst vs)))) := by
  unfold mkL at h
  split at h
  · rename_i hz
    refine ⟨hz, ?_⟩
    have q : Post Z (RVl Z) io H (alloc (.lst xs) L) Q E → Q (.ref p) (upd H p (.lst vs)) := fun h => by
      exact h (io ++ [p]) _ _ (Ext.alloc hp) (R.alloc hp ⟨vs, upd_same, r.ext (Ext.alloc hp)⟩) (.r R.last)
    cases m with
    | true => exact .inl (q h)
    | false =>
      simp only [Bool.false_eq_true, if_false] at h
      cases e : allD xs with
      | some ds =>
        rw [e] at h
        exact .inr fun o => okN h R hp (.lst ⟨o, upd_same⟩ ((RVs.all e r).persist (Persist.new hp)))
      | none => rw [e] at h; exact .inl (q h)
  · exact h.elim
section
variable {X : Cx} {pins : List (Addr × Obj)} {σ : Sg} {H : Hp} {s : Shared}
/-- the new list is laid -/
theorem fin_list {Z : Lk} {io : List Addr} {L : LH} {E : XK} {Q : VK} {m : Bool} {xs : List VL} {vs : List V} {its : List Value} {t' : Nat} (I : Inv X pins σ H s) (h : Post Z (RVl Z) io H (mkL m xs L) Q E) (R : Rep Z io H L) (r : RVs Z io H xs vs) (hv : Vals vs its) :
    EP X pins σ Q (.ref s.heap.objs.size) { s with heap := s.heap.push { cls := .type "list", data := .seq its.toArray }, toks := t' } := by
  obtain ⟨hz, q⟩ := okL h R I.fresh r
  have hz' : vs.length ≤ sizeLine := by rw [← r.length, ← line_eq]; exact hz
  rcases q with q | q
  · exact ⟨.ref _, _, I.lnew hv hz', rfl, q⟩
  · refine ⟨.ref _, _, I.laid (o := .frz { cls := .type "list", data := .seq its.toArray } (.lst vs)) (fun _ _ q => Heap.get?_push_of_some _ q) (Nat.le_refl _) (show _ ∧ _ from ⟨Heap.get?_push_size _ rfl, hz', its, 0, hv, Heap.get?_push_size _ rfl⟩), rfl, q { cls := .type "list", data := .seq its.toArray }⟩
/-- list + list -/
theorem op_catL {Z : Lk} : OpR X (binaryOp .Add) (fun x y H Q => ∃ io L xs ys a b vs ws E, x = .ref a ∧ y = .ref b ∧ Rep Z io H L ∧ LAny H a vs ∧ LAny H b ws ∧ RVs Z io H xs vs ∧ RVs Z io H ys ws ∧ Post Z (RVl Z) io H (mkL false (xs ++ ys) L) Q E) := by
  intro pins s σ H x y v u Q I rx ry h
  obtain ⟨io, L, xs, ys, a, b, vs, ws, E, rfl, rfl, R, ha, hb, r1, r2, p⟩ := h
  cases rx
  cases ry
  obtain ⟨z1, i1, n1, v1, l1, e1⟩ := Inv.lany I ha
  obtain ⟨z2, i2, n2, v2, l2, e2⟩ := Inv.lany I hb
  have hz := (okL p R I.fresh (r1.append r2)).1
  refine PySem.P.add_list e1 e2 ?_ (by rw [List.size_toArray, List.size_toArray]; rw [List.length_append, r1.length, r2.length, line_eq] at hz; omega)
  have ea : i1.toArray ++ i2.toArray = (i1 ++ i2).toArray := by simp
  rw [ea]
  exact fin_list I p R (r1.append r2) (v1.append v2)
/-- list * int -/
theorem op_repL {Z : Lk} : OpR X (binaryOp .Mult) (fun x y H Q => ∃ io L xs k a vs E, x = .ref a ∧ y = .int k ∧ Rep Z io H L ∧ LAny H a vs ∧ RVs Z io H xs vs ∧ -1000 ≤ k ∧ k ≤ 1000 ∧ xs.length ≤ 1000 ∧ Post Z (RVl Z) io H (mkL false (List.replicate k.toNat xs).flatten L) Q E) := by
  intro pins s σ H x y v u Q I rx ry h
  obtain ⟨io, L, xs, k, a, vs, E, rfl, rfl, R, ha, r1, h1, h2, h3, p⟩ := h
  cases rx
  obtain ⟨t, rfl⟩ := ry
  obtain ⟨z, its, n, r, hl, e⟩ := Inv.lany I ha
  have hx : vs.length ≤ 1000 := by rw [← r1.length]; exact h3
  have hz : its.length * k.toNat ≤ 1000 * 1000 := Nat.mul_le_mul (by omega) (by omega)
  have hlen : its.toArray.size * k.toNat ≤ sizeLine := by rw [List.size_toArray]; exact Nat.le_trans hz (by decide)
  have hcap : ¬ its.toArray.size * k.toNat > (2 ^ 63 - 1) / 8 := by
    have : (sizeLine : Nat) ≤ (2 ^ 63 - 1) / 8 := by decide
    omega
  have hfit : ¬ (!Builtin.List.listFitsIndex k) = true := by
    rw [fitsIndex_both (by omega) (by omega)]
    exact Bool.false_ne_true
  have hlong : ¬ Builtin.List.listTooLong (its.toArray.size * k.toNat) = true := by
    rw [notLongL hlen]
    exact Bool.false_ne_true
  have hnew : List.foldl (fun x1 x2 => x1 ++ x2) #[] (List.replicate (if its.toArray.isEmpty = true then 0 else k.toNat) its.toArray) = (List.replicate k.toNat its).flatten.toArray := by
    have f0 : ∀ m : Nat, List.foldl (fun x1 x2 => x1 ++ x2) #[] (List.replicate m its.toArray) = (List.replicate m its).flatten.toArray := fun m => by
      have := foldl_rep its m []
      rw [List.nil_append] at this
      exact this
    rw [f0]
    cases its with
    | nil => simp
    | cons a r' => rw [if_neg (by simp)]
  have rep : ∀ m : Nat, RVs Z io H (List.replicate m xs).flatten (List.replicate m vs).flatten := by
    intro m
    induction m with
    | zero => exact .nil
    | succ m ih =>
      rw [List.replicate_succ, List.replicate_succ, List.flatten_cons, List.flatten_cons]
      exact r1.append ih
  refine wpAny_binaryOp_repeat_ref (T := "list") (U := "int") (by decide) ⟨_, e, rfl⟩ (fun s' => typeIs_int s' k t) noFill_list_mul F.fills_int_mul F.slot_int_rmul repeat_list F.slot_int_index.lookup
    (call_meets F.slot_int_rmul (typeIs_int s k t) F.entry_int_rmul (F.args_int_rmul_2 _ _) (int___rmul___int_list k t a its.toArray n)
      ⟨e, rfl, ⟨_, e, rfl⟩, call_meets F.slot_list_mul ⟨_, e, rfl⟩ F.entry_list_mul (F.args_list_mul_2 _ _) (AutoListH.list___mul___list_int_3 a its.toArray n k t hfit hcap hlong) ⟨e, ?_⟩⟩)
  rw [hnew]
  exact fin_list I p R (rep k.toNat) (r.rep k.toNat)
theorem st_append (a b : List Nat) : st a ++ st b = st (a ++ b) := by
  show (⟨a.toArray ++ b.toArray⟩ : Str) = ⟨(a ++ b).toArray⟩
  simp
theorem st_length (a : List Nat) : (st a).length = a.length := by show a.toArray.size = _; simp
theorem st_toList (a : List Nat) : (st a).cps.toList = a := by show a.toArray.toList = a; simp

/-- a tuple is laid -/
theorem okT {Z : Lk} {io : List Addr} {L : LH} {E : XK} {Q : VK} {ds : List D} {vs : List V} {p : Addr} (h : Post Z (RVl Z) io H (.ok (.d (.tup ds)) L) Q E) (R : Rep Z io H L) (hp : H p = none) (r : RDs Z H ds vs) : Q (.ref p) (upd H p (.tup vs)) :=
  okN h R hp (.tup (SqT.of upd_same) (r.persist (Persist.new hp)))
def opOf : BOp → Operator
  | .add => .Add | .sub => .Sub | .mul => .Mult | .fdiv => .FloorDiv | .mod => .Mod | .pow => .Pow
theorem binI_ok (op : BOp) (i j k : Int) (t u : Tok) (s : Shared) (R : Value → Shared → Prop) (E : Value → Shared → Prop) (h : binI op i j = some k) (q : R (.int k s.toks) { s with toks := s.toks + 1 }) :
    wpAny (model X.prog X.w) X.A (binaryOp (opOf op) (.int i t) (.int j u)) R E s := by
  cases op with
  | add => simp only [binI, Option.some.injEq] at h; subst h; exact add_int q
  | sub => simp only [binI, Option.some.injEq] at h; subst h; exact sub_int q
  | mul =>
    simp only [binI] at h
    split at h
    · rename_i hc
      simp only [Option.some.injEq] at h; subst h
      exact mul_int q (CMul.ok (show CMul i j from of_decide_eq_true (p := ((-(2 ^ 64) < i ∧ i < 2 ^ 64) ∨ (-(2 ^ 64) < j ∧ j < 2 ^ 64))) hc))
    · cases h
  | fdiv =>
    simp only [binI] at h
    split at h
    · rename_i hc
      simp only [Option.some.injEq] at h; subst h
      exact floordiv_int (by omega) (by rw [Int.fdiv_eq_ediv_of_nonneg i (by omega)]; exact q) (.inl (PyProof.noPylong_small (by omega)))
    · cases h
  | mod =>
    simp only [binI] at h
    split at h
    · rename_i hc
      simp only [Option.some.injEq] at h; subst h
      exact mod_int' (by omega) (by rw [Int.fmod_eq_emod_of_nonneg i (by omega)]; exact q)
    · cases h
  | pow =>
    simp only [binI] at h
    split at h
    · rename_i hc
      obtain ⟨h1, h2, h3⟩ := of_decide_eq_true hc
      simp only [Option.some.injEq] at h; subst h
      exact pow_int_small h1 h2 h3 q
    · cases h

theorem cut_flat {K : PySem.W.Frag} {H : Hp} : ∀ (k : Nat) {Z : Lk} {ds : List D} {vs : List V}, RDs Z H ds vs → RDs Z H (List.replicate k ds).flatten (List.replicate k vs).flatten
  | 0, _, _, _, _ => .nil
  | k + 1, _, ds, vs, r => by
    rw [List.replicate_succ, List.replicate_succ, List.flatten_cons, List.flatten_cons]
    exact r.append (cut_flat (K := K) (H := H) k r)
theorem op_bin {Z : Lk} (hK : X.K = Z.K) (op : BOp) : OpR X (binaryOp (opOf op)) (r2 Z (binop op)) := by
  intro pins s σ H x y v u Q I rx ry h
  obtain ⟨io, L, vx, vy, E, R, h1, h2, p⟩ := h
  unfold binop at p
  split at p
  · rename_i i j
    cases h1.int; cases h2.int
    obtain ⟨t, rfl⟩ := rx
    obtain ⟨t', rfl⟩ := ry
    cases e : binI op i j with
    | none => rw [e] at p; exact p.elim
    | some k =>
      rw [e] at p
      exact binI_ok op i j k t t' s _ _ e ⟨.int k, H, I.tok _, ⟨_, rfl⟩, okD p R (.int k)⟩
  · rename_i a b
    split at p
    · rename_i hc
      obtain ⟨rfl, hz⟩ := hc
      obtain ⟨rfl, q1⟩ := h1.str
      obtain ⟨rfl, q2⟩ := h2.str
      refine op_add_str pins s σ H _ _ v u Q I rx ry ⟨_, _, rfl, rfl, by rw [st_length, st_length, ← line_eq]; exact hz, ?_⟩
      rw [st_append]
      exact okD p R (.str _ ⟨fun c hc => (List.mem_append.mp hc).elim (q1.1 c) (q2.1 c), by rw [List.length_append]; exact hz⟩)
    · exact p.elim
  · rename_i a b
    split at p
    · rename_i hc
      obtain ⟨rfl, hz⟩ := hc
      obtain ⟨a1, vs1, rfl, t1, r1⟩ := h1.tup
      obtain ⟨a2, vs2, rfl, t2, r2⟩ := h2.tup
      refine op_catA pins s σ H _ _ v u Q I rx ry ⟨a1, a2, vs1, vs2, rfl, rfl, hK ▸ t1, hK ▸ t2, by rw [← r1.length, ← r2.length, ← line_eq]; exact hz, fun e => ?_, fun _ e => ?_, fun _ _ p' hp => ?_⟩
      · subst e
        have : a = [] := List.eq_nil_of_length_eq_zero (by rw [r1.length]; rfl)
        subst this
        exact okD p R (.tup t2 r2)
      · subst e
        have : b = [] := List.eq_nil_of_length_eq_zero (by rw [r2.length]; rfl)
        subst this
        rw [List.append_nil] at p
        exact okD p R (.tup t1 r1)
      · exact okT p R hp (r1.append r2)
    · exact p.elim
  · rename_i a k
    split at p
    · rename_i hc
      obtain ⟨rfl, h2', h3, hz⟩ := hc
      obtain ⟨a1, vs1, rfl, t1, r1⟩ := h1.tup
      cases h2.int
      refine op_times pins s σ H _ _ v u Q I rx ry ⟨a1, k, vs1, rfl, rfl, hK ▸ t1, h2', h3, by rw [← r1.length]; exact hz, fun e => ?_, fun _ _ p' hp => ?_⟩
      · have e2 : (List.replicate k.toNat a).flatten = a := by
          rcases e with e | e
          · subst e
            have : a = [] := List.eq_nil_of_length_eq_zero (by rw [r1.length]; rfl)
            subst this
            simp
          · subst e
            simp
        rw [e2] at p
        exact okD p R (.tup t1 r1)
      · exact okT p R hp (cut_flat (K := Z.K) _ r1)
    · exact p.elim
  · rename_i a k
    split at p
    · rename_i hc
      obtain ⟨rfl, h2', h3, hz⟩ := hc
      obtain ⟨a1, vs, rfl, l1, q1⟩ := isL_of R (v := .d (.lst a)) (xs := a.map .d) rfl rfl h1
      cases h2.int
      exact op_repL pins s σ H _ _ v u Q I rx ry ⟨io, L, _, k, a1, vs, E, rfl, rfl, R, l1, q1, h2', h3, by rw [List.length_map]; exact hz, p⟩
    · exact p.elim
  · split at p
    · rename_i e1 e2 e3
      simp only [Bool.and_eq_true] at e1
      obtain ⟨a, vs, rfl, l1, q1⟩ := isL_of R e1.1 e2 h1
      obtain ⟨b, ws, rfl, l2, q2⟩ := isL_of R e1.2 e3 h2
      exact op_catL pins s σ H _ _ v u Q I rx ry ⟨io, L, _, _, a, b, vs, ws, E, rfl, rfl, R, l1, l2, q1, q2, p⟩
    · exact p.elim
end
end L3
end
section
set_option Elab.async false
set_option linter.all false
set_option maxRecDepth 100000
set_option maxHeartbeats 4000000
/-! LD: data as the library tells it; comparisons, in, truth by values. -/
namespace L3
open PySem PySem.Spec PyProof.Rows L2
theorem pys_map : ∀ xs : List D, pys xs = xs.map py
  | [] => rfl
  | x :: xs => by rw [pys, pys_map xs]; rfl
theorem strOk_st {s : List Nat} (h : ∀ c ∈ s, c < 1114112) : PyData.strOk (st s) = true := by
  unfold PyData.strOk st
  rw [List.all_toArray, List.all_eq_true]
  intro c hc
  exact decide_eq_true (h c hc)
section
variable {Z : Lk} {io : List Addr} {H : Hp} {L : LH}
mutual
theorem Dp_of : ∀ {d : D} {x : V} (n : Nat), RD Z H d x → D.okq n d = true → Dp Z.K H x (py d) ∧ (py d).canLay0 = true ∧ (py d).depth ≤ n
  | .non, _, n, h, o => by cases h; exact ⟨.non, by simp [py, PyData.canLay0], by simp [py, PyData.depth]⟩
  | .bl b, _, n, h, o => by cases h; exact ⟨.bl b, by simp [py, PyData.canLay0], by simp [py, PyData.depth]⟩
  | .int i, _, n, h, o => by cases h; exact ⟨.int i, by simp [py, PyData.canLay0], by simp [py, PyData.depth]⟩
  | .str s, _, n, h, o => by cases h with | str _ q => exact ⟨.str _, by simpa [py, PyData.canLay0] using strOk_st q.1, by simp [py, PyData.depth]⟩
  | .tup xs, _, 0, h, o => by simp [D.okq] at o
  | .lst xs, _, 0, h, o => by simp [D.okq] at o
  | .tup xs, _, n + 1, h, o => by
    cases h with
    | tup h1 h2 =>
      obtain ⟨a, b, c⟩ := Dps_of n h2 (by simpa [D.okq] using o)
      exact ⟨.tup h1 a, by simpa [py, PyData.canLay0] using b, by simp only [py, PyData.depth]; omega⟩
  | .lst xs, _, n + 1, h, o => by
    cases h with
    | lst h1 h2 =>
      obtain ⟨a, b, c⟩ := Dps_of n h2 (by simpa [D.okq] using o)
      exact ⟨.lst (LK.sq (K := Z.K) h1.lk) a, by simpa [py, PyData.canLay0] using b, by simp only [py, PyData.depth]; omega⟩
  | .dct _ _, _, n, h, o => by simp [D.okq] at o
  | .obj _ _ _, _, n, h, o => by simp [D.okq] at o
  | .cls _, _, n, h, o => by simp [D.okq] at o
  | .scr _, _, n, h, o => by simp [D.okq] at o
theorem Dps_of : ∀ {ds : List D} {xs : List V} (n : Nat), RDs Z H ds xs → D.okqs n ds = true → DpAll Z.K H xs (pys ds) ∧ PyData.canLayAll0 (pys ds) = true ∧ PyData.depthAll (pys ds) ≤ n
  | [], _, n, h, o => by cases h; exact ⟨.nil, by simp [pys, PyData.canLayAll0], by simp [pys, PyData.depthAll]⟩
  | d :: ds, _, n, h, o => by
    cases h with
    | cons h1 h2 =>
      have o' : D.okq n d = true ∧ D.okqs n ds = true := by simpa [D.okqs] using o
      obtain ⟨a, b, c⟩ := Dp_of n h1 o'.1
      obtain ⟨a', b', c'⟩ := Dps_of n h2 o'.2
      exact ⟨.cons a a', by simp [pys, PyData.canLayAll0, b, b'], by simp only [pys, PyData.depthAll]; omega⟩
end

theorem shaped_of {d : PyData} {n : Nat} (h1 : d.canLay0 = true) (h2 : d.depth ≤ n) (hn : n ≤ 64) : SeqAt.shaped d = true := by
  unfold SeqAt.shaped
  rw [h1, Bool.true_and]
  exact decide_eq_true (Nat.le_trans h2 hn)
mutual
theorem py_eqv : ∀ (a b : D) (n m : Nat), D.okq n a = true → D.okq m b = true → PyData.eqv (py a) (py b) = D.eqv a b
  | .tup xs, b, 0, m, h, k => by simp [D.okq] at h
  | .lst xs, b, 0, m, h, k => by simp [D.okq] at h
  | .tup xs, .tup ys, n + 1, 0, h, k => by simp [D.okq] at k
  | .lst xs, .lst ys, n + 1, 0, h, k => by simp [D.okq] at k
  | .tup xs, .tup ys, n + 1, m + 1, h, k => by
    simp only [py, PyData.eqv, D.eqv]
    exact pys_eqv xs ys n m (by simpa [D.okq] using h) (by simpa [D.okq] using k)
  | .lst xs, .lst ys, n + 1, m + 1, h, k => by
    simp only [py, PyData.eqv, D.eqv]
    exact pys_eqv xs ys n m (by simpa [D.okq] using h) (by simpa [D.okq] using k)
  | .non, b, n, m, h, k => by cases b <;> first | rfl | (cases m <;> simp [D.okq] at k)
  | .bl _, b, n, m, h, k => by cases b <;> first | rfl | (cases m <;> simp [D.okq] at k)
  | .int _, b, n, m, h, k => by cases b <;> first | rfl | (cases m <;> simp [D.okq] at k)
  | .str x, b, n, m, h, k => by
    cases b with
    | str y =>
      simp only [py, PyData.eqv, D.eqv]
      by_cases e : x = y
      · subst e; simp
      · have : st x ≠ st y := fun q => e (by have := congrArg (fun z : Str => z.cps.toList) q; simpa [st] using this)
        rw [beq_eq_false_iff_ne.mpr this, beq_eq_false_iff_ne.mpr e]
    | _ => first | rfl | (cases m <;> simp [D.okq] at k)
  | .tup xs, .non, n + 1, m, h, k | .tup xs, .bl _, n + 1, m, h, k | .tup xs, .int _, n + 1, m, h, k | .tup xs, .str _, n + 1, m, h, k | .tup xs, .lst _, n + 1, m, h, k => by rfl
  | .lst xs, .non, n + 1, m, h, k | .lst xs, .bl _, n + 1, m, h, k | .lst xs, .int _, n + 1, m, h, k | .lst xs, .str _, n + 1, m, h, k | .lst xs, .tup _, n + 1, m, h, k => by rfl
  | .tup xs, .dct _ _, n + 1, m, h, k | .tup xs, .obj _ _ _, n + 1, m, h, k | .tup xs, .cls _, n + 1, m, h, k | .tup xs, .scr _, n + 1, m, h, k => by cases m <;> simp [D.okq] at k
  | .lst xs, .dct _ _, n + 1, m, h, k | .lst xs, .obj _ _ _, n + 1, m, h, k | .lst xs, .cls _, n + 1, m, h, k | .lst xs, .scr _, n + 1, m, h, k => by cases m <;> simp [D.okq] at k
  | .dct _ _, b, n, m, h, k | .obj _ _ _, b, n, m, h, k | .cls _, b, n, m, h, k | .scr _, b, n, m, h, k => by cases n <;> simp [D.okq] at h
theorem pys_eqv : ∀ (a b : List D) (n m : Nat), D.okqs n a = true → D.okqs m b = true → PyData.eqvAll (pys a) (pys b) = D.eqvs a b
  | [], [], _, _, _, _ => rfl
  | [], _ :: _, _, _, _, _ => rfl
  | _ :: _, [], _, _, _, _ => rfl
  | x :: xs, y :: ys, n, m, h, k => by
    have h' : D.okq n x = true ∧ D.okqs n xs = true := by simpa [D.okqs] using h
    have k' : D.okq m y = true ∧ D.okqs m ys = true := by simpa [D.okqs] using k
    simp only [pys, PyData.eqvAll, D.eqvs]
    rw [py_eqv x y n m h'.1 k'.1, pys_eqv xs ys n m h'.2 k'.2]
end
theorem dv_d (k : Nat) (L : LH) (x : D) : dv k L (.d x) = some x := by cases k <;> rfl
/-- what a value is as data, in the abstract heap -/
theorem seq_py (f : D) : True := trivial
mutual
theorem dv_of (R : Rep Z io H L) : ∀ (k : Nat) {v : VL} {d : D} {x : V} (n : Nat), dv k L v = some d → RVl Z io H v x → D.okq n d = true → Dp Z.K H x (py d) ∧ (py d).canLay0 = true ∧ (py d).depth ≤ n
  | k, .d y, d, x, n, e, h, o => by
    have e' : some y = some d := by rw [dv_d] at e; exact e
    cases e'
    cases h with
    | d h => exact Dp_of n h o
  | 0, .r m, d, x, n, e, h, o => by simp [dv] at e
  | k + 1, .r m, d, x, n, e, h, o => by
    simp only [dv] at e
    cases q : L[m]? with
    | none => rw [q] at e; simp at e
    | some ob =>
      rw [q] at e
      cases h with
      | r hm =>
        obtain ⟨a, ha, r⟩ := R.get q
        rw [hm] at ha; cases ha
        cases ob with
        | lst xs =>
          simp only [Option.map_eq_some_iff] at e
          obtain ⟨ds, e1, rfl⟩ := e
          obtain ⟨vs, r1, r2⟩ := r
          cases n with
          | zero => simp [D.okq] at o
          | succ n =>
            obtain ⟨p1, p2, p3⟩ := dvs_of R k n e1 r2 (by simpa [D.okq] using o)
            exact ⟨.lst (SqL.of r1) p1, by simpa [py, PyData.canLay0] using p2, by simp only [py, PyData.depth]; omega⟩
        | dct ks xs =>
          simp only [Option.map_eq_some_iff] at e
          obtain ⟨ds, e1, rfl⟩ := e
          cases n <;> simp [D.okq] at o
        | obj _ _ _ => simp at e
        | dead => simp at e
theorem dvs_of (R : Rep Z io H L) : ∀ (k : Nat) {vs : List VL} {ds : List D} {xs : List V} (n : Nat), dvs k L vs = some ds → RVs Z io H vs xs → D.okqs n ds = true → DpAll Z.K H xs (pys ds) ∧ PyData.canLayAll0 (pys ds) = true ∧ PyData.depthAll (pys ds) ≤ n
  | k, [], ds, xs, n, e, h, o => by
    have e' : some [] = some ds := by simpa only [dvs, mapO] using e
    cases e'
    cases h
    exact ⟨.nil, by simp [pys, PyData.canLayAll0], by simp [pys, PyData.depthAll]⟩
  | k, v :: vs, ds, xs, n, e, h, o => by
    have e' := e
    simp only [dvs, mapO] at e'
    cases e1 : dv k L v with
    | none => rw [e1] at e'; simp at e'
    | some y =>
      cases e2 : mapO (dv k L) vs with
      | none => rw [e1, e2] at e'; simp at e'
      | some ys =>
        rw [e1, e2] at e'
        simp only [Option.some.injEq] at e'
        subst e'
        cases h with
        | cons h1 h2 =>
          have o' : D.okq n y = true ∧ D.okqs n ys = true := by simpa [D.okqs] using o
          obtain ⟨a, b, c⟩ := dv_of R k n e1 h1 o'.1
          obtain ⟨a', b', c'⟩ := dvs_of R k n e2 h2 o'.2
          exact ⟨.cons a a', by simp [pys, PyData.canLayAll0, b, b'], by simp only [pys, PyData.depthAll]; omega⟩
end
end
end L3
end
section
set_option Elab.async false
set_option linter.all false
set_option maxRecDepth 100000
set_option maxHeartbeats 4000000
/-! LE: dicts by their entries. -/
namespace L3
open PySem PySem.Spec PyProof.Rows L2

def kk : D → Key
  | .int i => .inl i
  | .str s => .inr (st s)
  | _ => .inl 0
theorem st_inj {a b : List Nat} (h : st a = st b) : a = b := by
  have := congrArg (fun z : Str => z.cps.toList) h
  simpa [st] using this
theorem kk_inj {a b : D} (ha : keyOk a = true) (hb : keyOk b = true) (ta : a.isTup = false) (tb : b.isTup = false) (h : kk a = kk b) : a = b := by
  cases a with
  | int i =>
    cases b with
    | int j => simp only [kk, Sum.inl.injEq] at h; rw [h]
    | str t => simp [kk] at h
    | _ => first | (exact absurd hb Bool.false_ne_true) | (exact absurd tb (by simp [D.isTup]))
  | str t =>
    cases b with
    | str u => simp only [kk, Sum.inr.injEq] at h; rw [st_inj h]
    | int j => simp [kk] at h
    | _ => first | (exact absurd hb Bool.false_ne_true) | (exact absurd tb (by simp [D.isTup]))
  | _ => first | (exact absurd ha Bool.false_ne_true) | (exact absurd ta (by simp [D.isTup]))
def pairsOf {κ : Type} (f : D → κ) (ks : List D) (us : List Value) : List (κ × Value) := List.zipWith (fun k u => (f k, u)) ks us
theorem pairsOf_keys {κ : Type} (f : D → κ) : ∀ (ks : List D) (us : List Value), ks.length = us.length → (pairsOf f ks us).map (·.1) = ks.map f
  | [], [], _ => rfl
  | _ :: ks, _ :: us, h => by
    have := pairsOf_keys f ks us (by simpa using h)
    simp only [pairsOf] at this ⊢
    simp [List.zipWith_cons_cons, this]
  | [], _ :: _, h => by simp at h
  | _ :: _, [], h => by simp at h
theorem pairsOf_length {κ : Type} (f : D → κ) (ks : List D) (us : List Value) (h : ks.length = us.length) : (pairsOf f ks us).length = ks.length := by
  unfold pairsOf; rw [List.length_zipWith, ← h, Nat.min_self]
theorem valueAt_pairs {κ : Type} [DecidableEq κ] (f : D → κ) (k : D) : ∀ (ks : List D) (us : List Value), (∀ j ∈ ks, f j = f k → j = k) → valueAt (pairsOf f ks us) (f k) = dlook ks us k
  | [], us, _ => by simp [pairsOf, valueAt, dlook]
  | j :: ks, [], _ => by simp [pairsOf, valueAt, dlook]
  | j :: ks, u :: us, h => by
    have ih := valueAt_pairs f k ks us fun i hi => h i (List.mem_cons_of_mem _ hi)
    simp only [pairsOf, List.zipWith_cons_cons, valueAt, List.find?_cons, dlook] at ih ⊢
    by_cases e : j = k
    · subst e; simp
    · have e' : ¬ f j = f k := fun q => e (h j List.mem_cons_self q)
      simp only [decide_eq_false e', if_neg e]
      exact ih
theorem dput_length {α : Type} : ∀ (ks : List D) (us : List α) (k : D) (u : α), ks.length = us.length → (dput ks us k u).1.length = (dput ks us k u).2.length
  | [], [], _, _, _ => rfl
  | j :: ks, v :: us, k, u, h => by
    unfold dput
    split
    · simpa using h
    · simp [dput_length ks us k u (by simpa using h)]
  | [], _ :: _, _, _, h => by simp at h
  | _ :: _, [], _, _, h => by simp at h
theorem dput_new {α : Type} : ∀ (ks : List D) (us : List α) (k : D) (u : α), ks.length = us.length → k ∉ ks → dput ks us k u = (ks ++ [k], us ++ [u])
  | [], [], _, _, _, _ => rfl
  | j :: ks, v :: us, k, u, h, hn => by
    have e : ¬ j = k := fun q => hn (by simp [q])
    unfold dput
    rw [if_neg e, dput_new ks us k u (by simpa using h) fun q => hn (by simp [q])]
    rfl
  | [], _ :: _, _, _, h, _ => by simp at h
  | _ :: _, [], _, _, h, _ => by simp at h
theorem dput_old {α : Type} : ∀ (ks : List D) (us : List α) (k : D) (u : α), ks.length = us.length → k ∈ ks → (dput ks us k u).1 = ks
  | [], [], _, _, _, h => by simp at h
  | j :: ks, v :: us, k, u, h, hn => by
    unfold dput
    by_cases e : j = k
    · rw [if_pos e]
    · rw [if_neg e]
      show j :: (dput ks us k u).1 = _
      rw [dput_old ks us k u (by simpa using h) (by simpa [Ne.symm e] using hn)]
  | [], _ :: _, _, _, h, _ => by simp at h
  | _ :: _, [], _, _, h, _ => by simp at h
theorem stored_pairs {κ : Type} [DecidableEq κ] (f : D → κ) (k : D) (u : Value) : ∀ (ks : List D) (us : List Value), ks.length = us.length → ks.Nodup → (∀ j ∈ ks, f j = f k → j = k) →
    stored (pairsOf f ks us) (f k) u = pairsOf f (dput ks us k u).1 (dput ks us k u).2 := by
  intro ks us hl nd h
  by_cases hk : k ∈ ks
  · have hany : ((pairsOf f ks us).any fun kv => decide (kv.1 = f k)) = true := by
      rw [List.any_eq_true]
      have : f k ∈ (pairsOf f ks us).map (·.1) := by rw [pairsOf_keys f ks us hl]; exact List.mem_map.mpr ⟨k, hk, rfl⟩
      obtain ⟨p, hp, e⟩ := List.mem_map.mp this
      exact ⟨p, hp, decide_eq_true e⟩
    unfold stored
    rw [if_pos hany]
    clear hany
    induction ks generalizing us with
    | nil => simp at hk
    | cons j ks ih =>
      cases us with
      | nil => simp at hl
      | cons v us =>
        rw [List.nodup_cons] at nd
        by_cases e : j = k
        · subst e
          have rest : (pairsOf f ks us).map (fun kv => if kv.1 = f j then (kv.1, u) else kv) = pairsOf f ks us := by
            have : ∀ p ∈ pairsOf f ks us, (fun kv : κ × Value => if kv.1 = f j then (kv.1, u) else kv) p = p := fun p hp => by
              have hm : p.1 ∈ ks.map f := by rw [← pairsOf_keys f ks us (by simpa using hl)]; exact List.mem_map.mpr ⟨p, hp, rfl⟩
              obtain ⟨i, hi, ei⟩ := List.mem_map.mp hm
              have : ¬ p.1 = f j := fun q => nd.1 (by rw [← h i (List.mem_cons_of_mem _ hi) (ei.trans q)]; exact hi)
              simp [this]
            have e2 := List.map_congr_left (g := id) this
            rw [List.map_id] at e2
            exact e2
          simp only [pairsOf, List.zipWith_cons_cons, List.map_cons, if_true, dput] at rest ⊢
          rw [rest]
        · have e' : ¬ f j = f k := fun q => e (h j List.mem_cons_self q)
          have ih' := ih us (by simpa using hl) nd.2 (fun i hi => h i (List.mem_cons_of_mem _ hi)) (by simpa [Ne.symm e] using hk)
          simp only [pairsOf, List.zipWith_cons_cons, List.map_cons, if_neg e', dput, if_neg e] at ih' ⊢
          rw [ih']
  · have hany : ¬ ((pairsOf f ks us).any fun kv => decide (kv.1 = f k)) = true := by
      rw [List.any_eq_true]
      rintro ⟨p, hp, e⟩
      have hm : p.1 ∈ ks.map f := by rw [← pairsOf_keys f ks us hl]; exact List.mem_map.mpr ⟨p, hp, rfl⟩
      obtain ⟨i, hi, ei⟩ := List.mem_map.mp hm
      exact hk (by rw [← h i hi (ei.trans (of_decide_eq_true e))]; exact hi)
    unfold stored
    rw [if_neg hany, dput_new ks us k u hl hk]
    unfold pairsOf
    rw [List.zipWith_append hl]
    rfl

/-! ### tuple keys -/
theorem pairwise_get {α β : Type} {F : α → β → Prop} : ∀ {l₁ : List α} {l₂ : List β}, Paired F l₁ l₂ → l₁.length = l₂.length
  | _, _, .nil => rfl
  | _, _, .cons _ t => by simp [pairwise_get t]
mutual
theorem nk_inj : ∀ (a b : D) (n m : Nat), D.keyT n a = true → D.keyT m b = true → nk a = nk b → a = b
  | .int i, b, n, m, ha, hb, h => by
    cases b with
    | int j => simp only [nk, NestedKey.num.injEq] at h; rw [h]
    | str t => simp [nk] at h
    | tup ys => simp [nk] at h
    | non => simp [nk] at h
    | _ => cases m <;> simp [D.keyT] at hb
  | .str s, b, n, m, ha, hb, h => by
    cases b with
    | int j => simp [nk] at h
    | str t => simp only [nk, NestedKey.text.injEq] at h; rw [st_inj h]
    | tup ys => simp [nk] at h
    | non => simp [nk] at h
    | _ => cases m <;> simp [D.keyT] at hb
  | .non, b, n, m, ha, hb, h => by
    cases b with
    | int j => simp [nk] at h
    | str t => simp [nk] at h
    | tup ys => simp [nk] at h
    | non => rfl
    | _ => cases m <;> simp [D.keyT] at hb
  | .tup xs, b, 0, m, ha, hb, h => by simp [D.keyT] at ha
  | .tup xs, .tup ys, n + 1, 0, ha, hb, h => by simp [D.keyT] at hb
  | .tup xs, .tup ys, n + 1, m + 1, ha, hb, h => by
    simp only [nk, NestedKey.tup.injEq] at h
    rw [nks_inj xs ys n m (by simpa [D.keyT] using ha) (by simpa [D.keyT] using hb) h]
  | .tup xs, .int j, n + 1, m, ha, hb, h => by simp [nk] at h
  | .tup xs, .str j, n + 1, m, ha, hb, h => by simp [nk] at h
  | .tup xs, .non, n + 1, m, ha, hb, h => by simp [nk] at h
  | .tup xs, .bl _, n + 1, m, ha, hb, h | .tup xs, .lst _, n + 1, m, ha, hb, h | .tup xs, .dct _ _, n + 1, m, ha, hb, h | .tup xs, .obj _ _ _, n + 1, m, ha, hb, h | .tup xs, .cls _, n + 1, m, ha, hb, h | .tup xs, .scr _, n + 1, m, ha, hb, h => by
    cases m <;> simp [D.keyT] at hb
  | .bl _, b, n, m, ha, hb, h | .lst _, b, n, m, ha, hb, h | .dct _ _, b, n, m, ha, hb, h | .obj _ _ _, b, n, m, ha, hb, h | .cls _, b, n, m, ha, hb, h | .scr _, b, n, m, ha, hb, h => by cases n <;> simp [D.keyT] at ha
theorem nks_inj : ∀ (a b : List D) (n m : Nat), D.keyTs n a = true → D.keyTs m b = true → nk.nks a = nk.nks b → a = b
  | [], [], _, _, _, _, _ => rfl
  | [], _ :: _, _, _, _, _, h => by simp [nk.nks] at h
  | _ :: _, [], _, _, _, _, h => by simp [nk.nks] at h
  | x :: xs, y :: ys, n, m, ha, hb, h => by
    have ha' : D.keyT n x = true ∧ D.keyTs n xs = true := by simpa [D.keyTs] using ha
    have hb' : D.keyT m y = true ∧ D.keyTs m ys = true := by simpa [D.keyTs] using hb
    simp only [nk.nks, List.cons.injEq] at h
    rw [nk_inj x y n m ha'.1 hb'.1 h.1, nks_inj xs ys n m ha'.2 hb'.2 h.2]
end
theorem nkT_inj {a b : D} (ha : keyOk a = true) (hb : keyOk b = true) (ta : a.isTup = true) (tb : b.isTup = true) (h : nk a = nk b) : a = b := by
  cases a <;> simp only [D.isTup, Bool.false_eq_true] at ta
  cases b <;> simp only [D.isTup, Bool.false_eq_true] at tb
  simp only [nk, NestedKey.tup.injEq] at h
  rw [nks_inj _ _ 7 7 ha hb h]
section
variable {X : Cx} {pins : List (Addr × Obj)} {σ : Sg} {H : Hp} {s : Shared} {Z : Lk}
/-- a key's value is that key for the library -/
theorem kk_is {w : World} {P : Program} {k : D} {kx : V} {u : Value} (ok : keyOk k = true) (t : k.isTup = false) (r : RD Z H k kx) (q : RelV kx u) : (mixKind P w).is (kk k) u = true := by
  cases k with
  | int i => cases r; obtain ⟨t, rfl⟩ := q; exact keyIs_int i t
  | str x => cases r with | str _ _ => obtain ⟨t, rfl⟩ := q; exact keyIs_str _ t
  | tup xs => simp [D.isTup] at t
  | _ => exact absurd ok Bool.false_ne_true
theorem kk_hash {w : World} {P : Program} {k : D} (ok : keyOk k = true) (t : k.isTup = false) : (mixKind P w).hash (kk k) = hashD w k := by
  cases k with
  | int i => rfl
  | str x => rfl
  | tup xs => simp [D.isTup] at t
  | _ => exact absurd ok Bool.false_ne_true
mutual
theorem nk_is (I : Inv X pins σ H s) (hK : X.K = Z.K) : ∀ {k : D} {kx : V} {u : Value} (n : Nat), D.keyT n k = true → RD Z H k kx → RelV kx u → NestedIs s.heap (nk k) u ∧ (nk k).depth ≤ n
  | .int i, _, _, n, ok, r, q => by cases r; obtain ⟨t, rfl⟩ := q; exact ⟨.int i t, by simp [nk, NestedKey.depth]⟩
  | .str x, _, _, n, ok, r, q => by cases r with | str _ _ => obtain ⟨t, rfl⟩ := q; exact ⟨.text _ t, by simp [nk, NestedKey.depth]⟩
  | .non, _, _, n, ok, r, q => by cases r; cases q; exact ⟨.none, by simp [nk, NestedKey.depth]⟩
  | .tup xs, _, _, 0, ok, r, q => by simp [D.keyT] at ok
  | .tup xs, _, _, n + 1, ok, r, q => by
    cases r with
    | tup h1 h2 =>
      cases q
      obtain ⟨its, rv, ⟨o, ho, hc, m, hd⟩, _⟩ := I.tuple (hK ▸ h1)
      obtain ⟨a, b⟩ := nks_is I hK n (by simpa [D.keyT] using ok) h2 rv
      exact ⟨.tup ho hc hd a, by simp only [nk, NestedKey.depth]; omega⟩
  | .bl _, _, _, n, ok, r, q | .lst _, _, _, n, ok, r, q | .dct _ _, _, _, n, ok, r, q | .obj _ _ _, _, _, n, ok, r, q | .cls _, _, _, n, ok, r, q | .scr _, _, _, n, ok, r, q => by cases n <;> simp [D.keyT] at ok
theorem nks_is (I : Inv X pins σ H s) (hK : X.K = Z.K) : ∀ {ks : List D} {kx : List V} {us : List Value} (n : Nat), D.keyTs n ks = true → RDs Z H ks kx → Vals kx us → NestedAll s.heap (nk.nks ks) us ∧ NestedKey.depthAll (nk.nks ks) ≤ n
  | [], _, _, n, ok, r, q => by cases r; cases q; exact ⟨.nil, by simp [nk.nks, NestedKey.depthAll]⟩
  | k :: ks, _, _, n, ok, r, q => by
    have ok' : D.keyT n k = true ∧ D.keyTs n ks = true := by simpa [D.keyTs] using ok
    cases r with
    | cons r1 r2 =>
      cases q with
      | cons q1 q2 =>
        obtain ⟨a, b⟩ := nk_is I hK n ok'.1 r1 q1
        obtain ⟨a', b'⟩ := nks_is I hK n ok'.2 r2 q2
        exact ⟨.cons a a', by simp only [nk.nks, NestedKey.depthAll]; omega⟩
end
theorem nkT_is (I : Inv X pins σ H s) (hK : X.K = Z.K) {k : D} {kx : V} {u : Value} (ok : keyOk k = true) (t : k.isTup = true) (r : RD Z H k kx) (q : RelV kx u) : ∃ a, u = .ref a ∧ (nestedKind X.prog X.w).is s.heap (nk k) a := by
  cases k with
  | tup xs =>
    have h := nk_is I hK 8 (show D.keyT 8 (.tup xs) = true from ok) r q
    cases r with
    | tup _ _ =>
      cases q
      exact ⟨_, rfl, h⟩
  | _ => simp [D.isTup] at t

/-! ### the dict at an address -/
def DAt (H : Hp) (a : Addr) (es : List DictEntry) : Prop := H a = some (dx a es) ∨ ∃ o, H a = some (.frz o (dx a es))
theorem DAt.raw {a : Addr} {es : List DictEntry} (I : Inv X pins σ H s) (h : DAt H a es) : (∃ o ep, s.heap.get? a = some o ∧ o.ExactDict ∧ o.data = .dict es.toArray ep) ∧ (a == sysModules) = false ∧ es.length ≤ sizeLine := by
  rcases h with h | ⟨o, h⟩
  · exact (show ObjOk X.prog X.w H s.heap a (dx a es) from I.hok a _ h).1
  · exact (show ObjOk X.prog X.w H s.heap a (.frz o (dx a es)) from I.hok a _ h).2.1
theorem dictOf {w : World} {P : Program} {a : Addr} {ks : List D} {es : List DictEntry} {h : Heap} (hr : ∃ o ep, h.get? a = some o ∧ o.ExactDict ∧ o.data = .dict es.toArray ep) (g : GK ks) (hw : w = Z.w) (ta : ∀ k ∈ ks, k.isTup = false) (r : RKeys Z H ks es) :
    h.DictOf (mixKind P w) a (pairsOf kk ks (es.map (·.val))) := by
  subst hw
  obtain ⟨o, ep, h1, h2, h3⟩ := hr
  have hl : ks.length = es.length := pairwise_get r
  refine ⟨o, es.toArray, ep, h1, h2, h3, fun e he => ?_, ?_, ?_⟩
  · have he' : e ∈ es := by simpa using he
    clear hl h3
    have : ∀ {ks : List D} {es : List DictEntry}, RKeys Z H ks es → (∀ k ∈ ks, keyOk k = true) → (∀ k ∈ ks, k.isTup = false) → e ∈ es → ∃ k, (mixKind P Z.w).is k e.key = true ∧ e.hash = (mixKind P Z.w).hash k := by
      intro ks es r
      induction r with
      | nil => intro _ _ h; cases h
      | cons q _ ih =>
        intro ok ta hm
        rcases List.mem_cons.mp hm with rfl | hm
        · obtain ⟨kx, q1, q2, q3⟩ := q
          exact ⟨kk _, kk_is (ok _ List.mem_cons_self) (ta _ List.mem_cons_self) q1 q2, by rw [kk_hash (ok _ List.mem_cons_self) (ta _ List.mem_cons_self)]; exact q3⟩
        · exact ih (fun k hk => ok k (List.mem_cons_of_mem _ hk)) (fun k hk => ta k (List.mem_cons_of_mem _ hk)) hm
    exact this r g.ok ta he'
  · have : ∀ {ks : List D} {es : List DictEntry}, RKeys Z H ks es → (∀ k ∈ ks, keyOk k = true) → (∀ k ∈ ks, k.isTup = false) → Pairs (mixKind P Z.w) es (pairsOf kk ks (es.map (·.val))) := by
      intro ks es r
      induction r with
      | nil => intro _ _; exact .nil
      | cons q _ ih =>
        intro ok ta
        obtain ⟨kx, q1, q2, q3⟩ := q
        exact .cons (kk_is (ok _ List.mem_cons_self) (ta _ List.mem_cons_self) q1 q2) rfl (ih (fun k hk => ok k (List.mem_cons_of_mem _ hk)) (fun k hk => ta k (List.mem_cons_of_mem _ hk)))
    exact this r g.ok ta
  · rw [pairsOf_keys _ _ _ (by rw [List.length_map]; exact hl)]
    exact (List.nodup_iff_pairwise_ne.mpr (by
      rw [List.pairwise_map]
      exact (List.nodup_iff_pairwise_ne.mp g.nd).imp_of_mem fun {i j} hi hj hne e => hne (kk_inj (g.ok i hi) (g.ok j hj) (ta i hi) (ta j hj) e)))
/-- back from the library's words -/
theorem of_dictOf {w : World} {P : Program} {a : Addr} {ks : List D} {us : List Value} {h : Heap} (m : h.DictOf (mixKind P w) a (pairsOf kk ks us)) (hl : ks.length = us.length) (hw : w = Z.w) (ok : ∀ k ∈ ks, keyOk k = true) (ta : ∀ k ∈ ks, k.isTup = false) (ch : ∀ x : List Nat, D.str x ∈ ks → SOk x) :
    ∃ es : List DictEntry, (∃ o ep, h.get? a = some o ∧ o.ExactDict ∧ o.data = .dict es.toArray ep) ∧ RKeys Z H ks es ∧ es.map (·.val) = us := by
  subst hw
  obtain ⟨o, es, ep, h1, h2, h3, hk, hp, hnd⟩ := m
  refine ⟨es.toList, ⟨o, ep, h1, h2, by simpa using h3⟩, ?_⟩
  have hk' : ∀ e ∈ es.toList, ∃ k, (mixKind P Z.w).is k e.key = true ∧ e.hash = (mixKind P Z.w).hash k := fun e he => hk e (by simpa using he)
  clear h1 h2 h3 hk hnd
  generalize es.toList = l at hp hk'
  induction ks generalizing us l with
  | nil =>
    cases us with
    | nil => cases hp; exact ⟨.nil, rfl⟩
    | cons _ _ => simp at hl
  | cons k ks ih =>
    cases us with
    | nil => simp at hl
    | cons u us =>
      simp only [pairsOf, List.zipWith_cons_cons] at hp
      cases hp with
      | cons p1 p2 p3 =>
        rename_i e l
        obtain ⟨i1, i2⟩ := ih (us := us) (by simpa using hl) (fun j hj => ok j (List.mem_cons_of_mem _ hj)) (fun j hj => ta j (List.mem_cons_of_mem _ hj)) (fun x hx => ch x (List.mem_cons_of_mem _ hx)) l p3 (fun e' he' => hk' e' (List.mem_cons_of_mem _ he'))
        refine ⟨.cons ?_ i1, by rw [List.map_cons, i2, p2]⟩
        obtain ⟨k', q1, q2⟩ := hk' e List.mem_cons_self
        have ek : k' = kk k := (mixKind P Z.w).inj _ _ _ q1 p1
        subst ek
        have hh : e.hash = hashD Z.w k := by rw [q2, kk_hash (ok _ List.mem_cons_self) (ta _ List.mem_cons_self)]
        have okk := ok k List.mem_cons_self
        have tak := ta k List.mem_cons_self
        cases k with
        | int i => obtain ⟨t, et⟩ := Value.isInt_shape (k := i) (v := e.key) p1; exact ⟨.int i, .int i, ⟨t, et⟩, hh⟩
        | str x => obtain ⟨t, et⟩ := Value.isStrOf_shape (x := st x) (v := e.key) p1; exact ⟨.str (st x), .str x (ch x List.mem_cons_self), ⟨t, et⟩, hh⟩
        | tup xs => simp [D.isTup] at tak
        | _ => exact absurd okk Bool.false_ne_true
end
end L3
end
section
set_option Elab.async false
set_option linter.all false
set_option maxRecDepth 100000
set_option maxHeartbeats 4000000
/-! LF: dicts by values: in, d[k], d.get(k), d[k] = v. -/
namespace L3
open PySem PySem.Spec PyProof.Rows L2
/-- what a dict's entries become -/
def putE : List D → List DictEntry → D → DictEntry → List DictEntry
  | j :: ks, e :: es, k, n => if j = k then ⟨e.hash, e.key, n.val⟩ :: es else e :: putE ks es k n
  | _, _, _, n => [n]
section
variable {Z : Lk} {io : List Addr} {H : Hp} {L : LH}
theorem put_rel {k : D} {v : VL} {n : DictEntry} (hk : ∃ kx, RD Z H k kx ∧ RelV kx n.key ∧ n.hash = hashD Z.w k) (hv : ∃ vx, RVl Z io H v vx ∧ RelV vx n.val) : ∀ {ks : List D} {vs : List VL} {es : List DictEntry}, RKeys Z H ks es → RVals Z io H vs es →
    RKeys Z H (dput ks vs k v).1 (putE ks es k n) ∧ RVals Z io H (dput ks vs k v).2 (putE ks es k n)
  | ks, vs, es, r, q => by
    induction r generalizing vs with
    | nil => cases q; exact ⟨.cons hk .nil, .cons hv .nil⟩
    | cons a t ih =>
      rename_i j e ks es
      cases q with
      | cons b u =>
        rename_i x vs
        simp only [dput, putE]
        by_cases hjk : j = k
        · rw [if_pos hjk, if_pos hjk]
          exact ⟨.cons a t, .cons hv u⟩
        · rw [if_neg hjk, if_neg hjk]
          obtain ⟨p, q⟩ := ih vs u
          exact ⟨.cons a p, .cons b q⟩
theorem rvals_len : ∀ {vs : List VL} {es : List DictEntry}, RVals Z io H vs es → vs.length = es.length := fun r => pairwise_get r
theorem rkeys_len : ∀ {vs : List D} {es : List DictEntry}, RKeys Z H vs es → vs.length = es.length := fun r => pairwise_get r
theorem putE_length {k : D} {n : DictEntry} : ∀ (ks : List D) (es : List DictEntry), ks.length = es.length → (putE ks es k n).length ≤ es.length + 1 ∧ (k ∈ ks → (putE ks es k n).length = es.length)
  | [], [], _ => ⟨by simp [putE], fun h => nomatch h⟩
  | [], _ :: _, h => by simp at h
  | _ :: _, [], h => by simp at h
  | j :: ks, e :: es, h => by
    simp only [putE]
    by_cases hjk : j = k
    · rw [if_pos hjk]; exact ⟨by simp, fun _ => by simp⟩
    · rw [if_neg hjk]
      obtain ⟨a, b⟩ := putE_length (k := k) (n := n) ks es (by simpa using h)
      refine ⟨by simpa using a, fun hm => ?_⟩
      rcases List.mem_cons.mp hm with rfl | hm
      · exact absurd rfl hjk
      · simpa using b hm
theorem GK.put {ks : List D} {k : D} {α : Type} {vs : List α} {v : α} (g : GK ks) (h : keysOk ks k = true) (hl : ks.length = vs.length) : GK (dput ks vs k v).1 := by
  simp only [keysOk, Bool.and_eq_true, List.all_eq_true, beq_iff_eq] at h
  by_cases hm : k ∈ ks
  · rw [dput_old ks vs k v hl hm]; exact g
  · rw [dput_new ks vs k v hl hm]
    refine ⟨?_, ?_, ?_⟩
    · show (ks ++ [k]).Nodup
      rw [List.nodup_append]
      refine ⟨g.nd, by simp, fun a ha b hb => ?_⟩
      simp only [List.mem_singleton] at hb
      subst hb
      rintro rfl
      exact hm ha
    · intro j hj
      rcases List.mem_append.mp hj with hj | hj
      · exact g.ok j hj
      · simp only [List.mem_singleton] at hj; subst hj; exact h.1
    · intro i hi j hj
      have q : ∀ x ∈ ks ++ [k], x.isTup = k.isTup := fun x hx => by
        rcases List.mem_append.mp hx with hx | hx
        · exact h.2 x hx
        · simp only [List.mem_singleton] at hx; subst hx; rfl
      exact (q i hi).trans (q j hj).symm
/-- looked up among the entries -/
theorem look_rel {k : D} : ∀ {ks : List D} {vs : List VL} {es : List DictEntry}, ks.length = es.length → RVals Z io H vs es →
    (dlook ks vs k = none ∧ dlook ks (es.map (·.val)) k = none ∧ k ∉ ks) ∨ ∃ v u vx, dlook ks vs k = some v ∧ dlook ks (es.map (·.val)) k = some u ∧ RVl Z io H v vx ∧ RelV vx u ∧ k ∈ ks
  | [], _, _, _, _ => .inl ⟨by simp [dlook], by simp [dlook], by simp⟩
  | j :: ks, [], [], h, _ => by simp at h
  | j :: ks, x :: vs, e :: es, h, .cons ⟨vx, b, c⟩ u => by
    simp only [dlook, List.map_cons]
    by_cases hjk : j = k
    · rw [if_pos hjk, if_pos hjk]
      exact .inr ⟨x, e.val, vx, rfl, rfl, b, c, by rw [hjk]; exact List.mem_cons_self⟩
    · rw [if_neg hjk, if_neg hjk]
      rcases look_rel (k := k) (ks := ks) (by simpa using h) u with ⟨p, q, r⟩ | ⟨v, w, vx, p, q, r, t, z⟩
      · exact .inl ⟨p, q, fun hm => by
          rcases List.mem_cons.mp hm with rfl | hm
          · exact hjk rfl
          · exact r hm⟩
      · exact .inr ⟨v, w, vx, p, q, r, t, List.mem_cons_of_mem _ z⟩
theorem look_isSome {k : D} {ks : List D} {es : List DictEntry} (h : ks.length = es.length) : (dlook ks (es.map (·.val)) k).isSome = decide (k ∈ ks) := by
  induction ks generalizing es with
  | nil => simp [dlook]
  | cons j ks ih =>
    cases es with
    | nil => simp at h
    | cons e es =>
      simp only [dlook, List.map_cons]
      by_cases hjk : j = k
      · rw [if_pos hjk]; simp [hjk]
      · rw [if_neg hjk, ih (by simpa using h)]
        have : k ≠ j := fun e => hjk e.symm
        simp [this]
end
/-- the entries of a dict of tuples, as the library tells them -/
def refA : Value → Addr
  | .ref a => a
  | _ => 0
def hx (ks : List D) (es : List DictEntry) : List (NestedKey × Addr × Value) := List.zipWith (fun k e => (nk k, refA e.key, e.val)) ks es
section
variable {X : Cx} {pins : List (Addr × Obj)} {σ : Sg} {H : Hp} {s : Shared} {Z : Lk} {io : List Addr} {L : LH}
theorem hx_map : ∀ {ks : List D} {es : List DictEntry}, ks.length = es.length → (hx ks es).map (·.1) = ks.map nk
  | [], [], _ => rfl
  | [], _ :: _, h => by simp at h
  | _ :: _, [], h => by simp at h
  | k :: ks, e :: es, h => by
    show _ :: (hx ks es).map (·.1) = _
    rw [hx_map (by simpa using h)]; rfl
theorem hx_atKey {k : D} : ∀ {ks : List D} {es : List DictEntry}, ks.length = es.length → (∀ j ∈ ks, nk j = nk k → j = k) → (atKey (hx ks es) (nk k)).map (·.2) = dlook ks (es.map (·.val)) k
  | [], [], _, _ => rfl
  | [], _ :: _, h, _ => by simp at h
  | _ :: _, [], h, _ => by simp at h
  | j :: ks, e :: es, h, inj => by
    have ih := hx_atKey (k := k) (ks := ks) (es := es) (by simpa using h) fun i hi => inj i (List.mem_cons_of_mem _ hi)
    unfold atKey at ih ⊢
    simp only [hx, List.zipWith_cons_cons, dlook, List.map_cons, List.find?_cons]
    by_cases hjk : j = k
    · subst hjk
      rw [if_pos rfl]
      simp
    · have : nk j ≠ nk k := fun e => hjk (inj j List.mem_cons_self e)
      rw [if_neg hjk, decide_eq_false this]
      exact ih
theorem dictH (I : Inv X pins σ H s) (hK : X.K = Z.K) (hw : X.w = Z.w) {a : Addr} {ks : List D} {es : List DictEntry} (hr : ∃ o ep, s.heap.get? a = some o ∧ o.ExactDict ∧ o.data = .dict es.toArray ep) (g : GK ks) (ta : ∀ k ∈ ks, k.isTup = true) (r : RKeys Z H ks es) :
    s.heap.DictOfH (nestedKind X.prog X.w) a (hx ks es) := by
  obtain ⟨o, ep, h1, h2, h3⟩ := hr
  have hl := rkeys_len r
  have key : ∀ {ks : List D} {es : List DictEntry}, RKeys Z H ks es → (∀ k ∈ ks, keyOk k = true) → (∀ k ∈ ks, k.isTup = true) → es = (hx ks es).map (entryOfKey (nestedKind X.prog X.w)) ∧ ∀ x ∈ hx ks es, (nestedKind X.prog X.w).is s.heap x.1 x.2.1 := by
    intro ks es r
    induction r with
    | nil => intro _ _; exact ⟨rfl, fun x hx' => nomatch hx'⟩
    | cons q _ ih =>
      rename_i k e ks es _
      intro ok ta
      obtain ⟨kx, q1, q2, q3⟩ := q
      obtain ⟨i1, i2⟩ := ih (fun k hk => ok k (List.mem_cons_of_mem _ hk)) (fun k hk => ta k (List.mem_cons_of_mem _ hk))
      obtain ⟨b, eb, hb⟩ := nkT_is I hK (ok k List.mem_cons_self) (ta k List.mem_cons_self) q1 q2
      have hh : e.hash = (nestedKind X.prog X.w).hash (nk k) := by
        rw [q3]
        have t := ta k List.mem_cons_self
        cases k with
        | tup xs => show (nk (.tup xs)).hash Z.w = (nk (.tup xs)).hash X.w; rw [hw]
        | _ => simp [D.isTup] at t
      refine ⟨?_, fun x hx' => ?_⟩
      · show e :: es = entryOfKey _ (nk k, refA e.key, e.val) :: (hx ks es).map _
        rw [← i1, eb]
        obtain ⟨eh, ek, ev⟩ := e
        simp only at hh eb
        subst hh eb
        rfl
      · rcases List.mem_cons.mp hx' with rfl | hx'
        · show (nestedKind X.prog X.w).is s.heap (nk k) (refA e.key)
          rw [eb]; exact hb
        · exact i2 x hx'
  obtain ⟨k1, k2⟩ := key r g.ok ta
  refine ⟨o, es.toArray, ep, h1, h2, h3, by simpa using k1, k2, ?_⟩
  rw [hx_map hl]
  exact (List.nodup_iff_pairwise_ne.mpr (by
    rw [List.pairwise_map]
    exact (List.nodup_iff_pairwise_ne.mp g.nd).imp_of_mem fun {i j} hi hj hne e => hne (nkT_inj (g.ok i hi) (g.ok j hj) (ta i hi) (ta j hj) e)))
theorem hx_stored {k : D} {b : Addr} {v : Value} {hs : Int} (inj : NestedKey → NestedKey → Prop) : ∀ {ks : List D} {es : List DictEntry}, ks.length = es.length → ks.Nodup → (∀ j ∈ ks, nk j = nk k → j = k) →
    (storedH (hx ks es) (nk k) b v) = hx (dput ks (es.map (·.val)) k v).1 (putE ks es k ⟨hs, .ref b, v⟩) := by
  intro ks es hl nd hi
  by_cases hm : k ∈ ks
  · have hs' : (atKey (hx ks es) (nk k)).isSome = true := by
      have := hx_atKey hl hi
      have h2 := look_isSome (k := k) hl
      rw [← this] at h2
      simpa [hm] using h2
    unfold storedH
    rw [if_pos hs']
    clear hs'
    rw [dput_old ks _ k v (by rw [List.length_map]; exact hl) hm]
    have : ∀ {ks : List D} {es : List DictEntry}, ks.length = es.length → ks.Nodup → (∀ j ∈ ks, nk j = nk k → j = k) → k ∈ ks → (hx ks es).map (putAt (nk k) v) = hx ks (putE ks es k ⟨hs, .ref b, v⟩) := by
      intro ks
      induction ks with
      | nil => intro es _ _ _ hm; nomatch hm
      | cons j ks ih =>
        intro es hl nd hi hm
        cases es with
        | nil => simp at hl
        | cons e es =>
          simp only [putE]
          by_cases hjk : j = k
          · subst hjk
            rw [if_pos rfl]
            show putAt (nk j) v (nk j, refA e.key, e.val) :: (hx ks es).map (putAt (nk j) v) = (nk j, refA e.key, v) :: hx ks es
            have e1 : putAt (nk j) v (nk j, refA e.key, e.val) = (nk j, refA e.key, v) := by simp [putAt]
            rw [e1]
            congr 1
            have hn : j ∉ ks := (List.nodup_cons.mp nd).1
            have : ∀ x ∈ hx ks es, x.1 ≠ nk j := fun x hx' ex => by
              have h1 : x.1 ∈ (hx ks es).map (·.1) := List.mem_map_of_mem hx'
              rw [hx_map (by simpa using hl)] at h1
              obtain ⟨i, hi', ei⟩ := List.mem_map.mp h1
              have := hi i (List.mem_cons_of_mem _ hi') (ei.trans ex)
              exact hn (this ▸ hi')
            calc (hx ks es).map (putAt (nk j) v) = (hx ks es).map id := List.map_congr_left fun x hx' => by simp [putAt, this x hx']
              _ = hx ks es := List.map_id _
          · rw [if_neg hjk]
            show putAt (nk k) v (nk j, refA e.key, e.val) :: (hx ks es).map (putAt (nk k) v) = (nk j, refA e.key, e.val) :: hx ks (putE ks es k ⟨hs, .ref b, v⟩)
            have hne : nk j ≠ nk k := fun e => hjk (hi j List.mem_cons_self e)
            have e1 : putAt (nk k) v (nk j, refA e.key, e.val) = (nk j, refA e.key, e.val) := by simp [putAt, hne]
            rw [e1, ih (by simpa using hl) (List.nodup_cons.mp nd).2 (fun i hi' => hi i (List.mem_cons_of_mem _ hi')) ((List.mem_cons.mp hm).resolve_left fun e => hjk e.symm)]
    exact this hl nd hi hm
  · have hs' : atKey (hx ks es) (nk k) = none := by
      have := hx_atKey hl hi
      have h2 := look_isSome (k := k) hl
      rw [← this] at h2
      cases h : atKey (hx ks es) (nk k) with
      | none => rfl
      | some p => rw [h] at h2; simp [hm] at h2
    rw [storedH_new hs', dput_new ks _ k v (by rw [List.length_map]; exact hl) hm]
    have : ∀ {ks : List D} {es : List DictEntry}, ks.length = es.length → k ∉ ks → hx ks es ++ [(nk k, b, v)] = hx (ks ++ [k]) (putE ks es k ⟨hs, .ref b, v⟩) := by
      intro ks
      induction ks with
      | nil =>
        intro es hl _
        cases es with
        | nil => rfl
        | cons _ _ => simp at hl
      | cons j ks ih =>
        intro es hl hm
        cases es with
        | nil => simp at hl
        | cons e es =>
          have hjk : ¬ j = k := fun e => hm (by rw [e]; exact List.mem_cons_self)
          simp only [putE]
          rw [if_neg hjk]
          show (nk j, refA e.key, e.val) :: (hx ks es ++ [(nk k, b, v)]) = (nk j, refA e.key, e.val) :: hx (ks ++ [k]) (putE ks es k ⟨hs, .ref b, v⟩)
          rw [ih (by simpa using hl) fun h => hm (List.mem_cons_of_mem _ h)]
    exact this hl hm
end
end L3
end
section
set_option Elab.async false
set_option linter.all false
set_option maxRecDepth 100000
set_option maxHeartbeats 4000000
/-! LG: comparisons, d[k], x[i], x[i] = v, truth by values. -/
namespace L3
open PySem PySem.Spec PyProof.Rows L2
section
variable {X : Cx} {pins : List (Addr × Obj)} {σ : Sg} {H : Hp} {s : Shared} {Z : Lk} {io : List Addr} {L : LH} {E : XK} {Q : VK}
theorem dctOf_of (R : Rep Z io H L) {v : VL} {ks : List D} {vs : List VL} {x : V} (h : dctOf L v = some (ks, vs)) (r : RVl Z io H v x) : ∃ a es, x = .ref a ∧ DAt H a es ∧ GK ks ∧ RKeys Z H ks es ∧ RVals Z io H vs es := by
  cases r with
  | d r =>
    rename_i d
    cases d with
    | dct js us =>
      simp only [dctOf, Option.some.injEq, Prod.mk.injEq] at h
      obtain ⟨rfl, rfl⟩ := h
      cases r with
      | dct g h1 h2 => exact ⟨_, _, rfl, .inr ⟨_, h1⟩, g, (RDkv.split (io := io) h2).1, (RDkv.split h2).2⟩
    | _ => simp [dctOf] at h
  | r q =>
    rename_i n a
    simp only [dctOf] at h
    cases e : L[n]? with
    | none => rw [e] at h; simp at h
    | some o =>
      rw [e] at h
      cases o with
      | dct js us =>
        simp only [Option.some.injEq, Prod.mk.injEq] at h
        obtain ⟨rfl, rfl⟩ := h
        obtain ⟨b, q', g, es, h1, h2, h3⟩ := R.get e
        rw [q] at q'; cases q'
        exact ⟨a, es, rfl, .inl h1, g, h2, h3⟩
      | _ => simp at h
theorem allTup {ks : List D} {k : D} (h : keysOk ks k = true) : keyOk k = true ∧ ((k.isTup = true ∧ ∀ j ∈ ks, j.isTup = true) ∨ (k.isTup = false ∧ ∀ j ∈ ks, j.isTup = false)) := by
  simp only [keysOk, Bool.and_eq_true, List.all_eq_true, beq_iff_eq] at h
  refine ⟨h.1, ?_⟩
  cases t : k.isTup with
  | true => exact .inl ⟨rfl, fun j hj => (h.2 j hj).trans t⟩
  | false => exact .inr ⟨rfl, fun j hj => (h.2 j hj).trans t⟩
theorem inj_kk {ks : List D} {k : D} (g : GK ks) (ok : keyOk k = true) (t : k.isTup = false) (ta : ∀ j ∈ ks, j.isTup = false) : ∀ j ∈ ks, kk j = kk k → j = k := fun j hj e => kk_inj (g.ok j hj) ok (ta j hj) t e
theorem inj_nk {ks : List D} {k : D} (g : GK ks) (ok : keyOk k = true) (t : k.isTup = true) (ta : ∀ j ∈ ks, j.isTup = true) : ∀ j ∈ ks, nk j = nk k → j = k := fun j hj e => nkT_inj (g.ok j hj) ok (ta j hj) t e
/-- k in d -/
theorem dict_in (I : Inv X pins σ H s) (hK : X.K = Z.K) (hw : X.w = Z.w) (hu : X.A.units + 66 < cLine) {a : Addr} {es : List DictEntry} {ks : List D} {k : D} {kx : V} {u : Value} {R E' : Value → Shared → Prop} (neg : Bool)
    (ha : DAt H a es) (g : GK ks) (r : RKeys Z H ks es) (ok : keysOk ks k = true) (rk : RD Z H k kx) (ru : RelV kx u) (q : ∀ t, R (.bool (if neg then !decide (k ∈ ks) else decide (k ∈ ks))) { s with toks := t }) :
    wpAny (model X.prog X.w) X.A (compareOp (if neg then .NotIn else .In) u (.ref a)) R E' s := by
  obtain ⟨hraw, hsm, hz⟩ := ha.raw I
  obtain ⟨okk, t⟩ := allTup ok
  have hl := rkeys_len r
  have hs := look_isSome (k := k) hl
  rcases t with ⟨t, ta⟩ | ⟨t, ta⟩
  · obtain ⟨b, rfl, hb⟩ := nkT_is I hK okk t rk ru
    have hm := dictH I hK hw hraw g ta r
    have e1 : (atKey (hx ks es) (nk k)).isSome = decide (k ∈ ks) := by rw [← hs, ← hx_atKey hl (inj_nk g okk t ta)]; simp
    have room : (nestedKind X.prog X.w).room X.A.in1 := by show X.A.units + 1 + 8 < cLine; omega
    cases neg with
    | true => exact wpAny_notIn_heap room hb hsm hm (by rw [e1]; exact q _)
    | false => exact wpAny_in_heap room hb hsm hm (by rw [e1]; exact q _)
  · have hm := (dictOf (P := X.prog) hraw g hw ta r).mapOf
    have e1 : (valueAt (pairsOf kk ks (es.map (·.val))) (kk k)).isSome = decide (k ∈ ks) := by rw [valueAt_pairs kk k _ _ (inj_kk g okk t ta)]; exact hs
    cases neg with
    | true => exact wpAny_notIn_of (kk_is okk t rk ru) hsm hm (by rw [e1]; exact q _)
    | false => exact wpAny_in_of (kk_is okk t rk ru) hsm hm (by rw [e1]; exact q _)
/-- d[k] -/
theorem dict_get (I : Inv X pins σ H s) (hK : X.K = Z.K) (hw : X.w = Z.w) (hu : X.A.units + 66 < cLine) {a : Addr} {es : List DictEntry} {ks : List D} {k : D} {kx : V} {u v : Value} {R E' : Value → Shared → Prop}
    (ha : DAt H a es) (g : GK ks) (r : RKeys Z H ks es) (ok : keysOk ks k = true) (rk : RD Z H k kx) (ru : RelV kx u) (hv : dlook ks (es.map (·.val)) k = some v) (q : ∀ t, R v { s with toks := t }) :
    wpAny (model X.prog X.w) X.A (getItem (.ref a) u) R E' s := by
  obtain ⟨hraw, hsm, hz⟩ := ha.raw I
  obtain ⟨okk, t⟩ := allTup ok
  have hl := rkeys_len r
  rcases t with ⟨t, ta⟩ | ⟨t, ta⟩
  · obtain ⟨b, rfl, hb⟩ := nkT_is I hK okk t rk ru
    have hm := dictH I hK hw hraw g ta r
    have e1 := hx_atKey hl (inj_nk g okk t ta)
    rw [hv] at e1
    obtain ⟨p, ep, ev⟩ := Option.map_eq_some_iff.mp e1
    have room : (nestedKind X.prog X.w).room X.A.in1 := by show X.A.units + 1 + 8 < cLine; omega
    exact wpAny_getItem_heap room hb hm ep (by rw [ev]; exact q _)
  · have hm := (dictOf (P := X.prog) hraw g hw ta r).mapOf
    exact wpAny_getItem_of (kk_is okk t rk ru) hm (by rw [valueAt_pairs kk k _ _ (inj_kk g okk t ta)]; exact hv) (q _)
/-- d.get(k), d.get(k, x) -/
theorem dict_getd (I : Inv X pins σ H s) (hK : X.K = Z.K) (hw : X.w = Z.w) (hu : X.A.units + 66 < cLine) {a : Addr} {es : List DictEntry} {ks : List D} {k : D} {kx : V} {u : Value} {R E' : Value → Shared → Prop} {more : List Value} (hmore : more = [] ∨ ∃ x, more = [x])
    (ha : DAt H a es) (g : GK ks) (r : RKeys Z H ks es) (ok : keysOk ks k = true) (rk : RD Z H k kx) (ru : RelV kx u) (q : ∀ t, R ((dlook ks (es.map (·.val)) k).getD (more.headD .none)) { s with toks := t }) :
    wpAny (model X.prog X.w) X.A (call (.builtin "dict.get") (.ref a :: u :: more)) R E' s := by
  obtain ⟨hraw, hsm, hz⟩ := ha.raw I
  obtain ⟨okk, t⟩ := allTup ok
  have hl := rkeys_len r
  rcases t with ⟨t, ta⟩ | ⟨t, ta⟩
  · obtain ⟨b, rfl, hb⟩ := nkT_is I hK okk t rk ru
    have hm := dictH I hK hw hraw g ta r
    have e1 := hx_atKey hl (inj_nk g okk t ta)
    have room : (nestedKind X.prog X.w).room X.A.in1 := by show X.A.units + 1 + 8 < cLine; omega
    rcases hmore with rfl | ⟨x, rfl⟩
    · refine call_meetsIn PySem.F.slot_dict_get hm.typeIs PySem.F.entry_dict_get (PySem.F.args_dict_get_2 _ _) (meetsH_dict_get (nestedKind X.prog X.w) a b hsm) ⟨room, nk k, _, hb, hm, ?_⟩
      rw [e1]; exact q _
    · refine call_meetsIn PySem.F.slot_dict_get hm.typeIs PySem.F.entry_dict_get (PySem.F.args_dict_get_3 _ _ _) (meetsH_dict_get_default (nestedKind X.prog X.w) a b hsm x) ⟨room, nk k, _, hb, hm, ?_⟩
      rw [e1]; exact q _
  · have hm := (dictOf (P := X.prog) hraw g hw ta r).mapOf
    have e1 : valueAt (pairsOf kk ks (es.map (·.val))) (kk k) = dlook ks (es.map (·.val)) k := valueAt_pairs kk k _ _ (inj_kk g okk t ta)
    rcases hmore with rfl | ⟨x, rfl⟩
    · refine call_meetsIn PySem.F.slot_dict_get hm.typeIs PySem.F.entry_dict_get (PySem.F.args_dict_get_2 _ _) (meets_dict_get (mixKind X.prog X.w) a (kk_is okk t rk ru) hsm) ⟨_, hm, ?_⟩
      rw [e1]; exact q _
    · refine call_meetsIn PySem.F.slot_dict_get hm.typeIs PySem.F.entry_dict_get (PySem.F.args_dict_get_3 _ _ _) (meets_dict_get_default (mixKind X.prog X.w) a (kk_is okk t rk ru) hsm x) ⟨_, hm, ?_⟩
      rw [e1]; exact q _
/-- the abstract heap behind d[k] = v: the dict at a has other entries -/
theorem dx_ok {h : Heap} {P : Program} {w : World} {G : Hp} {a : Addr} {es : List DictEntry} (hr : ∃ o ep, h.get? a = some o ∧ o.ExactDict ∧ o.data = .dict es.toArray ep) (hs : (a == sysModules) = false) (hz : es.length ≤ sizeLine) : ObjOk P w G h a (dx a es) :=
  ⟨⟨hr, hs, hz⟩, (let ⟨o, _, e, _⟩ := hr; ⟨o, e⟩), fun h1 h2 ⟨⟨o, ep, e, c⟩, p⟩ k => ⟨⟨o, ep, k o e, c⟩, p⟩⟩
/-- d[k] = v, by a store or by a display -/
abbrev setBy (act : Bool) (a : Addr) (u w : Value) : Sem Unit := if act then setItem (.ref a) u w else dictSet a u w
theorem dict_setG (act : Bool) (I : Inv X pins σ H s) (hK : X.K = Z.K) (hw : X.w = Z.w) (hu : X.A.units + 66 < cLine) {a : Addr} {es : List DictEntry} {ks : List D} {k : D} {v : VL} {vs : List VL} {kx vx : V} {u w : Value} {R : Unit → Shared → Prop} {E' : Value → Shared → Prop}
    (ha : H a = some (dx a es)) (g : GK ks) (r : RKeys Z H ks es) (rv : RVals Z io H vs es) (ok : keysOk ks k = true) (rk : RD Z H k kx) (ru : RelV kx u) (rx : RVl Z io H v vx) (rw' : RelV vx w) (hz' : ks.length < sizeLine)
    (q : ∀ es' h' t, Inv X pins σ (upd H a (dx a es')) { s with heap := h', toks := t } → RKeys Z H (dput ks vs k v).1 es' → RVals Z io H (dput ks vs k v).2 es' → R () { s with heap := h', toks := t }) :
    wpAny (model X.prog X.w) X.A (setBy act a u w) R E' s := by
  obtain ⟨hraw, hsm, hz⟩ := DAt.raw I (.inl ha)
  obtain ⟨okk, t⟩ := allTup ok
  have hl := rkeys_len r
  have hvl := rvals_len rv
  have mu : Mut (H a) := by rw [ha]; exact trivial
  have wr : ∀ (es' : List DictEntry) (h' : Heap) (tk : Nat), (∃ o ep, h'.get? a = some o ∧ o.ExactDict ∧ o.data = .dict es'.toArray ep) → es'.length ≤ sizeLine → Heap.SameBut a s.heap h' → Inv X pins σ (upd H a (dx a es')) { s with heap := h', toks := tk } := by
    intro es' h' tk hr hz hs
    refine I.write mu (.inl rfl) (fun b o hb e => (hs.2 b hb).trans e) (let ⟨o, _, e, _⟩ := hr; ⟨o, e⟩) (dx_ok hr hsm hz)
  rcases t with ⟨t, ta⟩ | ⟨t, ta⟩
  · obtain ⟨b, rfl, hb⟩ := nkT_is I hK okk t rk ru
    have hm := dictH I hK hw hraw g ta r
    have room : (nestedKind X.prog X.w).room X.A.in1 := by show X.A.units + 1 + 8 < cLine; omega
    have room2 : (nestedKind X.prog X.w).room X.A := by show X.A.units + 8 < cLine; omega
    have hsz : (hx ks es).length ≤ sizeLine := by unfold hx; rw [List.length_zipWith]; omega
    suffices key : ∀ h' : Heap, h'.DictOfH (nestedKind X.prog X.w) a (storedH (hx ks es) (nk k) b w) → Heap.SameBut a s.heap h' → R () { s with heap := h', toks := s.toks + (nestedKind X.prog X.w).draws (nk k) } by
      cases act with
      | true => exact wpAny_setItem_heap room hb hm key hsz
      | false => exact wpAny_dictSet_heap room2 hb hm key hsz
    intro h' hm' hs'
    obtain ⟨o, es', ep, d1, d2, d3, d4, d5, d6⟩ := hm'
    rw [hx_stored (hs := hashD Z.w k) (fun _ _ => True) hl g.nd (inj_nk g okk t ta)] at d4
    have rel := put_rel (io := io) (n := ⟨hashD Z.w k, .ref b, w⟩) (k := k) (v := v) ⟨kx, rk, ru, rfl⟩ ⟨vx, rx, rw'⟩ r rv
    -- the new entries are the raw ones
    have raw : es'.toList = putE ks es k ⟨hashD Z.w k, .ref b, w⟩ := by
      rw [d4]
      have kp : (dput ks (es.map (·.val)) k w).1 = (dput ks vs k v).1 := by
        by_cases hm : k ∈ ks
        · rw [dput_old ks _ k w (by rw [List.length_map]; exact hl) hm, dput_old ks _ k v (by omega) hm]
        · rw [dput_new ks _ k w (by rw [List.length_map]; exact hl) hm, dput_new ks _ k v (by omega) hm]
      rw [kp]
      have tb : ∀ j ∈ (dput ks vs k v).1, j.isTup = true := fun j hj => by
        by_cases hm : k ∈ ks
        · rw [dput_old ks vs k v (by omega) hm] at hj; exact ta j hj
        · rw [dput_new ks vs k v (by omega) hm] at hj
          rcases List.mem_append.mp hj with hj | hj
          · exact ta j hj
          · simp only [List.mem_singleton] at hj; rw [hj]; exact t
      have gk : GK (dput ks vs k v).1 := g.put ok (by omega)
      have tup : ∀ {ks : List D} {es : List DictEntry}, RKeys Z H ks es → (∀ j ∈ ks, j.isTup = true) → (∀ j ∈ ks, keyOk j = true) → (hx ks es).map (entryOfKey (nestedKind X.prog X.w)) = es := by
        intro ks es r
        induction r with
        | nil => intro _ _; rfl
        | cons q _ ih =>
          rename_i k e ks es _
          intro ta ok
          obtain ⟨kx, q1, q2, q3⟩ := q
          obtain ⟨b, eb, hb⟩ := nkT_is I hK (ok k List.mem_cons_self) (ta k List.mem_cons_self) q1 q2
          have hh : e.hash = (nestedKind X.prog X.w).hash (nk k) := by
            rw [q3]
            have t := ta k List.mem_cons_self
            cases k with
            | tup xs => show (nk (.tup xs)).hash Z.w = (nk (.tup xs)).hash X.w; rw [hw]
            | _ => simp [D.isTup] at t
          show entryOfKey _ (nk k, refA e.key, e.val) :: (hx ks es).map _ = e :: es
          rw [ih (fun j hj => ta j (List.mem_cons_of_mem _ hj)) (fun j hj => ok j (List.mem_cons_of_mem _ hj)), eb]
          obtain ⟨eh, ek, ev⟩ := e
          simp only at hh eb
          subst hh eb
          rfl
      exact tup rel.1 tb gk.ok
    refine q _ h' _ (wr (putE ks es k ⟨hashD Z.w k, .ref b, w⟩) h' _ ⟨o, ep, d1, d2, by rw [← raw]; simpa using d3⟩ ?_ hs') rel.1 rel.2
    have := (putE_length (k := k) (n := ⟨hashD Z.w k, .ref b, w⟩) ks es hl).1
    omega
  · have hm := dictOf (P := X.prog) hraw g hw ta r
    have hsz : (pairsOf kk ks (es.map (·.val))).length ≤ sizeLine := by rw [pairsOf_length _ _ _ (by rw [List.length_map]; exact hl)]; omega
    suffices key : ∀ h' : Heap, h'.DictOf (mixKind X.prog X.w) a (stored (pairsOf kk ks (es.map (·.val))) (kk k) w) → Heap.SameBut a s.heap h' → R () { s with heap := h', toks := s.toks + 1 } by
      cases act with
      | true => exact wpAny_setItem_pairs (kk_is okk t rk ru) hm key hsz
      | false => exact wpAny_dictSet_pairs (kk_is okk t rk ru) hm key hsz
    intro h' hm' hs'
    rw [stored_pairs kk k w ks _ (by rw [List.length_map]; exact hl) g.nd (inj_kk g okk t ta)] at hm'
    have gk : GK (dput ks vs k v).1 := g.put ok (by omega)
    have kp : (dput ks (es.map (·.val)) k w).1 = (dput ks vs k v).1 := by
      by_cases hm : k ∈ ks
      · rw [dput_old ks _ k w (by rw [List.length_map]; exact hl) hm, dput_old ks _ k v (by omega) hm]
      · rw [dput_new ks _ k w (by rw [List.length_map]; exact hl) hm, dput_new ks _ k v (by omega) hm]
    have tb : ∀ j ∈ (dput ks vs k v).1, j.isTup = false := fun j hj => by
      by_cases hm : k ∈ ks
      · rw [dput_old ks vs k v (by omega) hm] at hj; exact ta j hj
      · rw [dput_new ks vs k v (by omega) hm] at hj
        rcases List.mem_append.mp hj with hj | hj
        · exact ta j hj
        · simp only [List.mem_singleton] at hj; rw [hj]; exact t
    have ch : ∀ x : List Nat, D.str x ∈ (dput ks vs k v).1 → SOk x := fun x hx => by
      have : ∀ {ks : List D} {es : List DictEntry}, RKeys Z H ks es → D.str x ∈ ks → SOk x := by
        intro ks es r
        induction r with
        | nil => intro h; nomatch h
        | cons q _ ih =>
          intro h
          rcases List.mem_cons.mp h with h | h
          · subst h
            obtain ⟨_, q1, _⟩ := q
            cases q1 with
            | str _ q => exact q
          · exact ih h
      by_cases hm : k ∈ ks
      · rw [dput_old ks vs k v (by omega) hm] at hx; exact this r hx
      · rw [dput_new ks vs k v (by omega) hm] at hx
        rcases List.mem_append.mp hx with hx | hx
        · exact this r hx
        · simp only [List.mem_singleton] at hx
          subst hx
          cases rk with
          | str _ q => exact q
    have hl2 : (dput ks (es.map (·.val)) k w).1.length = (dput ks (es.map (·.val)) k w).2.length := dput_length ks _ k w (by rw [List.length_map]; exact hl)
    rw [kp] at hm' hl2
    obtain ⟨es', r1, r2, r3⟩ := of_dictOf (H := H) hm' hl2 hw gk.ok tb ch
    have rel := put_rel (io := io) (n := ⟨hashD Z.w k, u, w⟩) (k := k) (v := v) ⟨kx, rk, ru, rfl⟩ ⟨vx, rx, rw'⟩ r rv
    have vals : es'.map (·.val) = (putE ks es k ⟨hashD Z.w k, u, w⟩).map (·.val) := by
      rw [r3]
      have : ∀ (ks : List D) (es : List DictEntry), ks.length = es.length → (dput ks (es.map (·.val)) k w).2 = (putE ks es k ⟨hashD Z.w k, u, w⟩).map (·.val) := by
        intro ks
        induction ks with
        | nil => intro es h; cases es with
          | nil => rfl
          | cons _ _ => simp at h
        | cons j ks ih =>
          intro es h
          cases es with
          | nil => simp at h
          | cons e es =>
            simp only [dput, putE, List.map_cons]
            by_cases hjk : j = k
            · rw [if_pos hjk, if_pos hjk]; rfl
            · rw [if_neg hjk, if_neg hjk]
              simp only [List.map_cons]
              rw [ih es (by simpa using h)]
      exact this ks es hl
    have rv' : RVals Z io H (dput ks vs k v).2 es' := by
      have : ∀ {ys : List VL} {e1 e2 : List DictEntry}, e2.map (·.val) = e1.map (·.val) → RVals Z io H ys e1 → RVals Z io H ys e2 := by
        intro ys e1 e2 he r
        induction r generalizing e2 with
        | nil => cases e2 with
          | nil => exact .nil
          | cons _ _ => simp at he
        | cons q t ih =>
          cases e2 with
          | nil => simp at he
          | cons e e2 =>
            simp only [List.map_cons, List.cons.injEq] at he
            obtain ⟨vx, q1, q2⟩ := q
            exact .cons ⟨vx, q1, by rw [he.1]; exact q2⟩ (ih he.2)
      exact this vals rel.2
    refine q _ h' _ (wr es' h' _ r1 ?_ hs') r2 rv'
    have h1 := (putE_length (k := k) (n := ⟨hashD Z.w k, u, w⟩) ks es hl).1
    have h2 : es'.length = (putE ks es k ⟨hashD Z.w k, u, w⟩).length := by have := congrArg List.length vals; simpa using this
    omega
/-- d[k] = v -/
theorem dict_set (I : Inv X pins σ H s) (hK : X.K = Z.K) (hw : X.w = Z.w) (hu : X.A.units + 66 < cLine) {a : Addr} {es : List DictEntry} {ks : List D} {k : D} {v : VL} {vs : List VL} {kx vx : V} {u w : Value} {R : Unit → Shared → Prop} {E' : Value → Shared → Prop}
    (ha : H a = some (dx a es)) (g : GK ks) (r : RKeys Z H ks es) (rv : RVals Z io H vs es) (ok : keysOk ks k = true) (rk : RD Z H k kx) (ru : RelV kx u) (rx : RVl Z io H v vx) (rw' : RelV vx w) (hz' : ks.length < sizeLine)
    (q : ∀ es' h' t, Inv X pins σ (upd H a (dx a es')) { s with heap := h', toks := t } → RKeys Z H (dput ks vs k v).1 es' → RVals Z io H (dput ks vs k v).2 es' → R () { s with heap := h', toks := t }) :
    wpAny (model X.prog X.w) X.A (setItem (.ref a) u w) R E' s := dict_setG true I hK hw hu ha g r rv ok rk ru rx rw' hz' q
end
end L3
end
section
set_option Elab.async false
set_option linter.all false
set_option maxRecDepth 100000
set_option maxHeartbeats 4000000
/-! LH: comparisons, subscripts, slices, truth by values; the ghost step that a new list is read-only. -/
namespace L3
open PySem PySem.Spec PyProof.Rows L2
/-- as a post, with objects frozen first -/
inductive Fz {α : Type} (Q : α → Hp → Prop) (x : α) : Hp → Prop
  | now {H : Hp} : Q x H → Fz Q x H
  | frz {H : Hp} {p : Addr} {u : HO} : H p = some u → Mut (some u) → (∀ od, Fz Q x (upd H p (.frz od u))) → Fz Q x H
section
variable {X : Cx} {pins : List (Addr × Obj)} {σ : Sg} {H : Hp} {s : Shared} {Z : Lk} {io : List Addr} {L : LH} {E : XK} {Q : VK}
theorem Fz.inv {α : Type} {Q : α → Hp → Prop} {x : α} (h : Fz Q x H) : Inv X pins σ H s → ∃ H', Inv X pins σ H' s ∧ Q x H' := by
  induction h with
  | now q => exact fun I => ⟨_, I, q⟩
  | frz e mu _ ih =>
    intro I
    obtain ⟨od, I'⟩ := I.lock e mu
    exact ih od I'
theorem Fz.ep {u : Value} {s' : Shared} (h : EP X pins σ (Fz Q) u s') : EP X pins σ Q u s' := by
  obtain ⟨v, H', I, r, q⟩ := h
  obtain ⟨H2, I2, q2⟩ := q.inv I
  exact ⟨v, H2, I2, r, q2⟩
theorem PE.fz {e : Expr} {t : TE} (h : PE X e t) : PE X e (fun σ H Q => t σ H (Fz Q)) := ⟨fun pins s σ H Q I q => thn (h.run pins s σ H _ I q) fun _ _ r => Fz.ep r⟩
/-- a new list as mkL gives it -/
theorem fzL {m : Bool} {xs : List VL} {vs : List V} {p : Addr} (h : Post Z (RVl Z) io H (mkL m xs L) Q E) (R : Rep Z io H L) (hp : H p = none) (r : RVs Z io H xs vs) : Fz Q (.ref p) (upd H p (.lst vs)) := by
  rcases (okL h R hp r).2 with q | q
  · exact .now q
  · refine .frz (p := p) upd_same trivial fun od => .now ?_
    rw [upd_upd]; exact q od

def copOf : COp → CmpOp
  | .eq => .Eq | .ne => .NotEq | .lt => .Lt | .le => .LtE | .gt => .Gt | .ge => .GtE | .isin => .In | .notin => .NotIn | .isN => .Is | .notN => .IsNot
/-- a comparison as an operation -/
def cmpR (op : COp) (x y : VL) (L : LH) : Res VL := (ofOpt (cmpop op L x y) L).bind fun b L => .ok (.d (.bl b)) L
theorem op_eqA (hK : X.K = Z.K) (hu : X.A.units + 66 < cLine) (neg : Bool) {pins : List (Addr × Obj)} {s : Shared} {σ : Sg} {x y : V} {v u : Value} (I : Inv X pins σ H s) (rx : RelV x v) (ry : RelV y u) (R : Rep Z io H L) {vx vy : VL} {b : Bool} (h1 : RVl Z io H vx x) (h2 : RVl Z io H vy y)
    (hb : eqD L vx vy = some b) (q : Q (.bl (if neg then !b else b)) H) : wpAny (model X.prog X.w) X.A (compareOp (if neg then .NotEq else .Eq) v u) (EP X pins σ Q) X.xe s := by
  unfold eqD at hb
  split at hb
  · rename_i a c ea ec
    split at hb
    · rename_i hc
      simp only [Bool.and_eq_true] at hc
      simp only [Option.some.injEq] at hb
      obtain ⟨p1, p2, p3⟩ := dv_of R dvLim eqLim ea h1 hc.1
      obtain ⟨q1, q2, q3⟩ := dv_of R dvLim eqLim ec h2 hc.2
      have e := py_eqv a c eqLim eqLim hc.1 hc.2
      have hu' : X.A.units + 64 < cLine := by omega
      cases neg with
      | true => exact op_neD hu' pins s σ H x y v u Q I rx ry ⟨_, _, hK ▸ p1, hK ▸ q1, shaped_of p2 p3 (by decide), shaped_of q2 q3 (by decide), by rw [e, hb]; exact q⟩
      | false => exact op_eqD hu' pins s σ H x y v u Q I rx ry ⟨_, _, hK ▸ p1, hK ▸ q1, shaped_of p2 p3 (by decide), shaped_of q2 q3 (by decide), by rw [e, hb]; exact q⟩
    · cases hb
  · cases hb
theorem any_py (ds : List D) (x : D) (n m : Nat) (h1 : D.okqs n ds = true) (h2 : D.okq m x = true) : ((pys ds).any fun z => PyData.eqv z (py x)) = ds.any fun z => D.eqv z x := by
  induction ds with
  | nil => rfl
  | cons d ds ih =>
    have h : D.okq n d = true ∧ D.okqs n ds = true := by simpa [D.okqs] using h1
    simp only [pys, List.any_cons]
    rw [py_eqv d x n m h.1 h2, ih h.2]
theorem room_any {X : Cx} (hu : X.A.units + 66 < cLine) {a b : Nat} (ha : a ≤ 60) : X.A.units + 1 + min a b < cLine := by
  have := Nat.min_le_left a b
  omega
theorem op_inA (hK : X.K = Z.K) (hw : X.w = Z.w) (hu : X.A.units + 66 < cLine) (neg : Bool) {pins : List (Addr × Obj)} {s : Shared} {σ : Sg} {x y : V} {v u : Value} (I : Inv X pins σ H s) (rx : RelV x v) (ry : RelV y u) (R : Rep Z io H L) {vx vy : VL} {b : Bool} (h1 : RVl Z io H vx x) (h2 : RVl Z io H vy y)
    (hb : inD L vx vy = some b) (q : Q (.bl (if neg then !b else b)) H) : wpAny (model X.prog X.w) X.A (compareOp (if neg then .NotIn else .In) v u) (EP X pins σ Q) X.xe s := by
  have dct : ∀ {k : D} {ks : List D} {vs : List VL}, vx = .d k → dctOf L vy = some (ks, vs) → keysOk ks k = true → b = decide (k ∈ ks) → wpAny (model X.prog X.w) X.A (compareOp (if neg then .NotIn else .In) v u) (EP X pins σ Q) X.xe s := by
    rintro k ks vs rfl hd ok rfl
    obtain ⟨a, es, rfl, ha, g, r1, r2⟩ := dctOf_of R hd h2
    obtain rfl : u = Value.ref a := ry
    cases h1 with
    | d h1 => exact dict_in I hK hw hu neg ha g r1 ok h1 rx fun t => ⟨.bl _, H, I.tok _, rfl, q⟩
  have lst : ∀ {k : D} {ds : List D}, vx = .d k → (∃ n : Nat, n ≤ 60 ∧ ∃ as, Dp Z.K H y (.list (pys ds)) ∧ PyData.canLayAll0 (pys ds) = true ∧ PyData.depthAll (pys ds) ≤ n ∧ as = ()) ∨ (∃ n : Nat, n ≤ 60 ∧ Dp Z.K H y (.tuple (pys ds)) ∧ PyData.canLayAll0 (pys ds) = true ∧ PyData.depthAll (pys ds) ≤ n) → D.okqs eqLim ds = true → D.okq eqLim k = true → b = (ds.any fun z => D.eqv z k) → wpAny (model X.prog X.w) X.A (compareOp (if neg then .NotIn else .In) v u) (EP X pins σ Q) X.xe s := by
    rintro k ds rfl hd o1 o2 rfl
    cases h1 with
    | d h1 =>
      obtain ⟨p1, p2, p3⟩ := Dp_of eqLim h1 o2
      obtain ⟨as, r1⟩ := Dp.reads I _ x v (hK ▸ p1) rx
      have ea := any_py ds k eqLim eqLim o1 o2
      rcases hd with ⟨n, hn, _, e1, e2, e3, _⟩ | ⟨n, hn, e1, e2, e3⟩
      · obtain ⟨bs, r2⟩ := Dp.reads I _ y u (hK ▸ e1) ry
        cases neg with
        | true => exact SeqAt.notIn_list_reads r2 r1 e2 p2 (room_any hu (by omega)) ⟨.bl _, H, I, rfl, by rw [ea]; exact q⟩
        | false => exact SeqAt.in_list_reads r2 r1 e2 p2 (room_any hu (by omega)) ⟨.bl _, H, I, rfl, by rw [ea]; exact q⟩
      · obtain ⟨bs, r2⟩ := Dp.reads I _ y u (hK ▸ e1) ry
        cases neg with
        | true => exact SeqAt.notIn_tuple_reads r2 r1 e2 p2 (room_any hu (by omega)) ⟨.bl _, H, I, rfl, by rw [ea]; exact q⟩
        | false => exact SeqAt.in_tuple_reads r2 r1 e2 p2 (room_any hu (by omega)) ⟨.bl _, H, I, rfl, by rw [ea]; exact q⟩
  have o60 : ∀ {ds : List D}, D.okqs eqLim ds = true → D.okqs 60 ds = true := fun h => h
  unfold inD at hb
  split at hb
  · rename_i c z
    split at hb
    · rename_i hc
      simp only [Option.some.injEq] at hb
      obtain ⟨rfl, q1⟩ := h1.str
      obtain ⟨rfl, q2⟩ := h2.str
      have e : st c = ⟨#[c.headD 0]⟩ := by
        cases c with
        | nil => simp at hc
        | cons a t =>
          cases t with
          | nil => rfl
          | cons _ _ => simp at hc
      have ez : (st z).cps.toList = z := st_toList z
      cases neg with
      | true => exact op_notIn_sign pins s σ H _ _ v u Q I rx ry ⟨c.headD 0, st z, by rw [e], rfl, by rw [ez, hb]; exact q⟩
      | false => exact op_in_sign pins s σ H _ _ v u Q I rx ry ⟨c.headD 0, st z, by rw [e], rfl, by rw [ez, hb]; exact q⟩
    · cases hb
  · rename_i k ks vs
    split at hb
    · rename_i hc
      simp only [Option.some.injEq] at hb
      exact dct (ks := ks) (vs := vs.map .d) rfl rfl hc hb.symm
    · cases hb
  · rename_i k n _
    split at hb
    · rename_i ks vs e
      split at hb
      · rename_i hc
        simp only [Option.some.injEq] at hb
        exact dct (ks := ks) (vs := vs) rfl (by simp [dctOf, e]) hc hb.symm
      · cases hb
    · rename_i xs e
      split at hb
      · rename_i ds ed
        split at hb
        · rename_i hc
          simp only [Bool.and_eq_true] at hc
          simp only [Option.some.injEq] at hb
          refine lst (ds := ds) rfl (.inl ?_) hc.1 hc.2 hb.symm
          cases h2 with
          | r hq =>
            obtain ⟨a, q', vs, r1, r2⟩ := R.get e
            rw [hq] at q'; cases q'
            obtain ⟨p1, p2, p3⟩ := dvs_of R dvLim eqLim ed r2 hc.1
            exact ⟨eqLim, Nat.le_refl _, (), .lst (.inl (.inl r1)) p1, p2, p3, rfl⟩
        · cases hb
      · cases hb
    · cases hb
  · rename_i k ds
    split at hb
    · rename_i hc
      simp only [Bool.and_eq_true] at hc
      simp only [Option.some.injEq] at hb
      refine lst (ds := ds) rfl (.inr ?_) hc.1 hc.2 hb.symm
      obtain ⟨a, vs, rfl, t1, t2⟩ := h2.tup
      obtain ⟨p1, p2, p3⟩ := Dps_of eqLim t2 hc.1
      exact ⟨eqLim, Nat.le_refl _, .tup t1 p1, p2, p3⟩
    · cases hb
  · rename_i k ds
    split at hb
    · rename_i hc
      simp only [Bool.and_eq_true] at hc
      simp only [Option.some.injEq] at hb
      refine lst (ds := ds) rfl (.inl ?_) hc.1 hc.2 hb.symm
      obtain ⟨a, vs, rfl, t1, t2⟩ := h2.lst
      obtain ⟨p1, p2, p3⟩ := Dps_of eqLim t2 hc.1
      exact ⟨eqLim, Nat.le_refl _, (), .lst (LK.sq t1.lk) p1, p2, p3, rfl⟩
    · cases hb
  · cases hb
end
end L3
end
section
set_option Elab.async false
set_option linter.all false
set_option maxRecDepth 100000
set_option maxHeartbeats 4000000
/-! LI: comparisons, subscripts, slices, truth by values. -/
namespace L3
open PySem PySem.Spec PyProof.Rows L2
section
variable {X : Cx} {pins : List (Addr × Obj)} {σ : Sg} {H : Hp} {s : Shared} {Z : Lk} {io : List Addr} {L : LH} {E : XK} {Q : VK}
theorem op_cmpA (hK : X.K = Z.K) (hw : X.w = Z.w) (hu : X.A.units + 66 < cLine) (op : COp) : OpR X (compareOp (copOf op)) (r2 Z (cmpR op)) := by
  intro pins s σ H x y v u Q I rx ry h
  obtain ⟨io, L, vx, vy, E, R, h1, h2, p⟩ := h
  unfold cmpR at p
  cases e : cmpop op L vx vy with
  | none => rw [e] at p; exact p.elim
  | some b =>
    rw [e] at p
    have q : Q (.bl b) H := okD p R (.bl b)
    have ord : ∀ {f : Int → Int → Bool} {g : List Nat → List Nat → Bool} (hf : OpR X (compareOp (copOf op)) (rI0 fun i j => .bl (f i j))) (hg : OpR X (compareOp (copOf op)) (fun x y H Q => ∃ i j, x = .str i ∧ y = .str j ∧ Q (.bl (g i.cps.toList j.cps.toList)) H)),
        ordV f g vx vy = some b → wpAny (model X.prog X.w) X.A (compareOp (copOf op) v u) (EP X pins σ Q) X.xe s := by
      intro f g hf hg hb
      clear e p
      unfold ordV at hb
      split at hb
      · rename_i i j
        simp only [Option.some.injEq] at hb
        cases h1.int; cases h2.int
        exact hf pins s σ H _ _ v u Q I rx ry ⟨i, j, rfl, rfl, by show Q (.bl (f i j)) H; rw [hb]; exact q⟩
      · rename_i i j
        simp only [Option.some.injEq] at hb
        obtain ⟨rfl, _⟩ := h1.str
        obtain ⟨rfl, _⟩ := h2.str
        exact hg pins s σ H _ _ v u Q I rx ry ⟨_, _, rfl, rfl, by rw [st_toList, st_toList, hb]; exact q⟩
      · cases hb
    have isn : ∀ (neg : Bool) (hf : OpR X (compareOp (copOf op)) (fun x y H Q => y = .non ∧ Q (.bl (if neg then !decide (x = .non) else decide (x = .non))) H)),
        (if vy = VL.d .non then some (if neg then !decide (vx = VL.d .non) else decide (vx = VL.d .non)) else none) = some b → wpAny (model X.prog X.w) X.A (compareOp (copOf op) v u) (EP X pins σ Q) X.xe s := by
      intro neg hf hb
      split at hb
      · rename_i hy
        simp only [Option.some.injEq] at hb
        subst hy
        have hy := h2.non
        have e1 : decide (x = .non) = decide (vx = VL.d .non) := by
          cases h1 with
          | d h1 => cases h1 <;> simp
          | r _ => simp
        exact hf pins s σ H _ _ v u Q I rx ry ⟨hy, by rw [e1, hb]; exact q⟩
      · cases hb
    cases op with
    | eq => exact op_eqA hK hu false I rx ry R h1 h2 e q
    | ne =>
      simp only [cmpop, Option.map_eq_some_iff] at e
      obtain ⟨c, e1, rfl⟩ := e
      exact op_eqA hK hu true I rx ry R h1 h2 e1 q
    | isin => exact op_inA hK hw hu false I rx ry R h1 h2 e q
    | notin =>
      simp only [cmpop, Option.map_eq_some_iff] at e
      obtain ⟨c, e1, rfl⟩ := e
      exact op_inA hK hw hu true I rx ry R h1 h2 e1 q
    | isN => exact isn false op_isN e
    | notN => exact isn true op_notN e
    | lt => exact ord (f := fun i j => decide (i < j)) (g := fun i j => decide (i < j)) op_lt op_lt_str e
    | le => exact ord (f := fun i j => decide (i ≤ j)) (g := fun i j => !decide (j < i)) op_le op_le_str e
    | gt => exact ord (f := fun i j => decide (j < i)) (g := fun i j => decide (j < i)) op_gt op_gt_str e
    | ge => exact ord (f := fun i j => decide (j ≤ i)) (g := fun i j => !decide (i < j)) op_ge op_ge_str e

theorem atI_ix {α : Type} (xs : List α) (i : Int) : atI xs i = (ixAt xs.length i).bind fun j => xs[j]? := rfl
theorem RVs.atI {xs : List VL} {vs : List V} (r : RVs Z io H xs vs) {i : Int} {v : VL} (h : ((ixAt xs.length i).bind fun j => xs[j]?) = some v) : ∃ z, L2.atI vs i = some z ∧ RVl Z io H v z := by
  cases e : ixAt xs.length i with
  | none => rw [e] at h; cases h
  | some j =>
    rw [e] at h
    obtain ⟨z, h1, h2⟩ := r.get (show xs[j]? = some v from h)
    refine ⟨z, ?_, h2⟩
    have e' : ixN vs.length i = some j := by rw [← r.length]; exact e
    unfold L2.atI
    rw [e']
    exact h1
/-- x[i] -/
theorem ix_A (hK : X.K = Z.K) (hw : X.w = Z.w) (hu : X.A.units + 66 < cLine) : IxR X (r2 Z fun x y L => ofOpt (getI L x y) L) := by
  intro value slice pins s σ H x y v u Q I rx ry h hs
  obtain ⟨io, L, vx, vy, E, R, h1, h2, p⟩ := h
  cases e : getI L vx vy with
  | none => simp only [e] at p; exact p.elim
  | some z =>
    simp only [e] at p
    have q : ∀ x, RVl Z io H z x → Q x H := fun x r => p io x H .refl R r
    have dct : ∀ {k : D} {ks : List D} {vs : List VL}, vy = .d k → dctOf L vx = some (ks, vs) → keysOk ks k = true → dlook ks vs k = some z → wpAny (model X.prog X.w) X.A (subscriptTail value slice v u) (EP X pins σ Q) X.xe s := by
      rintro k ks vs rfl hd ok hz
      obtain ⟨a, es, rfl, ha, g, r1, r2⟩ := dctOf_of R hd h1
      obtain rfl : v = Value.ref a := rx
      cases h2 with
      | d h2 =>
        rcases look_rel (k := k) (rkeys_len r1) r2 with ⟨p1, _⟩ | ⟨v', w, vx, p1, p2, p3, p4, _⟩
        · rw [p1] at hz; cases hz
        · rw [p1] at hz; cases hz
          have hT : s.TypeIs (.ref a) "dict" := by
            obtain ⟨⟨o, ep, e1, e2, _⟩, _⟩ := ha.raw I
            exact ⟨o, e1, e2.1⟩
          exact tail_any hT slot_dict_getitem.lookup (dict_get I hK hw hu ha g r1 ok h2 ry p2 fun t => ⟨_, H, I.tok _, p4, q _ p3⟩) hs
    have lst : ∀ {i : Int} {xs : List VL}, vy = .d (.int i) → isL L vx = true → seqOf L vx = some xs → ((ixAt xs.length i).bind fun j => xs[j]?) = some z → wpAny (model X.prog X.w) X.A (subscriptTail value slice v u) (EP X pins σ Q) X.xe s := by
      rintro i xs rfl hl hq hz
      obtain ⟨a, vs, rfl, l1, r1⟩ := isL_of R hl hq h1
      obtain ⟨zz, e1, e2⟩ := r1.atI hz
      cases h2.int
      exact ix_list value slice pins s σ H _ _ v u Q I rx ry ⟨a, vs, i, zz, rfl, rfl, l1.sq, e1, q _ e2⟩ hs
    have ofm : ∀ {xs : List D} {i : Int} {z : VL}, ((ixAt xs.length i).bind fun j => xs[j]?.map VL.d) = some z → ((ixAt (xs.map VL.d).length i).bind fun j => (xs.map VL.d)[j]?) = some z := by
      intro xs i z h
      rw [List.length_map]
      rw [← h]
      cases ixAt xs.length i with
      | none => rfl
      | some j => simp
    unfold getI at e
    split at e
    · rename_i w i
      obtain ⟨rfl, q1⟩ := h1.str
      cases h2.int
      cases ej : ixAt w.length i with
      | none => rw [ej] at e; cases e
      | some j =>
        rw [ej] at e
        obtain ⟨c, ec, rfl⟩ := Option.map_eq_some_iff.mp (show (w[j]?.map fun c => VL.d (.str [c])) = some z from e)
        refine ix_str value slice pins s σ H _ _ v u Q I rx ry ⟨st w, i, c, rfl, rfl, by rw [st_length, ← line_eq]; exact q1.2, ?_, q _ (.d (.str [c] ⟨fun d hd => ?_, by show 1 ≤ lim; decide⟩))⟩ hs
        · rw [st_toList]
          unfold L2.atI
          rw [show ixN w.length i = some j from ej]
          exact ec
        · simp only [List.mem_singleton] at hd
          subst hd
          exact q1.1 _ (List.mem_of_getElem? ec)
    · rename_i ks vs k
      split at e
      · rename_i hc
        refine dct (ks := ks) (vs := vs.map .d) rfl rfl hc ?_
        rw [← e]
        have : ∀ (ks : List D) (vs : List D), dlook ks (vs.map VL.d) k = (dlook ks vs k).map VL.d := by
          intro ks
          induction ks with
          | nil => intro vs; simp [dlook]
          | cons j ks ih =>
            intro vs
            cases vs with
            | nil => simp [dlook]
            | cons v vs =>
              simp only [dlook, List.map_cons]
              by_cases hjk : j = k
              · rw [if_pos hjk, if_pos hjk]; rfl
              · rw [if_neg hjk, if_neg hjk]; exact ih vs
        exact this ks vs
      · cases e
    · rename_i n k
      split at e
      · rename_i ks vs eL
        split at e
        · rename_i hc
          exact dct (ks := ks) (vs := vs) rfl (by simp [dctOf, eL]) hc e
        · cases e
      · rename_i xs i eL
        exact lst (xs := xs) rfl (by simp [isL, eL]) (by simp [seqOf, eL]) e
      · cases e
    · rename_i xs i
      obtain ⟨a, vs, rfl, t1, t2⟩ := h1.tup
      obtain ⟨zz, e1, e2⟩ := (RVs.of_ds (io := io) t2).atI (ofm e)
      cases h2.int
      exact ix_tup value slice pins s σ H _ _ v u Q I rx ry ⟨a, vs, i, zz, rfl, rfl, hK ▸ t1, e1, q _ e2⟩ hs
    · rename_i xs i
      exact lst (xs := xs.map .d) rfl rfl rfl (ofm e)
    · cases e
/-- x[i] = v -/
def rSetA (Z : Lk) : TSet := fun o i v H Q => ∃ io L vo vi vv L', Rep Z io H L ∧ RVl Z io H vo o ∧ RVl Z io H vi i ∧ RVl Z io H vv v ∧ setI vo vi vv L = some L' ∧ ∀ H', Ext io H io H' → Rep Z io H' L' → Q H'
theorem set_A (hK : X.K = Z.K) (hw : X.w = Z.w) (hu : X.A.units + 66 < cLine) : PSet X (rSetA Z) := by
  intro pins s σ H o i v ov iv u Q I ro ri rv h
  obtain ⟨io, L, vo, vi, vv, L', R, h1, h2, h3, e, q⟩ := h
  unfold setI at e
  split at e
  · rename_i n k
    cases h1 with
    | r hq =>
      rename_i a
      obtain rfl : ov = Value.ref a := ro
      split at e
      · rename_i ks vs eL
        split at e
        · rename_i hc
          simp only [Option.some.injEq] at e
          subst e
          obtain ⟨b, q', g, es, d1, d2, d3⟩ := R.get eL
          rw [hq] at q'; cases q'
          cases h2 with
          | d h2 =>
            refine dict_set I hK hw hu d1 g d2 d3 hc.1 h2 ri h3 rv (by rw [← line_eq]; exact hc.2) fun es' h' t I' k1 k2 => ⟨_, I', q _ ?_ ?_⟩
            · exact Ext.write hq (by rw [d1]; trivial)
            · have P : Persist H (upd H a (dx a es')) := Persist.write (by rw [d1]; trivial)
              have hlen : ks.length = vs.length := by have := rkeys_len d2; have := rvals_len d3; omega
              exact R.write hq P ⟨g.put hc.1 hlen, es', upd_same, k1.ext P, k2.ext0 ⟨List.prefix_refl _, P⟩⟩
        · cases e
      · rename_i xs j eL
        obtain ⟨jj, ej, rfl⟩ := Option.map_eq_some_iff.mp e
        obtain ⟨b, q', ws, d1, d2⟩ := R.get eL
        rw [hq] at q'; cases q'
        cases h2.int
        refine set_list pins s σ H (.ref a) _ v _ iv u Q I (show RelV (.ref a) (.ref a) from rfl) ri rv ⟨a, ws, j, jj, rfl, rfl, d1, by rw [← d2.length]; exact ej, q _ (Ext.write hq (by rw [d1]; trivial)) ?_⟩
        have P : Persist H (upd H a (.lst (ws.set jj v))) := Persist.write (by rw [d1]; trivial)
        exact R.write hq P ⟨_, upd_same, (d2.set jj h3).ext0 ⟨List.prefix_refl _, P⟩⟩
      · cases e
  · cases e
/-- x[lo:hi] -/
theorem bound_sIx (n d : Nat) (o : Option Int) : HT.sIx n d o = bound n d o := by cases o <;> rfl
theorem RVs.cut {xs : List VL} {vs : List V} (r : RVs Z io H xs vs) (lo hi : Option Int) : RVs Z io H (L3.cut xs lo hi) (cutV vs lo hi) := by
  unfold L3.cut cutV
  rw [bound_sIx, bound_sIx, ← r.length]
  exact (r.drop _).take _
theorem cut_map {xs : List D} (lo hi : Option Int) : L3.cut (xs.map VL.d) lo hi = (L3.cut xs lo hi).map VL.d := by
  unfold L3.cut
  rw [List.length_map, List.map_take, List.map_drop]
theorem RDs.cut {xs : List D} {vs : List V} (r : RDs Z H xs vs) (lo hi : Option Int) : RDs Z H (L3.cut xs lo hi) (cutV vs lo hi) := by
  unfold L3.cut cutV
  rw [bound_sIx, bound_sIx, ← r.length]
  exact (r.drop _).take _
theorem LK.of_sq {K : PySem.W.Frag} {H : Hp} {a : Addr} {vs : List V} (h : LK K H a vs) : SqL K H a vs := h.sq
def rSlice (Z : Lk) (m : Bool) : V → Option Int → Option Int → Hp → VK → Prop := fun x lo hi H Q => ∃ io L vx E, Rep Z io H L ∧ RVl Z io H vx x ∧ Post Z (RVl Z) io H (slice m vx lo hi L) Q E
theorem cut_whole {α : Type} (xs : List α) (lo hi : Option Int) (h : HT.sIx xs.length 0 lo = 0 ∧ HT.sIx xs.length xs.length hi = xs.length) : L3.cut xs lo hi = xs := by
  unfold L3.cut
  rw [← bound_sIx, ← bound_sIx, h.1, h.2]
  simp
theorem sl_A (hK : X.K = Z.K) (m : Bool) : SlR X (rSlice Z m) := by
  intro pins s σ H x v vl vu lo hi sl Q I rx hs pl pu h
  obtain ⟨io, L, vx, E, R, h1, p⟩ := h
  have lst : ∀ {a : Addr} {vs : List V} {xs : List VL}, x = .ref a → SqL X.K H a vs → RVs Z io H xs vs → Post Z (RVl Z) io H (mkL m (L3.cut xs lo hi) L) Q E →
      ∃ T id, typeLookup (.type T) "__getitem__" = pure (some (.builtin id)) ∧ s.TypeIs v T ∧ wpAny (model X.prog X.w) X.A (getItem v (.ref sl)) (EP X pins σ Q) X.xe s := by
    rintro a vs xs rfl l1 r1 p
    obtain ⟨T, id, e1, e2, e3⟩ := sl_list pins s σ H _ v vl vu lo hi sl (Fz Q) I rx hs pl pu ⟨a, vs, rfl, l1, fun q hq => fzL p R hq (r1.cut lo hi)⟩
    exact ⟨T, id, e1, e2, thn e3 fun _ _ => Fz.ep⟩
  unfold slice at p
  split at p
  · rename_i w
    obtain ⟨rfl, q1⟩ := h1.str
    refine sl_str pins s σ H _ v vl vu lo hi sl Q I rx hs pl pu ⟨st w, rfl, by rw [st_length, ← line_eq]; exact q1.2, ?_⟩
    have e : cutS (st w) lo hi = st (L3.cut w lo hi) := by
      unfold cutS L3.cut
      rw [st_toList, st_length, bound_sIx, bound_sIx]
      rfl
    rw [e]
    refine okD p R (.str _ ⟨fun c hc => q1.1 c (List.mem_of_mem_drop (List.mem_of_mem_take hc)), Nat.le_trans ?_ q1.2⟩)
    unfold L3.cut
    rw [List.length_take, List.length_drop]; omega
  · rename_i ds
    obtain ⟨a, vs, rfl, t1, t2⟩ := h1.tup
    refine sl_tupA pins s σ H _ v vl vu lo hi sl Q I rx hs pl pu ⟨a, vs, rfl, hK ▸ t1, fun hc => ?_, fun _ q hq => okT p R hq (t2.cut lo hi)⟩
    rw [← t2.length] at hc
    rw [cut_whole ds lo hi hc] at p
    exact okD p R (.tup t1 t2)
  · rename_i ds
    obtain ⟨a, vs, rfl, t1, t2⟩ := h1.scr
    rw [← cut_map] at p
    exact lst rfl (hK ▸ t1.sq) (.of_ds t2) p
  · split at p
    · rename_i xs e1 e2
      obtain ⟨a, vs, rfl, l1, r1⟩ := isL_of R e1 e2 h1
      exact lst rfl l1.sq r1 p
    · exact p.elim
/-- truth -/
def rTruA (Z : Lk) : V → Hp → (Bool → Hp → Prop) → Prop := fun x H Q => ∃ io L vx b, Rep Z io H L ∧ RVl Z io H vx x ∧ truth L vx = some b ∧ Q b H
theorem isEmpty_of {α β : Type} {xs : List α} {ys : List β} (h : xs.length = ys.length) : xs.isEmpty = ys.isEmpty := by
  cases xs <;> cases ys <;> first | rfl | simp at h
end
end L3
end
section
set_option Elab.async false
set_option linter.all false
set_option maxRecDepth 100000
set_option maxHeartbeats 4000000
/-! LJ: len, truth, int, str, list, tuple, sum, all, any, len(set(..)) by values. -/
namespace PySem
section
variable {prog : Program} {w : World} {A : Around} {E : Value → Shared → Prop} {s : Shared}
/-- len's run on a dict of any keys -/
theorem rawLenBody {d : Addr} {es : Array DictEntry} {ep : Nat} {Q : Value → Shared → Prop} (hd : (d == sysModules) = false) (hR : s.heap.DictRaw d es ep) (small : (es.size : Int) < 2 ^ 63)
    (h : Q (.int es.size (s.toks + 1)) { s with toks := s.toks + 1 + 1 }) : wpAny (model prog w) A (Builtin.«len» ⟨[.ref d], []⟩) (fun out t => ∃ r, out = .done (.ret r) ∧ Q r t) E s := by
  unfold Builtin.«len»
  refine wpAny_bind (m := oneArg "len" _) (wpAny_pure ?_)
  refine wpAny_bind (m := callSpecial? (.ref d) (Str.ofString "__len__")) (wpAny_callSpecial?_slot (name := Str.ofString "__len__") hR.typeIs F.slot_dict_len (call_len_raw hd hR ?_))
  refine wpAny_bind (wpAny_holding (wpAny_pure ?_)); refine wpAny_bind (wpAny_letGo ?_)
  show wpAny _ _ (if ((es.size : Nat) : Int) < 0 then _ else _) _ _ _; rw [if_neg (by omega)]
  show wpAny _ _ (if ((es.size : Nat) : Int) ≥ 2 ^ 63 then _ else _) _ _ _; rw [if_neg (by omega)]
  exact wpAny_bind (wpAny_mkInt (wpAny_pure ⟨_, rfl, h⟩))
theorem rawLen {d : Addr} {es : Array DictEntry} {ep : Nat} {Q : Value → Shared → Prop} (hd : (d == sysModules) = false) (hR : s.heap.DictRaw d es ep) (small : (es.size : Int) < 2 ^ 63)
    (h : Q (.int es.size (s.toks + 1)) { s with toks := s.toks + 1 + 1 }) : wpAny (model prog w) A (call (.builtin "len") [.ref d]) Q E s :=
  Calls.call_function_entry kind_len plain_len entry_len (args_len1 _) (rawLenBody hd hR small h)
theorem rawTruth {d : Addr} {es : Array DictEntry} {ep : Nat} {Q : Bool → Shared → Prop} (hd : (d == sysModules) = false) (hR : s.heap.DictRaw d es ep) (small : (es.size : Int) < 2 ^ 63)
    (h : Q ((es.size : Int) != 0) { s with toks := s.toks + 1 + 1 }) : wpAny (model prog w) A (truthy (.ref d)) Q E s := by
  have key : wpAny (model prog w) A (runValue (.builtin "len" ⟨[.ref d], []⟩)) (fun r t => r = .int es.size (s.toks + 1) ∧ Q ((es.size : Int) != 0) t) E s := by
    refine wpAny_runValue (codeAny_builtin entry_len ?_); rw [Around.under_plainId plain_len _]
    exact wpAny_mono (rawLenBody (Q := fun r t => r = .int es.size (s.toks + 1) ∧ Q ((es.size : Int) != 0) t) hd hR small ⟨rfl, h⟩) (fun out t x => by obtain ⟨r, rfl, y⟩ := x; exact y) fun _ _ e => e
  unfold truthy
  first
    | refine wpAny_bind (wpAny_callSpecial?_none (name := Str.ofString "__bool__") hR.typeIs noBool_dict ?_)
    | refine wpAny_bind (wpAny_pure (wpAny_bind (wpAny_callSpecial?_none (name := Str.ofString "__bool__") hR.typeIs noBool_dict ?_)))
  first
    | refine wpAny_bind (wpAny_specialOf (name := Str.ofString "__len__") hR.typeIs F.slot_dict_len.lookup ?_)
    | refine wpAny_bind (wpAny_pure (wpAny_bind (wpAny_specialOf (name := Str.ofString "__len__") hR.typeIs F.slot_dict_len.lookup ?_)))
  first
    | exact wpAny_bind (wpAny_mono key (fun r t x => by obtain ⟨rfl, y⟩ := x; exact wpAny_pure y) fun _ _ e => e)
    | exact wpAny_bind (wpAny_pure (wpAny_bind (wpAny_mono key (fun r t x => by obtain ⟨rfl, y⟩ := x; exact wpAny_pure y) fun _ _ e => e)))
end
end PySem
namespace L3
open PySem PySem.Spec PyProof.Rows L2
section
variable {X : Cx} {pins : List (Addr × Obj)} {σ : Sg} {H : Hp} {s : Shared} {Z : Lk} {io : List Addr} {L : LH} {E : XK} {Q : VK}
theorem DAt.size {a : Addr} {es : List DictEntry} (I : Inv X pins σ H s) (h : DAt H a es) : ∃ ep, (a == sysModules) = false ∧ s.heap.DictRaw a es.toArray ep ∧ ((es.toArray.size : Int) < 2 ^ 63) := by
  obtain ⟨⟨o, ep, e1, e2, e3⟩, e4, e5⟩ := h.raw I
  refine ⟨ep, e4, ⟨o, e1, e2, e3⟩, ?_⟩
  have := sizeLine_eq
  rw [List.size_toArray]
  omega
theorem tru_A (hK : X.K = Z.K) : TruR X (rTruA Z) := by
  intro pins s σ H x v Q I rx h
  obtain ⟨io, L, vx, b, R, r, e, q⟩ := h
  have old : TruV X.K x H b → wpAny (model X.prog X.w) X.A (truthy v) (TP X pins σ Q) X.xe s := fun t => tru_ok pins s σ H x v Q I rx ⟨b, t, q⟩
  have lst : ∀ {xs : List VL}, isL L vx = true → seqOf L vx = some xs → b = !xs.isEmpty → TruV X.K x H b := by
    rintro xs h1 h2 rfl
    obtain ⟨a, vs, rfl, l1, r1⟩ := isL_of R h1 h2 r
    exact .inl ⟨vs, l1.sq, by rw [isEmpty_of r1.length]⟩
  have dct : ∀ {ks : List D} {vs : List VL}, dctOf L vx = some (ks, vs) → b = !ks.isEmpty → wpAny (model X.prog X.w) X.A (truthy v) (TP X pins σ Q) X.xe s := by
    rintro ks vs h1 rfl
    obtain ⟨a, es, rfl, ha, g, r1, r2⟩ := dctOf_of R h1 r
    obtain rfl : v = Value.ref a := rx
    obtain ⟨ep, p1, p2, p3⟩ := ha.size I
    refine rawTruth p1 p2 p3 ⟨H, I.tok _, ?_⟩
    have hl := rkeys_len r1
    have : ((es.toArray.size : Int) != 0) = !ks.isEmpty := by
      rw [List.size_toArray, ← hl]
      cases ks <;> simp <;> omega
    rw [this]; exact q
  unfold truth at e
  split at e
  · cases e; cases r.non; exact old rfl
  · cases e; cases r.bl; exact old rfl
  · cases e; cases r.int; exact old rfl
  · cases e
    rename_i w
    obtain ⟨rfl, q1⟩ := r.str
    refine old ⟨by rw [st_length, ← line_eq]; exact q1.2, ?_⟩
    rw [st_length]
    cases w <;> simp <;> omega
  · cases e
    obtain ⟨a, vs, rfl, t1, t2⟩ := r.tup
    exact old (.inr (.inl ⟨vs, hK ▸ t1, by rw [isEmpty_of t2.length]⟩))
  · cases e
    rename_i ds
    exact old (lst (xs := ds.map .d) rfl rfl (by cases ds <;> rfl))
  · cases e
    rename_i ks us
    exact dct (ks := ks) (vs := us.map .d) rfl rfl
  · rename_i n
    split at e
    · rename_i xs eL
      cases e
      exact old (lst (xs := xs) (by simp [isL, eL]) (by simp [seqOf, eL]) rfl)
    · rename_i ks us eL
      cases e
      exact dct (ks := ks) (vs := us) (by simp [dctOf, eL]) rfl
    · cases e
  · cases e
/-- a call of a builtin by values -/
def rB (Z : Lk) (b : BF) : List V → Hp → VK → Prop := fun xs H Q => ∃ io L vxs E, Rep Z io H L ∧ RVs Z io H vxs xs ∧ Post Z (RVl Z) io H (bfun b vxs L) Q E
theorem RVs.one {vxs : List VL} {x : V} (r : RVs Z io H vxs [x]) : ∃ v, vxs = [v] ∧ RVl Z io H v x := by
  cases r with
  | cons h t => cases t; exact ⟨_, rfl, h⟩
theorem RVs.ofInts : ∀ {vxs : List VL} {ns : List Int} {xs : List V}, L3.ofInts vxs = some ns → RVs Z io H vxs xs → xs = ns.map V.int
  | [], ns, _, e, .nil => by simp only [L3.ofInts, Option.some.injEq] at e; subst e; rfl
  | .d (.int i) :: r, ns, _, e, .cons h t => by
    simp only [L3.ofInts, Option.map_eq_some_iff] at e
    obtain ⟨ms, e1, rfl⟩ := e
    cases h.int
    rw [RVs.ofInts e1 t]; rfl
theorem RVs.ofBools : ∀ {vxs : List VL} {ns : List Bool} {xs : List V}, L3.ofBools vxs = some ns → RVs Z io H vxs xs → xs = ns.map V.bl
  | [], ns, _, e, .nil => by simp only [L3.ofBools, Option.some.injEq] at e; subst e; rfl
  | .d (.bl i) :: r, ns, _, e, .cons h t => by
    simp only [L3.ofBools, Option.map_eq_some_iff] at e
    obtain ⟨ms, e1, rfl⟩ := e
    cases h.bl
    rw [RVs.ofBools e1 t]; rfl
theorem RVs.ofStrs : ∀ {vxs : List VL} {ns : List (List Nat)} {xs : List V}, L3.ofStrs vxs = some ns → RVs Z io H vxs xs → xs = (ns.map st).map V.str ∧ ∀ t ∈ ns, SOk t
  | [], ns, _, e, .nil => by simp only [L3.ofStrs, Option.some.injEq] at e; subst e; exact ⟨rfl, fun t h => nomatch h⟩
  | .d (.str i) :: r, ns, _, e, .cons h t => by
    simp only [L3.ofStrs, Option.map_eq_some_iff] at e
    obtain ⟨ms, e1, rfl⟩ := e
    obtain ⟨rfl, q⟩ := h.str
    obtain ⟨e2, q2⟩ := RVs.ofStrs e1 t
    refine ⟨by rw [e2]; rfl, fun t ht => ?_⟩
    rcases List.mem_cons.mp ht with rfl | ht
    · exact q
    · exact q2 t ht
theorem lstOf_of (R : Rep Z io H L) {v : VL} {xs : List VL} {x : V} (h : lstOf L v = some xs) (r : RVl Z io H v x) : ∃ a vs, x = .ref a ∧ LAny H a vs ∧ RVs Z io H xs vs := by
  unfold lstOf at h
  split at h
  · rename_i h1
    exact isL_of R h1 h r
  · cases h
theorem cr_len (hK : X.K = Z.K) : CallR X (.builtin "len") (rB Z .len) := by
  intro pins s σ H xs us Q I r h
  obtain ⟨io, L, vxs, E, R, rs, p⟩ := h
  replace p : Post Z (RVl Z) io H (bLen vxs L) Q E := p
  unfold bLen at p
  split at p
  · rename_i v
    cases rs with
    | cons r1 rn =>
      cases rn
      rename_i x
      have old : ∀ {n : Nat}, LenV X.K x H n → Q (.int n) H → wpAny (model X.prog X.w) X.A (call (.builtin "len") us) (EP X pins σ Q) X.xe s := fun t q => call_len pins s σ H _ us Q I r ⟨x, _, rfl, t, q⟩
      have dct : ∀ {ks : List D} {vs : List VL}, dctOf L v = some (ks, vs) → Q (.int ks.length) H → wpAny (model X.prog X.w) X.A (call (.builtin "len") us) (EP X pins σ Q) X.xe s := by
        intro ks vs h1 q
        obtain ⟨a, es, rfl, ha, g, q1, q2⟩ := dctOf_of R h1 r1
        obtain ⟨u, rfl, ru⟩ := vals1 r
        obtain rfl : u = Value.ref a := ru
        obtain ⟨ep, p1, p2, p3⟩ := ha.size I
        refine rawLen p1 p2 p3 ?_
        rw [List.size_toArray, ← rkeys_len q1]
        exact ⟨.int ks.length, H, I.tok _, ⟨_, rfl⟩, q⟩
      have lst : ∀ {zs : List VL}, isL L v = true → seqOf L v = some zs → Q (.int zs.length) H → wpAny (model X.prog X.w) X.A (call (.builtin "len") us) (EP X pins σ Q) X.xe s := by
        intro zs h1 h2 q
        obtain ⟨a, vs, rfl, l1, r1⟩ := isL_of R h1 h2 r1
        exact old (.inl ⟨vs, l1.sq, rfl⟩) (by rw [← r1.length]; exact q)
      split at p
      · obtain ⟨rfl, q⟩ := r1.str
        exact old ⟨by rw [st_length, ← line_eq]; exact q.2, rfl⟩ (by rw [st_length]; exact okD p R (.int _))
      · rename_i ks vs
        exact dct (ks := ks) (vs := vs.map .d) rfl (okD p R (.int _))
      · split at p
        · rename_i zs eL
          exact lst (zs := zs) (by simp [isL, eL]) (by simp [seqOf, eL]) (okD p R (.int _))
        · rename_i ks vs eL
          exact dct (ks := ks) (vs := vs) (by simp [dctOf, eL]) (okD p R (.int _))
        · exact p.elim
      · obtain ⟨a, vs, rfl, t1, t2⟩ := r1.tup
        exact old (.inr ⟨vs, hK ▸ t1, rfl⟩) (by rw [← t2.length]; exact okD p R (.int _))
      · rename_i ds
        exact lst (zs := ds.map .d) rfl rfl (by rw [List.length_map]; exact okD p R (.int _))
      · obtain ⟨a, vs, rfl, t1, t2⟩ := r1.scr
        exact old (.inl ⟨vs, hK ▸ t1.sq, rfl⟩) (by rw [← t2.length]; exact okD p R (.int _))
      · exact p.elim
  · exact p.elim
end
end L3
end
section
set_option Elab.async false
set_option linter.all false
set_option maxRecDepth 100000
set_option maxHeartbeats 4000000
/-! LK: texts: index, split, join as functions on lists of signs. -/
namespace L3
open PySem PySem.Spec PyProof.Rows L2
open PySem.StrLaws in
theorem occ_kept (s sub : Str) (hi : Nat) : ∀ (l : List Nat) (a b : Nat), (forIn l ((#[a] : Array Nat), b) (occBody s sub hi 1)).run = (#[a], b)
  | [], _, _ => rfl
  | x :: l, a, b => by
    rw [List.forIn_cons]
    unfold occBody
    rw [if_neg (by simp)]
    exact occ_kept s sub hi l a b
open PySem.StrLaws in
theorem occ_first (s sub : Str) (hi : Nat) : ∀ (l : List Nat) (f : Nat), (∀ i ∈ l, f ≤ i) →
    (forIn l ((#[] : Array Nat), f) (occBody s sub hi 1)).run.fst.toList = (l.find? fun i => decide (i + sub.length ≤ hi ∧ Builtin.Str.subAt s sub i = true)).toList
  | [], _, _ => rfl
  | a :: l, f, hf => by
    have ha : f ≤ a := hf a List.mem_cons_self
    rw [List.forIn_cons, List.find?_cons]
    by_cases hc : a + sub.length ≤ hi ∧ Builtin.Str.subAt s sub a = true
    · rw [decide_eq_true hc]
      have e : occBody s sub hi 1 a ((#[] : Array Nat), f) = pure (ForInStep.yield (#[a], a + sub.length)) := by
        unfold occBody
        rw [if_pos ⟨⟨⟨by simp, ha⟩, hc.1⟩, hc.2⟩]; rfl
      rw [e]
      have k := occ_kept s sub hi l a (a + sub.length)
      show (forIn l ((#[a] : Array Nat), a + sub.length) (occBody s sub hi 1)).run.fst.toList = _
      rw [k]; rfl
    · rw [decide_eq_false hc]
      have e : occBody s sub hi 1 a ((#[] : Array Nat), f) = pure (ForInStep.yield (#[], f)) := by
        unfold occBody
        rw [if_neg fun h => hc ⟨h.1.2, h.2⟩]
      rw [e]
      exact occ_first s sub hi l f fun i hi' => hf i (List.mem_cons_of_mem _ hi')
theorem find_range (s : List Nat) (c : Nat) : ∀ (n k : Nat), (∀ i, i < k → s[i]? ≠ some c) → s.length + 1 = k + n → c ∈ s →
    ((List.range' k n).find? fun i => decide (s[i]? = some c)) = some (s.idxOf c)
  | 0, k, h, e, m => by
    obtain ⟨j, hj⟩ := List.getElem?_of_mem m
    have := (List.getElem?_eq_some_iff.mp hj).1
    exact absurd hj (h j (by omega))
  | n + 1, k, h, e, m => by
    rw [List.range'_succ, List.find?_cons]
    by_cases hk : s[k]? = some c
    · rw [decide_eq_true hk]
      simp only [Option.some.injEq]
      obtain ⟨hl, ek⟩ := List.getElem?_eq_some_iff.mp hk
      have h1 : s.idxOf c ≤ k := by
        refine Nat.le_of_not_lt fun hlt => ?_
        have hlt' : k < s.findIdx (· == c) := hlt
        have := List.not_of_lt_findIdx hlt'
        rw [ek] at this
        simp at this
      have h2 : ¬ s.idxOf c < k := fun hlt => by
        have hi : s.idxOf c < s.length := List.idxOf_lt_length_iff.mpr m
        exact h _ hlt (by rw [List.getElem?_eq_getElem hi, List.getElem_idxOf hi])
      omega
    · rw [decide_eq_false hk]
      exact find_range s c n (k + 1) (fun i hi => by
        by_cases e2 : i = k
        · rw [e2]; exact hk
        · exact h i (by omega)) (by omega) m
theorem occ_idx (s : List Nat) (c : Nat) (h : c ∈ s) : Builtin.Str.occurrences (st s) ⟨#[c]⟩ 0 (st s).length 1 = [s.idxOf c] := by
  rw [PySem.StrLaws.occ_eq, occ_first _ _ _ _ _ fun _ _ => Nat.zero_le _]
  have e : (fun i => decide (i + (⟨#[c]⟩ : Str).length ≤ (st s).length ∧ Builtin.Str.subAt (st s) ⟨#[c]⟩ i = true)) = fun i => decide (s[i]? = some c) := by
    funext i
    have := PySem.StrLaws.subAt_one (st s) c i
    rw [st_toList] at this
    exact decide_eq_decide.mpr this
  rw [e, st_length, find_range s c _ 0 (fun i hi => absurd hi (Nat.not_lt_zero i)) (by omega) h]
  rfl
theorem join_st (sep : List Nat) : ∀ ts : List (List Nat), Str.join (st sep) (ts.map st) = st (joinS sep ts)
  | [] => rfl
  | [x] => rfl
  | x :: y :: r => by
    have ih := join_st sep (y :: r)
    show st x ++ st sep ++ Str.join (st sep) ((y :: r).map st) = st (x ++ sep ++ joinS sep (y :: r))
    rw [ih, st_append, st_append]
theorem splitS_free (c : Nat) : ∀ x : List Nat, c ∉ x → splitS c x = [x]
  | [], _ => rfl
  | a :: x, h => by
    have h1 : ¬ a = c := fun e => h (by rw [e]; exact List.mem_cons_self)
    simp only [splitS, if_neg h1]
    rw [splitS_free c x fun m => h (List.mem_cons_of_mem _ m)]
theorem splitS_app (c : Nat) (rest : List Nat) : ∀ x : List Nat, c ∉ x → splitS c (x ++ [c] ++ rest) = x :: splitS c rest
  | [], _ => by simp [splitS]
  | a :: x, h => by
    have h1 : ¬ a = c := fun e => h (by rw [e]; exact List.mem_cons_self)
    have ih := splitS_app c rest x fun m => h (List.mem_cons_of_mem _ m)
    simp only [List.cons_append, splitS, if_neg h1]
    simp only [List.append_assoc] at ih ⊢
    rw [ih]
theorem split_unique (c : Nat) : ∀ ws : List (List Nat), ws ≠ [] → (∀ w ∈ ws, c ∉ w) → splitS c (joinS [c] ws) = ws
  | [], h, _ => absurd rfl h
  | [x], _, h => splitS_free c x (h x List.mem_cons_self)
  | x :: y :: r, _, h => by
    show splitS c (x ++ [c] ++ joinS [c] (y :: r)) = _
    rw [splitS_app c _ x (h x List.mem_cons_self), split_unique c (y :: r) (by simp) fun w hw => h w (List.mem_cons_of_mem _ hw)]
theorem st_surj (x : Str) : ∃ s, x = st s := ⟨x.cps.toList, by cases x; simp [st]⟩
theorem sts_surj : ∀ xs : List Str, ∃ ws : List (List Nat), xs = ws.map st
  | [] => ⟨[], rfl⟩
  | x :: xs => let ⟨s, e⟩ := st_surj x; let ⟨ws, e2⟩ := sts_surj xs; ⟨s :: ws, by rw [e, e2]; rfl⟩
theorem split_st (s : List Nat) (c : Nat) : Txt.split (st s) ⟨#[c]⟩ = (splitS c s).map st := by
  obtain ⟨ws, e⟩ := sts_surj (Txt.split (st s) ⟨#[c]⟩)
  have h1 := PySem.StrLaws.join_split (st s) ⟨#[c]⟩
  have h2 := PySem.StrLaws.split_free (st s) c
  have h3 := PyProof.Rows.split_pos (st s) ⟨#[c]⟩
  rw [e] at h1 h2 h3 ⊢
  have h4 : st s = st (joinS [c] ws) := by
    rw [← join_st [c] ws]; exact h1.symm
  have h5 : ∀ w ∈ ws, c ∉ w := fun w hw => by
    have := h2 (st w) (List.mem_map_of_mem hw)
    rw [st_toList] at this
    exact this
  have h6 : ws ≠ [] := by
    rintro rfl
    simp at h3
  rw [st_inj h4, split_unique c ws h6 h5]
theorem joinS_length (sep : List Nat) : ∀ ts : List (List Nat), (joinS sep ts).length ≤ (ts.map fun t => t.length + sep.length).sum
  | [] => by simp [joinS]
  | [x] => by simp [joinS]
  | x :: y :: r => by
    have ih := joinS_length sep (y :: r)
    simp only [joinS, List.length_append, List.map_cons, List.sum_cons] at ih ⊢
    omega
theorem joinS_ok (sep : List Nat) (hs : ∀ c ∈ sep, c < 1114112) : ∀ ts : List (List Nat), (∀ t ∈ ts, ∀ c ∈ t, c < 1114112) → ∀ c ∈ joinS sep ts, c < 1114112
  | [], _, c, h => by simp [joinS] at h
  | [x], ht, c, h => ht x List.mem_cons_self c h
  | x :: y :: r, ht, c, h => by
    simp only [joinS, List.mem_append] at h
    rcases h with (h | h) | h
    · exact ht x List.mem_cons_self c h
    · exact hs c h
    · exact joinS_ok sep hs (y :: r) (fun t m => ht t (List.mem_cons_of_mem _ m)) c h
theorem splitS_ok (d : Nat) : ∀ (s : List Nat), (∀ c ∈ s, c < 1114112) → ∀ w ∈ splitS d s, (∀ c ∈ w, c < 1114112) ∧ w.length ≤ s.length
  | [], _, w, h => by simp [splitS] at h; subst h; exact ⟨fun c h => (nomatch h), Nat.le_refl _⟩
  | a :: s, hs, w, h => by
    have ih := splitS_ok d s fun c hc => hs c (List.mem_cons_of_mem _ hc)
    simp only [splitS] at h
    split at h
    · rcases List.mem_cons.mp h with rfl | h
      · exact ⟨fun c h => (nomatch h), Nat.zero_le _⟩
      · exact ⟨(ih w h).1, Nat.le_succ_of_le (ih w h).2⟩
    · split at h
      · simp only [List.mem_singleton] at h
        subst h
        exact ⟨fun c hc => by simp only [List.mem_singleton] at hc; subst hc; exact hs c List.mem_cons_self, by simp⟩
      · rename_i v vs e
        rcases List.mem_cons.mp h with rfl | h
        · have := ih v (by rw [e]; exact List.mem_cons_self)
          refine ⟨fun c hc => ?_, by simpa using this.2⟩
          rcases List.mem_cons.mp hc with rfl | hc
          · exact hs _ List.mem_cons_self
          · exact this.1 c hc
        · have := ih w (by rw [e]; exact List.mem_cons_of_mem _ h)
          exact ⟨this.1, Nat.le_succ_of_le this.2⟩
theorem splitS_count (d : Nat) : ∀ s : List Nat, (splitS d s).length ≤ s.length + 1
  | [] => by simp [splitS]
  | a :: s => by
    have ih := splitS_count d s
    simp only [splitS]
    split
    · simp; omega
    · split
      · simp
      · rename_i v vs e
        rw [e] at ih
        simp at ih ⊢
        omega
end L3
end
section
set_option Elab.async false
set_option linter.all false
set_option maxRecDepth 100000
set_option maxHeartbeats 4000000
/-! LL: the other builtins and the methods by values. -/
namespace L3
open PySem PySem.Spec PyProof.Rows L2
section
variable {X : Cx} {pins : List (Addr × Obj)} {σ : Sg} {H : Hp} {s : Shared} {Z : Lk} {io : List Addr} {L : LH} {E : XK} {Q : VK}
theorem RVs.nil_of {xs : List V} (r : RVs Z io H [] xs) : xs = [] := by cases r; rfl
theorem RVs.one_of {v : VL} {xs : List V} (r : RVs Z io H [v] xs) : ∃ x, xs = [x] ∧ RVl Z io H v x := by
  cases r with
  | cons h t => cases t; exact ⟨_, rfl, h⟩
theorem RVs.two_of {v w : VL} {xs : List V} (r : RVs Z io H [v, w] xs) : ∃ x y, xs = [x, y] ∧ RVl Z io H v x ∧ RVl Z io H w y := by
  cases r with
  | cons h t => cases t with | cons h2 t2 => cases t2; exact ⟨_, _, rfl, h, h2⟩
theorem digits_st (i : Int) : Str.ofString (toString i) = st (digits i) := PySem.Str.ofString_eq_toList _
theorem digits_ok {i : Int} (h : i.natAbs.log2 < 1920) : SOk (digits i) := by
  refine ⟨fun c hc => ?_, ?_⟩
  · obtain ⟨d, hd, rfl⟩ := List.mem_map.mp hc
    exact Nat.lt_trans (int_ascii i d hd) (by decide)
  · have h1 := int_text_fits h
    rw [digits_st, st_length] at h1
    rw [line_eq]; exact h1
theorem cr_int : CallR X (.type "int") (rB Z .int) := by
  intro pins s σ H xs us Q I r h
  obtain ⟨io, L, vxs, E, R, rs, p⟩ := h
  replace p : Post Z (RVl Z) io H (bInt vxs L) Q E := p
  unfold bInt at p
  split at p
  rotate_left 3
  · exact p.elim
  · rename_i i
    obtain ⟨x, rfl, r1⟩ := rs.one_of
    cases r1.int
    exact call_int1 pins s σ H _ us Q I r (.inl ⟨i, rfl, okD p R (.int i)⟩)
  · rename_i b
    obtain ⟨x, rfl, r1⟩ := rs.one_of
    cases r1.bl
    exact call_int1 pins s σ H _ us Q I r (.inr ⟨b, rfl, okD p R (.int _)⟩)
  · rename_i w
    obtain ⟨x, rfl, r1⟩ := rs.one_of
    obtain ⟨rfl, q1⟩ := r1.str
    split at p
    · rename_i n en
      split at p
      · rename_i hz
        exact call_int_str pins s σ H _ us Q I r ⟨st w, n, rfl, en, by rw [st_length]; exact hz, okD p R (.int n)⟩
      · exact p.elim
    · exact p.elim
theorem cr_str : CallR X (.type "str") (rB Z .str) := by
  intro pins s σ H xs us Q I r h
  obtain ⟨io, L, vxs, E, R, rs, p⟩ := h
  replace p : Post Z (RVl Z) io H (bStr vxs L) Q E := p
  unfold bStr at p
  split at p
  rotate_left
  · exact p.elim
  rename_i i
  obtain ⟨x, rfl, r1⟩ := rs.one_of
  cases r1.int
  split at p
  · rename_i hi
    refine call_str_int pins s σ H _ us Q I r ⟨i, rfl, hi, ?_⟩
    show Q (.str (Str.ofString (toString i))) H
    rw [digits_st]
    exact okD p R (.str _ (digits_ok hi))
  · exact p.elim
theorem cr_list (hK : X.K = Z.K) (m : Bool) : CallR X (.type "list") (rB Z (.list m)) := by
  intro pins s σ H xs us Q I r h
  obtain ⟨io, L, vxs, E, R, rs, p⟩ := h
  replace p : Post Z (RVl Z) io H (bList m vxs L) Q E := p
  unfold bList at p
  split at p
  rotate_left
  · exact p.elim
  rename_i v
  obtain ⟨x, rfl, r1⟩ := rs.one_of
  split at p
  · rename_i ys e
    obtain ⟨a, vs, rfl, l1, q1⟩ := seqOf_of R e r1
    refine thn (call_list_of pins s σ H _ us (Fz Q) I r ⟨a, vs, rfl, ?_, fun l hl => fzL p R hl q1⟩) fun _ _ => Fz.ep
    rcases l1 with l1 | l1
    · exact .inl l1.sq
    · exact .inr (hK ▸ l1)
  · exact p.elim
theorem cr_tuple (hK : X.K = Z.K) : CallR X (.type "tuple") (rB Z .tuple) := by
  intro pins s σ H xs us Q I r h
  obtain ⟨io, L, vxs, E, R, rs, p⟩ := h
  replace p : Post Z (RVl Z) io H (bTuple vxs L) Q E := p
  unfold bTuple at p
  split at p
  rotate_left
  · exact p.elim
  rename_i v
  obtain ⟨x, rfl, r1⟩ := rs.one_of
  split at p
  · rename_i ys e
    obtain ⟨a, vs, rfl, l1, q1⟩ := seqOf_of R e r1
    unfold mkT at p
    split at p
    · split at p
      · rename_i ds ed
        rcases l1 with l1 | l1
        · exact call_tuple_of pins s σ H _ us Q I r ⟨a, vs, rfl, .inl ⟨l1.sq, fun l hl => okT p R hl (RVs.all ed q1)⟩⟩
        · exact call_tuple_of pins s σ H _ us Q I r ⟨a, vs, rfl, .inr ⟨hK ▸ l1, okD p R (.tup l1 (RVs.all ed q1))⟩⟩
      · exact p.elim
    · exact p.elim
  · exact p.elim
theorem cr_sumA (hc : X.calm = true) : CallR X (.builtin "sum") (rB Z .sum) := by
  intro pins s σ H xs us Q I r h
  obtain ⟨io, L, vxs, E, R, rs, p⟩ := h
  replace p : Post Z (RVl Z) io H (bSum vxs L) Q E := p
  unfold bSum at p
  split at p
  rotate_left
  · exact p.elim
  rename_i v
  obtain ⟨x, rfl, r1⟩ := rs.one_of
  split at p
  · rename_i ns e
    obtain ⟨ys, e1, e2⟩ := Option.bind_eq_some_iff.mp e
    obtain ⟨a, vs, rfl, l1, q1⟩ := lstOf_of R e1 r1
    have := q1.ofInts e2
    exact cr_sum hc pins s σ H _ us Q I r ⟨a, ns, rfl, this ▸ l1.sq, okD p R (.int _)⟩
  · exact p.elim
theorem cr_allA (hc : X.calm = true) : CallR X (.builtin "all") (rB Z .all) := by
  intro pins s σ H xs us Q I r h
  obtain ⟨io, L, vxs, E, R, rs, p⟩ := h
  replace p : Post Z (RVl Z) io H (bAll vxs L) Q E := p
  unfold bAll at p
  split at p
  rotate_left
  · exact p.elim
  rename_i v
  obtain ⟨x, rfl, r1⟩ := rs.one_of
  split at p
  · rename_i ns e
    obtain ⟨ys, e1, e2⟩ := Option.bind_eq_some_iff.mp e
    obtain ⟨a, vs, rfl, l1, q1⟩ := lstOf_of R e1 r1
    have := q1.ofBools e2
    exact cr_all hc pins s σ H _ us Q I r ⟨a, ns, rfl, this ▸ l1.sq, okD p R (.bl _)⟩
  · exact p.elim
theorem cr_anyA (hc : X.calm = true) : CallR X (.builtin "any") (rB Z .any) := by
  intro pins s σ H xs us Q I r h
  obtain ⟨io, L, vxs, E, R, rs, p⟩ := h
  replace p : Post Z (RVl Z) io H (bAny vxs L) Q E := p
  unfold bAny at p
  split at p
  rotate_left
  · exact p.elim
  rename_i v
  obtain ⟨x, rfl, r1⟩ := rs.one_of
  split at p
  · rename_i ns e
    obtain ⟨ys, e1, e2⟩ := Option.bind_eq_some_iff.mp e
    obtain ⟨a, vs, rfl, l1, q1⟩ := lstOf_of R e1 r1
    have := q1.ofBools e2
    exact cr_any hc pins s σ H _ us Q I r ⟨a, ns, rfl, this ▸ l1.sq, okD p R (.bl _)⟩
  · exact p.elim
theorem cr_maxA (hc : X.calm = true) : CallR X (.builtin "max") (rB Z .max) := by
  intro pins s σ H xs us Q I r h
  obtain ⟨io, L, vxs, E, R, rs, p⟩ := h
  replace p : Post Z (RVl Z) io H (bMax vxs L) Q E := p
  unfold bMax at p
  split at p
  rotate_left
  · exact p.elim
  rename_i i j
  obtain ⟨x, y, rfl, r1, r2⟩ := rs.two_of
  cases r1.int; cases r2.int
  exact call_max2 hc pins s σ H _ us Q I r ⟨i, j, rfl, okD p R (.int _)⟩
theorem cr_minA (hc : X.calm = true) : CallR X (.builtin "min") (rB Z .min) := by
  intro pins s σ H xs us Q I r h
  obtain ⟨io, L, vxs, E, R, rs, p⟩ := h
  replace p : Post Z (RVl Z) io H (bMin vxs L) Q E := p
  unfold bMin at p
  split at p
  rotate_left
  · exact p.elim
  rename_i i j
  obtain ⟨x, y, rfl, r1, r2⟩ := rs.two_of
  cases r1.int; cases r2.int
  exact call_min2 hc pins s σ H _ us Q I r ⟨i, j, rfl, okD p R (.int _)⟩
theorem py_noDict : ∀ (d : D) (n : Nat), D.okq n d = true → (py d).hasDict = false
  | .non, _, _ | .bl _, _, _ | .int _, _, _ | .str _, _, _ => rfl
  | .tup xs, 0, h | .lst xs, 0, h => by simp [D.okq] at h
  | .tup xs, n + 1, h | .lst xs, n + 1, h => by
    have : ∀ (ds : List D), D.okqs n ds = true → PyData.hasDictAll (pys ds) = false := by
      intro ds
      induction ds with
      | nil => intro _; rfl
      | cons d ds ih =>
        intro h
        have h' : D.okq n d = true ∧ D.okqs n ds = true := by simpa [D.okqs] using h
        simp only [pys, PyData.hasDictAll]
        rw [py_noDict d n h'.1, ih h'.2]; rfl
    exact this xs (by simpa [D.okq] using h)
  | .dct _ _, _, h | .obj _ _ _, _, h | .cls _, _, h | .scr _, _, h => by simp [D.okq] at h
theorem ofLit (x : String) (l : List Nat) (h : (Str.ofString x).cps.toList = l) : Str.ofString x = st l := by
  subst h; cases (Str.ofString x) ; simp [st]
theorem cr_repr (hK : X.K = Z.K) (hg : X.A.guards = some []) (hu : X.A.units + 66 < cLine) : CallR X (.builtin "repr") (rB Z .repr) := by
  intro pins s σ H xs us Q I r h
  obtain ⟨io, L, vxs, E, R, rs, p⟩ := h
  replace p : Post Z (RVl Z) io H (bRepr vxs L) Q E := p
  unfold bRepr at p
  split at p
  rotate_left
  · exact p.elim
  rename_i v
  obtain ⟨x, rfl, r1⟩ := rs.one_of
  split at p
  · rename_i d e
    split at p
    · rename_i hs
      obtain ⟨o1, o2, o3⟩ := hs
      obtain ⟨p1, p2, p3⟩ := dv_of R dvLim eqLim e r1 o1
      obtain ⟨u, rfl, ru⟩ := vals1 r
      obtain ⟨as, rr⟩ := Dp.reads I _ x u (hK ▸ p1) ru
      have q : Q (.str (PyData.shown (py d))) H := by
        have e2 : PyData.shown (py d) = st d.shown := by
          unfold D.shown st
          cases PyData.shown (py d); simp
        rw [e2]
        exact okD p R (.str _ o3)
      have hz : (PyData.shown (py d)).length ≤ sizeLine := by
        have := o3.2
        rw [← line_eq]
        unfold D.shown at this
        show (PyData.shown (py d)).cps.size ≤ lim
        simpa using this
      have ref : ∀ a, u = .ref a → wpAny (model X.prog X.w) X.A (call (.builtin "repr") [u]) (EP X pins σ Q) X.xe s := by
        rintro a rfl
        refine repr_of_reads' rr o2 (fun hd => by rw [py_noDict d eqLim o1] at hd; cases hd) hg (by have h60 : eqLim = 60 := rfl; omega) (fun _ _ q => q) (fun h' t tk hk => ⟨.str _, H, I.kept hk, ⟨_, rfl⟩, q⟩) hz
      cases u with
      | ref a => exact ref a rfl
      | none =>
        cases d with
        | non => exact PySem.P.repr_of_none ⟨.str _, H, I.tok _, ⟨_, rfl⟩, q⟩
        | _ => first | (simp [D.okq] at o1; done) | cases rr
      | bool b =>
        cases d with
        | bl c => cases rr; exact PySem.P.repr_of_bool ⟨.str _, H, I.tok _, ⟨_, rfl⟩, by cases b <;> exact q⟩
        | _ => first | (simp [D.okq] at o1; done) | cases rr
      | int i t =>
        cases d with
        | int j => cases rr; exact PySem.P.repr_of_int (by simpa [py, PyData.showable] using o2) ⟨.str _, H, I.tok _, ⟨_, rfl⟩, q⟩
        | _ => first | (simp [D.okq] at o1; done) | cases rr
      | str w t =>
        cases d with
        | str j => cases rr; exact PySem.P.repr_of_str ⟨.str _, H, I.tok _, ⟨_, rfl⟩, q⟩ hz
        | _ => first | (simp [D.okq] at o1; done) | cases rr
      | _ => cases d <;> first | (simp [D.okq] at o1; done) | cases rr
    · exact p.elim
  · exact p.elim
theorem isTupC_py {a : D} (h : (match a with | .tup (_ :: _) => true | _ => false) = true) : ∃ x r, py a = .tuple (x :: r) := by
  cases a with
  | tup xs => cases xs with
    | nil => cases h
    | cons x xs => exact ⟨py x, pys xs, rfl⟩
  | _ => cases h
theorem notTN_py {n : Nat} {a : D} (h : (match a with | .tup _ | .non => false | _ => true) = true) (o : D.okq n a = true) : py a ≠ .none ∧ ∀ xs, py a ≠ .tuple xs := by
  cases a with
  | tup xs => cases h
  | non => cases h
  | bl b => exact ⟨by simp [py], fun xs => by simp [py]⟩
  | int b => exact ⟨by simp [py], fun xs => by simp [py]⟩
  | str b => exact ⟨by simp [py], fun xs => by simp [py]⟩
  | lst b => exact ⟨by simp [py], fun xs => by simp [py]⟩
  | _ => cases n <;> simp [D.okq] at o
theorem okqs_mem : ∀ {ds : List D} {n : Nat}, D.okqs n ds = true → ∀ d ∈ ds, D.okq n d = true
  | [], _, _, d, hd => by cases hd
  | x :: xs, n, h, d, hd => by
    have h' : D.okq n x = true ∧ D.okqs n xs = true := by simpa [D.okqs] using h
    rcases List.mem_cons.mp hd with rfl | hd
    · exact h'.1
    · exact okqs_mem h'.2 d hd
theorem sortB_ok {ds : List D} {n : Nat} (o : D.okqs n ds = true) (h : sortB ds = true) : PySem.W.AllAlike (ds.map py) ∧ PySem.W.Sortable (ds.map py) := by
  unfold sortB at h
  simp only [Bool.and_eq_true, Bool.or_eq_true, List.all_eq_true] at h
  obtain ⟨h1, h2⟩ := h
  refine ⟨fun d hd d' hd' => ?_, ?_⟩
  · obtain ⟨a, ha, rfl⟩ := List.mem_map.mp hd
    obtain ⟨b, hb, rfl⟩ := List.mem_map.mp hd'
    exact h1 a ha b hb
  · rcases h2 with h2 | h2
    · refine .inl fun d hd => ?_
      obtain ⟨a, ha, rfl⟩ := List.mem_map.mp hd
      exact isTupC_py (h2 a ha)
    · refine .inr fun d hd => ?_
      obtain ⟨a, ha, rfl⟩ := List.mem_map.mp hd
      exact notTN_py (h2 a ha) (okqs_mem o a ha)
/-- values, abstract values and data side by side -/
theorem three {H : Hp} {s : Shared} {pins : List (Addr × Obj)} {σ : Sg} (hK : X.K = Z.K) (I : Inv X pins σ H s) : ∀ {ds : List D} {vs : List V} {its : List Value}, D.okqs eqLim ds = true → RDs Z H ds vs → Vals vs its →
    PySem.W.EachIs (fun (u : Value) (p : V × D) => RelV p.1 u) its (vs.zip ds) ∧ PySem.W.EachIs (fun (u : Value) (p : V × D) => ∃ as, Reads s.heap u (py p.2) as) its (vs.zip ds) ∧ (vs.zip ds).map (·.2) = ds ∧ ∀ p ∈ vs.zip ds, RD Z H p.2 p.1 ∧ (py p.2).depth ≤ eqLim
  | [], _, _, _, h, r => by
    cases h
    cases r
    exact ⟨.nil, .nil, rfl, fun p hp => by cases hp⟩
  | d :: ds, _, _, o, h, r => by
    have o' : D.okq eqLim d = true ∧ D.okqs eqLim ds = true := by simpa [D.okqs] using o
    cases h with
    | cons h1 h2 =>
      cases r with
      | cons r1 r2 =>
        obtain ⟨a, b, c, e⟩ := three hK I o'.2 h2 r2
        obtain ⟨p1, p2, p3⟩ := Dp_of eqLim h1 o'.1
        obtain ⟨as, rr⟩ := Dp.reads I _ _ _ (hK ▸ p1) r1
        refine ⟨.cons r1 a, .cons ⟨as, rr⟩ b, by rw [List.zip_cons_cons, List.map_cons, c], fun p hp => ?_⟩
        rcases List.mem_cons.mp hp with rfl | hp
        · exact ⟨h1, p3⟩
        · exact e p hp
theorem each_vals : ∀ {its : List Value} {ps : List (V × D)}, PySem.W.EachIs (fun (u : Value) (p : V × D) => RelV p.1 u) its ps → Vals (ps.map (·.1)) its
  | _, _, .nil => .nil
  | _, _, .cons h t => .cons h (each_vals t)
theorem rds_pairs {H : Hp} : ∀ {ps : List (V × D)}, (∀ p ∈ ps, RD Z H p.2 p.1) → RDs Z H (ps.map (·.2)) (ps.map (·.1))
  | [], _ => .nil
  | p :: ps, h => .cons (h p List.mem_cons_self) (rds_pairs fun q hq => h q (List.mem_cons_of_mem _ hq))
theorem cr_sorted (hK : X.K = Z.K) (hu : X.A.units + 66 < cLine) (m : Bool) : CallR X (.builtin "sorted") (rB Z (.sorted m)) := by
  intro pins s σ H xs us Q I r h
  obtain ⟨io, L, vxs, E, R, rs, p⟩ := h
  replace p : Post Z (RVl Z) io H (bSorted m vxs L) Q E := p
  unfold bSorted at p
  split at p
  rotate_left
  · exact p.elim
  rename_i v
  obtain ⟨x, rfl, r1⟩ := rs.one_of
  split at p
  rotate_left
  · exact p.elim
  rename_i ys e
  split at p
  rotate_left
  · exact p.elim
  rename_i ds ed
  split at p
  rotate_left
  · exact p.elim
  rename_i hc
  simp only [Bool.and_eq_true] at hc
  unfold lstOf at e
  split at e
  rotate_left
  · cases e
  rename_i hl
  obtain ⟨a, vs, rfl, l1, q1⟩ := isL_of R hl e r1
  obtain ⟨u, rfl, ru⟩ := vals1 r
  cases ru
  obtain ⟨hz, its, n, rv, hn, he⟩ := Inv.lany I l1
  have rd := RVs.all ed q1
  obtain ⟨t1, t2, t3, t4⟩ := three hK I hc.1 rd rv
  obtain ⟨s1, s2⟩ := sortB_ok hc.1 hc.2
  have em : (vs.zip ds).map (fun p => py p.2) = ds.map py := by
    conv => rhs; rw [← t3, List.map_map]
    rfl
  have hzl : (vs.zip ds).length = vs.length := by rw [List.length_zip, rd.length, Nat.min_self]
  refine PySem.W.sorted_data (enc := fun p : V × D => py p.2) (R := fun u p => RelV p.1 u) (vs := its) (bs := vs.zip ds) ⟨_, he, rfl, _, rfl⟩ t1 t2 (em ▸ s1) (em ▸ s2) (by rw [hzl]; exact hz) (fun b hb => ?_) fun out ho eo => ?_
  · have := (t4 b hb).2
    have h60 : eqLim = 60 := rfl
    omega
  have ev := each_vals eo
  have perm : ∀ q ∈ (vs.zip ds).mergeSort (PySem.W.dataLe false fun p : V × D => py p.2), RD Z H q.2 q.1 := fun q hq => (t4 q (List.mem_mergeSort.mp hq)).1
  have rq := rds_pairs perm
  have es : ((vs.zip ds).mergeSort (PySem.W.dataLe false fun p : V × D => py p.2)).map (·.2) = ds.mergeSort (PySem.W.dataLe false py) := by
    have := PySem.W.sort_maps (fun p : V × D => p.2) (r := PySem.W.dataLe false fun p : V × D => py p.2) (s := PySem.W.dataLe false py) (l := vs.zip ds) (fun a _ b _ => rfl)
    rw [t3] at this
    exact this
  rw [es] at rq
  obtain ⟨c, hcc⟩ := sortedAll_at s.heap its out.toArray
  obtain ⟨hz2, q⟩ := okL p R (p := s.heap.objs.size + 1) (I.hok.fresh (Nat.le_succ _)) (.of_ds rq)
  rw [List.length_map] at hz2
  have lv : (((vs.zip ds).mergeSort (PySem.W.dataLe false fun p : V × D => py p.2)).map (·.1)).length ≤ sizeLine := by
    rw [← rq.length, ← line_eq]; exact hz2
  rcases q with q | q
  · exact ⟨.ref _, _, I.laid (t' := s.toks) (o := .lst (((vs.zip ds).mergeSort (PySem.W.dataLe false fun p : V × D => py p.2)).map (·.1))) (fun _ _ q => sortedAll_old q) (Nat.le_succ _) (show _ ∧ _ from ⟨lv, out, c, ev, hcc⟩), rfl, q⟩
  · refine ⟨.ref _, _, I.laid (t' := s.toks) (o := .frz (seqObj "list" out.toArray c) (.lst (((vs.zip ds).mergeSort (PySem.W.dataLe false fun p : V × D => py p.2)).map (·.1)))) (fun _ _ q => sortedAll_old q) (Nat.le_succ _) (show _ ∧ _ from ⟨hcc, lv, out, c, ev, hcc⟩), rfl, q (seqObj "list" out.toArray c)⟩
end
end L3
end
section
set_option Elab.async false
set_option linter.all false
set_option maxRecDepth 100000
set_option maxHeartbeats 4000000
/-! LM: methods by values. -/
namespace L3
open PySem PySem.Spec PyProof.Rows L2
/-- a method's call by values -/
def rM (Z : Lk) (m : MF) : V → List V → Hp → VK → Prop := fun x xs H Q => ∃ io L vx vxs E, Rep Z io H L ∧ RVl Z io H vx x ∧ RVs Z io H vxs xs ∧ Post Z (RVl Z) io H (mfun m vx vxs L) Q E
section
variable {X : Cx} {pins : List (Addr × Obj)} {σ : Sg} {H : Hp} {s : Shared} {Z : Lk} {io : List Addr} {L : LH} {E : XK} {Q : VK}
/-- a tracked list is written: what is handed back stands -/
theorem okW {n : Nat} {a : Addr} {ys : List VL} {vs ws : List V} {v : VL} {x : V} (h : Post Z (RVl Z) io H (.ok v (L.set n (.lst ys))) Q E) (R : Rep Z io H L) (ha : io[n]? = some a) (hl : H a = some (.lst vs)) (r : RVs Z io H ys ws) (rv : RVl Z io H v x) : Q x (upd H a (.lst ws)) := by
  have P : Persist H (upd H a (.lst ws)) := Persist.write (by rw [hl]; trivial)
  have e : Ext io H io (upd H a (.lst ws)) := Ext.write ha (by rw [hl]; trivial)
  exact h io x _ e (R.write ha P ⟨ws, upd_same, r.ext e⟩) (rv.ext e)
theorem lst_at (R : Rep Z io H L) {n : Nat} {xs : List VL} {x : V} (e : L[n]? = some (.lst xs)) (r : RVl Z io H (.r n) x) : ∃ a vs, x = .ref a ∧ io[n]? = some a ∧ H a = some (.lst vs) ∧ RVs Z io H xs vs := by
  cases r with
  | r hq =>
    rename_i a
    obtain ⟨b, q', vs, d1, d2⟩ := R.get e
    rw [hq] at q'; cases q'
    exact ⟨a, vs, rfl, hq, d1, d2⟩
theorem mt_appendA : MtM X "list.append" (rM Z .append) := by
  intro pins s σ H x xs v us Q I rx rs h
  obtain ⟨io, L, vx, vxs, E, R, r1, r2, p⟩ := h
  replace p : Post Z (RVl Z) io H (mAppend vx vxs L) Q E := p
  unfold mAppend at p
  split at p
  rotate_left
  · exact p.elim
  rename_i n y
  split at p
  rotate_left
  · exact p.elim
  rename_i zs e
  split at p
  rotate_left
  · exact p.elim
  rename_i hz
  obtain ⟨a, vs, rfl, ha, hl, rv⟩ := lst_at R e r1
  obtain ⟨w, rfl, rw'⟩ := r2.one_of
  exact mt_append pins s σ H _ _ v us Q I rx rs ⟨a, vs, w, rfl, rfl, hl, by rw [← rv.length, ← line_eq]; exact hz, okW (v := .d .non) p R ha hl (rv.append (.cons rw' .nil)) (.d .non)⟩
theorem mt_popA : MtM X "list.pop" (rM Z .pop) := by
  intro pins s σ H x xs v us Q I rx rs h
  obtain ⟨io, L, vx, vxs, E, R, r1, r2, p⟩ := h
  replace p : Post Z (RVl Z) io H (mPop vx vxs L) Q E := p
  unfold mPop at p
  split at p
  rotate_left
  · exact p.elim
  rename_i n
  split at p
  rotate_left
  · exact p.elim
  rename_i zs e
  split at p
  rotate_left
  · exact p.elim
  rename_i y hy
  obtain ⟨a, vs, rfl, ha, hl, rv⟩ := lst_at R e r1
  have := r2.nil_of
  subst this
  rw [List.getLast?_eq_getElem?] at hy
  obtain ⟨z, e1, e2⟩ := rv.get hy
  rw [rv.length] at e1
  refine mt_pop pins s σ H _ _ v us Q I rx rs ⟨a, vs, z, rfl, rfl, hl, e1, okW p R ha hl ?_ e2⟩
  rw [List.dropLast_eq_take, List.dropLast_eq_take, ← rv.length]
  exact rv.take _
theorem mt_extendA : MtM X "list.extend" (rM Z .extend) := by
  intro pins s σ H x xs v us Q I rx rs h
  obtain ⟨io, L, vx, vxs, E, R, r1, r2, p⟩ := h
  replace p : Post Z (RVl Z) io H (mExtend vx vxs L) Q E := p
  unfold mExtend at p
  split at p
  rotate_left
  · exact p.elim
  rename_i n y
  split at p
  rotate_left
  · exact p.elim
  rename_i zs ts e e2
  split at p
  rotate_left
  · exact p.elim
  rename_i hz
  obtain ⟨a, vs, rfl, ha, hl, rv⟩ := lst_at R e r1
  obtain ⟨w, rfl, rw'⟩ := r2.one_of
  obtain ⟨b, ws, rfl, hb, rb⟩ := lstOf_of R e2 rw'
  cases rx
  obtain ⟨u, rfl, ru⟩ := rs.one
  cases ru
  obtain ⟨z, its, k, q1, hl1, e1⟩ := I.lstM hl
  obtain ⟨z2, its2, k2, q2, hl2, e3⟩ := Inv.lany I hb
  have tot : vs.length + ws.length ≤ sizeLine := by rw [← rv.length, ← rb.length, ← line_eq]; exact hz.1
  have small : its.toArray.size + its2.toArray.size ≤ sizeLine := by rw [List.size_toArray, List.size_toArray]; omega
  have fits : ¬ (!its.toArray.isEmpty && Builtin.List.listTooLong (its.toArray.size + its2.toArray.size)) = true := by rw [notLongL small, Bool.and_false]; decide
  refine call_meets F.slot_list_extend ⟨_, e1, rfl⟩ F.entry_list_extend (F.args_list_extend_2 _ _) (AutoSeq1.list_extend_list_list_0 a its.toArray k b its2.toArray k2 fits (by rw [List.size_toArray]; omega) (by omega)) ⟨e1, e3, ?_⟩
  exact ⟨.non, _, I.lset (its' := its ++ its2) hl e1 (by simp) (q1.append q2) (by rw [List.length_append]; exact tot), rfl, okW (v := .d .non) p R ha hl (rv.append rb) (.d .non)⟩
theorem one_sign {c : List Nat} (h : c.length = 1) : st c = ⟨#[c.headD 0]⟩ := by
  cases c with
  | nil => simp at h
  | cons a t =>
    cases t with
    | nil => rfl
    | cons _ _ => simp at h
theorem mt_sindexA : MtR X "str.index" (rM Z .sindex) := by
  intro pins s σ H x xs v us Q I rx rs h
  obtain ⟨io, L, vx, vxs, E, R, r1, r2, p⟩ := h
  replace p : Post Z (RVl Z) io H (mSindex vx vxs L) Q E := p
  unfold mSindex at p
  split at p
  rotate_left
  · exact p.elim
  rename_i w c
  split at p
  rotate_left
  · exact p.elim
  rename_i hc
  obtain ⟨rfl, q1⟩ := r1.str
  obtain ⟨y, rfl, rw'⟩ := r2.one_of
  obtain ⟨rfl, q2⟩ := rw'.str
  refine mt_sindex pins s σ H _ _ v us Q I rx rs ⟨st w, st c, w.idxOf (c.headD 0), [], rfl, rfl, ?_, okD p R (.int _)⟩
  rw [one_sign hc.1, occ_idx w _ hc.2]
theorem mt_joinA (hK : X.K = Z.K) : MtR X "str.join" (rM Z .join) := by
  intro pins s σ H x xs v us Q I rx rs h
  obtain ⟨io, L, vx, vxs, E, R, r1, r2, p⟩ := h
  replace p : Post Z (RVl Z) io H (mJoin vx vxs L) Q E := p
  unfold mJoin at p
  split at p
  rotate_left
  · exact p.elim
  rename_i w y
  split at p
  rotate_left
  · exact p.elim
  rename_i ts e
  split at p
  rotate_left
  · exact p.elim
  rename_i hz
  obtain ⟨ys, e1, e2⟩ := Option.bind_eq_some_iff.mp e
  obtain ⟨rfl, q1⟩ := r1.str
  obtain ⟨z, rfl, rw'⟩ := r2.one_of
  obtain ⟨a, vs, rfl, l1, q2⟩ := seqOf_of R e1 rw'
  obtain ⟨e3, q3⟩ := q2.ofStrs e2
  have hsum : ((ts.map st).map (·.length)).sum + (ts.map st).length * (st w).length = (ts.map fun t => t.length + w.length).sum := by
    clear e e2 e3 hz q3 p
    induction ts with
    | nil => simp
    | cons t ts ih =>
      simp only [List.map_cons, List.sum_cons, List.length_cons, Nat.succ_mul] at ih ⊢
      rw [st_length] at ih ⊢
      rw [st_length]
      omega
  refine mt_join pins s σ H _ _ v us Q I rx rs ⟨st w, a, ts.map st, rfl, rfl, ?_, by rw [hsum]; exact hz, ?_⟩
  · rw [← e3]
    rcases l1 with l1 | l1
    · exact .inl l1.sq
    · exact .inr (hK ▸ l1)
  · show Q (.str (PySem.Txt.join (st w) (ts.map st))) H
    have ej : PySem.Txt.join (st w) (ts.map st) = st (joinS w ts) := by
      show Builtin.Str.glued (st w) (ts.map st) = _
      rw [PySem.StrLaws.glued_eq_join]
      exact join_st w ts
    rw [ej]
    exact okD p R (.str _ ⟨joinS_ok w q1.1 ts fun t ht => (q3 t ht).1, Nat.le_trans (joinS_length w ts) hz⟩)
theorem RVs.of_strs : ∀ {ws : List (List Nat)}, (∀ w ∈ ws, SOk w) → RVs Z io H (ws.map fun w => VL.d (.str w)) (ws.map fun w => V.str (st w))
  | [], _ => .nil
  | w :: ws, h => .cons (.d (.str w (h w List.mem_cons_self))) (RVs.of_strs fun v hv => h v (List.mem_cons_of_mem _ hv))
theorem mt_splitA (m : Bool) : MtR X "str.split" (rM Z (.split m)) := by
  intro pins s σ H x xs v us Q I rx rs h
  obtain ⟨io, L, vx, vxs, E, R, r1, r2, p⟩ := h
  replace p : Post Z (RVl Z) io H (mSplit m vx vxs L) Q E := p
  unfold mSplit at p
  split at p
  rotate_left
  · exact p.elim
  rename_i w c
  split at p
  rotate_left
  · exact p.elim
  rename_i hc
  obtain ⟨rfl, q1⟩ := r1.str
  obtain ⟨y, rfl, rw'⟩ := r2.one_of
  obtain ⟨rfl, q2⟩ := rw'.str
  refine thn (mt_split pins s σ H _ _ v us (Fz Q) I rx rs ⟨st w, st c, rfl, rfl, ?_, by rw [st_length, ← line_eq]; exact hc.2, fun q hq => ?_⟩) fun _ _ => Fz.ep
  · rw [st_length, hc.1]; rfl
  · rw [one_sign hc.1, split_st]
    have := fzL (vs := (splitS (c.headD 0) w).map fun w => V.str (st w)) p R hq (RVs.of_strs fun z hz => ⟨(splitS_ok _ w q1.1 z hz).1, Nat.le_trans (splitS_ok _ w q1.1 z hz).2 q1.2⟩)
    rw [List.map_map]; exact this
theorem firstAt_spec (x : D) : ∀ (ds : List D) (i j : Nat), firstAt x ds i = some j → i ≤ j ∧ (∃ z, ds[j - i]? = some z ∧ D.eqv z x = true) ∧ ∀ m z, m < j - i → ds[m]? = some z → D.eqv z x = false
  | [], _, _, h => by simp [firstAt] at h
  | d :: ds, i, j, h => by
    simp only [firstAt] at h
    by_cases hd : D.eqv d x = true
    · rw [if_pos hd] at h
      cases h
      exact ⟨Nat.le_refl _, ⟨d, by simp, hd⟩, fun m z hm => absurd hm (by omega)⟩
    · rw [if_neg hd] at h
      obtain ⟨h1, ⟨z, h2, h3⟩, h4⟩ := firstAt_spec x ds (i + 1) j h
      have e : j - i = (j - (i + 1)) + 1 := by omega
      refine ⟨by omega, ⟨z, by rw [e, List.getElem?_cons_succ]; exact h2, h3⟩, fun m y hm hy => ?_⟩
      cases m with
      | zero => simp at hy; subst hy; simpa using hd
      | succ m => exact h4 m y (by omega) (by simpa using hy)
theorem mt_lindexA (hK : X.K = Z.K) (hu : X.A.units + 66 < cLine) : MtR X "list.index" (rM Z .lindex) := by
  intro pins s σ H x xs v us Q I rx rs h
  obtain ⟨io, L, vx, vxs, E, R, r1, r2, p⟩ := h
  replace p : Post Z (RVl Z) io H (mLindex vx vxs L) Q E := p
  unfold mLindex at p
  split at p
  rotate_left
  · exact p.elim
  rename_i k
  split at p
  rotate_left
  · exact p.elim
  rename_i ds e
  split at p
  rotate_left
  · exact p.elim
  rename_i hc
  simp only [Bool.and_eq_true] at hc
  split at p
  rotate_left
  · exact p.elim
  rename_i j ej
  obtain ⟨ys, e1, e2⟩ := Option.bind_eq_some_iff.mp e
  obtain ⟨a, vs, rfl, l1, q1⟩ := lstOf_of R e1 r1
  obtain ⟨y, rfl, rw'⟩ := r2.one_of
  obtain ⟨b1, b2, b3⟩ := dvs_of R dvLim eqLim e2 q1 hc.1
  cases rw' with
  | d rk =>
    obtain ⟨c1, c2, c3⟩ := Dp_of eqLim rk hc.2
    obtain ⟨_, ⟨z, h2, h3⟩, h4⟩ := firstAt_spec k ds 0 j ej
    rw [Nat.sub_zero] at h2
    have okz : ∀ (m : Nat) (z : D), ds[m]? = some z → D.okq eqLim z = true := fun m z hz => by
      have : ∀ (ds : List D), D.okqs eqLim ds = true → ∀ z ∈ ds, D.okq eqLim z = true := by
        intro ds
        induction ds with
        | nil => intro _ z hz; nomatch hz
        | cons d ds ih =>
          intro h z hz
          have h' : D.okq eqLim d = true ∧ D.okqs eqLim ds = true := by simpa [D.okqs] using h
          rcases List.mem_cons.mp hz with rfl | hz
          · exact h'.1
          · exact ih h'.2 z hz
      exact this ds hc.1 z (List.mem_of_getElem? hz)
    have hu' : X.A.units + 65 < cLine := by omega
    have h60 : eqLim = 60 := rfl
    refine mt_indexD hu' pins s σ H _ _ v us Q I rx rs ⟨a, y, py k, pys ds, j, py z, rfl, rfl, hK ▸ .lst (l1.sq (K := Z.K)) b1, hK ▸ c1, ?_, shaped_of c2 c3 (by decide), by rw [pys_map, List.getElem?_map, h2]; rfl, by rw [py_eqv z k eqLim eqLim (okz _ _ h2) hc.2]; exact h3, fun m z' hm hz' => ?_, okD p R (.int _)⟩
    · unfold SeqAt.shaped
      rw [show PyData.canLay0 (.list (pys ds)) = true by simpa [PyData.canLay0] using b2, Bool.true_and]
      exact decide_eq_true (by simp only [PyData.depth]; omega)
    · rw [pys_map, List.getElem?_map] at hz'
      obtain ⟨w, hw, rfl⟩ := Option.map_eq_some_iff.mp hz'
      rw [py_eqv w k eqLim eqLim (okz _ _ hw) hc.2]
      exact h4 m w (by omega) hw
theorem mt_getA (hK : X.K = Z.K) (hw : X.w = Z.w) (hu : X.A.units + 66 < cLine) : MtR X "dict.get" (rM Z .get) := by
  intro pins s σ H x xs v us Q I rx rs h
  obtain ⟨io, L, vx, vxs, E, R, r1, r2, p⟩ := h
  replace p : Post Z (RVl Z) io H (mGet vx vxs L) Q E := p
  unfold mGet at p
  split at p
  · rename_i ks vs k e
    split at p
    rotate_left
    · exact p.elim
    rename_i ok
    obtain ⟨a, es, rfl, ha, g, q1, q2⟩ := dctOf_of R e r1
    obtain ⟨y, rfl, rw'⟩ := r2.one_of
    obtain ⟨u, rfl, ru⟩ := rs.one
    cases rw' with
    | d rk =>
      obtain rfl : v = Value.ref a := rx
      refine dict_getd I hK hw hu (.inl rfl) ha g q1 ok rk ru fun t => ?_
      rcases look_rel (k := k) (rkeys_len q1) q2 with ⟨p1, p2, _⟩ | ⟨v', w, vx', p1, p2, p3, p4, _⟩
      · rw [p1] at p; rw [p2]
        exact ⟨.non, H, I.tok _, rfl, okD p R .non⟩
      · rw [p1] at p; rw [p2]
        exact ⟨vx', H, I.tok _, p4, p io vx' H .refl R p3⟩
  · rename_i ks vs k y e
    split at p
    rotate_left
    · exact p.elim
    rename_i ok
    obtain ⟨a, es, rfl, ha, g, q1, q2⟩ := dctOf_of R e r1
    obtain ⟨x1, x2, rfl, r3, r4⟩ := r2.two_of
    obtain ⟨u1, u2, rfl, ru1, ru2⟩ := rs.two
    cases r3 with
    | d rk =>
      obtain rfl : v = Value.ref a := rx
      refine dict_getd I hK hw hu (.inr ⟨u2, rfl⟩) ha g q1 ok rk ru1 fun t => ?_
      rcases look_rel (k := k) (rkeys_len q1) q2 with ⟨p1, p2, _⟩ | ⟨v', w, vx', p1, p2, p3, p4, _⟩
      · rw [p1] at p; rw [p2]
        exact ⟨x2, H, I.tok _, ru2, p io x2 H .refl R r4⟩
      · rw [p1] at p; rw [p2]
        exact ⟨vx', H, I.tok _, p4, p io vx' H .refl R p3⟩
  · exact p.elim
end
end L3
end
section
set_option Elab.async false
set_option linter.all false
set_option maxRecDepth 100000
set_option maxHeartbeats 4000000
/-! LN: the readings of expressions, from those of their parts. -/
namespace L3
open PySem PySem.Spec PyProof.Rows L2
/-- an expression whose value is f -/
abbrev RE (X : Cx) (Z : Lk) (W : WX) (e : Expr) (f : Env → LH → Res VL) : Prop := PE X e (tR Z W (RVl Z) f)
abbrev RA (X : Cx) (Z : Lk) (W : WX) (es : List Expr) (f : Env → LH → Res (List VL)) : Prop := PA X es (tR Z W (RVs Z) f)
def REq {α : Type} : List Addr → Hp → α → α → Prop := fun _ _ a b => a = b
abbrev RT (X : Cx) (Z : Lk) (W : WX) (e : Expr) (f : Env → LH → Res Bool) : Prop := PT X e (tR Z W REq f)
def Mo {α β : Type} (rel : List Addr → Hp → α → β → Prop) : Prop := ∀ {io H io' H' v x}, Ext io H io' H' → rel io H v x → rel io' H' v x
theorem mo_v {Z : Lk} : Mo (RVl Z) := fun x r => r.ext x
theorem mo_vs {Z : Lk} : Mo (RVs Z) := fun x r => r.ext x
theorem mo_eq {α : Type} : Mo (REq (α := α)) := fun _ r => r
section
variable {α β γ δ α' β' : Type} {Z : Lk} {W : WX} {rel : List Addr → Hp → α → β → Prop} {rel' : List Addr → Hp → α' → β' → Prop} {rel2 : List Addr → Hp → γ → δ → Prop} {σ : Sg} {H : Hp} {Q : δ → Hp → Prop}
/-- the rest is a reading again -/
theorem tR_bindR {f : Env → LH → Res α} {g : Env → LH → Res γ} (h : tR Z W rel2 (fun ρ L => (f ρ L).bind fun _ L => g ρ L) σ H Q) : tR Z W rel f σ H (fun _ H' => tR Z W rel2 g σ H' Q) :=
  tR_imp (tR_bind h) fun _ _ ⟨io, ρ, _, L, R, S, _, p⟩ => ⟨io, ρ, L, R, S, p⟩
/-- two in a row, then an operation -/
theorem tR_two (m : Mo rel) {f : Env → LH → Res α} {g : Env → LH → Res α'} {k : α → α' → LH → Res γ} (h : tR Z W rel2 (fun ρ L => (f ρ L).bind fun x L => (g ρ L).bind fun y L => k x y L) σ H Q) :
    tR Z W rel f σ H fun x H1 => tR Z W rel' g σ H1 fun y H2 => ∃ io L vx vy E, Rep Z io H2 L ∧ rel io H2 vx x ∧ rel' io H2 vy y ∧ Post Z rel2 io H2 (k vx vy L) Q E := by
  refine tR_imp (tR_bind h) fun x H1 ⟨io, ρ, v, L, R, S, r, p⟩ => ?_
  exact ⟨io, ρ, L, R, S, p.bind.imp (fun y H2 ⟨i, w, L', xt, R', r', q⟩ => ⟨i, L', v, w, _, R', m xt r, r', q⟩) fun _ _ _ q => q⟩
/-- one, then an operation -/
theorem tR_one {f : Env → LH → Res α} {k : α → LH → Res γ} (h : tR Z W rel2 (fun ρ L => (f ρ L).bind fun x L => k x L) σ H Q) :
    tR Z W rel f σ H fun x H1 => ∃ io L vx E, Rep Z io H1 L ∧ rel io H1 vx x ∧ Post Z rel2 io H1 (k vx L) Q E :=
  tR_imp (tR_bind h) fun x H1 ⟨io, _, v, L, R, _, r, p⟩ => ⟨io, L, v, _, R, r, p⟩
end
section
variable {X : Cx} {Z : Lk} {W : WX} {a b c e : Expr} {es : List Expr} {pos p : Pos} {f g k : Env → LH → Res VL} {fs : Env → LH → Res (List VL)} {t : Env → LH → Res Bool}
theorem r_var {i : Nat} {x : Str} (hN : X.N[i]? = some x) (hv : Vis X.env.scope x) (hd : (x == ("__debug__" : Str)) = false) (hcd : (x == ("__classdict__" : Str)) = false) :
    RE X Z W (.Name x pos) (fun ρ L => match ρ[i]? with | some (some v) => .ok v L | _ => .stuck) := by
  refine (pe_var hN hv hd hcd).imp fun σ H Q ⟨io, ρ, L, R, S, p⟩ => ?_
  simp only at p
  split at p
  · rename_i v e
    obtain ⟨y, h1, h2⟩ := S.2 i v e
    exact ⟨y, h1, p io y H .refl R h2⟩
  · exact p.elim
/-- a constant -/
theorem r_lit {d : D} {v : V} (h : PE X e (tC v)) (r : ∀ H, RD Z H d v) : RE X Z W e (fun _ L => .ok (.d d) L) := by
  refine h.imp fun σ H Q ⟨io, ρ, L, R, S, p⟩ => ?_
  exact p io v H .refl R (.d (r H))
theorem r_op {op : BOp} (hK : X.K = Z.K) (ha : RE X Z W a f) (hb : RE X Z W b g) : RE X Z W (.BinOp a (opOf op) b pos) (fun ρ L => (f ρ L).bind fun x L => (g ρ L).bind fun y L => binop op x y L) :=
  (pe_op (op_bin hK op) ha hb).imp fun _ _ _ h => tR_two (rel := RVl Z) (rel' := RVl Z) mo_v h
theorem r_ix (hK : X.K = Z.K) (hw : X.w = Z.w) (hu : X.A.units + 66 < cLine) (ha : RE X Z W a f) (hb : RE X Z W b g) (hs : PlainIx b) : RE X Z W (.Subscript a b pos) (fun ρ L => (f ρ L).bind fun x L => (g ρ L).bind fun y L => ofOpt (getI L x y) L) :=
  (pe_ix (ix_A hK hw hu) ha hb hs).imp fun _ _ _ h => tR_two (rel := RVl Z) (rel' := RVl Z) mo_v h
theorem r_cmp (hK : X.K = Z.K) (hw : X.w = Z.w) (hu : X.A.units + 66 < cLine) {op : COp} (ha : RE X Z W a f) (hb : RE X Z W b g) (hm : behindInMarks (copOf op) b = false) :
    RE X Z W (.Compare a [copOf op] [b] pos) (fun ρ L => (f ρ L).bind fun x L => (g ρ L).bind fun y L => cmpR op x y L) :=
  (pe_cmpR (op_cmpA hK hw hu op) ha hb hm).imp fun _ _ _ h => tR_two (rel := RVl Z) (rel' := RVl Z) mo_v h
/-- a value's test -/
theorem r_test (ha : RE X Z W a f) (hK : X.K = Z.K) (he : ∀ whole, isTrue a X.env whole = (do let v ← whole; standAt a.pos; holding [v] (truthy v))) : RT X Z W a (fun ρ L => (f ρ L).bind fun x L => ofOpt (truth L x) L) := by
  refine (pt_truthR ha (tru_A hK) he).imp fun σ H Q h => ?_
  refine tR_imp (tR_one (rel := RVl Z) h) fun x H1 ⟨io, L, v, E, R, r, p⟩ => ?_
  cases e : truth L v with
  | none => rw [e] at p; exact p.elim
  | some b => rw [e] at p; exact ⟨io, L, v, b, R, r, e, p io b H1 .refl R rfl⟩
theorem r_neg (ha : RE X Z W a f) : RE X Z W (.UnaryOp .USub a pos) (fun ρ L => (f ρ L).bind fun x L => match x with | .d (.int i) => .ok (.d (.int (-i))) L | _ => .stuck) := by
  refine (pe_un (op := .USub) (r := rU fun i => .int (-i)) un_neg ha).imp fun σ H Q h => ?_
  refine tR_imp (tR_one (rel := RVl Z) h) fun x H1 ⟨io, L, v, E, R, r, p⟩ => ?_
  split at p
  · rename_i i
    cases r.int
    exact ⟨i, rfl, okD p R (.int _)⟩
  · exact p.elim
theorem r_tTest {b : Env → LH → Res Bool} (h : RT X Z W a b) : True := trivial
theorem r_nil : RA X Z W [] (fun _ L => .ok [] L) := pa_nil.imp fun σ H Q ⟨io, ρ, L, R, S, p⟩ => p io [] H .refl R .nil
theorem r_cons (ha : RE X Z W e f) (hr : RA X Z W es fs) (hs : starEach (e :: es) X.env = (false, eval e X.env) :: starEach es X.env) : RA X Z W (e :: es) (fun ρ L => (f ρ L).bind fun v L => (fs ρ L).bind fun vs L => .ok (v :: vs) L) := by
  refine (pa_cons ha hr hs).imp fun σ H Q h => ?_
  refine tR_imp (tR_two (rel := RVl Z) (rel' := RVs Z) mo_v h) fun x H1 h1 => tR_imp h1 fun xs H2 ⟨io, L, v, vs, E, R, r1, r2, p⟩ => ?_
  exact p io (x :: xs) H2 .refl R (.cons r1 r2)
theorem r_star (hK : X.K = Z.K) (ha : RE X Z W e f) (hr : RA X Z W es fs) (hs : starEach (.Starred e p :: es) X.env = (true, eval e X.env) :: starEach es X.env) :
    RA X Z W (.Starred e p :: es) (fun ρ L => (f ρ L).bind fun v L => match seqOf L v with | some xs => (fs ρ L).bind fun vs L => .ok (xs ++ vs) L | none => .stuck) := by
  refine (StX.pa_star ha hr hs).imp fun σ H Q h => ?_
  refine tR_imp (tR_bind (rel := RVl Z) h) fun x H1 ⟨io, ρ, v, L, R, S, r, q⟩ => ?_
  split at q
  · rename_i xs e
    obtain ⟨b, vs, rfl, l1, r1⟩ := seqOf_of R e r
    refine ⟨b, vs, rfl, ?_, io, ρ, L, R, S, q.bind.imp (fun ys H2 ⟨i, w, L', xt, R', r', p'⟩ => ?_) fun _ _ _ z => z⟩
    · rcases l1 with l1 | l1
      · exact .inr l1.sq
      · exact .inl (hK ▸ l1)
    · exact p' i (vs ++ ys) H2 .refl R' ((r1.ext xt).append r')
  · exact q.elim
/-- a tuple display -/
theorem r_tup {x1} (h : RA X Z W es fs) : RE X Z W (.Tuple es x1 pos) (fun ρ L => (fs ρ L).bind fun xs L => mkT xs L) := by
  refine (pe_tup h).imp fun σ H Q h => ?_
  refine tR_imp (tR_one (rel := RVs Z) h) fun xs H1 ⟨io, L, vs, E, R, r, p⟩ => ?_
  unfold mkT at p
  split at p
  · rename_i hz
    split at p
    · rename_i ds e
      exact ⟨by rw [← r.length, ← line_eq]; exact hz, fun q hq => okT p R hq (RVs.all e r)⟩
    · exact p.elim
  · exact p.elim
theorem r_lst {m : Bool} (h : RA X Z W es fs) : RE X Z W (.List es pos) (fun ρ L => (fs ρ L).bind fun xs L => mkL m xs L) := by
  refine (PE.fz (pe_lst h)).imp fun σ H Q h => ?_
  refine tR_imp (tR_one (rel := RVs Z) h) fun xs H1 ⟨io, L, vs, E, R, r, p⟩ => ?_
  refine ⟨?_, fun q hq => fzL p R hq r⟩
  unfold mkL at p
  split at p
  · rename_i hz
    rw [← r.length, ← line_eq]; exact hz
  · exact p.elim
theorem r_ite {tt : Env → LH → Res Bool} (hc : RT X Z W c tt) (ha : RE X Z W a f) (hb : RE X Z W b g) : RE X Z W (.IfExp c a b pos) (fun ρ L => (tt ρ L).bind fun t L => if t then f ρ L else g ρ L) := by
  refine (pe_ifExp hc ha hb).imp fun σ H Q h => ?_
  refine tR_imp (tR_bind (rel := REq) h) fun x H1 ⟨io, ρ, v, L, R, S, r, q⟩ => ?_
  cases r
  cases x with
  | true => exact ⟨io, ρ, L, R, S, q⟩
  | false => exact ⟨io, ρ, L, R, S, q⟩
theorem r_not (hc : RE X Z W a f) : RE X Z W (.UnaryOp .Not a pos) (fun ρ L => (f ρ L).bind fun x L => match x with | .d (.bl b) => .ok (.d (.bl (!b))) L | _ => .stuck) := by
  refine (pe_not hc).imp fun σ H Q h => ?_
  refine tR_imp (tR_one (rel := RVl Z) h) fun x H1 ⟨io, L, v, E, R, r, p⟩ => ?_
  split at p
  · rename_i b
    exact ⟨b, r.bl, okD p R (.bl _)⟩
  · exact p.elim
theorem r_and {rest : List Expr} (ha : RE X Z W a f) (hb : RE X Z W (.BoolOp .And (b :: rest) pos) g) : RE X Z W (.BoolOp .And (a :: b :: rest) pos) (fun ρ L => (f ρ L).bind fun x L => match x with | .d (.bl true) => g ρ L | .d (.bl false) => .ok (.d (.bl false)) L | _ => .stuck) := by
  refine (pe_and ha hb).imp fun σ H Q h => ?_
  refine tR_imp (tR_bind (rel := RVl Z) h) fun x H1 ⟨io, ρ, v, L, R, S, r, q⟩ => ?_
  split at q
  · exact ⟨true, r.bl, io, ρ, L, R, S, q⟩
  · exact ⟨false, r.bl, q io _ H1 .refl R (.d (.bl _))⟩
  · exact q.elim
theorem r_or {rest : List Expr} (ha : RE X Z W a f) (hb : RE X Z W (.BoolOp .Or (b :: rest) pos) g) : RE X Z W (.BoolOp .Or (a :: b :: rest) pos) (fun ρ L => (f ρ L).bind fun x L => match x with | .d (.bl true) => .ok (.d (.bl true)) L | .d (.bl false) => g ρ L | _ => .stuck) := by
  refine (pe_or ha hb).imp fun σ H Q h => ?_
  refine tR_imp (tR_bind (rel := RVl Z) h) fun x H1 ⟨io, ρ, v, L, R, S, r, q⟩ => ?_
  split at q
  · exact ⟨true, r.bl, q io _ H1 .refl R (.d (.bl _))⟩
  · exact ⟨false, r.bl, io, ρ, L, R, S, q⟩
  · exact q.elim
theorem r_one {op} (h : RE X Z W a f) : RE X Z W (.BoolOp op [a] pos) f := pe_one h
theorem r_tnot {tt : Env → LH → Res Bool} (h : RT X Z W a tt) : RT X Z W (.UnaryOp .Not a pos) (fun ρ L => (tt ρ L).bind fun b L => .ok (!b) L) := by
  refine (pt_not h).imp fun σ H Q h => ?_
  refine tR_imp (tR_one (rel := REq) h) fun x H1 ⟨io, L, v, E, R, r, p⟩ => ?_
  cases r
  exact p io _ H1 .refl R rfl
/-- a chain of two comparisons -/
theorem r_chain (hK : X.K = Z.K) (hw : X.w = Z.w) (hu : X.A.units + 66 < cLine) {o1 o2 : COp} (ha : RE X Z W a f) (hb : RE X Z W b g) (hc : RE X Z W c k) (hm : lastMarks [copOf o1, copOf o2] [b, c] = false) :
    RE X Z W (.Compare a [copOf o1, copOf o2] [b, c] pos) (fun ρ L => (f ρ L).bind fun x L => (g ρ L).bind fun y L => (ofOpt (cmpop o1 L x y) L).bind fun t L => if t then (k ρ L).bind fun z L => (ofOpt (cmpop o2 L y z) L).bind fun t L => .ok (.d (.bl t)) L else .ok (.d (.bl false)) L) := by
  refine (pe_chain (op_cmpA hK hw hu o1) (op_cmpA hK hw hu o2) ha hb hc hm).imp fun σ H Q h => ?_
  refine tR_imp (tR_bind (rel := RVl Z) h) fun x H1 ⟨io, ρ, v, L, R, S, r, q⟩ => ⟨io, ρ, L, R, S, q.bind.imp (fun y H2 ⟨i, w, L', xt, R', r', p'⟩ => ?_) fun _ _ _ z => z⟩
  cases e1 : cmpop o1 L' v w with
  | none => rw [e1] at p'; exact p'.elim
  | some t =>
    rw [e1] at p'
    refine ⟨i, L', v, w, fun _ _ _ => True, R', r.ext xt, r', ?_⟩
    unfold cmpR
    rw [e1]
    intro io2 z H3 xt2 R3 rz
    refine ⟨t, rz.bl, ?_⟩
    have p0 : Post Z (RVl Z) i H2 (if t then (k ρ L').bind fun z L => (ofOpt (cmpop o2 L w z) L).bind fun t L => Res.ok (VL.d (.bl t)) L else Res.ok (VL.d (.bl false)) L') Q (fun c d H' => W c d σ H') := p'
    have p2 := Post.ext p0 xt2
    cases t with
    | false => exact p2 io2 _ H3 .refl R3 (.d (.bl false))
    | true =>
      refine ⟨io2, ρ, L', R3, (S.ext xt).ext xt2, ?_⟩
      have p3 : Post Z (RVl Z) io2 H3 ((k ρ L').bind fun z L => (ofOpt (cmpop o2 L w z) L).bind fun t L => .ok (.d (.bl t)) L) Q _ := p2
      exact p3.bind.imp (fun zz H4 ⟨i4, w4, L4, xt4, R4, r4, p4⟩ => ⟨i4, L4, w, w4, _, R4, (r'.ext xt2).ext xt4, r4, p4⟩) fun _ _ _ z => z
end
end L3
end
section
set_option Elab.async false
set_option linter.all false
set_option maxRecDepth 100000
set_option maxHeartbeats 4000000
/-! LO: calls of builtins and of their methods, slices; the shapes that the rules ask for. -/
namespace L3
open PySem PySem.Spec PyProof.Rows L2
/-! ### shapes -/
def notStar : Expr → Bool
  | .Starred _ _ => false
  | _ => true
theorem star_each {e : Expr} {es : List Expr} {env : PySem.Env} (h : notStar e = true) : starEach (e :: es) env = (false, eval e env) :: starEach es env := by
  cases e <;> first | rfl | simp [notStar] at h
theorem star_star {e : Expr} {p : Pos} {es : List Expr} {env : PySem.Env} : starEach (.Starred e p :: es) env = (true, eval e env) :: starEach es env := rfl
def noStars (es : List Expr) : Bool := es.all notStar
theorem stars_none (pos : Pos) (env : PySem.Env) : ∀ es : List Expr, noStars es = true → (backTo pos (starEach es env)).any (·.1) = false
  | [], _ => rfl
  | e :: es, h => by
    have h' : notStar e = true ∧ noStars es = true := by simpa [noStars] using h
    rw [star_each h'.1]
    have := stars_none pos env es h'.2
    show (false || (backTo pos (starEach es env)).any (·.1)) = false
    rw [this]; rfl
theorem stars_all (pos : Pos) (env : PySem.Env) : ∀ es : List Expr, noStars es = true → (backTo pos (starEach es env)).all (fun x => !x.1) = true
  | [], _ => rfl
  | e :: es, h => by
    have h' : notStar e = true ∧ noStars es = true := by simpa [noStars] using h
    rw [star_each h'.1]
    have := stars_all pos env es h'.2
    show (!false && (backTo pos (starEach es env)).all (fun x => !x.1)) = true
    rw [this]; rfl
def noSup : Expr → Bool
  | .Call (.Name _ _) [] [] _ => false
  | _ => true
theorem attr_base {o : Expr} {a : Str} {env : PySem.Env} {whole : Sem Value} (h : noSup o = true) : attributeBase o a env whole = whole := by
  unfold attributeBase
  split
  · simp [noSup] at h
  · rfl
def plainIx : Expr → Bool
  | .Slice _ _ none _ => false
  | _ => true
theorem plain_ix {b : Expr} (h : plainIx b = true) : PlainIx b := by
  intro o i
  unfold subscripted
  split
  · simp [plainIx] at h
  · rename_i h2; cases h2
  · rfl
def notSet : Expr → Bool
  | .Set _ _ _ => false
  | _ => true
theorem behind_no {op : CmpOp} {e : Expr} (h : notSet e = true) : behindInMarks op e = false := by
  cases e <;> first | rfl | simp [notSet] at h
theorem last_no {o1 o2 : CmpOp} {b c : Expr} (h : notSet c = true) : lastMarks [o1, o2] [b, c] = false := by
  show lastMarks [o2] [c] = false
  exact behind_no h
/-- a test that is a value's truth -/
def plainTest : Expr → Bool
  | .UnaryOp .Not _ _ | .BoolOp _ _ _ | .IfExp _ _ _ _ | .Compare _ _ _ _ => false
  | _ => true
theorem plain_test {e : Expr} {env : PySem.Env} (h : plainTest e = true) (whole : Sem Value) : isTrue e env whole = (do let v ← whole; standAt e.pos; holding [v] (truthy v)) := by
  cases e <;> first | rfl | (simp [plainTest] at h; done) | skip
  rename_i op x p
  cases op <;> first | rfl | simp [plainTest] at h

section
variable {X : Cx} {Z : Lk} {W : WX} {a b c e o : Expr} {es : List Expr} {pos p apos : Pos} {f g k : Env → LH → Res VL} {fs : Env → LH → Res (List VL)} {lo hi : Env → LH → Res (Option VL)}
theorem r_cb {bf : BF} {x : Str} {id : String} (hc : CallR X (.builtin id) (rB Z bf)) (hg : Gl X x) (hm : X.mg x = none) (hv : bootBuiltins x = some (.builtin id)) (ha : RA X Z W (e :: es) fs) (hn : x ≠ "__name__") (hdb : (x == ("__debug__" : Str)) = false) (ns : noStars (e :: es) = true) :
    RE X Z W (.Call (.Name x p) (e :: es) [] pos) (fun ρ L => (fs ρ L).bind fun xs L => bfun bf xs L) := by
  have h' : notStar e = true ∧ noStars es = true := by simpa [noStars] using ns
  refine (pe_callB hc hg hm hv ha hn hdb (star_each h'.1) (stars_none pos X.env es h'.2)).imp fun σ H Q h => ?_
  exact tR_imp (tR_one (rel := RVs Z) h) fun xs H1 ⟨io, L, vs, E, R, r, p⟩ => ⟨io, L, vs, E, R, r, p⟩
theorem r_ct {bf : BF} {x : Str} {T : String} (hc : CallR X (.type T) (rB Z bf)) (hg : Gl X x) (hm : X.mg x = none) (hv : bootBuiltins x = some (.type T)) (ha : RA X Z W (e :: es) fs) (hn : x ≠ "__name__") (hdb : (x == ("__debug__" : Str)) = false) (ns : noStars (e :: es) = true) :
    RE X Z W (.Call (.Name x p) (e :: es) [] pos) (fun ρ L => (fs ρ L).bind fun xs L => bfun bf xs L) := by
  have h' : notStar e = true ∧ noStars es = true := by simpa [noStars] using ns
  refine (pe_callTy hc hg hm hv ha hn hdb (star_each h'.1) (stars_none pos X.env es h'.2)).imp fun σ H Q h => ?_
  exact tR_imp (tR_one (rel := RVs Z) h) fun xs H1 ⟨io, L, vs, E, R, r, p⟩ => ⟨io, L, vs, E, R, r, p⟩
/-- the receiver is of the method's type -/
def rTy (Z : Lk) (m : MF) : V → Hp → Prop := fun x H => ∃ io L vx, Rep Z io H L ∧ RVl Z io H vx x ∧ mTy m L vx = true
theorem isL_seq {L : LH} {v : VL} (h : isL L v = true) : ∃ xs, seqOf L v = some xs := by
  cases v with
  | d d => cases d <;> first | exact ⟨_, rfl⟩ | simp [isL] at h
  | r n =>
    simp only [isL] at h
    simp only [seqOf]
    split at h
    · rename_i xs e; exact ⟨xs, by simp⟩
    · simp at h
theorem ty_list (m : MF) (hm : ∀ L x, mTy m L x = isL L x) : TyOk X "list" (rTy Z m) := by
  intro pins σ H s x v I rx ⟨io, L, vx, R, r, h⟩
  rw [hm] at h
  obtain ⟨xs, e⟩ := isL_seq h
  obtain ⟨a, vs, rfl, l1, r1⟩ := isL_of R h e r
  obtain rfl : v = Value.ref a := rx
  obtain ⟨z, its, n, q1, q2, q3⟩ := Inv.lany I l1
  exact ⟨⟨_, q3, rfl⟩, fun b e => by cases e; exact ⟨_, q3, rfl⟩⟩
theorem ty_str (m : MF) (hm : ∀ L x, mTy m L x = true → ∃ s, x = .d (.str s)) : TyOk X "str" (rTy Z m) := by
  intro pins σ H s x v I rx ⟨io, L, vx, R, r, h⟩
  obtain ⟨w, rfl⟩ := hm L vx h
  obtain ⟨rfl, _⟩ := r.str
  obtain ⟨t, rfl⟩ := rx
  exact ⟨typeIs_str s (st w) t, fun _ e => nomatch e⟩
theorem ty_dict : TyOk X "dict" (rTy Z .get) := by
  intro pins σ H s x v I rx ⟨io, L, vx, R, r, h⟩
  obtain ⟨⟨ks, vs⟩, e⟩ := Option.isSome_iff_exists.mp (show (dctOf L vx).isSome = true from h)
  obtain ⟨a, es, rfl, ha, _⟩ := dctOf_of R e r
  obtain rfl : v = Value.ref a := rx
  obtain ⟨⟨o, ep, e1, e2, e3⟩, _⟩ := ha.raw I
  exact ⟨⟨o, e1, e2.1⟩, fun b e => by cases e; exact ⟨o, e1, e2.2.1⟩⟩
theorem r_meth {m : MF} {T id : String} {name : Str} (ht : TyOk X T (rTy Z m)) (pa : PlainAttrs T) (slot : Slot T name id) (hty : typeOf (.builtin id) = pure (.type "method_descriptor")) (hm : MtR X id (rM Z m)) (ho : RE X Z W o f) (ha : RA X Z W (e :: es) fs)
    (ns : noSup o = true) (nt : noStars (e :: es) = true) (few : (e :: es).length < 30) (hline : (apos.endLine == pos.line) = true) :
    RE X Z W (.Call (.Attribute o name apos) (e :: es) [] pos) (fun ρ L => (f ρ L).bind fun x L => if mTy m L x then (fs ρ L).bind fun xs L => mfun m x xs L else .stuck) := by
  have h' : notStar e = true ∧ noStars es = true := by simpa [noStars] using nt
  refine (pe_mG ht pa slot hty hm ho ha (attr_base ns) ?_ hline (star_each h'.1) (stars_none pos X.env es h'.2)).imp fun σ H Q h => ?_
  · rw [stars_all pos X.env (e :: es) nt]
    simp [backToKw, keywordEach]
    simpa using few
  · refine tR_imp (tR_bind (rel := RVl Z) h) fun x H1 ⟨io, ρ, v, L, R, S, r, q⟩ => ?_
    split at q
    · rename_i ty
      exact ⟨⟨io, L, v, R, r, ty⟩, io, ρ, L, R, S, q.bind.imp (fun xs H2 ⟨i, ws, L', xt, R', r', p'⟩ => ⟨i, L', v, ws, _, R', r.ext xt, r', p'⟩) fun _ _ _ z => z⟩
    · exact q.elim
theorem r_meth0 {m : MF} {T id : String} {name : Str} (ht : TyOk X T (rTy Z m)) (pa : PlainAttrs T) (slot : Slot T name id) (hty : typeOf (.builtin id) = pure (.type "method_descriptor")) (hm : MtR X id (rM Z m)) (ho : RE X Z W o f)
    (ns : noSup o = true) (hline : (apos.endLine == pos.line) = true) :
    RE X Z W (.Call (.Attribute o name apos) [] [] pos) (fun ρ L => (f ρ L).bind fun x L => if mTy m L x then (Res.ok [] L).bind fun xs L => mfun m x xs L else .stuck) := by
  refine (pe_mG0 ht pa slot hty hm ho (attr_base ns) hline).imp fun σ H Q h => ?_
  refine tR_imp (tR_bind (rel := RVl Z) h) fun x H1 ⟨io, ρ, v, L, R, S, r, q⟩ => ?_
  split at q
  · rename_i ty
    exact ⟨⟨io, L, v, R, r, ty⟩, io, L, v, [], _, R, r, .nil, q⟩
  · exact q.elim
/-! ### slices -/
def ROpt (Z : Lk) : List Addr → Hp → Option VL → Option Int → Prop := fun _ _ v o => optI v = some o
abbrev RO' (X : Cx) (Z : Lk) (W : WX) (e : Option Expr) (f : Env → LH → Res (Option VL)) : Prop := PO X e (tR Z W (ROpt Z) f)
theorem mo_opt {Z : Lk} : Mo (ROpt Z) := fun _ r => r
theorem _root_.L2.PO.imp {X : Cx} {e : Option Expr} {t t' : TO} (h : PO X e t) (i : ∀ σ H Q, t' σ H Q → t σ H Q) : PO X e t' := ⟨fun pins s σ H Q I q => h.run pins s σ H Q I (i σ H Q q)⟩
theorem r_noPart : RO' X Z W none (fun _ L => .ok none L) := po_none.imp fun σ H Q ⟨io, ρ, L, R, S, p⟩ => p io none H .refl R rfl
/-- a part: an int -/
theorem r_part (ha : RE X Z W e f) : RO' X Z W (some e) (fun ρ L => (f ρ L).bind fun v L => match v with | .d (.int i) => .ok (some (.d (.int i))) L | _ => .stuck) := by
  refine (po_some ha).imp fun σ H Q h => ?_
  refine tR_imp (tR_one (rel := RVl Z) h) fun x H1 ⟨io, L, v, E, R, r, p⟩ => ?_
  split at p
  · rename_i i
    exact ⟨i, r.int, p io (some i) H1 .refl R rfl⟩
  · exact p.elim
theorem r_slice {p2 : Pos} {m : Bool} {l u : Option Expr} (hK : X.K = Z.K) (ha : RE X Z W e f) (hl : RO' X Z W l lo) (hh : RO' X Z W u hi) :
    RE X Z W (.Subscript e (.Slice l u none p2) pos) (fun ρ L => (f ρ L).bind fun x L => (lo ρ L).bind fun a L => (hi ρ L).bind fun b L => match optI a, optI b with | some a, some b => slice m x a b L | _, _ => .stuck) := by
  refine (pe_slice (sl_A hK m) ha hl hh).imp fun σ H Q h => ?_
  refine tR_imp (tR_bind (rel := RVl Z) h) fun x H1 ⟨io, ρ, v, L, R, S, r, q⟩ => ⟨io, ρ, L, R, S, q.bind.imp (fun a H2 ⟨i, va, L2, xt, R2, ra, p2⟩ => ⟨i, ρ, L2, R2, S.ext xt, p2.bind.imp (fun b H3 ⟨i3, vb, L3', xt3, R3, rb, p3⟩ => ?_) fun _ _ _ z => z⟩) fun _ _ _ z => z⟩
  rw [show optI va = some a from ra, show optI vb = some b from rb] at p3
  exact ⟨i3, L3', v, _, R3, (r.ext xt).ext xt3, p3⟩
theorem r_rev {m : Bool} {k0 : Nat} {p1 p2 p3 : Pos} (ha : RE X Z W e f) : RE X Z W (.Subscript e (.Slice none none (some (.UnaryOp .USub (.Constant (.int 1) k0 p1) p2)) p3) pos) (fun ρ L => (f ρ L).bind fun x L => revOp m x L) := by
  refine (PE.fz (pe_revL ha)).imp fun σ H Q h => ?_
  refine tR_imp (tR_one (rel := RVl Z) h) fun x H1 ⟨io, L, v, E, R, r, p⟩ => ?_
  unfold revOp at p
  split at p
  · rename_i xs e1 e2
    obtain ⟨a, vs, rfl, l1, r1⟩ := isL_of R e1 e2 r
    exact ⟨a, vs, rfl, l1.sq, fun q hq => fzL p R hq r1.reverse⟩
  · exact p.elim
end
end L3
end
section
set_option Elab.async false
set_option linter.all false
set_option maxRecDepth 100000
set_option maxHeartbeats 4000000
/-! LP: the readings of statements (no loop over items yet) and of targets. -/
namespace L3
open PySem PySem.Spec PyProof.Rows L2
/-- what follows a statement -/
def PostF (Z : Lk) (W : WX) (D : Ends) (io : List Addr) (H : Hp) (r : Fl) : Prop := match r with
  | .next ρ L => ∀ io' σ' H', Ext io H io' H' → Rep Z io' H' L → Slots Z io' H' σ' ρ → D.nx σ' H'
  | .brk ρ L => ∀ io' σ' H', Ext io H io' H' → Rep Z io' H' L → Slots Z io' H' σ' ρ → D.bk σ' H'
  | .cont ρ L => ∀ io' σ' H', Ext io H io' H' → Rep Z io' H' L → Slots Z io' H' σ' ρ → D.ct σ' H'
  | .ret v L => ∀ io' x H', Ext io H io' H' → Rep Z io' H' L → RVl Z io' H' v x → D.rt x H'
  | .exn e ρ L => ∀ io' c d σ' H', Ext io H io' H' → Rep Z io' H' L → Slots Z io' H' σ' ρ → RX Z H' e c d → W c d σ' H'
  | .stuck => False
section
variable {Z : Lk} {W : WX} {D D' : Ends} {io io' : List Addr} {H H' : Hp} {r : Fl}
theorem PostF.ext (h : PostF Z W D io H r) (x : Ext io H io' H') : PostF Z W D io' H' r := by
  cases r with
  | next ρ L => exact fun i s G y => h i s G (x.trans y)
  | brk ρ L => exact fun i s G y => h i s G (x.trans y)
  | cont ρ L => exact fun i s G y => h i s G (x.trans y)
  | ret v L => exact fun i s G y => h i s G (x.trans y)
  | exn e ρ L => exact fun i c d s G y => h i c d s G (x.trans y)
  | stuck => exact h
theorem PostF.imp (h : PostF Z W D io H r) (h1 : ∀ σ H, D.nx σ H → D'.nx σ H) (h2 : ∀ σ H, D.bk σ H → D'.bk σ H) (h3 : ∀ σ H, D.ct σ H → D'.ct σ H) (h4 : ∀ x H, D.rt x H → D'.rt x H) : PostF Z W D' io H r := by
  cases r with
  | next ρ L => exact fun i s G a b c => h1 _ _ (h i s G a b c)
  | brk ρ L => exact fun i s G a b c => h2 _ _ (h i s G a b c)
  | cont ρ L => exact fun i s G a b c => h3 _ _ (h i s G a b c)
  | ret v L => exact fun i s G a b c => h4 _ _ (h i s G a b c)
  | exn e ρ L => exact h
  | stuck => exact h
end
/-- the reading of a statement that does f -/
def tRS (Z : Lk) (W : WX) (f : Env → LH → Fl) : TS := fun D σ H => ∃ io ρ L, Rep Z io H L ∧ Slots Z io H σ ρ ∧ PostF Z W D io H (f ρ L)
abbrev RS (X : Cx) (Z : Lk) (W : WX) (s : Stmt) (f : Env → LH → Fl) : Prop := PS X s (tRS Z W f)
abbrev RSs (X : Cx) (Z : Lk) (W : WX) (s : List Stmt) (f : Env → LH → Fl) : Prop := PSs X s (tRS Z W f)
/-- an expression first, then a flow -/
theorem tRS_e {α β : Type} {Z : Lk} {W : WX} {rel : List Addr → Hp → α → β → Prop} {f : Env → LH → Res α} {g : Env → α → LH → Fl} {D : Ends} {σ : Sg} {H : Hp} (h : tRS Z W (fun ρ L => (f ρ L).fl ρ (g ρ)) D σ H) :
    tR Z W rel f σ H fun x H1 => ∃ io ρ v L, Rep Z io H1 L ∧ Slots Z io H1 σ ρ ∧ rel io H1 v x ∧ PostF Z W D io H1 (g ρ v L) := by
  obtain ⟨io, ρ, L, R, S, p⟩ := h
  refine ⟨io, ρ, L, R, S, ?_⟩
  cases e : f ρ L with
  | ok v L' => simp only [e] at p; exact fun i x G xt R' r => ⟨i, ρ, v, L', R', S.ext xt, r, PostF.ext (r := g ρ v L') p xt⟩
  | exn d L' => simp only [e] at p; exact fun i c d G xt R' r => p i c d σ G xt R' (S.ext xt) r
  | stuck => simp only [e] at p; exact p
section
variable {X : Cx} {Z : Lk} {W : WX} {e c a b : Expr} {pos : Pos} {f g : Env → LH → Res VL} {t : Env → LH → Res Bool} {u w : Env → LH → Fl} {s : Stmt} {ss ts : List Stmt}
theorem r_pass : RS X Z W (.Pass pos) (fun ρ L => .next ρ L) := ps_pass.imp fun D σ H ⟨io, ρ, L, R, S, p⟩ => p io σ H .refl R S
theorem r_brk : RS X Z W (.Break pos) (fun ρ L => .brk ρ L) := ps_break.imp fun D σ H ⟨io, ρ, L, R, S, p⟩ => p io σ H .refl R S
theorem r_cont : RS X Z W (.Continue pos) (fun ρ L => .cont ρ L) := ps_continue.imp fun D σ H ⟨io, ρ, L, R, S, p⟩ => p io σ H .refl R S
theorem r_snil : RSs X Z W [] (fun ρ L => .next ρ L) := pss_nil.imp fun D σ H ⟨io, ρ, L, R, S, p⟩ => p io σ H .refl R S
theorem r_scons (h1 : RS X Z W s u) (h2 : RSs X Z W ss w) : RSs X Z W (s :: ss) (fun ρ L => (u ρ L).seq fun ρ L => w ρ L) := by
  refine (pss_cons h1 h2).imp fun D σ H ⟨io, ρ, L, R, S, p⟩ => ⟨io, ρ, L, R, S, ?_⟩
  cases e : u ρ L with
  | next ρ' L' => simp only [e] at p; exact fun i s G xt R' S' => ⟨i, ρ', L', R', S', PostF.ext (r := w ρ' L') p xt⟩
  | brk ρ' L' => simp only [e] at p; exact p
  | cont ρ' L' => simp only [e] at p; exact p
  | ret v L' => simp only [e] at p; exact p
  | exn d ρ' L' => simp only [e] at p; exact p
  | stuck => simp only [e] at p; exact p
theorem r_expr (h : RE X Z W e f) (hs : swapsWith e none pos.line X.env = pure false) : RS X Z W (.Expr e pos) (fun ρ L => (f ρ L).fl ρ fun _ L => .next ρ L) :=
  (ps_expr h hs).imp fun D σ H h => tR_imp (tRS_e (rel := RVl Z) h) fun x H1 ⟨io, ρ, v, L, R, S, r, p⟩ => p io σ H1 .refl R S
theorem r_ret (h : RE X Z W e f) : RS X Z W (.Return (some e) pos) (fun ρ L => (f ρ L).fl ρ fun v L => .ret v L) :=
  (ps_ret h).imp fun D σ H h => tR_imp (tRS_e (rel := RVl Z) h) fun x H1 ⟨io, ρ, v, L, R, S, r, p⟩ => p io x H1 .refl R r
theorem r_if (hc : RT X Z W c t) (ha : RSs X Z W ss u) (hb : RSs X Z W ts w) : RS X Z W (.If c ss ts pos) (fun ρ L => (t ρ L).fl ρ fun b L => if b then u ρ L else w ρ L) := by
  refine (ps_if hc ha hb).imp fun D σ H h => tR_imp (tRS_e (rel := REq) h) fun x H1 ⟨io, ρ, v, L, R, S, r, p⟩ => ?_
  cases r
  cases x with
  | true => exact ⟨io, ρ, L, R, S, p⟩
  | false => exact ⟨io, ρ, L, R, S, p⟩
/-! ### targets -/
/-- the slots but those at is are as they were -/
def But (is : List Nat) (σ σ' : Sg) : Prop := σ'.length = σ.length ∧ ∀ j, j ∉ is → σ'[j]? = σ[j]?
def gR (Z : Lk) (is : List Nat) (asg : LH → VL → Env → Option Env) : TG := fun v σ H Q => ∃ io ρ L vv ρ', Rep Z io H L ∧ Slots Z io H σ ρ ∧ RVl Z io H vv v ∧ asg L vv ρ = some ρ' ∧ ∀ σ', Slots Z io H σ' ρ' → But is σ σ' → Q σ' H
def gRs (Z : Lk) (is : List Nat) (asg : LH → List VL → Env → Option Env) : TGs := fun vs σ H Q => ∃ io ρ L vvs ρ', Rep Z io H L ∧ Slots Z io H σ ρ ∧ RVs Z io H vvs vs ∧ asg L vvs ρ = some ρ' ∧ ∀ σ', Slots Z io H σ' ρ' → But is σ σ' → Q σ' H
theorem _root_.L2.PG.imp {e : Expr} {t t' : TG} (h : PG X e t) (i : ∀ v σ H Q, t' v σ H Q → t v σ H Q) : PG X e t' := ⟨fun pins s σ H v u Q I r q => h.run pins s σ H v u Q I r (i v σ H Q q)⟩
theorem _root_.L2.PGs.imp {es : List Expr} {t t' : TGs} (h : PGs X es t) (i : ∀ v σ H Q, t' v σ H Q → t v σ H Q) : PGs X es t' := ⟨fun pins s σ H v u Q I r q => h.run pins s σ H v u Q I r (i v σ H Q q)⟩
theorem Slots.set {io : List Addr} {H : Hp} {σ : Sg} {ρ : Env} (S : Slots Z io H σ ρ) (i : Nat) {v : VL} {x : V} (r : RVl Z io H v x) : Slots Z io H (σ.set i (some x)) (ρ.set i (some v)) := by
  refine ⟨by simp [S.1], fun j w e => ?_⟩
  by_cases hj : i = j
  · subst hj
    have hi : i < ρ.length := by
      have := (List.getElem?_eq_some_iff.mp e).1
      simpa using this
    rw [List.getElem?_set_self hi] at e
    cases e
    exact ⟨x, by rw [List.getElem?_set_self (by rw [S.1]; exact hi)], r⟩
  · rw [List.getElem?_set_ne hj] at e
    obtain ⟨y, h1, h2⟩ := S.2 j w e
    exact ⟨y, by rw [List.getElem?_set_ne hj]; exact h1, h2⟩
theorem g_name {i : Nat} {x : Str} (hN : X.N.Nodup) (hi : X.N[i]? = some x) (hx : Loc X.env.scope x) (hf : X.fn x = true ∨ X.env.scope.names.lookup x = some .local) : PG X (.Name x pos) (gR Z [i] fun L v ρ => some (ρ.set i (some v))) := by
  refine (pg_name hN hi hx hf).imp fun v σ H Q ⟨io, ρ, L, vv, ρ', R, S, r, e, q⟩ => ?_
  simp only [Option.some.injEq] at e
  subst e
  exact q _ (S.set i r) ⟨List.length_set, fun j hj => List.getElem?_set_ne fun e => hj (by rw [e]; exact List.mem_singleton.mpr rfl)⟩
theorem g_nil : PGs X [] (gRs Z [] fun L vs ρ => match vs with | [] => some ρ | _ => none) := by
  refine pgs_nil.imp fun vs σ H Q ⟨io, ρ, L, vv, ρ', R, S, r, e, q⟩ => ?_
  cases vv with
  | nil =>
    cases r
    simp only [Option.some.injEq] at e
    subst e
    exact ⟨rfl, q σ S ⟨rfl, fun _ _ => rfl⟩⟩
  | cons _ _ => simp at e
theorem g_cons {es : List Expr} {i1 i2 : List Nat} {f : LH → VL → Env → Option Env} {fs : LH → List VL → Env → Option Env} (h1 : PG X e (gR Z i1 f)) (h2 : PGs X es (gRs Z i2 fs)) (hs : (assignEach (e :: es) X.env).map (·.2) = assign e X.env :: (assignEach es X.env).map (·.2)) :
    PGs X (e :: es) (gRs Z (i1 ++ i2) fun L vs ρ => match vs with | v :: vs => (match f L v ρ with | some ρ' => fs L vs ρ' | none => none) | _ => none) := by
  refine (pgs_cons h1 h2 hs).imp fun vs σ H Q ⟨io, ρ, L, vv, ρ', R, S, r, e, q⟩ => ?_
  cases r with
  | nil => simp at e
  | cons r rs =>
    simp only at e
    split at e
    · rename_i ρ1 e1
      exact ⟨_, _, rfl, io, ρ, L, _, ρ1, R, S, r, e1, fun σ1 S1 b1 => ⟨io, ρ1, L, _, ρ', R, S1, rs, e, fun σ2 S2 b2 => q σ2 S2 ⟨b2.1.trans b1.1, fun j hj => (b2.2 j fun h => hj (List.mem_append_right _ h)).trans (b1.2 j fun h => hj (List.mem_append_left _ h))⟩⟩⟩
    · cases e
theorem g_tup {es : List Expr} {k : Nat} {is : List Nat} {fs : LH → List VL → Env → Option Env} (hK : X.K = Z.K) (hc : X.calm = true) (h : PGs X es (gRs Z is fs)) (n : Nat) (hl : ∀ L vs ρ ρ', fs L vs ρ = some ρ' → vs.length = n)
    (hn : (assignEach es X.env).length = n) (hst : (assignEach es X.env).findIdx? (·.1) = none) : PG X (.Tuple es k pos) (gR Z is fun L v ρ => match seqOf L v with | some xs => fs L xs ρ | none => none) := by
  refine ⟨fun pins s σ H v u Q I ru ⟨io, ρ, L, vv, ρ', R, S, r, e, q⟩ => ?_⟩
  simp only at e
  split at e
  · rename_i xs es'
    obtain ⟨a, vs, rfl, l1, r1⟩ := seqOf_of R es' r
    have hlen : vs.length = n := by rw [← r1.length]; exact hl _ _ _ _ e
    rcases l1 with l1 | l1
    · exact (pg_unl hc h hn hst).run pins s σ H _ u Q I ru ⟨a, vs, rfl, l1.sq, hlen, io, ρ, L, xs, ρ', R, S, r1, e, q⟩
    · exact (pg_tup hc h hn hst).run pins s σ H _ u Q I ru ⟨a, vs, rfl, hK ▸ l1, hlen, io, ρ, L, xs, ρ', R, S, r1, e, q⟩
  · cases e
/-- target = value -/
theorem r_asg {tg : Expr} {is : List Nat} {fa : LH → VL → Env → Option Env} (he : RE X Z W e f) (hg : PG X tg (gR Z is fa)) (hs : swapsWithSole [tg] e pos.line X.env = pure false) (hw : swappedStores [tg] e X.env = pure none) (h1 : (assignEach [tg] X.env).map (·.2) = [assign tg X.env]) :
    RS X Z W (.Assign [tg] e pos) (fun ρ L => (f ρ L).fl ρ fun v L => match fa L v ρ with | some ρ' => .next ρ' L | none => .stuck) := by
  refine (ps_asg he hg hs hw h1).imp fun D σ H h => tR_imp (tRS_e (rel := RVl Z) h) fun x H1 ⟨io, ρ, v, L, R, S, r, p⟩ => ?_
  split at p
  · rename_i ρ' e
    exact ⟨io, ρ, L, v, ρ', R, S, r, e, fun σ' S' _ => p io σ' H1 .refl R S'⟩
  · exact p.elim
/-- a, b = x, y: plain names -/
theorem r_par {i j : Nat} {x y : Str} {px py pt : Pos} {kt k2 pt2} {fs : Env → LH → Res (List VL)} (hc : X.calm = true) (hN : X.N.Nodup) (hi : X.N[i]? = some x) (hj : X.N[j]? = some y) (hij : i ≠ j)
    (hx : X.env.scope.names.lookup x = some .local) (hy : X.env.scope.names.lookup y = some .local) (ha : RA X Z W [a, b] fs)
    (hs : swapsWithSole [.Tuple [.Name x px, .Name y py] kt pt] (.Tuple [a, b] k2 pt2) pos.line X.env = pure false)
    (hw : swappedStores [.Tuple [.Name x px, .Name y py] kt pt] (.Tuple [a, b] k2 pt2) X.env = pure (some [x, y])) :
    RS X Z W (.Assign [.Tuple [.Name x px, .Name y py] kt pt] (.Tuple [a, b] k2 pt2) pos) (fun ρ L => (fs ρ L).fl ρ fun vs L => match vs with | [v, w] => .next ((ρ.set i (some v)).set j (some w)) L | _ => .stuck) := by
  refine (ps_par hc hN hi hj hij hx hy ha (hs := hs) (hw := hw)).imp fun D σ H h => tR_imp (tRS_e (rel := RVs Z) h) fun vs H1 ⟨io, ρ, v, L, R, S, r, p⟩ => ?_
  split at p
  · rename_i v1 v2
    obtain ⟨x1, x2, rfl, r1, r2⟩ := r.two_of
    exact ⟨x1, x2, rfl, p io _ H1 .refl R ((S.set i r1).set j r2)⟩
  · exact p.elim
/-- o[i] = value -/
theorem r_setI {o i : Expr} {p' : Pos} {fo fi : Env → LH → Res VL} (hK : X.K = Z.K) (hw : X.w = Z.w) (hu : X.A.units + 66 < cLine) (he : RE X Z W e f) (ho : RE X Z W o fo) (hi : RE X Z W i fi) (hsl : plainIx i = true)
    (hs : swapsWithSole [.Subscript o i p'] e pos.line X.env = pure false) (hw2 : swappedStores [.Subscript o i p'] e X.env = pure none)
    (ha : ∀ v, assign (.Subscript o i p') X.env v = (do
      let ov ← holding [v] (eval o X.env)
      let iv ← holding [v, ov] (eval i X.env)
      standAt p'
      holding [v, ov, iv] (setItem ov iv v)
      release [v, ov, iv] [])) :
    RS X Z W (.Assign [.Subscript o i p'] e pos) (fun ρ L => (f ρ L).fl ρ fun v L => (fo ρ L).fl ρ fun x L => (fi ρ L).fl ρ fun y L => match setI x y v L with | some L => .next ρ L | none => .stuck) := by
  refine (ps_asg he (pg_sub ho hi (set_A hK hw hu) ha) hs hw2 rfl).imp fun D σ H h => tR_imp (tRS_e (rel := RVl Z) h) fun x H1 ⟨io, ρ, v, L, R, S, r, p⟩ => ?_
  have h2 : tR Z W (RVl Z) fo σ H1 fun x2 H2 => ∃ io2 v2 L2, Ext io H1 io2 H2 ∧ Rep Z io2 H2 L2 ∧ Slots Z io2 H2 σ ρ ∧ RVl Z io2 H2 v2 x2 ∧ PostF Z W D io2 H2 ((fi ρ L2).fl ρ fun y L => match setI v2 y v L with | some L => .next ρ L | none => .stuck) := by
    refine ⟨io, ρ, L, R, S, ?_⟩
    cases e : fo ρ L with
    | ok v2 L' => simp only [e] at p; exact fun i x G xt R' r' => ⟨i, v2, L', xt, R', S.ext xt, r', PostF.ext (r := (fi ρ L').fl ρ fun y L => match setI v2 y v L with | some L => .next ρ L | none => .stuck) p xt⟩
    | exn d L' => simp only [e] at p; exact fun i c d G xt R' r' => p i c d σ G xt R' (S.ext xt) r'
    | stuck => simp only [e] at p; exact p
  refine tR_imp h2 fun x2 H2 ⟨io2, v2, L2, xt2, R2, S2, r2, p2⟩ => ⟨io2, ρ, L2, R2, S2, ?_⟩
  cases e : fi ρ L2 with
  | ok v3 L' =>
    simp only [e] at p2
    intro i3 x3 H3 xt3 R3 r3
    simp only [Res.fl_ok] at p2
    cases e4 : setI v2 v3 v L' with
    | none => rw [e4] at p2; exact p2.elim
    | some L4 =>
      rw [e4] at p2
      exact ⟨i3, L', v2, v3, v, L4, R3, r2.ext xt3, r3, (r.ext xt2).ext xt3, e4, fun H4 xt4 R4 => p2 i3 σ H4 (xt3.trans xt4) R4 ((S2.ext xt3).ext xt4)⟩
  | exn d L' => simp only [e] at p2; exact fun i c d G xt R' r' => p2 i c d σ G xt R' (S2.ext xt) r'
  | stuck => simp only [e] at p2; exact p2
/-! ### while -/
theorem r_while (hp : PassesOwn (model X.prog X.w) X.A X.env X.xe) (hc : RT X Z W c t) (hb : RSs X Z W ss u) (n : Nat) : RS X Z W (.While c ss [] pos) (fun ρ L => whileR t u n ρ L) := by
  refine (ps_while hp hc hb).imp fun D σ H ⟨io, ρ, L, R, S, p⟩ => ?_
  refine ⟨fun m σ' H' => ∃ io' ρ' L', Rep Z io' H' L' ∧ Slots Z io' H' σ' ρ' ∧ PostF Z W D io' H' (whileR t u m ρ' L'), ⟨n, io, ρ, L, R, S, p⟩, ?_⟩
  rintro m σ1 H1 ⟨io1, ρ1, L1, R1, S1, p1⟩
  cases m with
  | zero => exact p1.elim
  | succ m =>
    refine tR_imp (tRS_e (rel := REq) (g := fun ρ b L => if b then (match u ρ L with | .next ρ L => whileR t u m ρ L | .cont ρ L => whileR t u m ρ L | .brk ρ L => .next ρ L | r => r) else .next ρ L) ⟨io1, ρ1, L1, R1, S1, p1⟩) fun x H2 ⟨io2, ρ2, b, L2, R2, S2, r2, p2⟩ => ?_
    cases r2
    cases x with
    | false => exact p2 io2 σ1 H2 .refl R2 S2
    | true =>
      refine ⟨fun σ' H' => ∃ io' ρ' L', Rep Z io' H' L' ∧ Slots Z io' H' σ' ρ' ∧ PostF Z W D io' H' (whileR t u m ρ' L'), fun σ' H' q => ⟨m, Nat.lt_succ_self m, q⟩, io2, ρ2, L2, R2, S2, ?_⟩
      simp only [if_true] at p2
      cases e : u ρ2 L2 with
      | next ρ' L' => simp only [e] at p2; exact fun i s G xt R' S' => ⟨i, ρ', L', R', S', PostF.ext (r := whileR t u m ρ' L') p2 xt⟩
      | cont ρ' L' => simp only [e] at p2; exact fun i s G xt R' S' => ⟨i, ρ', L', R', S', PostF.ext (r := whileR t u m ρ' L') p2 xt⟩
      | brk ρ' L' => simp only [e] at p2; exact p2
      | ret v L' => simp only [e] at p2; exact p2
      | exn d ρ' L' => simp only [e] at p2; exact p2
      | stuck => simp only [e] at p2; exact p2
end
end L3
end
section
set_option Elab.async false
set_option linter.all false
set_option maxRecDepth 100000
set_option maxHeartbeats 4000000
/-! LQ: what is walked; for. -/
namespace L3
open PySem PySem.Spec PyProof.Rows L2
/-- the iterator J gives the items of w, one by one, as long as what it leans on stands -/
def ItOk (Z : Lk) : List Addr → Hp → Walked → It → Prop := fun io0 H0 w J => ∀ io H L, Ex0 io0 H0 io H → Rep Z io H L → stands w.still L = true →
  (∀ i v, w.items[i]? = some v → J.go i H ∧ ∀ x H', J.yld i H x H' → Ext io H io H' ∧ Rep Z io H' L ∧ RVl Z io H' v x) ∧ J.stop w.items.length H
theorem ItOk.mo {Z : Lk} : Mo (ItOk Z) := fun x r io H L y => r io H L (x.w.trans y)
abbrev RI (X : Cx) (Z : Lk) (W : WX) (tg e : Expr) (f : Env → LH → Res Walked) : Prop := PI X tg e (tR Z W (ItOk Z) f)
theorem _root_.L2.PI.imp {X : Cx} {tg e : Expr} {t t' : TI} (h : PI X tg e t) (i : ∀ σ H R, t' σ H R → t σ H R) : PI X tg e t' := ⟨fun pins s σ H R I q => h.run pins s σ H R I (i σ H R q)⟩
theorem stands_get {L : LH} {n : Nat} {o : LO} {g : List (Nat × LO)} (h : stands ((n, o) :: g) L = true) : L[n]? = some o ∧ stands g L = true := by
  simp only [stands, List.all_cons, Bool.and_eq_true, decide_eq_true_eq] at h
  exact ⟨h.1, h.2⟩
section
variable {X : Cx} {pins : List (Addr × Obj)} {σ : Sg} {H : Hp} {s : Shared} {Z : Lk} {io : List Addr} {L : LH} {R : It → Hp → Prop} {tg : Expr}
/-- a list that is walked: what the logical value tells of it -/
theorem itl_tracked {n : Nat} {xs : List VL} {a : Addr} (ha : io[n]? = some a) : ItOk Z io H ⟨xs, [(n, .lst xs)]⟩ (Itl X.K a) := by
  intro io2 H2 L2 xt R2 st
  have e := (stands_get st).1
  obtain ⟨b, q, vs, h1, h2⟩ := R2.get e
  rw [prefix_get xt.1 ha] at q; cases q
  have sq : SqL X.K H2 a vs := .inl (.inl h1)
  refine ⟨fun i v hv => ?_, vs, sq, by rw [h2.length]; exact Nat.le_refl _⟩
  obtain ⟨x, e1, r1⟩ := h2.get hv
  refine ⟨⟨vs, x, sq, e1⟩, fun y H' ⟨e2, all⟩ => ?_⟩
  subst e2
  have := all vs sq
  rw [e1] at this; cases this
  exact ⟨.refl, R2, r1⟩
theorem itl_data {ds : List D} {a : Addr} {vs : List V} (hs : ∀ {H' : Hp}, Persist H H' → SqL X.K H' a vs) (r : RDs Z H ds vs) : ItOk Z io H ⟨ds.map .d, []⟩ (Itl X.K a) := by
  intro io2 H2 L2 xt R2 _
  have sq := hs xt.2
  have r2 : RVs Z io2 H2 (ds.map .d) vs := .of_ds (r.persist xt.2)
  refine ⟨fun i v hv => ?_, vs, sq, by rw [r2.length]; exact Nat.le_refl _⟩
  obtain ⟨x, e1, r1⟩ := r2.get hv
  refine ⟨⟨vs, x, sq, e1⟩, fun y H' ⟨e2, all⟩ => ?_⟩
  subst e2
  have := all vs sq
  rw [e1] at this; cases this
  exact ⟨.refl, R2, r1⟩
theorem itt_data {ds : List D} {a : Addr} {vs : List V} (hs : SqT X.K H a vs) (r : RDs Z H ds vs) : ItOk Z io H ⟨ds.map .d, []⟩ (Itt X.K a) := by
  intro io2 H2 L2 xt R2 _
  have sq := SqT.persist xt.2 hs
  have r2 : RVs Z io2 H2 (ds.map .d) vs := .of_ds (r.persist xt.2)
  refine ⟨fun i v hv => ?_, vs, sq, by rw [r2.length]; exact Nat.le_refl _⟩
  obtain ⟨x, e1, r1⟩ := r2.get hv
  refine ⟨⟨vs, x, sq, e1⟩, fun y H' ⟨e2, all⟩ => ?_⟩
  subst e2
  have := all vs sq
  rw [e1] at this; cases this
  exact ⟨.refl, R2, r1⟩
theorem its_data {w : List Nat} (ok : SOk w) : ItOk Z io H ⟨(chars w).map .d, []⟩ (Its (st w)) := by
  intro io2 H2 L2 xt R2 _
  have hl : (st w).cps.size = w.length := by simp [st]
  refine ⟨fun i v hv => ?_, by show (st w).cps.size ≤ _; rw [hl]; simp [chars]⟩
  have hv' : (w[i]?).map (fun c => VL.d (.str [c])) = some v := by simpa [chars, List.map_map] using hv
  obtain ⟨c, ec, rfl⟩ := Option.map_eq_some_iff.mp hv'
  have hi := (List.getElem?_eq_some_iff.mp ec).1
  refine ⟨by show i < (st w).cps.size; omega, fun y H' ⟨e2, c', e3, e4⟩ => ?_⟩
  subst e2 e4
  have : c' = c := by
    have e5 : (st w).cps[i]? = w[i]? := by simp [st]
    rw [e5, ec] at e3
    exact (Option.some.inj e3).symm
  subst this
  exact ⟨.refl, R2, .d (.str [c'] ⟨fun d hd => by simp only [List.mem_singleton] at hd; subst hd; exact ok.1 _ (List.mem_of_getElem? ec), by show 1 ≤ lim; decide⟩)⟩
/-- iter(v), v a value that can be walked -/
theorem iterV (hK : X.K = Z.K) (I : Inv X pins σ H s) {x : V} {u : Value} (ru : RelV x u) (Rp : Rep Z io H L) {v : VL} (r : RVl Z io H v x) {w : Walked} (e : walkOf L v = some w) (q : ∀ J, ItOk Z io H w J → R J H) :
    wpAny (model X.prog X.w) X.A (pyIter u) (PIE X pins σ tg R) X.xe s := by
  have lst : ∀ {a : Addr} {vs : List V}, x = .ref a → SqL X.K H a vs → R (Itl X.K a) H → wpAny (model X.prog X.w) X.A (pyIter u) (PIE X pins σ tg R) X.xe s := by
    rintro a vs rfl hq qq
    obtain rfl : u = Value.ref a := ru
    obtain ⟨its, rv, pl, hz⟩ := I.list hq
    exact wpAny_pyIter_list pl.isList (pi_one (tk := s.toks) I _ (turn_list a _) ⟨_, Heap.get?_push_size _ rfl, rfl, rfl⟩ qq)
  unfold walkOf at e
  split at e
  · rename_i z
    simp only [Option.some.injEq] at e; subst e
    obtain ⟨rfl, ok⟩ := r.str
    obtain ⟨t, rfl⟩ := ru
    have qq := q _ (its_data ok)
    cases ha : (st z).cps.all (· < 128)
    · exact wpAny_pyIter_wide ha (pi_one (tk := s.toks) I _ (turn_str _ (st z) t "str_iterator" (.inr rfl)) ⟨_, Heap.get?_push_size _ rfl, rfl, rfl⟩ qq)
    · exact wpAny_pyIter_ascii ha (pi_one (tk := s.toks) I _ (turn_str _ (st z) t "str_ascii_iterator" (.inl rfl)) ⟨_, Heap.get?_push_size _ rfl, rfl, rfl⟩ qq)
  · simp only [Option.some.injEq] at e; subst e
    obtain ⟨a, vs, rfl, t1, t2⟩ := r.tup
    obtain rfl : u = Value.ref a := ru
    have hq : SqT X.K H a vs := hK ▸ t1
    obtain ⟨its, rv, pl, hz⟩ := I.tuple hq
    exact wpAny_pyIter_tuple (show s.heap.IsTuple a its.toArray from pl) (pi_one (tk := s.toks) I _ (turn_tuple a _) ⟨_, Heap.get?_push_size _ rfl, rfl, rfl⟩ (q _ (itt_data hq t2)))
  · simp only [Option.some.injEq] at e; subst e
    obtain ⟨a, vs, rfl, t1, t2⟩ := r.lst
    exact lst rfl t1.lk.sq (q _ (itl_data (fun p => (t1.persist p).lk.sq) t2))
  · simp only [Option.some.injEq] at e; subst e
    obtain ⟨a, vs, rfl, t1, t2⟩ := r.scr
    exact lst rfl (hK ▸ t1.sq) (q _ (itl_data (fun p => hK ▸ (t1.persist p).sq) t2))
  · rename_i n
    split at e
    · rename_i xs eL
      simp only [Option.some.injEq] at e; subst e
      obtain ⟨a, vs, rfl, ha, hl, rv⟩ := lst_at Rp eL r
      exact lst (vs := vs) rfl (.inl (.inl hl)) (q _ (itl_tracked ha))
    · cases e
  · cases e
/-- what a value walks -/
theorem r_of (hK : X.K = Z.K) {W : WX} {e : Expr} {f : Env → LH → Res VL} (h : RE X Z W e f) : RI X Z W tg e (fun ρ L => (f ρ L).bind fun x L => ofOpt (walkOf L x) L) := by
  refine ⟨fun pins s σ H R I q => ?_⟩
  refine thn (h.run pins s σ H _ I (tR_one (rel := RVl Z) q)) fun u s1 ⟨x, H1, I1, ru, io, L, v, E, Rp, r, p⟩ => ?_
  cases e : walkOf L v with
  | none => rw [e] at p; exact p.elim
  | some w => rw [e] at p; exact iterV hK I1 ru Rp r e fun J ok => p io J H1 .refl Rp ok
theorem itr_data {lo : Int} {n : Nat} : ItOk Z io H ⟨rangeI lo n, []⟩ (Itr lo n) := by
  intro io2 H2 L2 xt R2 _
  refine ⟨fun i v hv => ?_, by show n ≤ _; simp [rangeI]⟩
  have hv' : ((List.range n)[i]?).map (fun i : Nat => VL.d (.int (lo + (i : Int)))) = some v := by simpa [rangeI] using hv
  obtain ⟨j, ej, rfl⟩ := Option.map_eq_some_iff.mp hv'
  obtain ⟨hi, e2⟩ := List.getElem?_eq_some_iff.mp ej
  rw [List.getElem_range] at e2
  subst e2
  refine ⟨by show i < n; simpa using hi, fun y H' ⟨e3, e4⟩ => ?_⟩
  subst e3 e4
  exact ⟨.refl, R2, .d (.int _)⟩
theorem r_range1 {W : WX} {a : Expr} {p pos : Pos} {f : Env → LH → Res VL} (hg : Gl X "range") (hm : X.mg "range" = none) (ha : RE X Z W a f) (ns : notStar a = true) :
    RI X Z W tg (.Call (.Name "range" p) [a] [] pos) (fun ρ L => (f ρ L).bind fun x L => match x with | .d (.int j) => if small j then .ok ⟨rangeI 0 j.toNat, []⟩ L else .stuck | _ => .stuck) := by
  refine (pi_range1 hg hm (pa_cons ha pa_nil (star_each ns)) (star_each ns)).imp fun σ H R q => ?_
  refine tR_imp (tR_one (rel := RVl Z) q) fun x H1 ⟨io, L, v, E, Rp, r, p⟩ => ?_
  split at p
  · rename_i j
    split at p
    · rename_i hs
      have hb : -(2 ^ 62) ≤ j ∧ j < 2 ^ 62 := of_decide_eq_true hs
      exact ⟨j, by rw [r.int], hb.1, hb.2, p io _ H1 .refl Rp itr_data⟩
    · exact p.elim
  · exact p.elim
theorem r_range2 {W : WX} {a b : Expr} {p pos : Pos} {f g : Env → LH → Res VL} (hg : Gl X "range") (hm : X.mg "range" = none) (ha : RE X Z W a f) (hb : RE X Z W b g) (na : notStar a = true) (nb : notStar b = true) :
    RI X Z W tg (.Call (.Name "range" p) [a, b] [] pos) (fun ρ L => (f ρ L).bind fun x L => (g ρ L).bind fun y L => match x, y with
      | .d (.int i), .d (.int j) => if small i && small j then .ok ⟨rangeI i (j - i).toNat, []⟩ L else .stuck
      | _, _ => .stuck) := by
  refine (pi_range2 hg hm (pa_cons ha (pa_cons hb pa_nil (star_each nb)) (star_each na)) (by rw [star_each na, star_each nb]; rfl) (star_each nb)).imp fun σ H R q => ?_
  refine tR_imp (tR_two (rel := RVl Z) (rel' := RVl Z) mo_v q) fun x H1 h1 => tR_imp h1 fun y H2 ⟨io, L, v, w, E, Rp, r1, r2, p⟩ => ?_
  split at p
  · rename_i i j
    split at p
    · rename_i hs
      simp only [Bool.and_eq_true] at hs
      have h1 : -(2 ^ 62) ≤ i ∧ i < 2 ^ 62 := of_decide_eq_true hs.1
      have h2 : -(2 ^ 62) ≤ j ∧ j < 2 ^ 62 := of_decide_eq_true hs.2
      exact ⟨i, j, by rw [r1.int, r2.int], ⟨h1.1, h1.2, h2.1, h2.2⟩, p io _ H2 .refl Rp itr_data⟩
    · exact p.elim
  · exact p.elim
/-! ### for -/
theorem r_for {W : WX} {is : List Nat} {iter : Expr} {body : List Stmt} {pos : Pos} {fi : Env → LH → Res Walked} {fa : LH → VL → Env → Option Env} {u : Env → LH → Fl} (hp : PassesOwn (model X.prog X.w) X.A X.env X.xe) (hc : X.calm = true)
    (hi : RI X Z W tg iter fi) (hg : PG X tg (gR Z is fa)) (hb : RSs X Z W body u) (hs : ∀ x, foldedSetIterable iter X.env x = pure x) :
    RS X Z W (.For tg iter body [] pos) (fun ρ L => (fi ρ L).fl ρ fun w L => forR w.still (fun x ρ L => match fa L x ρ with | some ρ' => u ρ' L | none => .stuck) w.items ρ L) := by
  refine (ps_for hp hc hi hg hb hs).imp fun D σ H h => tR_imp (tRS_e (rel := ItOk Z) h) fun J H1 ⟨io, ρ, w, L, R, S, ok, p⟩ => ?_
  refine ⟨fun i m σ' H' => m = w.items.length - i ∧ i ≤ w.items.length ∧ ∃ io' ρ' L', Ext io H1 io' H' ∧ Rep Z io' H' L' ∧ Slots Z io' H' σ' ρ' ∧ PostF Z W D io' H' (forR w.still (fun x ρ L => match fa L x ρ with | some ρ' => u ρ' L | none => .stuck) (w.items.drop i) ρ' L'),
    ⟨w.items.length, by simp, Nat.zero_le _, io, ρ, L, .refl, R, S, by simpa using p⟩, ?_⟩
  rintro i m σ1 G1 ⟨rfl, hi', io1, ρ1, L1, xt1, R1, S1, p1⟩
  by_cases hlt : i < w.items.length
  · rw [List.drop_eq_getElem_cons hlt] at p1
    simp only [forR] at p1
    split at p1
    · rename_i hst
      obtain ⟨h1, h2⟩ := ok io1 G1 L1 xt1.w R1 hst
      obtain ⟨go, yl⟩ := h1 i w.items[i] (by simp [hlt])
      refine .inr ⟨go, fun σ' H' => ∃ io' ρ' L', Ext io H1 io' H' ∧ Rep Z io' H' L' ∧ Slots Z io' H' σ' ρ' ∧ PostF Z W D io' H' (forR w.still (fun x ρ L => match fa L x ρ with | some ρ' => u ρ' L | none => .stuck) (w.items.drop (i + 1)) ρ' L'),
        fun σ' H' q => ⟨w.items.length - (i + 1), by omega, rfl, hlt, q⟩, fun x H' hy => ?_⟩
      obtain ⟨x1, x2, x3⟩ := yl x H' hy
      have p2 := PostF.ext p1 x1
      cases ea : fa L1 w.items[i] ρ1 with
      | none => simp only [ea] at p2; exact p2.elim
      | some ρ' =>
        simp only [ea] at p2
        refine ⟨io1, ρ1, L1, w.items[i], ρ', x2, S1.ext x1, x3, ea, fun σ' S' _ => ⟨io1, ρ', L1, x2, S', ?_⟩⟩
        cases eu : u ρ' L1 with
        | next ρ3 L3 => simp only [eu] at p2; exact fun i3 s3 G3 y3 R3 S3 => ⟨i3, ρ3, L3, (xt1.trans x1).trans y3, R3, S3, PostF.ext p2 y3⟩
        | cont ρ3 L3 => simp only [eu] at p2; exact fun i3 s3 G3 y3 R3 S3 => ⟨i3, ρ3, L3, (xt1.trans x1).trans y3, R3, S3, PostF.ext p2 y3⟩
        | brk ρ3 L3 => simp only [eu] at p2; exact p2
        | ret v L3 => simp only [eu] at p2; exact p2
        | exn d ρ3 L3 => simp only [eu] at p2; exact p2
        | stuck => simp only [eu] at p2; exact p2
    · exact p1.elim
  · have e : i = w.items.length := by omega
    subst e
    rw [List.drop_length] at p1
    simp only [forR] at p1
    split at p1
    · rename_i hst
      exact .inl ⟨(ok io1 G1 L1 xt1.w R1 hst).2, p1 io1 σ1 G1 .refl R1 S1⟩
    · exact p1.elim
end
end L3
end
section
set_option Elab.async false
set_option linter.all false
set_option maxRecDepth 100000
set_option maxHeartbeats 4000000
/-! LR: list comprehensions. -/
namespace L3
open PySem PySem.Spec PyProof.Rows L2
/-- nothing is taken -/
def W0 : WX := fun _ _ _ _ => False
section
variable {α β : Type} {Z : Lk} {rel : List Addr → Hp → α → β → Prop} {io : List Addr} {H : Hp} {r : Res α} {Q : β → Hp → Prop} {E E' : XK}
theorem Post.noX (h : Post Z rel io H r.noX Q E) : Post Z rel io H r Q E' := by
  cases r with
  | ok v L => exact h
  | exn e L => exact h.elim
  | stuck => exact h.elim
end
theorem slots_wipe {Z : Lk} {io : List Addr} {H : Hp} {σ : Sg} {ρ : Env} (S : Slots Z io H σ ρ) : ∀ vs : List Nat, Slots Z io H (wipe σ vs) (wipeE ρ vs)
  | [] => S
  | v :: vs => by
    have ih := slots_wipe S vs
    refine ⟨by simp only [wipe, wipeE, List.length_set]; exact ih.1, fun i x e => ?_⟩
    simp only [wipe, wipeE] at e ⊢
    by_cases hv : v = i
    · subst hv
      have hl := (List.getElem?_eq_some_iff.mp e).1
      rw [List.length_set] at hl
      rw [List.getElem?_set_self hl] at e
      cases e
    · rw [List.getElem?_set_ne hv] at e ⊢
      exact ih.2 i x e
theorem wipe_get (σ : Sg) : ∀ (vs : List Nat) (j : Nat), (wipe σ vs)[j]? = if j ∈ vs then (if j < σ.length then some none else none) else σ[j]?
  | [], j => by simp [wipe]
  | v :: vs, j => by
    have ih := wipe_get σ vs j
    simp only [wipe]
    by_cases hv : v = j
    · subst hv
      rw [if_pos List.mem_cons_self]
      by_cases hl : v < σ.length
      · rw [if_pos hl, List.getElem?_set_self (by rw [wipe_length]; exact hl)]
      · rw [if_neg hl, List.getElem?_eq_none (by rw [List.length_set, wipe_length]; omega)]
    · rw [List.getElem?_set_ne hv, ih]
      have : (j ∈ v :: vs) ↔ j ∈ vs := ⟨fun h => (List.mem_cons.mp h).resolve_left fun e => hv e.symm, List.mem_cons_of_mem _⟩
      simp only [this]
theorem wipe_but {σ σ' : Sg} {is vs : List Nat} (b : But is (wipe σ vs) σ') (sub : ∀ i ∈ is, i ∈ vs) : wipe σ' vs = wipe σ vs := by
  have hl : σ'.length = σ.length := by rw [b.1, wipe_length]
  apply List.ext_getElem?
  intro j
  rw [wipe_get, wipe_get, hl]
  by_cases hj : j ∈ vs
  · rw [if_pos hj, if_pos hj]
  · rw [if_neg hj, if_neg hj]
    have := b.2 j fun h => hj (sub j h)
    rw [wipe_get, if_neg hj] at this
    exact this
/-- the list that a comprehension has made is handed back -/
theorem fzD {Z : Lk} {io0 io : List Addr} {H1 H : Hp} {L : LH} {E : XK} {Q : VK} {m : Bool} {xs : List VL} {vs : List V} {p : Addr} (h : Post Z (RVl Z) io0 H1 (mkL m xs L) Q E) (xt : Ext io0 H1 io H) (hn : H1 p = none) (R : Rep Z io H L) (hp : H p = some (.lst vs)) (np : p ∉ io) (r : RVs Z io H xs vs) : Fz Q (.ref p) H := by
  have al : Post Z (RVl Z) io0 H1 (alloc (.lst xs) L) Q E → Fz Q (.ref p) H := fun h => by
    have x0 : Ex0 io H (io ++ [p]) H := ⟨List.prefix_append _ _, .refl⟩
    have e : Ext io0 H1 (io ++ [p]) H := ⟨xt.pre.trans (List.prefix_append _ _), xt.per, fun b hb nb => ⟨fun hm => (List.mem_append.mp hm).elim (xt.frm b hb nb).1 fun z => hb (by rw [List.mem_singleton.mp z]; exact hn), (xt.frm b hb nb).2⟩⟩
    refine .now (h (io ++ [p]) _ H e ⟨by simp [R.len], ?_, fun n o eo => ?_⟩ (.r R.last))
    · rw [List.nodup_append]
      exact ⟨R.nd, by simp, fun a ha b hb => by rw [List.mem_singleton.mp hb]; rintro rfl; exact np ha⟩
    · by_cases hl : n < L.length
      · rw [List.getElem?_append_left hl] at eo
        obtain ⟨a, q, ro⟩ := R.at_ n o eo
        exact ⟨a, prefix_get x0.1 q, ro.keep x0 rfl⟩
      · rw [List.getElem?_append_right (by omega)] at eo
        have hz : n - L.length = 0 := by
          rcases Nat.eq_zero_or_pos (n - L.length) with z | z
          · exact z
          · rw [List.getElem?_eq_none (by simp only [List.length_cons, List.length_nil]; omega)] at eo; cases eo
        rw [hz] at eo
        simp only [List.getElem?_cons_zero, Option.some.injEq] at eo; subst eo
        have hnn : n = L.length := by omega
        subst hnn
        exact ⟨p, R.last, vs, hp, r.ext0 x0⟩
  unfold mkL at h
  split at h
  · cases m with
    | true => exact al h
    | false =>
      simp only [Bool.false_eq_true, if_false] at h
      cases e : allD xs with
      | none => rw [e] at h; exact al h
      | some ds =>
        rw [e] at h
        refine .frz hp trivial fun od => .now ?_
        have P : Persist H (upd H p (.frz od (.lst vs))) := Persist.write (by rw [hp]; trivial)
        refine h io _ _ ⟨xt.pre, xt.per.trans P, fun b hb nb => ⟨(xt.frm b hb nb).1, ?_⟩⟩ (R.other P fun n a q => upd_ne fun z => np (by rw [← z]; exact List.mem_of_getElem? q)) (.d (.lst ⟨od, upd_same⟩ ((RVs.all e r).persist P)))
        rw [upd_ne fun z => hb (by rw [z]; exact hn)]
        exact (xt.frm b hb nb).2
  · exact h.elim
section
variable {X : Cx} {Z : Lk} {W : WX} {tg iter elt : Expr} {ifs : List Expr} {scope : Scope} {own : List (Str × Nat)} {pos : Pos} {is : List Nat} {m : Bool} {fi : Env → LH → Res Walked} {fa : LH → VL → Env → Option Env} {ft : Env → LH → Res Bool} {fe : Env → LH → Res VL}
/-- one turn of a comprehension -/
def lcF (fa : LH → VL → Env → Option Env) (ft : Env → LH → Res Bool) (fe : Env → LH → Res VL) (ρ : Env) (x : VL) (L : LH) : Res (List VL) := match fa L x ρ with
  | some ρ' => ((ft ρ' L).bind fun b L => if b then (fe ρ' L).bind fun v L => .ok [v] L else .ok [] L).noX
  | none => .stuck
theorem lcF_exn {ρ : Env} {x : VL} {L L' : LH} {e : D} : lcF fa ft fe ρ x L ≠ .exn e L' := by
  unfold lcF
  split
  · intro h
    rename_i ρ' _
    cases h2 : (ft ρ' L).bind fun b L => if b then (fe ρ' L).bind fun v L => Res.ok [v] L else Res.ok [] L <;> rw [h2] at h <;> cases h
  · exact fun h => nomatch h
theorem mapR_exn {g : List (Nat × LO)} {f : VL → LH → Res (List VL)} (hf : ∀ x L e L', f x L ≠ .exn e L') : ∀ (xs : List VL) (L L' : LH) (e : D), mapR g f xs L ≠ .exn e L'
  | [], L, L', e => by unfold mapR; split <;> exact fun h => nomatch h
  | x :: xs, L, L', e => by
    unfold mapR
    split
    · cases h : f x L with
      | ok ys L1 =>
        simp only [Res.bind_ok]
        cases h2 : mapR g f xs L1 with
        | ok zs L2 => exact fun h => nomatch h
        | exn d L2 => exact absurd h2 (mapR_exn hf xs L1 L2 d)
        | stuck => exact fun h => nomatch h
      | exn d L1 => exact absurd h (hf x L d L1)
      | stuck => exact fun h => nomatch h
    · exact fun h => nomatch h
theorem lc_tR {vl : List Nat} {σ : Sg} {H : Hp} {Q : VK} (sub : ∀ i ∈ is, i ∈ vl) (h : tR Z W (RVl Z) (fun ρ L => (fi ρ L).bind fun w L => (mapR w.still (lcF fa ft fe (wipeE ρ vl)) w.items L).bind fun xs L => mkL m xs L) σ H Q) :
    tLc (tR Z W (ItOk Z) fi) (gR Z is fa) (tR Z W0 REq ft) (tR Z W0 (RVl Z) fe) vl σ H (Fz Q) := by
  refine tR_imp (tR_bind (rel := ItOk Z) h) fun J H1 ⟨io0, ρ, w, L0, Rp0, S0, okJ, p⟩ => fun D hD => ?_
  refine ⟨fun i mm H => mm = w.items.length - i ∧ i ≤ w.items.length ∧ ∃ io L acc vs, Ext io0 H1 io H ∧ Rep Z io H L ∧ H D = some (.lst vs) ∧ D ∉ io ∧ RVs Z io H acc vs ∧
    Post Z (RVl Z) io0 H1 ((mapR w.still (lcF fa ft fe (wipeE ρ vl)) (w.items.drop i) L).bind fun xs L => mkL m (acc ++ xs) L) Q (fun c d H' => W c d σ H'),
    ⟨w.items.length, by simp, Nat.zero_le _, io0, L0, [], [], Ext.new hD, Rp0.new hD, upd_same, fun hm => ?_, .nil, by simpa using p⟩, ?_⟩
  · obtain ⟨n, hn, e⟩ := List.mem_iff_getElem.mp hm
    exact Rp0.ne_none (n := n) (a := D) (by simp [hn, e]) hD
  rintro i mm G ⟨rfl, hi', io, L, acc, vs, xt, R, hv, nD, rv, q⟩
  by_cases hlt : i < w.items.length
  · rw [List.drop_eq_getElem_cons hlt] at q
    simp only [mapR] at q
    split at q
    rotate_left
    · exact q.elim
    rename_i hst
    obtain ⟨go, yl⟩ := (okJ io G L xt.w R hst).1 i w.items[i] (by simp [hlt])
    refine .inr ⟨go, fun H' => ∃ io L acc vs, Ext io0 H1 io H' ∧ Rep Z io H' L ∧ H' D = some (.lst vs) ∧ D ∉ io ∧ RVs Z io H' acc vs ∧ Post Z (RVl Z) io0 H1 ((mapR w.still (lcF fa ft fe (wipeE ρ vl)) (w.items.drop (i + 1)) L).bind fun xs L => mkL m (acc ++ xs) L) Q (fun c d H' => W c d σ H'),
      fun H' z => ⟨w.items.length - (i + 1), by omega, rfl, hlt, z⟩, fun x H' hy => ?_⟩
    obtain ⟨x1, R1, r1⟩ := yl x H' hy
    have xt1 := xt.trans x1
    obtain ⟨nD1, hv1⟩ := x1.frm D (by rw [hv]; simp) nD
    rw [hv] at hv1
    have S1 : Slots Z io H' (wipe σ vl) (wipeE ρ vl) := (slots_wipe (S0.ext xt1) _)
    cases ea : fa L w.items[i] (wipeE ρ vl) with
    | none => simp only [lcF, ea] at q; exact q.elim
    | some ρ' =>
      simp only [lcF, ea] at q
      refine ⟨io, _, L, w.items[i], ρ', R1, S1, r1, ea, fun σ2 S2 b2 => ⟨wipe_but b2 sub, io, ρ', L, R1, S2, ?_⟩⟩
      cases et : ft ρ' L with
      | stuck => simp only [et] at q; exact q.elim
      | exn d L' => simp only [et] at q; exact q.elim
      | ok b L' =>
        simp only [et] at q
        intro io2 b2' H2 xt2 R2 eb
        cases eb
        obtain ⟨nD2, hv2⟩ := xt2.frm D (by rw [hv1]; simp) nD1
        rw [hv1] at hv2
        cases b with
        | false =>
          simp only [Res.bind_ok, Bool.false_eq_true, if_false, Res.noX_ok] at q ⊢
          refine ⟨io2, L', acc, vs, xt1.trans xt2, R2, hv2, nD2, (rv.ext x1).ext xt2, ?_⟩
          cases em : mapR w.still (lcF fa ft fe (wipeE ρ vl)) (w.items.drop (i + 1)) L' with
          | ok ys L3 => simp only [em, Res.bind_ok, List.nil_append] at q ⊢; exact q
          | exn d L3 => simp only [em] at q ⊢; exact q
          | stuck => simp only [em] at q; exact q.elim
        | true =>
          simp only [Res.bind_ok, if_true] at q ⊢
          refine ⟨io2, ρ', L', R2, S2.ext xt2, ?_⟩
          cases ev : fe ρ' L' with
          | stuck => simp only [ev] at q; exact q.elim
          | exn d L3 => simp only [ev] at q; exact q.elim
          | ok v L3 =>
            simp only [ev, Res.bind_ok, Res.noX_ok] at q
            intro io3 y H3 xt3 R3 ry
            obtain ⟨nD3, hv3⟩ := xt3.frm D (by rw [hv2]; simp) nD2
            rw [hv2] at hv3
            have P : Persist H3 (upd H3 D (.lst (vs ++ [y]))) := Persist.write (by rw [hv3]; trivial)
            have xD : Ext io0 H1 io3 (upd H3 D (.lst (vs ++ [y]))) := by
              have z := (xt1.trans xt2).trans xt3
              exact ⟨z.pre, z.per.trans P, fun b hb nb => ⟨(z.frm b hb nb).1, by rw [upd_ne fun e => hb (by rw [e]; exact hD)]; exact (z.frm b hb nb).2⟩⟩
            have rall : RVs Z io3 H3 (acc ++ [v]) (vs ++ [y]) := (((rv.ext x1).ext xt2).ext xt3).append (.cons ry .nil)
            refine ⟨vs, hv3, ?_, io3, L3, acc ++ [v], vs ++ [y], xD, R3.other P (fun n a e => upd_ne fun z => nD3 (by rw [← z]; exact List.mem_of_getElem? e)), upd_same, nD3, rall.ext0 ⟨List.prefix_refl _, P⟩, ?_⟩
            · cases em : mapR w.still (lcF fa ft fe (wipeE ρ vl)) (w.items.drop (i + 1)) L3 with
              | ok ys L4 =>
                simp only [em, Res.bind_ok] at q
                unfold mkL at q
                split at q
                · rename_i hz
                  have h1 := ((rv.ext x1).ext xt2).length
                  rw [← h1, ← line_eq]
                  simp only [List.length_append, List.length_cons, List.length_nil] at hz
                  omega
                · exact q.elim
              | exn d L4 => exact absurd em (mapR_exn (fun _ _ _ _ => lcF_exn) _ _ _ _)
              | stuck => simp only [em] at q; exact q.elim
            · cases em : mapR w.still (lcF fa ft fe (wipeE ρ vl)) (w.items.drop (i + 1)) L3 with
              | ok ys L4 => simp only [em, Res.bind_ok, List.append_assoc, List.singleton_append] at q ⊢; exact q
              | exn d L4 => simp only [em] at q ⊢; exact q
              | stuck => simp only [em] at q; exact q.elim
  · have e : i = w.items.length := by omega
    subst e
    rw [List.drop_length] at q
    simp only [mapR] at q
    split at q
    rotate_left
    · exact q.elim
    rename_i hst
    simp only [Res.bind_ok, List.append_nil] at q
    exact .inl ⟨(okJ io G L xt.w R hst).2, fzD q xt hD R hv nD rv⟩
theorem r_lc (hc : X.calm = true) (hN : X.N.Nodup) (hi : RI X Z W tg iter fi) (ok : BlkOk X.N X.env.scope scope own) (sub : ∀ i ∈ is, i ∈ own.map (·.2))
    (hg : ∀ (s : Shared) (H : Hp) (C : Addr) (cl : List (Str × Addr)) (fp : List Addr), PG (X.blk s H scope (compEnvC scope cl C X.env) fp) tg (gR Z is fa))
    (ht : ∀ (s : Shared) (H : Hp) (C : Addr) (cl : List (Str × Addr)) (fp : List Addr), PTs (X.blk s H scope (compEnvC scope cl C X.env) fp) ifs (tR Z W0 REq ft))
    (he : ∀ (s : Shared) (H : Hp) (C : Addr) (cl : List (Str × Addr)) (fp : List Addr), RE (X.blk s H scope (compEnvC scope cl C X.env) fp) Z W0 elt fe) (hs : ∀ x, foldedSetIterable iter X.env x = pure x) :
    RE X Z W (.ListComp elt [⟨tg, iter, ifs, 0⟩] scope pos) (fun ρ L => (fi ρ L).bind fun w L => (mapR w.still (lcF fa ft fe (wipeE ρ (own.map (·.2)))) w.items L).bind fun xs L => mkL m xs L) := by
  exact (PE.fz (pe_lc hc hN hi ok hg ht he hs)).imp fun σ H Q h => lc_tR sub h
end
end L3
end
section
set_option Elab.async false
set_option linter.all false
set_option maxRecDepth 100000
set_option maxHeartbeats 4000000
/-! LS: tests (and, or, not, comparisons), len(set(..)). -/
namespace L3
open PySem PySem.Spec PyProof.Rows L2
abbrev RW' (X : Cx) (Z : Lk) (W : WX) (e : Expr) (f : Env → LH → Res Bool) : Prop := PW X e (tR Z W REq f)
theorem _root_.L2.PW.imp {X : Cx} {e : Expr} {t t' : TT} (h : PW X e t) (i : ∀ σ H Q, t' σ H Q → t σ H Q) : PW X e t' := ⟨fun w pins s σ H Q I q => h.run w pins s σ H Q I (i σ H Q q)⟩
section
variable {X : Cx} {Z : Lk} {W : WX} {a b e : Expr} {rest : List Expr} {pos p p2 q : Pos} {f g : Env → LH → Res Bool} {fx fy : Env → LH → Res VL}
theorem r_wand1 (ha : RT X Z W a f) : RW' X Z W (.BoolOp .And [a] pos) f := pw_and1 ha
theorem r_wor1 (ha : RT X Z W a f) : RW' X Z W (.BoolOp .Or [a] pos) f := pw_or1 ha
theorem r_wand (ha : RT X Z W a f) (hb : RW' X Z W (.BoolOp .And (b :: rest) pos) g) : RW' X Z W (.BoolOp .And (a :: b :: rest) pos) (fun ρ L => (f ρ L).bind fun t L => if t then g ρ L else .ok false L) := by
  refine (pw_and ha hb).imp fun σ H Q h => tR_imp (tR_bind (rel := REq) h) fun x H1 ⟨io, ρ, v, L, R, S, r, z⟩ => ?_
  cases r
  cases x with
  | true => exact ⟨io, ρ, L, R, S, z⟩
  | false => exact z io false H1 .refl R rfl
theorem r_wor (ha : RT X Z W a f) (hb : RW' X Z W (.BoolOp .Or (b :: rest) pos) g) : RW' X Z W (.BoolOp .Or (a :: b :: rest) pos) (fun ρ L => (f ρ L).bind fun t L => if t then .ok true L else g ρ L) := by
  refine (pw_or ha hb).imp fun σ H Q h => tR_imp (tR_bind (rel := REq) h) fun x H1 ⟨io, ρ, v, L, R, S, r, z⟩ => ?_
  cases r
  cases x with
  | true => exact z io true H1 .refl R rfl
  | false => exact ⟨io, ρ, L, R, S, z⟩
/-- a comparison as a test -/
theorem r_tcmp (hK : X.K = Z.K) (hw : X.w = Z.w) (hu : X.A.units + 66 < cLine) {op : COp} (ha : RE X Z W a fx) (hb : RE X Z W b fy) (hm : behindInMarks (copOf op) b = false) :
    RT X Z W (.Compare a [copOf op] [b] pos) (fun ρ L => (fx ρ L).bind fun x L => (fy ρ L).bind fun y L => ofOpt (cmpop op L x y) L) := by
  refine (pt_cmpR (op_cmpA hK hw hu op) ha hb hm).imp fun σ H Q h => ?_
  refine tR_imp (tR_two (rel := RVl Z) (rel' := RVl Z) mo_v h) fun x H1 h1 => tR_imp h1 fun y H2 ⟨io, L, v, w, E, R, r1, r2, z⟩ => ?_
  cases ec : cmpop op L v w with
  | none => rw [ec] at z; exact z.elim
  | some t =>
    rw [ec] at z
    refine ⟨io, L, v, w, fun _ _ _ => True, R, r1, r2, ?_⟩
    unfold cmpR
    rw [ec]
    exact fun i u H3 xt R3 r3 => ⟨t, r3.bl, z i t H3 xt R3 rfl⟩
/-- len(set(xs)), items may be there twice -/
theorem r_lenset (hc : X.calm = true) (hg : Gl X "len") (hm : X.mg "len" = none) (hg2 : Gl X "set") (hm2 : X.mg "set" = none) (ha : RE X Z W a fx) (na : notStar a = true) :
    RE X Z W (.Call (.Name "len" p) [.Call (.Name "set" p2) [a] [] q] [] pos) (fun ρ L => (fx ρ L).bind fun x L => bLenset [x] L) := by
  refine ⟨fun pins s σ H Q I h => ?_⟩
  refine Call_ (ld_blt I hg hm PySem.boot_len (PyProof.Rows.callWith_builtin1 (PyProof.Rows.args_cons ?_ rfl) rfl rfl))
  refine Call_ (ld_blt I hg2 hm2 PyProof.Rows.boot_set (PyProof.Rows.callWith_type1 (PyProof.Rows.args_cons (thn (ha.run pins s σ H _ I (tR_one (rel := RVl Z) h)) fun v s1 ⟨x, H1, I1, rx, io, L, vx, E, R, r, z⟩ => PyProof.Rows.args_nil ?_) (star_each na)) (star_each na) rfl))
  unfold bLenset at z
  simp only at z
  split at z
  rotate_left
  · exact z.elim
  rename_i ns en
  split at z
  rotate_left
  · exact z.elim
  rename_i small
  obtain ⟨ys, e1, e2⟩ := Option.bind_eq_some_iff.mp en
  obtain ⟨l, vs, rfl, l1, r1⟩ := lstOf_of R e1 r
  have ev := r1.ofInts e2
  subst ev
  obtain rfl : v = Value.ref l := rx
  obtain ⟨its, rv, pl, hz⟩ := I1.list (l1.sq (K := X.K))
  have hl : its.toArray.size = ns.length := by rw [List.size_toArray, ← rv.length, List.length_map]
  refine call_set_list (I1.ok.hd hc) pl.isList (ns := ns) (by simpa using rv.ints) (by unfold scanBound; omega) fun h' tk hS hk => ?_
  have met : PyProof.Rows.firstMet (fun i => ns.getD i 0) its.toArray.size = ns.eraseDups := by
    rw [hl]
    have : (List.range ns.length).map (fun i => ns.getD i 0) = ns := by
      apply List.ext_getElem?
      intro i
      by_cases hi : i < ns.length
      · simp [hi]
      · simp [hi]
    unfold PyProof.Rows.firstMet
    rw [this]
    exact PySem.W.oss_dups ns
  rw [met] at hS
  refine PyProof.Rows.args_nil ?_
  obtain ⟨o, es, ep, t, ho, hex, hd, _, _, _, hf, hn⟩ := hS
  have I2 : Inv X pins σ H1 { s1 with heap := h', toks := tk } := I1.kept fun b o eo => hk b o (Heap.lt_size eo) eo
  have le : ns.eraseDups.length ≤ ns.length := by rw [← PySem.W.oss_dups ns]; unfold PySem.W.ossOf; simpa using PySem.W.oss_len_from ns []
  refine call_len_set ho hex hd hf (by rw [hn]; omega) ⟨.int ns.eraseDups.length, H1, I2.tok _, ⟨_, by rw [hn]⟩, okD z R (.int _)⟩
end
end L3
end
section
set_option Elab.async false
set_option linter.all false
set_option maxRecDepth 100000
set_option maxHeartbeats 4000000
/-! LT: what a def promises, where no repr is under way. -/
namespace L3
open PySem PySem.Spec PyProof.Rows L2
/-- a def keeps sp, called where no repr is under way -/
structure FnG (P : Program) (w : World) (K : PySem.W.Frag) (mg : Str → Option Value) (base : Heap) (CX : CXT) (k : Nat) (f : Addr) (fd : FuncData) (ps : List Str) (sp : Sp) : Prop where
  len : ∀ vs H Q E, sp vs H Q E → vs.length = ps.length
  run : ∀ (A : Around) (outer : List PySem.Env) (s : Shared) (H : Hp) (args : Args) (us : List Value) (vs : List V) (Q : VK) (E : XK), A.guards = some [] → Room k A → Env0 P w K mg base A outer s H → BindsTo s fd args (ps.zip us) → Vals vs us → sp vs H Q E →
    codeAny (model P w) A (.call (.ref f) args) (CR CX outer P w H s Q E) s
theorem fn_ofG {CX : CXT} {P : Program} {w : World} {K : PySem.W.Frag} {mg : Str → Option Value} {base : Heap} {k : Nat} {f : Addr} {name qual : Str} {params : Arguments} {body : List Stmt} {scope : Scope} {dV kV doc pm cdv ct oc : Value} {an od : Option Addr}
    {osl : Array (Option Value)} {N ps : List Str} {sp : Sp} (lk : K.lookup f = some ⟨oc, od, .func (PySem.W.fnOf name qual params body scope dV kV doc pm an cdv ct), osl⟩) (hcd : PySem.W.codeIn K cdv qual = true) (S : FnScope N ps scope)
    (len : ∀ vs H Q E, sp vs H Q E → vs.length = ps.length)
    (inner : ∀ (A : Around) (outer : List PySem.Env) (s : Shared) (H : Hp) (vs : List V) (Q : VK) (E : XK), (A.deeper (envOfC qual scope s.heap.objs.size f cdv)).guards = some [] → Room k (A.deeper (envOfC qual scope s.heap.objs.size f cdv)) → sp vs H Q E →
      ∃ t, PSs (cxOf CX P w K mg base N qual scope f cdv A outer s H E) body t ∧ t { nx := fun _ G => Q .non G, rt := Q } (start N vs) H) :
    FnG P w K mg base CX (k + 1) f (PySem.W.fnOf name qual params body scope dV kV doc pm an cdv ct) ps sp := by
  refine ⟨len, fun A outer s H args us vs Q E hg hr e0 hb r hsp => ?_⟩
  have hlen := len _ _ _ _ hsp
  have up : ∀ b o, base.get? b = some o → s.heap.get? b = some o := fun b o e => (e0.bs b o e).1
  have kin : K.In s.heap := e0.mod.kin.keeps up
  have nol : s.heap.NoLimit := e0.mod.nolimit.keeps up
  have kinds : ∀ y ∈ ps.zip us, scope.names.lookup y.1 = some .local ∨ (scope.names.lookup y.1 = some .cell ∧ ((cellsFrom (s.heap.objs.size + 1) scope.names []).lookup y.1).isSome = true) := by
    rintro ⟨n, v⟩ hy
    rcases S.par n (List.of_mem_zip hy).1 with z | z
    · exact Or.inl z
    · exact Or.inr ⟨z, PySem.W.cellsFrom_some _ _ _ (Or.inl z)⟩
  refine codeAny_call_function hr.depth (kin _ _ lk) rfl S.co S.gen rfl (PySem.W.codeRec_of kin hcd) (hb _ _ _ _ (wpAny_newFunctionEnv_cells S.kind kinds fun env he s1 x => ?_))
  subst he
  obtain ⟨t, ht, hq⟩ := inner A outer s H vs Q E hg (hr.deeper _) hsp
  have J0 : Inv (cxOf CX P w K mg base N qual scope f cdv A outer s H E) [] (start N vs) H s1 := inv_start S hr.hd e0 hlen r x
  have back : ∀ {τ : Sg} {G : Hp} {v : V} {u : Value} {s' : Shared}, Inv (cxOf CX P w K mg base N qual scope f cdv A outer s H E) [] τ G s' → RelV v u → Q v G → L2.CE outer P w H s Q u s' := fun {_ G v _ _} J rv q => ⟨v, G, J.os, J.bare, J.base, J.hok, rv, q⟩
  refine ⟨nol.keeps x.toInCall.keep, codeAny_func (wpAny_mono (ht.run [] s1 (start N vs) H _ J0 hq) (fun fl s' hs => ?_) fun _ _ hs => hs)⟩
  cases fl with
  | ret u => obtain ⟨v, τ, G, J, rv, q⟩ := hs; exact back J rv q
  | next => obtain ⟨τ, G, J, q⟩ := hs; exact back (v := V.non) (u := Value.none) J rfl q
  | brk => obtain ⟨_, _, _, q⟩ := hs; exact q.elim
  | cont => obtain ⟨_, _, _, q⟩ := hs; exact q.elim
/-- the callee runs -/
theorem run_fnG {X : Cx} {CX : CXT} {k : Nat} {f : Addr} {fd : FuncData} {ps : List Str} {sp : Sp} {E : XK} {pins : List (Addr × Obj)} {σ : Sg} {H : Hp} {s : Shared} {Q : VK} {us : List Value} {vs : List V} (F : FnG X.prog X.w X.K X.mg X.base CX k f fd ps sp) (hg : X.A.guards = some []) (hr : Room k X.A) (hb : Binds X.K fd ps []) (hx : PassesAt CX X σ E)
    (I : Inv X pins σ H s) (r : Vals vs us) (h : sp vs H Q E) : wpAny (model X.prog X.w) X.A (call (.ref f) us) (EP X pins σ Q) X.xe s := by
  have hl : (us ++ []).length = ps.length := by rw [List.append_nil, ← r.length]; exact F.len _ _ _ _ h
  have bd := hb s us I.kIn hl
  rw [List.append_nil] at bd
  refine wpAny_call (codeAny_mono (F.run X.A X.stack s H ⟨us, []⟩ us vs Q E hg hr I.env0 bd r h) fun res s' z => ?_)
  cases res with
  | error e => exact hx pins H s e s' I z
  | ok fl =>
    cases fl with
    | ret u => exact I.after z
    | next => exact False.elim z
    | brk => exact False.elim z
    | cont => exact False.elim z
/-- what the evaluator says of a def's call, as a promise -/
def spL (Z : Lk) (c : List VL → LH → Res VL) (n : Nat) : Sp := fun vs H Q E => vs.length = n ∧ ∃ io L xs, Rep Z io H L ∧ RVs Z io H xs vs ∧ Post Z (RVl Z) io H (c xs L) Q E
/-- f(e, ..), f a def of the module -/
theorem r_call {X : Cx} {Z : Lk} {W : WX} {CX : CXT} {k n : Nat} {f : Addr} {fd : FuncData} {ps : List Str} {x : Str} {e : Expr} {es : List Expr} {p pos : Pos} {fs : Env → LH → Res (List VL)} {c : List VL → LH → Res VL}
    (F : FnG X.prog X.w X.K X.mg X.base CX k f fd ps (spL Z c n)) (hgd : X.A.guards = some []) (hr : Room k X.A) (hg : Gl X x) (hm : X.mg x = some (.ref f)) (hk : PySem.W.keepIn X.K (.ref f) = true) (hb : Binds X.K fd ps [])
    (hx : ∀ σ, PassesAt CX X σ (fun c d H' => W c d σ H')) (ha : RA X Z W (e :: es) fs) (ar : ∀ ρ L xs L', fs ρ L = .ok xs L' → xs.length = n) (hdb : (x == ("__debug__" : Str)) = false) (ns : noStars (e :: es) = true) :
    RE X Z W (.Call (.Name x p) (e :: es) [] pos) (fun ρ L => (fs ρ L).bind fun xs L => c xs L) := by
  have ns' : notStar e = true ∧ noStars es = true := by simpa [noStars] using ns
  refine ⟨fun pins s σ H Q I ⟨io, ρ, L, R, S, q⟩ => ?_⟩
  have hargs : tR Z W (RVs Z) fs σ H fun vs H1 => spL Z c n vs H1 Q fun c d H' => W c d σ H' := by
    refine ⟨io, ρ, L, R, S, ?_⟩
    cases ef : fs ρ L with
    | stuck => simp only [ef] at q; exact q
    | exn d L' => simp only [ef] at q; exact q
    | ok xs L' =>
      simp only [ef] at q
      exact fun i vs H1 xt R1 rv => ⟨by rw [← rv.length]; exact ar ρ L xs L' ef, i, L', xs, R1, rv, Post.ext (r := c xs L') q xt⟩
  refine wpAny_Call_Name_kw (ld_glob I hg hm ?_ hdb)
  exact PySem.W.callWith_K (h₀ := X.base) I.ok.mod.kin hk (thn (ha.run pos pins s σ H _ I hargs) fun us s1 ⟨vs, H1, I1, r, z⟩ => ⟨I1.kIn, run_fnG F hgd hr hb (hx σ) I1 r z⟩) (star_each ns'.1) (stars_none pos X.env es ns'.2)
end L3
end
section
set_option Elab.async false
set_option linter.all false
set_option maxRecDepth 100000
set_option maxHeartbeats 4000000
/-! LU: zip of any number of iterators, whatever became of the tuple that was given out before; at the library's level. -/
namespace L3
open PySem PySem.Spec PyProof.Rows L2
/-- an iterator among others, in any frame where nothing is handled -/
structure Dr (P : Program) (w : World) where
  it : Addr
  fp : List Addr
  n : Nat
  Y : Nat → Value → Prop
  St : Nat → Heap → Prop
  mem : it ∈ fp
  D : ∀ A : Around, A.handled = none → Draws P w A it fp n Y St
abbrev IsZ (h : Heap) (z TI TO : Addr) (f0 : Value) (f : Bool) : Prop :=
  h.get? z = some { cls := .type "zip", dict := none, data := .fields #[f0, .bool f, .bool false, .ref TI, .ref TO], slots := #[] }
abbrev IsTp (h : Heap) (T : Addr) (xs : List Value) : Prop := h.get? T = some { cls := .type "tuple", data := .seq xs.toArray }
structure ZSep {P : Program} {w : World} (z TI TO : Addr) (ds : List (Dr P w)) : Prop where
  TIz : TI ≠ z
  TOz : TO ≠ z
  TITO : TI ≠ TO
  ti : ∀ d ∈ ds, TI ≠ d.it
  zf : ∀ d ∈ ds, z ∉ d.fp
  Tf : ∀ d ∈ ds, TO ∉ d.fp
  sep : ds.Pairwise fun a b => a.it ∉ b.fp ∧ b.it ∉ a.fp
section
variable {P : Program} {w : World} {A : Around} {E : Value → Shared → Prop} {s : Shared} {z TI TO : Addr} {ds : List (Dr P w)} {i : Nat}
/-- what stands away from the zip's own cells stands -/
def ZKeep (z TO : Addr) (ds : List (Dr P w)) (h h' : Heap) : Prop := ∀ c o, c ≠ z → c ≠ TO → (∀ d ∈ ds, c ≠ d.it) → h.get? c = some o → h'.get? c = some o
def ZFree (f0 : Value) : Prop := f0 = .none ∨ ∃ T : Addr, f0 = rawInt T
/-- the zip is told whether its tuple is free -/
theorem z_isFree {f0 : Value} {f : Bool} {Q : Bool → Shared → Prop} (hz : IsZ s.heap z TI TO f0 f) (hf : ZFree f0)
    (h : ∀ b h' f', IsZ h' z TI TO f0 f' → Heap.SameBut z s.heap h' → Q b { s with heap := h' }) : wpAny (model P w) A (Builtin.SmallTypes.ownedTupleIsFree (.ref z)) Q E s := by
  unfold Builtin.SmallTypes.ownedTupleIsFree
  rcases hf with rfl | ⟨T, rfl⟩
  · exact wpAny_bind (wpAny_field hz rfl (x := .none) rfl (wpAny_pure (h true s.heap f hz (Heap.SameBut.refl _ _))))
  · refine wpAny_bind (wpAny_field hz rfl (x := rawInt T) rfl ?_)
    show wpAny _ _ (loadIfAlive ((T : Int).toNat) >>= _) _ _ _
    rw [Int.toNat_natCast]
    have key : ∀ {k : Option Obj → Sem Bool}, wpAny (model P w) A (k (s.heap.get? T)) Q E s → wpAny (model P w) A (loadIfAlive T >>= k) Q E s := fun q => wpAny_bind (fun _ _ _ => q)
    refine key ?_
    cases e : s.heap.get? T with
    | none => exact wpAny_pure (h true s.heap f hz (Heap.SameBut.refl _ _))
    | some o =>
      simp only [Option.isNone_some, Bool.false_eq_true, if_false]
      refine wpAny_bind (wpAny_field hz rfl (x := .bool f) rfl ?_)
      cases f with
      | true =>
        rw [if_neg (show ¬ ((Value.bool true != Value.bool true) = true) from Bool.false_ne_true)]
        exact wpAny_pure (h false s.heap true hz (Heap.SameBut.refl _ _))
      | false =>
        rw [if_pos (show (Value.bool false != Value.bool true) = true from rfl)]
        exact wpAny_bind (wpAny_setField_rec hz (by simp) fun h₁ hz₁ hs₁ => wpAny_pure (h false h₁ true hz₁ hs₁))
theorem Dr.over (d : Dr P w) {i : Nat} {h h' : Heap} {x : Addr} (hh : A.handled = none) (st : d.St i h) (hs : Heap.SameBut x h h') (hx : x ∉ d.fp) : d.St i h' := (d.D A hh).over st hs hx

theorem z_letGo {tg : Expr} {f0 : Value} {f : Bool} {T : Addr} {Q : Unit → Shared → Prop} (hz : IsZ s.heap z TI TO f0 f) (hf : ZFree f0)
    (h : ∀ h' f1, IsZ h' z TI TO f1 f → ZFree f1 → Heap.SameBut z s.heap h' → Q () { s with heap := h' }) : wpAny (model P w) A (letOwnedTupleGo tg (.ref z) (.ref T)) Q E s := by
  have q0 : Q () s := h s.heap f0 hz hf (Heap.SameBut.refl _ _)
  have body : wpAny (model P w) A (do
      let o ← load z
      match o.cls, o.data with
      | .type n, .fields vs =>
        if ["enumerate", "zip", "dict_itemiterator", "dict_reverseitemiterator", "odict_iterator", "itertools.zip_longest", "itertools.pairwise"].contains n && vs[0]? == some (rawInt T) then
          rule "for.unpacks-the-owned-tuple"
          updateField z 0 .none
      | _, _ => pure ()) Q E s := by
    refine wpAny_bind (wpAny_load hz ?_)
    simp only []
    split
    · refine wpAny_bind (wpAny_rule ?_)
      exact wpAny_setField_rec (k := 0) (x := .none) hz (by simp) fun h' hz' hs' => h h' .none hz' (.inl rfl) hs'
    · exact wpAny_pure q0
  unfold letOwnedTupleGo
  cases tg <;> first
    | exact wpAny_pure q0
    | exact body
theorem paired_snoc {α β : Type} {G : α → β → Prop} {a : α} {b : β} (h : G a b) : ∀ {l₁ : List α} {l₂ : List β}, Paired G l₁ l₂ → Paired G (l₁ ++ [a]) (l₂ ++ [b])
  | _, _, .nil => .cons h .nil
  | _, _, .cons x t => .cons x (paired_snoc h t)
theorem paired_length {α β : Type} {G : α → β → Prop} : ∀ {l₁ : List α} {l₂ : List β}, Paired G l₁ l₂ → l₁.length = l₂.length
  | _, _, .nil => rfl
  | _, _, .cons _ t => by simp [paired_length t]
theorem zip_next {Q : Value → Shared → Prop} (hh : A.handled = none) (S : ZSep z TI TO ds) (hd : ds ≠ []) (hsz : ds.length ≤ sizeLine) {f0 : Value} {f : Bool} {xs : List Value} (hz : IsZ s.heap z TI TO f0 f) (hf : ZFree f0)
    (hTI : IsTp s.heap TI (ds.map fun d => .ref d.it)) (hTO : IsTp s.heap TO xs) (hx : xs.length = ds.length) (st : ∀ d ∈ ds, d.St i s.heap ∧ i ≤ d.n)
    (hQ : ∀ h' tk ys f0' f' xs', (∀ d ∈ ds, i < d.n) → Paired (fun (d : Dr P w) y => d.Y i y) ds ys → IsZ h' z TI TO f0' f' → ZFree f0' → IsTp h' TO xs' → xs'.length = ds.length → (∀ d ∈ ds, d.St (i + 1) h') →
      IsTp h' s.heap.objs.size ys → h'.objs.size = s.heap.objs.size + 1 → ZKeep z TO ds s.heap h' → Q (.ref s.heap.objs.size) { s with heap := h', toks := tk })
    (hE : ∀ h' tk e, (∃ d ∈ ds, i = d.n) → ZKeep z TO ds s.heap h' → (∃ o, h'.get? e = some o ∧ o.cls = .type "StopIteration") → E (.ref e) { s with heap := h', toks := tk }) :
    wpAny (model P w) A (Builtin.«zip.__next__» ⟨[.ref z], []⟩) (fun fin s' => ∃ v, fin = .done (.ret v) ∧ Q v s') E s := by
  obtain ⟨hp, g, d0, tk0, os⟩ := s
  show wpAny _ _ (field (.ref z) 2 >>= _) _ _ _
  refine wpAny_bind (wpAny_field hz rfl (x := .bool false) rfl ?_)
  show wpAny _ _ (field (.ref z) 3 >>= _) _ _ _
  refine wpAny_bind (wpAny_field hz rfl (x := .ref TI) rfl ?_)
  refine wpAny_bind (wpAny_seqItems hTI rfl ?_)
  have hne : ((ds.map fun d => Value.ref d.it).toArray.isEmpty) = false := by
    cases ds with
    | nil => exact absurd rfl hd
    | cons a l => simp
  simp only [hne, Bool.false_eq_true, if_false]
  show wpAny _ _ (Builtin.SmallTypes.ownedTupleIsFree (.ref z) >>= _) _ _ _
  refine wpAny_bind (z_isFree hz hf fun b h1 f1 hz1 hs1 => ?_)
  replace hs1 : Heap.SameBut z hp h1 := hs1
  have zne : ∀ d ∈ ds, z ≠ d.it := fun d hm e => S.zf d hm (e ▸ d.mem)
  have Tne : ∀ d ∈ ds, TO ≠ d.it := fun d hm e => S.Tf d hm (e ▸ d.mem)
  cases b with
  | true =>
    simp only [if_true]
    refine wpAny_bind (wpAny_rule ?_)
    refine wpAny_bind (wpAny_field hz1 rfl (x := .ref TO) rfl ?_)
    refine wpAny_bind (wpAny_setField_rec hz1 (by simp) fun g0 hz0 hs0 => ?_)
    replace hz0 : IsZ g0 z TI TO .ellipsis f1 := hz0
    replace hs0 : Heap.SameBut z h1 g0 := hs0
    refine wpAny_bind (wpAny_forIn_list _ (fun rest b s' => ∃ (done left : List (Dr P w)) (ys : List Value) (h : Heap) (tk : Nat), ds = done ++ left ∧ rest = (left.map fun d => Value.ref d.it).zipIdx done.length ∧ b.1 = none ∧ s' = ⟨h, g, d0, tk, os⟩ ∧ IsZ h z TI TO .ellipsis f1 ∧
      IsTp h TO (ys ++ xs.drop ys.length) ∧ Paired (fun (d : Dr P w) y => d.Y i y) done ys ∧ (∀ d ∈ done, i < d.n ∧ d.St (i + 1) h) ∧ (∀ d ∈ left, d.St i h) ∧ h.objs.size = hp.objs.size ∧ ZKeep z TO ds hp h) _ ?turn ?fin _ _ ?init)
    case init =>
      have k0 : ∀ c o, c ≠ z → hp.get? c = some o → g0.get? c = some o := fun c o c1 e => hs0.extBut _ _ c1 (hs1.extBut _ _ c1 e)
      refine ⟨[], ds, [], g0, tk0, rfl, by simp, rfl, rfl, hz0, k0 _ _ S.TOz hTO, .nil, (fun _ h => nomatch h), fun d hm => ?_, by rw [hs0.1, hs1.1], fun c o c1 _ _ e => k0 c o c1 e⟩
      exact (d.D A hh).frame _ _ _ (st d hm).1 fun b hb o e => k0 b o (fun q => S.zf d hm (q ▸ hb)) e
    case turn =>
      rintro ⟨itv, k⟩ rest b s' ⟨done, left, ys, h, tk, eds, er, eb, rfl, hz', hT', py, hdone, hleft, hsz', hk⟩
      cases left with
      | nil => simp at er
      | cons d left =>
        simp only [List.map_cons, List.zipIdx_cons, List.cons.injEq, Prod.mk.injEq] at er
        obtain ⟨⟨rfl, rfl⟩, rfl⟩ := er
        have hm : d ∈ ds := by rw [eds]; simp
        have hl : ys.length = done.length := (paired_length py).symm
        refine wpAny_bind (wpAny_onRaise ?_)
        show wpAny _ _ (Builtin.SmallTypes.nextOf (.ref d.it) >>= _) _ _ _
        have sep := S.sep
        rw [eds, List.pairwise_append] at sep
        by_cases hlt : i < d.n
        · refine wpAny_bind ((d.D A hh).item i _ _ _ hlt (hleft d (by simp)) fun x p1 tk1 hx1 sn1 hp1 => wpAny_pure ?_)
          replace hp1 : Heap.SameBut d.it h p1 := hp1
          have hU1 : IsTp p1 TO (ys ++ xs.drop ys.length) := hp1.extBut _ _ (Tne d hm) hT'
          refine wpAny_bind (wpAny_seqItems (s := ⟨p1, g, d0, tk1, os⟩) hU1 rfl ?_)
          have hlen : (ys ++ xs.drop ys.length).length = ds.length := by
            have : ys.length ≤ xs.length := by rw [hx, hl, eds]; simp
            simp; omega
          refine wpAny_bind (wpAny_updateSeq (s := ⟨p1, g, d0, tk1, os⟩) hU1 rfl ?_ (by rw [List.size_toArray, hlen]; exact hsz) (by rw [Array.size_setIfInBounds, List.size_toArray, hlen]; omega))
          have hT2 : IsTp (p1.update TO (Obj.mapSeq (·.setIfInBounds done.length x))) TO (ys ++ [x] ++ xs.drop (ys ++ [x]).length) := by
            unfold IsTp
            rw [Heap.get?_update_self _ hU1 rfl]
            have : ys.length < xs.length := by rw [hx, hl, eds]; simp
            have ea : (ys ++ xs.drop ys.length).toArray.setIfInBounds done.length x = (ys ++ [x] ++ xs.drop (ys ++ [x]).length).toArray := by
              rw [List.setIfInBounds_toArray, ← hl, List.set_append_right _ _ (Nat.le_refl _), Nat.sub_self, List.drop_eq_getElem_cons this, List.set_cons_zero, List.length_append, List.append_assoc]
              rfl
            rw [← ea]; simp [Obj.mapSeq]
          have hs2 : Heap.SameBut TO p1 (p1.update TO (Obj.mapSeq (·.setIfInBounds done.length x))) := Heap.SameBut.update ..
          generalize p1.update TO (Obj.mapSeq (·.setIfInBounds done.length x)) = g1 at hT2 hs2
          refine wpAny_bind (wpAny_letGo (wpAny_pure ?_))
          have kk : ∀ c o, c ≠ TO → c ≠ d.it → h.get? c = some o → g1.get? c = some o := fun c o c1 c2 e => hs2.extBut _ _ c1 (hp1.extBut _ _ c2 e)
          refine ⟨done ++ [d], left, ys ++ [x], g1, tk1, by rw [eds]; simp, by simp, rfl, rfl, kk _ _ S.TOz.symm (zne d hm) hz', hT2, paired_snoc (G := fun (d : Dr P w) y => d.Y i y) hx1 py, fun e he => ?_, fun e he => ?_, by rw [hs2.1, hp1.1, hsz'], fun c o c1 c2 c3 e => kk c o c2 (c3 d hm) (hk c o c1 c2 c3 e)⟩
          · rcases List.mem_append.mp he with he | he
            · have hme : e ∈ ds := by rw [eds]; exact List.mem_append_left _ he
              refine ⟨(hdone e he).1, (e.D A hh).frame _ _ _ (hdone e he).2 fun b hb o q => kk b o (fun w => S.Tf e hme (w ▸ hb)) (fun w => ?_) q⟩
              exact (sep.2.2 e he d (by simp)).2 (w ▸ hb)
            · rw [List.mem_singleton.mp he]
              exact ⟨hlt, d.over hh sn1 hs2 (S.Tf d hm)⟩
          · have hme : e ∈ ds := by rw [eds]; simp [he]
            refine (e.D A hh).frame _ _ _ (hleft e (by simp [he])) fun b hb o q => kk b o (fun w => S.Tf e hme (w ▸ hb)) (fun w => ?_) q
            have := (List.pairwise_cons.mp sep.2.1).1 e he
            exact this.1 (w ▸ hb)
        · have hi : i = d.n := by have := (st d hm).2; omega
          refine wpAny_bind ((d.D A hh).done ⟨h, g, d0, tk, os⟩ _ _ (by rw [← hi]; exact hleft d (by simp)) fun q e hq he => ?_)
          replace hq : Heap.ExtBut d.it h q := hq
          obtain ⟨oe, hoe, hce⟩ := he
          replace hoe : q.get? e = some oe := hoe
          have hzq : IsZ q z TI TO .ellipsis f1 := hq _ _ (zne d hm) hz'
          have hez : e ≠ z := fun x => by subst x; rw [hzq] at hoe; cases hoe; simp at hce
          refine wpAny_setField_rec (s := ⟨q, g, d0, tk, os⟩) hzq (by simp) fun q' _ hq' => ?_
          replace hq' : Heap.SameBut z q q' := hq'
          exact hE q' tk e ⟨d, hm, hi⟩ (fun c o c1 c2 c3 x => hq'.extBut _ _ c1 (hq _ _ (c3 d hm) (hk c o c1 c2 c3 x))) ⟨oe, hq'.extBut _ _ hez hoe, hce⟩
    case fin =>
      rintro ⟨b1, b2⟩ s' ⟨done, left, ys, h, tk, eds, er, eb, rfl, hz', hT', py, hdone, hleft, hsz', hk⟩
      have el : left = [] := by
        cases left with
        | nil => rfl
        | cons d l => simp at er
      subst el
      rw [List.append_nil] at eds
      subst eds
      simp only at eb
      subst eb
      have hl : ys.length = ds.length := (paired_length py).symm
      have hdr : xs.drop ys.length = [] := by rw [List.drop_eq_nil_iff]; omega
      rw [hdr, List.append_nil] at hT'
      refine wpAny_bind (wpAny_seqItems (s := ⟨h, g, d0, tk, os⟩) hT' rfl ?_)
      refine wpAny_bind (wpAny_newTuple ?_ (by simp; omega))
      have hzlt : z < h.objs.size := Heap.lt_size hz'
      show wpAny _ _ (Builtin.SmallTypes.ownedTupleHandOut (.ref z) (.ref h.objs.size) >>= _) _ _ ⟨h.push { cls := .type "tuple", data := .seq ys.toArray.toList.toArray }, g, d0, tk, os⟩
      refine wpAny_bind ?_
      unfold Builtin.SmallTypes.ownedTupleHandOut
      have hz₆ : IsZ (h.push { cls := .type "tuple", data := .seq ys.toArray.toList.toArray }) z TI TO .ellipsis f1 := Heap.get?_push_of_some _ hz'
      refine wpAny_bind (wpAny_setField_rec hz₆ (by simp) fun h₇ hz₇ hs₇ => ?_)
      replace hz₇ : IsZ h₇ z TI TO (rawInt h.objs.size) f1 := hz₇
      refine wpAny_setField_rec hz₇ (by simp) fun h₈ hz₈ hs₈ => ?_
      replace hz₈ : IsZ h₈ z TI TO (rawInt h.objs.size) false := hz₈
      replace hs₇ : Heap.SameBut z (h.push { cls := .type "tuple", data := .seq ys.toArray.toList.toArray }) h₇ := hs₇
      replace hs₈ : Heap.SameBut z h₇ h₈ := hs₈
      have up : ∀ c o, c ≠ z → h.get? c = some o → h₈.get? c = some o := fun c o c1 e => hs₈.extBut _ _ c1 (hs₇.extBut _ _ c1 (Heap.get?_push_of_some _ e))
      have hT₈ : IsTp h₈ h.objs.size ys := hs₈.extBut _ _ (Nat.ne_of_gt hzlt) (hs₇.extBut _ _ (Nat.ne_of_gt hzlt) (Heap.get?_push_size _ rfl))
      have hz8 : h₈.objs.size = h.objs.size + 1 := by rw [hs₈.1, hs₇.1, Heap.size_push]
      rw [hsz'] at hz₈ hT₈ hz8
      refine wpAny_pure ⟨_, rfl, ?_⟩
      show Q (.ref h.objs.size) ⟨h₈, g, d0, tk, os⟩
      rw [hsz']
      exact hQ h₈ tk ys _ _ ys (fun d hm => (hdone d hm).1) py hz₈ (.inr ⟨_, rfl⟩) (up _ _ S.TOz hT') hl (fun d hm => (d.D A hh).frame _ _ _ (hdone d hm).2 fun b hb o e => up b o (fun q => S.zf d hm (q ▸ hb)) e) hT₈ hz8 fun c o c1 c2 c3 e => up c o c1 (hk c o c1 c2 c3 e)
  | false =>
    simp only [Bool.false_eq_true, if_false]
    refine wpAny_bind ?_
    rw [← Array.forIn_toList]
    refine wpAny_forIn_list _ (fun rest b s' => ∃ (done left : List (Dr P w)) (h : Heap) (tk : Nat), ds = done ++ left ∧ rest = (left.map fun d => Value.ref d.it) ∧ b.1 = none ∧ s' = ⟨h, g, d0, tk, os⟩ ∧ IsZ h z TI TO f0 f1 ∧
      IsTp h TO xs ∧ Paired (fun (d : Dr P w) y => d.Y i y) done b.2.toList ∧ (∀ d ∈ done, i < d.n ∧ d.St (i + 1) h) ∧ (∀ d ∈ left, d.St i h) ∧ h.objs.size = hp.objs.size ∧ ZKeep z TO ds hp h) _ ?turn ?fin _ _ ?init
    case init =>
      have k0 : ∀ c o, c ≠ z → hp.get? c = some o → h1.get? c = some o := fun c o c1 e => hs1.extBut _ _ c1 e
      refine ⟨[], ds, h1, tk0, rfl, by simp, rfl, rfl, hz1, k0 _ _ S.TOz hTO, .nil, (fun _ h => nomatch h), fun d hm => ?_, hs1.1, fun c o c1 _ _ e => k0 c o c1 e⟩
      exact (d.D A hh).frame _ _ _ (st d hm).1 fun b hb o e => k0 b o (fun q => S.zf d hm (q ▸ hb)) e
    case turn =>
      rintro itv rest b s' ⟨done, left, h, tk, eds, er, eb, rfl, hz', hT', py, hdone, hleft, hsz', hk⟩
      cases left with
      | nil => simp at er
      | cons d left =>
        simp only [List.map_cons, List.cons.injEq] at er
        obtain ⟨rfl, rfl⟩ := er
        have hm : d ∈ ds := by rw [eds]; simp
        refine wpAny_bind (wpAny_holding ?_)
        show wpAny _ _ (Builtin.SmallTypes.nextOf (.ref d.it) >>= _) _ _ _
        have sep := S.sep
        rw [eds, List.pairwise_append] at sep
        by_cases hlt : i < d.n
        · refine wpAny_bind ((d.D A hh).item i _ _ _ hlt (hleft d (by simp)) fun x p1 tk1 hx1 sn1 hp1 => wpAny_pure (wpAny_pure ?_))
          replace hp1 : Heap.SameBut d.it h p1 := hp1
          have kk : ∀ c o, c ≠ d.it → h.get? c = some o → p1.get? c = some o := fun c o c2 e => hp1.extBut _ _ c2 e
          refine ⟨done ++ [d], left, p1, tk1, by rw [eds]; simp, rfl, rfl, rfl, kk _ _ (zne d hm) hz', kk _ _ (Tne d hm) hT', by rw [Array.toList_push]; exact paired_snoc (G := fun (d : Dr P w) y => d.Y i y) hx1 py, fun e he => ?_, fun e he => ?_, by rw [hp1.1, hsz'], fun c o c1 c2 c3 e => kk c o (c3 d hm) (hk c o c1 c2 c3 e)⟩
          · rcases List.mem_append.mp he with he | he
            · refine ⟨(hdone e he).1, (e.D A hh).frame _ _ _ (hdone e he).2 fun b hb o q => kk b o (fun w => ?_) q⟩
              exact (sep.2.2 e he d (by simp)).2 (w ▸ hb)
            · rw [List.mem_singleton.mp he]
              exact ⟨hlt, sn1⟩
          · refine (e.D A hh).frame _ _ _ (hleft e (by simp [he])) fun b hb o q => kk b o (fun w => ?_) q
            have := (List.pairwise_cons.mp sep.2.1).1 e he
            exact this.1 (w ▸ hb)
        · have hi : i = d.n := by have := (st d hm).2; omega
          refine wpAny_bind ((d.D A hh).done ⟨h, g, d0, tk, os⟩ _ _ (by rw [← hi]; exact hleft d (by simp)) fun q e hq he => ?_)
          exact hE q tk e ⟨d, hm, hi⟩ (fun c o c1 c2 c3 x => hq _ _ (c3 d hm) (hk c o c1 c2 c3 x)) he
    case fin =>
      rintro ⟨b1, b2⟩ s' ⟨done, left, h, tk, eds, er, eb, rfl, hz', hT', py, hdone, hleft, hsz', hk⟩
      have el : left = [] := by
        cases left with
        | nil => rfl
        | cons d l => simp at er
      subst el
      rw [List.append_nil] at eds
      subst eds
      simp only at eb py
      subst eb
      have hl : b2.toList.length = ds.length := (paired_length py).symm
      refine wpAny_bind (wpAny_newTuple ?_ (by show b2.toList.length ≤ _; omega))
      refine wpAny_pure ⟨_, rfl, ?_⟩
      show Q (.ref h.objs.size) ⟨h.push { cls := .type "tuple", data := .seq b2.toList.toArray }, g, d0, tk, os⟩
      have hT₈ : IsTp (h.push { cls := .type "tuple", data := .seq b2.toList.toArray }) h.objs.size b2.toList := Heap.get?_push_size _ rfl
      have hz8 : (h.push { cls := .type "tuple", data := .seq b2.toList.toArray }).objs.size = h.objs.size + 1 := Heap.size_push ..
      rw [hsz'] at hT₈ hz8 ⊢
      exact hQ _ tk b2.toList _ _ xs (fun d hm => (hdone d hm).1) py (Heap.get?_push_of_some _ hz') hf (Heap.get?_push_of_some _ hT') hx (fun d hm => (d.D A hh).frame _ _ _ (hdone d hm).2 fun b hb o e => Heap.get?_push_of_some _ e) hT₈ hz8 fun c o c1 c2 c3 e => Heap.get?_push_of_some _ (hk c o c1 c2 c3 e)

theorem z_pyNext {Q : Option Value → Shared → Prop} (hh : A.handled = none) (S : ZSep z TI TO ds) (hd : ds ≠ []) (hsz : ds.length ≤ sizeLine) {f0 : Value} {f : Bool} {xs : List Value} (hz : IsZ s.heap z TI TO f0 f) (hf : ZFree f0)
    (hTI : IsTp s.heap TI (ds.map fun d => .ref d.it)) (hTO : IsTp s.heap TO xs) (hx : xs.length = ds.length) (st : ∀ d ∈ ds, d.St i s.heap ∧ i ≤ d.n)
    (hQ : ∀ h' tk ys f0' f' xs', (∀ d ∈ ds, i < d.n) → Paired (fun (d : Dr P w) y => d.Y i y) ds ys → IsZ h' z TI TO f0' f' → ZFree f0' → IsTp h' TO xs' → xs'.length = ds.length → (∀ d ∈ ds, d.St (i + 1) h') →
      IsTp h' s.heap.objs.size ys → h'.objs.size = s.heap.objs.size + 1 → ZKeep z TO ds s.heap h' → Q (some (.ref s.heap.objs.size)) { s with heap := h', toks := tk })
    (hE : ∀ h' tk, (∃ d ∈ ds, i = d.n) → ZKeep z TO ds s.heap h' → Q none { s with heap := h', toks := tk }) :
    wpAny (model P w) A (pyNext (.ref z)) Q E s := by
  have hT : s.TypeIs (.ref z) "zip" := ⟨_, hz, rfl⟩
  unfold pyNext
  refine wpAny_bind (wpAny_attempt (wpAny_callSpecial?_slot (name := Str.ofString "__next__") hT F.slot_zip_next
    (wpAny_call_entry F.slot_zip_next hT F.entry_zip_next ?_ (F.args_zip_next_1 _))))
  exact zip_next (A := A.in1) hh S hd hsz hz hf hTI hTO hx st (fun h' tk ys f0' f' xs' a1 a2 a3 a4 a5 a6 a7 a8 a9 a10 => wpAny_pure (hQ h' tk ys f0' f' xs' a1 a2 a3 a4 a5 a6 a7 a8 a9 a10))
    fun h' tk e a1 a2 ⟨o, ho, hc⟩ => wpAny_bind (wpAny_isInstance (T := "StopIteration") (b := true) ⟨o, ho, hc⟩ isSubtype_stop (wpAny_pure (hE h' tk a1 a2)))
theorem z_pyIter {f0 : Value} {f : Bool} {Q : Value → Shared → Prop} (hz : IsZ s.heap z TI TO f0 f) (h : Q (.ref z) s) : wpAny (model P w) A (pyIter (.ref z)) Q E s := by
  have hT : s.TypeIs (.ref z) "zip" := ⟨_, hz, rfl⟩
  refine wpAny_pyIter_slot hT F.slot_zip_iter (wpAny_call_entry F.slot_zip_iter hT F.entry_zip_iter ?_ (F.args_zip_iter_1 _))
  show wpAny _ _ (ret (.ref z)) _ _ s
  exact wpAny_pure ⟨_, rfl, _, _, hT, F.slot_zip_next.lookup, h⟩
end
/-! ### zip(..) begins -/
structure Bg where
  v : Value
  o : Obj
  H : Heap → Prop
  B : Begins v o H
def pushAll (h : Heap) : List Bg → Heap
  | [] => h
  | b :: bs => pushAll (h.push b.o) bs
theorem pushAll_size : ∀ (bs : List Bg) (h : Heap), (pushAll h bs).objs.size = h.objs.size + bs.length
  | [], h => rfl
  | b :: bs, h => by rw [pushAll, pushAll_size bs, Heap.size_push]; simp; omega
theorem pushAll_keep : ∀ (bs : List Bg) (h : Heap) (c : Addr) (o : Obj), h.get? c = some o → (pushAll h bs).get? c = some o
  | [], h, c, o, e => e
  | b :: bs, h, c, o, e => pushAll_keep bs _ c o (Heap.get?_push_of_some _ e)
theorem pushAll_get : ∀ (bs : List Bg) (h : Heap) (k : Nat) (b : Bg), bs[k]? = some b → (pushAll h bs).get? (h.objs.size + k) = some b.o
  | [], h, k, b, e => by simp at e
  | a :: bs, h, 0, b, e => by simp at e; subst e; exact pushAll_keep bs _ _ _ (Heap.get?_push_size _ a.B.free)
  | a :: bs, h, k + 1, b, e => by
    have := pushAll_get bs (h.push a.o) k b (by simpa using e)
    rw [Heap.size_push] at this
    rw [show h.objs.size + (k + 1) = h.objs.size + 1 + k by omega]
    exact this
theorem pushAll_snoc : ∀ (bs : List Bg) (h : Heap) (b : Bg), pushAll h (bs ++ [b]) = (pushAll h bs).push b.o
  | [], h, b => rfl
  | a :: bs, h, b => pushAll_snoc bs _ b
def refsFrom (N n : Nat) : List Value := (List.range n).map fun k => .ref (N + k)
section
variable {P : Program} {w : World} {A : Around} {E : Value → Shared → Prop} {s : Shared}
theorem wp_iterAll (bs : List Bg) {Q : List Value → Shared → Prop} (hH : ∀ b ∈ bs, b.H s.heap) (q : Q (refsFrom s.heap.objs.size bs.length) { s with heap := pushAll s.heap bs }) :
    wpAny (model P w) A (Builtin.SmallTypes.iterAll (bs.map (·.v))) Q E s := by
  unfold Builtin.SmallTypes.iterAll
  refine wpAny_bind (wpAny_forIn_list _ (fun rest its s' => ∃ done left, bs = done ++ left ∧ rest = left.map (·.v) ∧ its.toList = refsFrom s.heap.objs.size done.length ∧ s' = { s with heap := pushAll s.heap done }) _ ?turn ?fin _ _ ⟨[], bs, rfl, rfl, rfl, rfl⟩)
  case turn =>
    rintro x rest its s' ⟨done, left, e1, e2, e3, rfl⟩
    cases left with
    | nil => simp at e2
    | cons b left =>
      simp only [List.map_cons, List.cons.injEq] at e2
      obtain ⟨rfl, rfl⟩ := e2
      refine wpAny_bind (wpAny_holding (b.B.iter P w _ _ _ _ (b.B.keeps _ _ (hH b (by rw [e1]; simp)) fun c o e => pushAll_keep _ _ _ _ e) (wpAny_pure ?_)))
      refine ⟨done ++ [b], left, by rw [e1]; simp, rfl, ?_, by rw [pushAll_snoc]⟩
      rw [Array.toList_push, e3]
      show _ = refsFrom _ (done ++ [b]).length
      simp only [List.length_append, List.length_singleton, refsFrom, List.range_succ, List.map_append, List.map_cons, List.map_nil]
      show _ ++ [Value.ref (pushAll s.heap done).objs.size] = _
      rw [pushAll_size]
  case fin =>
    rintro its s' ⟨done, left, e1, e2, e3, rfl⟩
    have : left = [] := by simpa using e2.symm
    subst this
    rw [List.append_nil] at e1
    subst e1
    show wpAny _ _ (pure its.toList) _ _ _
    rw [e3]
    exact wpAny_pure q
abbrev zH1 (h : Heap) (bs : List Bg) : Heap := (pushAll h bs).push { cls := .type "tuple", data := .seq (refsFrom h.objs.size bs.length).toArray }
abbrev zH2 (h : Heap) (bs : List Bg) : Heap := (zH1 h bs).push { cls := .type "tuple", data := .seq ((refsFrom h.objs.size bs.length).map fun _ => Value.none).toArray }
abbrev zH3 (h : Heap) (bs : List Bg) : Heap := (zH2 h bs).push { cls := .type "zip", data := .fields #[.none, .bool false, .bool false, .ref (pushAll h bs).objs.size, .ref (zH1 h bs).objs.size] }
theorem meets_zip_new (bs : List Bg) (hn : bs.length ≤ 5) : Meets (Builtin.«zip.__new__» ⟨.type "zip" :: bs.map (·.v), []⟩) (fun _ R s => (∀ b ∈ bs, b.H s.heap) ∧ R (.ok (.ret (.ref (zH2 s.heap bs).objs.size))) { s with heap := zH3 s.heap bs }) :=
  .of_wp fun prog w A R s h => by
    obtain ⟨hH, h⟩ := h
    unfold Builtin.«zip.__new__»
    have e1 : Builtin.SmallTypes.newClass "zip" ⟨.type "zip" :: bs.map (·.v), []⟩ = pure (.type "zip", bs.map (·.v)) := by
      unfold Builtin.SmallTypes.newClass
      simp only [isType, sub_zip, pure_bind, Bool.not_true, Bool.false_eq_true, if_false]
    rw [e1]
    refine wpAny_bind (wpAny_pure ?_)
    simp only [List.length_nil, gt_iff_lt, Nat.not_lt_zero, if_false]
    refine wpAny_bind (wp_iterAll bs hH ?_)
    have hl : (refsFrom s.heap.objs.size bs.length).length ≤ sizeLine := by
      simp only [refsFrom, List.length_map, List.length_range]
      exact Nat.le_trans hn (by decide)
    refine wpAny_bind (wpAny_newTuple ?_ hl)
    refine wpAny_bind (wpAny_newTuple ?_ (by rw [List.length_map]; exact hl))
    unfold Builtin.SmallTypes.newRecord
    refine wpAny_bind (wpAny_newObj_type ?_ (by show (5 : Nat) ≤ sizeLine + 2; decide))
    exact wpAny_pure ⟨_, rfl, h⟩
end
namespace F
theorem zip_checks : ∀ vs : List Value, 1 ≤ vs.length → vs.length ≤ 5 → checkTypeCall "zip" ⟨vs, []⟩ = pure () ∧ checkBuiltinCall "zip.__new__" ⟨.type "zip" :: vs, []⟩ = pure () ∧ ∀ obj, argsOk "object.__init__" ⟨obj :: vs, []⟩
  | [a], _, _ => ⟨by kernel_rfl, by kernel_rfl, fun obj => by unfold argsOk; kernel_rfl⟩
  | [a, b], _, _ => ⟨by kernel_rfl, by kernel_rfl, fun obj => by unfold argsOk; kernel_rfl⟩
  | [a, b, c], _, _ => ⟨by kernel_rfl, by kernel_rfl, fun obj => by unfold argsOk; kernel_rfl⟩
  | [a, b, c, d], _, _ => ⟨by kernel_rfl, by kernel_rfl, fun obj => by unfold argsOk; kernel_rfl⟩
  | [a, b, c, d, e], _, _ => ⟨by kernel_rfl, by kernel_rfl, fun obj => by unfold argsOk; kernel_rfl⟩
  | [], h, _ => by simp at h
  | _ :: _ :: _ :: _ :: _ :: _ :: _, _, h => by simp at h
end F
section
variable {P : Program} {w : World} {A : Around} {E : Value → Shared → Prop} {s : Shared}
theorem zip_begins (bs : List Bg) {Q : Value → Shared → Prop} (h1 : 1 ≤ bs.length) (h5 : bs.length ≤ 5) (hH : ∀ b ∈ bs, b.H s.heap)
    (h : ∀ h', IsZ h' (s.heap.objs.size + bs.length + 2) (s.heap.objs.size + bs.length) (s.heap.objs.size + bs.length + 1) .none false → IsTp h' (s.heap.objs.size + bs.length) (refsFrom s.heap.objs.size bs.length) →
      IsTp h' (s.heap.objs.size + bs.length + 1) ((refsFrom s.heap.objs.size bs.length).map fun _ => Value.none) → (∀ k b, bs[k]? = some b → h'.get? (s.heap.objs.size + k) = some b.o) → (∀ c o, s.heap.get? c = some o → h'.get? c = some o) →
      Q (.ref (s.heap.objs.size + bs.length + 2)) { s with heap := h' }) : wpAny (model P w) A (call (.type "zip") (bs.map (·.v))) Q E s := by
  obtain ⟨c1, c2, c3⟩ := F.zip_checks (bs.map (·.v)) (by simpa using h1) (by simpa using h5)
  have z0 : (pushAll s.heap bs).objs.size = s.heap.objs.size + bs.length := pushAll_size _ _
  have z1 : (zH1 s.heap bs).objs.size = s.heap.objs.size + bs.length + 1 := by rw [Heap.size_push, z0]
  have z2 : (zH2 s.heap bs).objs.size = s.heap.objs.size + bs.length + 2 := by rw [Heap.size_push, z1]
  have gZ : (zH3 s.heap bs).get? (zH2 s.heap bs).objs.size = some { cls := .type "zip", data := .fields #[.none, .bool false, .bool false, .ref (pushAll s.heap bs).objs.size, .ref (zH1 s.heap bs).objs.size] } := Heap.get?_push_size _ rfl
  have gO : (zH3 s.heap bs).get? (zH1 s.heap bs).objs.size = some { cls := .type "tuple", data := .seq ((refsFrom s.heap.objs.size bs.length).map fun _ => Value.none).toArray } := Heap.get?_push_of_some _ (Heap.get?_push_size _ rfl)
  have gT : (zH3 s.heap bs).get? (pushAll s.heap bs).objs.size = some { cls := .type "tuple", data := .seq (refsFrom s.heap.objs.size bs.length).toArray } := Heap.get?_push_of_some _ (Heap.get?_push_of_some _ (Heap.get?_push_size _ rfl))
  have up : ∀ c o, (pushAll s.heap bs).get? c = some o → (zH3 s.heap bs).get? c = some o := fun c o e => Heap.get?_push_of_some _ (Heap.get?_push_of_some _ (Heap.get?_push_of_some _ e))
  refine callType_new F.called_zip (by decide) c1 c2 c3 F.entry_zip_new (meets_zip_new bs h5) ⟨hH, ?_⟩
  rw [z0, z1, z2] at gZ
  rw [z1] at gO
  rw [z0] at gT
  show _ ∧ _
  rw [z2]
  exact ⟨⟨_, gZ, rfl⟩, h _ gZ gT gO (fun k b e => up _ _ (pushAll_get bs _ k b e)) fun c o e => up c o (pushAll_keep bs _ c o e)⟩
end
end L3
end
section
set_option Elab.async false
set_option linter.all false
set_option maxRecDepth 100000
set_option maxHeartbeats 4000000
/-! LV: zip and enumerate over lists, tuples and texts, as turns of the layer. -/
namespace L3
open PySem PySem.Spec PyProof.Rows L2
/-- what an iterator goes over -/
inductive Src where
  | lst (a : Addr)
  | tup (a : Addr)
  | txt (x : Str) (t : Tok)
def Src.at : Src → Addr → Nat → Heap → Prop
  | .lst a, it, i, h => h.IsListIter it a i
  | .tup a, it, i, h => h.IsTupleIter it a i
  | .txt x t, it, i, h => h.IsStrIter it (strIterType x) x t i
def Src.addr : Src → Option Addr
  | .lst a => some a
  | .tup a => some a
  | .txt _ _ => none
def Src.fits (K : PySem.W.Frag) (H : Hp) : Src → List V → Prop
  | .lst a, xs => SqL K H a xs
  | .tup a, xs => SqT K H a xs
  | .txt x _, xs => xs = x.cps.toList.map fun c => V.str ⟨#[c]⟩
def Src.val : Src → Value
  | .lst a => .ref a
  | .tup a => .ref a
  | .txt x t => .str x t
def Src.stands (src : Src) (its : List Value) (h : Heap) : Prop := match src with
  | .lst a => h.IsList a its.toArray
  | .tup a => h.IsTuple a its.toArray
  | .txt _ _ => True
def Src.obj : Src → Obj
  | .lst a => { cls := .type "list_iterator", data := .fields #[.ref a, .int 0 0] }
  | .tup a => { cls := .type "tuple_iterator", data := .fields #[.ref a, .int 0 0] }
  | .txt x t => { cls := .type (strIterType x), data := .fields #[.str x t, .int 0 0] }
theorem Src.begins (src : Src) (its : List Value) : Begins src.val src.obj (src.stands its) := by
  cases src with
  | lst a => exact begins_list a _
  | tup a => exact begins_tuple a _
  | txt x t => exact begins_text x t
theorem Src.at_obj {src : Src} {it : Addr} {i : Nat} {h : Heap} (st : src.at it i h) : ∃ o, h.get? it = some o ∧ ∀ v, o.data ≠ .cell v := by
  cases src <;> obtain ⟨o, e, c, d⟩ := st <;> exact ⟨o, e, fun v z => by rw [d] at z; cases z⟩
theorem Src.at_keep {src : Src} {it : Addr} {i : Nat} {h h' : Heap} (st : src.at it i h) (k : ∀ o, h.get? it = some o → h'.get? it = some o) : src.at it i h' := by
  cases src with
  | lst a => exact Heap.IsListIter.at st k
  | tup a => exact Heap.IsTupleIter.at st k
  | txt x t => obtain ⟨o, e, r⟩ := st; exact ⟨o, k o e, r⟩
theorem Src.at_new {src : Src} {it : Addr} {h : Heap} (e : h.get? it = some src.obj) : src.at it 0 h := by
  cases src with
  | lst a => exact ⟨_, e, rfl, rfl⟩
  | tup a => exact ⟨_, e, rfl, rfl⟩
  | txt x t => exact ⟨_, e, rfl, rfl⟩
theorem paired_get' {α β : Type} {G : α → β → Prop} : ∀ {l₁ : List α} {l₂ : List β} {i : Nat} {b : β}, Paired G l₁ l₂ → l₂[i]? = some b → ∃ a, l₁[i]? = some a ∧ G a b
  | _, _, _, _, .nil, e => by simp at e
  | _, _, 0, _, .cons h _, e => by simp at e; subst e; exact ⟨_, rfl, h⟩
  | _, _, i + 1, _, .cons _ t, e => by
    obtain ⟨a, h1, h2⟩ := paired_get' (i := i) t (by simpa using e)
    exact ⟨a, by simpa using h1, h2⟩
theorem paired_get1 {α β : Type} {G : α → β → Prop} : ∀ {l₁ : List α} {l₂ : List β} {i : Nat} {a : α}, Paired G l₁ l₂ → l₁[i]? = some a → ∃ b, l₂[i]? = some b ∧ G a b
  | _, _, _, _, .nil, e => by simp at e
  | _, _, 0, _, .cons h _, e => by simp at e; subst e; exact ⟨_, rfl, h⟩
  | _, _, i + 1, _, .cons _ t, e => by
    obtain ⟨a, h1, h2⟩ := paired_get1 (i := i) t (by simpa using e)
    exact ⟨a, by simpa using h1, h2⟩
theorem paired_mem1 {α β : Type} {G : α → β → Prop} : ∀ {l₁ : List α} {l₂ : List β} {a : α}, Paired G l₁ l₂ → a ∈ l₁ → ∃ b ∈ l₂, G a b
  | _, _, _, .nil, h => nomatch h
  | _, _, a, .cons h t, e => by
    rcases List.mem_cons.mp e with rfl | e
    · exact ⟨_, List.mem_cons_self, h⟩
    · obtain ⟨b, m, g⟩ := paired_mem1 t e
      exact ⟨b, List.mem_cons_of_mem _ m, g⟩
theorem paired_mem2 {α β : Type} {G : α → β → Prop} : ∀ {l₁ : List α} {l₂ : List β} {b : β}, Paired G l₁ l₂ → b ∈ l₂ → ∃ a ∈ l₁, G a b
  | _, _, _, .nil, h => nomatch h
  | _, _, a, .cons h t, e => by
    rcases List.mem_cons.mp e with rfl | e
    · exact ⟨_, List.mem_cons_self, h⟩
    · obtain ⟨b, m, g⟩ := paired_mem2 t e
      exact ⟨b, List.mem_cons_of_mem _ m, g⟩
section
variable {X : Cx} {pins : List (Addr × Obj)} {σ : Sg} {H : Hp} {s : Shared}
theorem Src.inj (I : Inv X pins σ H s) {src : Src} {xs ys : List V} (h : src.fits X.K H xs) (k : src.fits X.K H ys) : xs = ys := by
  cases src with
  | lst a => exact I.list_inj h k
  | tup a => exact I.tuple_inj h k
  | txt x t => exact h.trans k.symm
/-- the source's own items, in the heap -/
theorem Src.stood (I : Inv X pins σ H s) {src : Src} {xs : List V} (h : src.fits X.K H xs) : ∃ its, src.stands its s.heap ∧ ∀ a, src.addr = some a → a < s.heap.objs.size := by
  cases src with
  | lst a =>
    obtain ⟨its, r, p, _⟩ := I.list h
    exact ⟨its, p.isList, fun b e => by cases e; exact p.lt⟩
  | tup a =>
    obtain ⟨its, r, p, _⟩ := I.tuple h
    exact ⟨its, p, fun b e => by cases e; obtain ⟨o, e, _⟩ := p; exact Heap.lt_size e⟩
  | txt x t => exact ⟨[], trivial, fun b e => nomatch e⟩
/-- the iterator over a source, now -/
theorem Src.dr (I : Inv X pins σ H s) {src : Src} {it : Addr} {i : Nat} {xs : List V} (h : src.fits X.K H xs) (st : src.at it i s.heap) (ne : ∀ a, src.addr = some a → a ≠ it) :
    ∃ d : Dr X.prog X.w, d.it = it ∧ d.n = xs.length ∧ d.St i s.heap ∧ (∀ j u, d.Y j u → ∃ v, xs[j]? = some v ∧ RelV v u) ∧ (∀ j h, d.St j h → src.at it j h) ∧ ∀ b ∈ d.fp, b = it ∨ src.addr = some b := by
  cases src with
  | lst a =>
    obtain ⟨its, r, p, _⟩ := I.list h
    refine ⟨⟨it, [it, a], its.toArray.size, _, _, by simp, fun A hh => Draws.list hh it a (ne a rfl) its.toArray⟩, rfl, by simp [r.length], ⟨st, p.isList⟩, fun j u e => ?_, fun j h q => q.1, fun b hb => ?_⟩
    · have e' : its[j]? = some u := by simpa using e
      obtain ⟨v, h1, h2⟩ := paired_get' r e'
      exact ⟨v, h1, h2⟩
    · rcases List.mem_cons.mp hb with e | e
      · exact .inl e
      · exact .inr (by rw [List.mem_singleton.mp e]; rfl)
  | tup a =>
    obtain ⟨its, r, p, _⟩ := I.tuple h
    refine ⟨⟨it, [it, a], its.toArray.size, _, _, by simp, fun A hh => Draws.tuple hh it a (ne a rfl) its.toArray⟩, rfl, by simp [r.length], ⟨st, p⟩, fun j u e => ?_, fun j h q => q.1, fun b hb => ?_⟩
    · have e' : its[j]? = some u := by simpa using e
      obtain ⟨v, h1, h2⟩ := paired_get' r e'
      exact ⟨v, h1, h2⟩
    · rcases List.mem_cons.mp hb with e | e
      · exact .inl e
      · exact .inr (by rw [List.mem_singleton.mp e]; rfl)
  | txt x t =>
    have h : xs = x.cps.toList.map fun c => V.str ⟨#[c]⟩ := h
    subst h
    refine ⟨⟨it, [it], x.cps.size, _, _, by simp, fun A hh => Draws.text hh it x t⟩, rfl, by simp, st, fun j u e => ?_, fun j h q => q, fun b hb => .inl (List.mem_singleton.mp hb)⟩
    obtain ⟨c, t', e1, e2⟩ := e
    exact ⟨.str ⟨#[c]⟩, by simpa using e1, ⟨t', e2⟩⟩
end

/-- the sources as they stand at each turn, their items in new tuples -/
def ItzN (K : PySem.W.Frag) (srcs : List Src) : It :=
  ⟨fun i H => ∃ rows : List (List V), Paired (fun (src : Src) xs => src.fits K H xs) srcs rows ∧ ∀ xs ∈ rows, i < xs.length,
    fun i H v H' => ∃ T vs, v = .ref T ∧ H T = none ∧ H' = upd H T (.tup vs) ∧ ∀ rows : List (List V), Paired (fun (src : Src) xs => src.fits K H xs) srcs rows → Paired (fun (xs : List V) v => xs[i]? = some v) rows vs,
    fun i H => ∃ rows : List (List V), Paired (fun (src : Src) xs => src.fits K H xs) srcs rows ∧ (∀ xs ∈ rows, i ≤ xs.length) ∧ ∃ xs ∈ rows, xs.length ≤ i⟩
structure ZApart (z TI TO : Addr) (its : List Addr) (srcs : List Src) : Prop where
  nd : (z :: TI :: TO :: its).Nodup
  away : ∀ src ∈ srcs, ∀ a, src.addr = some a → a ∉ z :: TI :: TO :: its
def ZTn (z TI TO : Addr) (its : List Addr) (srcs : List Src) (i : Nat) (h : Heap) : Prop :=
  (∃ f0 f, IsZ h z TI TO f0 f ∧ ZFree f0) ∧ IsTp h TI (its.map .ref) ∧ (∃ xs, xs.length = its.length ∧ IsTp h TO xs) ∧ Paired (fun (src : Src) it => src.at it i h) srcs its
section
variable {X : Cx} {pins : List (Addr × Obj)} {σ : Sg} {H : Hp} {s : Shared}
theorem mk_drs (I : Inv X pins σ H s) {i : Nat} : ∀ {srcs : List Src} {its : List Addr} {rows : List (List V)}, Paired (fun (src : Src) it => src.at it i s.heap) srcs its → Paired (fun (src : Src) xs => src.fits X.K H xs) srcs rows → its.Nodup → (∀ src ∈ srcs, ∀ a, src.addr = some a → a ∉ its) →
    ∃ ds : List (Dr X.prog X.w), ds.map (·.it) = its ∧ (∀ d ∈ ds, d.St i s.heap) ∧ Paired (fun (d : Dr X.prog X.w) (xs : List V) => d.n = xs.length ∧ ∀ j u, d.Y j u → ∃ v, xs[j]? = some v ∧ RelV v u) ds rows ∧
      Paired (fun (src : Src) (d : Dr X.prog X.w) => ∀ j h, d.St j h → src.at d.it j h) srcs ds ∧ (∀ d ∈ ds, ∀ b ∈ d.fp, b = d.it ∨ ∃ src ∈ srcs, src.addr = some b) ∧ ds.Pairwise (fun a b => a.it ∉ b.fp ∧ b.it ∉ a.fp)
  | [], _, _, .nil, h, _, _ => by cases h; exact ⟨[], rfl, (fun _ h => nomatch h), .nil, .nil, (fun _ h => nomatch h), .nil⟩
  | src :: srcs, it :: its, xs :: rows, .cons h1 t1, .cons h2 t2, nd, aw => by
    have nd' := List.nodup_cons.mp nd
    obtain ⟨ds, e1, e2, e3, e4, e5, e6⟩ := mk_drs I t1 t2 nd'.2 fun s' m a e z => aw s' (List.mem_cons_of_mem _ m) a e (List.mem_cons_of_mem _ z)
    obtain ⟨d, d1, d2, d3, d4, d5, d6⟩ := Src.dr I h2 h1 fun a e z => aw src List.mem_cons_self a e (by rw [z]; exact List.mem_cons_self)
    refine ⟨d :: ds, by simp [d1, e1], fun x hx => ?_, .cons ⟨d2, d4⟩ e3, .cons (fun j h q => by rw [d1]; exact d5 j h q) e4, fun x hx b hb => ?_, List.pairwise_cons.mpr ⟨fun x hx => ⟨fun hm => ?_, fun hm => ?_⟩, e6⟩⟩
    · rcases List.mem_cons.mp hx with rfl | hx
      · exact d3
      · exact e2 x hx
    · rcases List.mem_cons.mp hx with rfl | hx
      · rcases d6 b hb with e | e
        · exact .inl (by rw [d1]; exact e)
        · exact .inr ⟨src, List.mem_cons_self, e⟩
      · rcases e5 x hx b hb with e | ⟨s', m, e⟩
        · exact .inl e
        · exact .inr ⟨s', List.mem_cons_of_mem _ m, e⟩
    · have hin : x.it ∈ its := by rw [← e1]; exact List.mem_map_of_mem hx
      rcases e5 x hx _ hm with e | ⟨s', m, e⟩
      · exact nd'.1 (by rw [← d1, e]; exact hin)
      · exact aw s' (List.mem_cons_of_mem _ m) _ e (by rw [d1]; exact List.mem_cons_self)
    · have hin : x.it ∈ its := by rw [← e1]; exact List.mem_map_of_mem hx
      rcases d6 _ hm with e | e
      · exact nd'.1 (by rw [← e]; exact hin)
      · exact aw src List.mem_cons_self _ e (List.mem_cons_of_mem _ hin)
theorem fits_inj (I : Inv X pins σ H s) : ∀ {srcs : List Src} {r1 r2 : List (List V)}, Paired (fun (src : Src) xs => src.fits X.K H xs) srcs r1 → Paired (fun (src : Src) xs => src.fits X.K H xs) srcs r2 → r1 = r2
  | _, _, _, .nil, .nil => rfl
  | _, _, _, .cons a t, .cons b u => by rw [Src.inj I a b, fits_inj I t u]
theorem rows_vals {P : Program} {w : World} {i : Nat} : ∀ {ds : List (Dr P w)} {rows : List (List V)} {ys : List Value}, Paired (fun (d : Dr P w) (xs : List V) => d.n = xs.length ∧ ∀ j u, d.Y j u → ∃ v, xs[j]? = some v ∧ RelV v u) ds rows → Paired (fun (d : Dr P w) y => d.Y i y) ds ys →
    ∃ vs, Vals vs ys ∧ Paired (fun (xs : List V) v => xs[i]? = some v) rows vs
  | _, _, _, .nil, .nil => ⟨[], .nil, .nil⟩
  | _, _, _, .cons a t, .cons b u => by
    obtain ⟨vs, h1, h2⟩ := rows_vals t u
    obtain ⟨v, e1, e2⟩ := a.2 _ _ b
    exact ⟨v :: vs, .cons e2 h1, .cons e1 h2⟩
theorem at_all {P : Program} {w : World} {i : Nat} {h : Heap} : ∀ {srcs : List Src} {ds : List (Dr P w)}, Paired (fun (src : Src) (d : Dr P w) => ∀ j h, d.St j h → src.at d.it j h) srcs ds → (∀ d ∈ ds, d.St i h) → Paired (fun (src : Src) it => src.at it i h) srcs (ds.map (·.it))
  | _, _, .nil, _ => .nil
  | _, _, .cons a t, hs => .cons (a _ _ (hs _ List.mem_cons_self)) (at_all t fun d m => hs d (List.mem_cons_of_mem _ m))
theorem at_keep_all {i : Nat} {h h' : Heap} : ∀ {srcs : List Src} {its : List Addr}, Paired (fun (src : Src) it => src.at it i h) srcs its → (∀ it ∈ its, ∀ o, h.get? it = some o → h'.get? it = some o) → Paired (fun (src : Src) it => src.at it i h') srcs its
  | _, _, .nil, _ => .nil
  | _, _, .cons a t, k => .cons (Src.at_keep a (k _ List.mem_cons_self)) (at_keep_all t fun it m => k it (List.mem_cons_of_mem _ m))
end
theorem turn_zipN {P : Program} {w : World} {K : PySem.W.Frag} {tg : Expr} {z TI TO : Addr} {its : List Addr} {srcs : List Src} (D : ZApart z TI TO its srcs) (hne : srcs ≠ []) (h5 : srcs.length ≤ 5) :
    Turn P w K tg (ItzN K srcs) (z :: TI :: TO :: its) z (ZTn z TI TO its srcs) where
  mem := by simp
  obj := fun i h st b hb => by
    obtain ⟨⟨f0, f, hz, _⟩, hTI, ⟨xs, _, hTO⟩, ha⟩ := st
    rcases List.mem_cons.mp hb with rfl | hb
    · exact ⟨_, hz, fun v q => nomatch q⟩
    rcases List.mem_cons.mp hb with rfl | hb
    · exact ⟨_, hTI, fun v q => nomatch q⟩
    rcases List.mem_cons.mp hb with rfl | hb
    · exact ⟨_, hTO, fun v q => nomatch q⟩
    obtain ⟨src, _, st⟩ := paired_mem2 ha hb
    exact Src.at_obj st
  keep := fun i h h' st k => by
    obtain ⟨⟨f0, f, hz, hf⟩, hTI, ⟨xs, hx, hTO⟩, ha⟩ := st
    exact ⟨⟨f0, f, k z (by simp) _ hz, hf⟩, k TI (by simp) _ hTI, ⟨xs, hx, k TO (by simp) _ hTO⟩, at_keep_all ha fun it m o e => k it (by simp [m]) o e⟩
  item := by
    intro X hP hw hK hc i pins s σ H E I hf st hg
    subst hP hw hK
    obtain ⟨⟨f0, f, hz, hf0⟩, hTI, ⟨xs, hx, hTO⟩, ha⟩ := st
    obtain ⟨rows, hr, hlt⟩ := hg
    have nd := D.nd
    simp only [List.nodup_cons, List.mem_cons, not_or] at nd
    obtain ⟨⟨nzTI, nzTO, nz⟩, ⟨nTITO, nTI⟩, nTO, ndi⟩ := nd
    obtain ⟨ds, e1, e2, e3, e4, e5, e6⟩ := mk_drs I ha hr ndi fun src m a e q => D.away src m a e (by simp [q])
    subst e1
    have hl : ds.length = srcs.length := (Paired.length e4).symm
    have hfp : ∀ d ∈ ds, ∀ b ∈ d.fp, b ∈ ds.map (·.it) ∨ ∃ src ∈ srcs, src.addr = some b := fun d m b hb => by
      rcases e5 d m b hb with e | e
      · exact .inl (by rw [e]; exact List.mem_map_of_mem m)
      · exact .inr e
    have S : ZSep z TI TO ds := ⟨Ne.symm nzTI, Ne.symm nzTO, nTITO, fun d m e => nTI (by rw [e]; exact List.mem_map_of_mem m), fun d m hb => by
        rcases hfp d m _ hb with q | ⟨src, ms, q⟩
        · exact nz q
        · exact D.away src ms _ q (by simp), fun d m hb => by
        rcases hfp d m _ hb with q | ⟨src, ms, q⟩
        · exact nTO q
        · exact D.away src ms _ q (by simp), e6⟩
    have hzl : z < s.heap.objs.size := Heap.lt_size hz
    refine z_pyNext (I.ok.hd hc) S (fun e => hne (List.eq_nil_of_length_eq_zero (by rw [← hl, e]; rfl))) (by rw [hl]; exact Nat.le_trans h5 (by decide)) hz hf0 (by rw [List.map_map] at hTI; exact hTI) hTO (by simpa using hx) (fun d m => ⟨e2 d m, ?_⟩) (fun h' tk ys g0 g xs' l1 l2 l3 l4 l5 l6 l7 l8 l9 l10 => ?_) (fun h' tk hend _ => ?_)
    · obtain ⟨row, mr, q, _⟩ := paired_mem1 e3 m
      rw [q]; exact Nat.le_of_lt (hlt row mr)
    · refine ⟨_, rfl, z_letGo (s := { s with heap := h', toks := tk }) l3 l4 fun h'' f1 hz'' hf1 sb => ?_⟩
      replace sb : Heap.SameBut z h' h'' := sb
      obtain ⟨vs, v1, v2⟩ := rows_vals e3 l2
      have hT2 : IsTp h'' s.heap.objs.size ys := (sb.2 _ (Nat.ne_of_gt hzl)).trans l8
      have kk : ∀ b o, b ∉ z :: TI :: TO :: ds.map (·.it) → s.heap.get? b = some o → h''.get? b = some o := fun b o hb q => by
        simp only [List.mem_cons, not_or] at hb
        exact (sb.2 b hb.1).trans (l10 b o hb.1 hb.2.2.1 (fun d m e => hb.2.2.2 (by rw [e]; exact List.mem_map_of_mem m)) q)
      have new : ObjOk X.prog X.w (upd H s.heap.objs.size (.tup vs)) h'' s.heap.objs.size (.tup vs) :=
        ⟨by rw [v1.length, ← Paired.length l2, hl]; exact Nat.le_trans h5 (by decide), ys, v1, ⟨_, hT2, rfl, _, rfl⟩⟩
      have I1 : Inv X pins σ (upd H s.heap.objs.size (.tup vs)) { s with heap := h'', toks := tk } := I.turnedNew kk hf (Nat.le_refl _) new
      refine ⟨.ref s.heap.objs.size, _, I1, rfl, ⟨_, vs, rfl, I.hok.fresh (Nat.le_refl _), rfl, fun rows' hr' => by rw [fits_inj I hr' hr]; exact v2⟩, ⟨⟨f1, g, hz'', hf1⟩, ?_, ⟨xs', by simpa using l6, (sb.2 _ S.TOz).trans l5⟩, at_all e4 fun d m => ?_⟩, fun b hb => ?_⟩
      · exact (sb.2 _ S.TIz).trans (l10 _ _ S.TIz S.TITO (fun d m => S.ti d m) hTI)
      · exact (d.D X.A (I.ok.hd hc)).frame _ _ _ (l7 d m) fun b hb o e => (sb.2 b fun q => S.zf d m (q ▸ hb)).trans e
      · have hb' : b < s.heap.objs.size := by
          rcases List.mem_cons.mp hb with rfl | hb
          · exact hzl
          rcases List.mem_cons.mp hb with rfl | hb
          · exact Heap.lt_size hTI
          rcases List.mem_cons.mp hb with rfl | hb
          · exact Heap.lt_size hTO
          obtain ⟨src, _, st⟩ := paired_mem2 ha hb
          obtain ⟨o, e, _⟩ := Src.at_obj st
          exact Heap.lt_size e
        rw [upd_ne (Nat.ne_of_lt hb')]
        exact (hf b hb).1
    · obtain ⟨d, m, e⟩ := hend
      obtain ⟨row, mr, q, _⟩ := paired_mem1 e3 m
      exact absurd (hlt row mr) (by omega)
  done := by
    intro X hP hw hK hc i pins s σ H E I hf st hg
    subst hP hw hK
    obtain ⟨⟨f0, f, hz, hf0⟩, hTI, ⟨xs, hx, hTO⟩, ha⟩ := st
    obtain ⟨rows, hr, hle, hend⟩ := hg
    have nd := D.nd
    simp only [List.nodup_cons, List.mem_cons, not_or] at nd
    obtain ⟨⟨nzTI, nzTO, nz⟩, ⟨nTITO, nTI⟩, nTO, ndi⟩ := nd
    obtain ⟨ds, e1, e2, e3, e4, e5, e6⟩ := mk_drs I ha hr ndi fun src m a e q => D.away src m a e (by simp [q])
    subst e1
    have hl : ds.length = srcs.length := (Paired.length e4).symm
    have hfp : ∀ d ∈ ds, ∀ b ∈ d.fp, b ∈ ds.map (·.it) ∨ ∃ src ∈ srcs, src.addr = some b := fun d m b hb => by
      rcases e5 d m b hb with e | e
      · exact .inl (by rw [e]; exact List.mem_map_of_mem m)
      · exact .inr e
    have S : ZSep z TI TO ds := ⟨Ne.symm nzTI, Ne.symm nzTO, nTITO, fun d m e => nTI (by rw [e]; exact List.mem_map_of_mem m), fun d m hb => by
        rcases hfp d m _ hb with q | ⟨src, ms, q⟩
        · exact nz q
        · exact D.away src ms _ q (by simp), fun d m hb => by
        rcases hfp d m _ hb with q | ⟨src, ms, q⟩
        · exact nTO q
        · exact D.away src ms _ q (by simp), e6⟩
    refine z_pyNext (I.ok.hd hc) S (fun e => hne (List.eq_nil_of_length_eq_zero (by rw [← hl, e]; rfl))) (by rw [hl]; exact Nat.le_trans h5 (by decide)) hz hf0 (by rw [List.map_map] at hTI; exact hTI) hTO (by simpa using hx) (fun d m => ⟨e2 d m, ?_⟩) (fun h' tk ys g0 g xs' l1 l2 l3 l4 l5 l6 l7 l8 l9 l10 => ?_) (fun h' tk _ hk => ⟨rfl, ?_⟩)
    · obtain ⟨row, mr, q, _⟩ := paired_mem1 e3 m
      rw [q]; exact hle row mr
    · obtain ⟨row, mr, hr2⟩ := hend
      obtain ⟨d, m, q, _⟩ := paired_mem2 e3 mr
      exact absurd (l1 d m) (by omega)
    · refine I.turnedL (t' := tk) (ch := z :: TI :: TO :: ds.map (·.it)) (fun b o hb q => ?_) hf
      simp only [List.mem_cons, not_or] at hb
      exact hk b o hb.1 hb.2.2.1 (fun d m e => hb.2.2.2 (by rw [e]; exact List.mem_map_of_mem m)) q
  self := fun A i s Q E st h => let ⟨⟨_, _, hz, _⟩, _⟩ := st; z_pyIter hz h
end L3
end
section
set_option Elab.async false
set_option linter.all false
set_option maxRecDepth 100000
set_option maxHeartbeats 4000000
/-! LW: enumerate's turns; zip and enumerate as what is walked. -/
namespace L3
open PySem PySem.Spec PyProof.Rows L2
theorem meets_enumerate_newB1 {v : Value} {o : Obj} {H : Heap → Prop} (B : Begins v o H) :
    Meets (Builtin.«enumerate.__new__» ⟨[.type "enumerate", v], []⟩) (fun _ R s => H s.heap ∧
      R (.ok (.ret (.ref (s.heap.push o).objs.size))) { s with heap := (s.heap.push o).push { cls := .type "enumerate", data := .fields #[.none, .bool false, .ref s.heap.objs.size, rawInt 0, .none, .none] } }) :=
  .of_wp fun prog w A R s h => by
    obtain ⟨hp, g, d, tk, os⟩ := s; obtain ⟨h1, h⟩ := h
    have hsub := sub_enumerate
    have q1 : ∀ {A' : Around} {E : Value → Shared → Prop} {Q : Value → Shared → Prop}, Q (.ref hp.objs.size) ⟨hp.push o, g, d, tk, os⟩ → wpAny (model prog w) A' (pyIter v) Q E ⟨hp, g, d, tk, os⟩ :=
      fun q => B.iter prog w _ _ ⟨hp, g, d, tk, os⟩ _ h1 q
    wp_walk using q1
    refine wpAny_stack_any fun st => wpAny_pure ?_
    split
    · rename_i c _ _ _ _ _
      cases (c == Value.type "enumerate")
      · wp_walk using q1
        exact ⟨_, rfl, h⟩
      · wp_walk using q1
        exact ⟨_, rfl, h⟩
    · wp_walk using q1
      exact ⟨_, rfl, h⟩
section
variable {prog : Program} {w : World} {A : Around} {E : Value → Shared → Prop} {s : Shared}
theorem enum_begins1 {v : Value} {o : Obj} {H : Heap → Prop} {Q : Value → Shared → Prop} (B : Begins v o H) (h1 : H s.heap)
    (h : ∀ h', IsEnum h' (s.heap.objs.size + 1) s.heap.objs.size 0 .none → h'.get? s.heap.objs.size = some o → h'.objs.size = s.heap.objs.size + 2 →
      (∀ b o, s.heap.get? b = some o → h'.get? b = some o) → Q (.ref (s.heap.objs.size + 1)) { s with heap := h' }) :
    wpAny (model prog w) A (call (.type "enumerate") [v]) Q E s := by
  refine callType_new F.called_enumerate (by decide) (F.typeCall_enumerate_1 _) (F.newCall_enumerate_1 _) (fun obj => F.args_object_init_2 obj _) F.entry_enumerate_new
    (meets_enumerate_newB1 B) ⟨h1, ?_⟩
  have hz : (s.heap.push o).objs.size = s.heap.objs.size + 1 := Heap.size_push ..
  show _ ∧ _
  rw [hz]
  have he : IsEnum ((s.heap.push o).push { cls := .type "enumerate", data := .fields #[.none, .bool false, .ref s.heap.objs.size, rawInt 0, .none, .none] }) (s.heap.objs.size + 1) s.heap.objs.size 0 .none := by
    have := Heap.get?_push_size (s.heap.push o) (o := { cls := .type "enumerate", data := .fields #[.none, .bool false, .ref s.heap.objs.size, rawInt 0, .none, .none] }) rfl
    rw [hz] at this; exact this
  exact ⟨⟨_, he, rfl⟩, h _ he (Heap.get?_push_of_some _ (Heap.get?_push_size _ B.free)) (by rw [Heap.size_push, hz]) fun b o x => Heap.get?_push_of_some _ (Heap.get?_push_of_some _ x)⟩
end
/-- the source as it stands, each item in a new pair with its count -/
def ItE (K : PySem.W.Frag) (src : Src) (k : Int) : It :=
  ⟨fun i H => ∃ xs : List V, src.fits K H xs ∧ i < xs.length, fun i H v H' => ∃ T x, v = .ref T ∧ H T = none ∧ H' = upd H T (.tup [.int (k + (i : Int)), x]) ∧ ∀ xs : List V, src.fits K H xs → xs[i]? = some x, fun i H => ∃ xs : List V, src.fits K H xs ∧ xs.length = i⟩
theorem turn_enumN {P : Program} {w : World} {K : PySem.W.Frag} {elts : List Expr} {kk : Nat} {tpos : Pos} {src : Src} {e it : Addr} {k : Int} (hne : e ≠ it) (aw : ∀ a, src.addr = some a → a ≠ e ∧ a ≠ it) :
    Turn P w K (.Tuple elts kk tpos) (ItE K src k) [e, it] e (fun i h => (∃ old, IsEnum h e it (k + (i : Int)) old) ∧ src.at it i h) where
  mem := by simp
  obj := fun i h st b hb => by
    obtain ⟨⟨old, he⟩, ha⟩ := st
    have e' : b = e ∨ b = it := by simpa using hb
    rcases e' with z | z
    · rw [z]; exact ⟨_, he, fun v q => nomatch q⟩
    · rw [z]; exact Src.at_obj ha
  keep := fun i h h' st k => let ⟨⟨old, he⟩, ha⟩ := st; ⟨⟨old, k e (by simp) _ he⟩, Src.at_keep ha fun o q => k it (by simp) o q⟩
  item := by
    intro X hP hw hK hc i pins s σ H E I hf st hg
    subst hP hw hK
    obtain ⟨⟨old, he⟩, ha⟩ := st
    obtain ⟨xs, hx, hlt⟩ := hg
    obtain ⟨d, d1, d2, d3, d4, d5, d6⟩ := Src.dr I hx ha fun a q => (aw a q).2
    subst d1
    have hel : e < s.heap.objs.size := Heap.lt_size he
    have hil : d.it < s.heap.objs.size := by obtain ⟨_, q, _⟩ := Src.at_obj ha; exact Heap.lt_size q
    have hef : e ∉ d.fp := fun m => by
      rcases d6 e m with q | q
      · exact hne q
      · exact (aw e q).1 rfl
    refine wpAny_pyNext_enum_itemC (d.D X.A.in1 (I.ok.hd hc)) he d3 (by rw [d2]; exact hlt) hne hef fun x h' tk hP ho st' hT hsz hk => ?_
    refine ⟨_, rfl, wpAny_letOwnedTupleGo_enum (s := { s with heap := h', toks := tk + 1 }) ho fun h'' he' sb => ?_⟩
    replace sb : Heap.SameBut e h' h'' := sb
    obtain ⟨v, hv, rv⟩ := d4 _ _ hP
    have hT2 : h''.get? s.heap.objs.size = some { cls := .type "tuple", data := .seq #[.int (k + (i : Int)) tk, x] } := (sb.2 _ (Nat.ne_of_gt hel)).trans hT
    have new : ObjOk X.prog X.w (upd H s.heap.objs.size (.tup [.int (k + (i : Int)), v])) h'' s.heap.objs.size (.tup [.int (k + (i : Int)), v]) :=
      ⟨by show 2 ≤ sizeLine; decide, [.int (k + (i : Int)) tk, x], .cons ⟨_, rfl⟩ (.cons rv .nil), ⟨_, hT2, rfl, _, rfl⟩⟩
    have I1 : Inv X pins σ (upd H s.heap.objs.size (.tup [.int (k + (i : Int)), v])) { s with heap := h'', toks := tk + 1 } :=
      I.turnedNew (ch := [e, d.it]) (fun b ob hb q => (sb.2 b (fun z => hb (by simp [z]))).trans (hk b ob (fun z => hb (by simp [z])) (fun z => hb (by simp [z])) q)) hf (Nat.le_refl _) new
    refine ⟨.ref s.heap.objs.size, _, I1, rfl, ⟨_, v, rfl, I.hok.fresh (Nat.le_refl _), rfl, fun ys hy => by rw [Src.inj I hy hx]; exact hv⟩, ⟨⟨x, ?_⟩, d5 _ _ ((d.D X.A.in1 (I.ok.hd hc)).over st' sb hef)⟩, fun b hb => ?_⟩
    · have e1 : k + ((i + 1 : Nat) : Int) = k + (i : Int) + 1 := by omega
      rw [e1]; exact he'
    · have hb' : b < s.heap.objs.size := by
        have e' : b = e ∨ b = d.it := by simpa using hb
        rcases e' with z | z
        · rw [z]; exact hel
        · rw [z]; exact hil
      rw [upd_ne (Nat.ne_of_lt hb')]
      exact (hf b hb).1
  done := by
    intro X hP hw hK hc i pins s σ H E I hf st hg
    subst hP hw hK
    obtain ⟨⟨old, he⟩, ha⟩ := st
    obtain ⟨xs, hx, hlt⟩ := hg
    obtain ⟨d, d1, d2, d3, d4, d5, d6⟩ := Src.dr I hx ha fun a q => (aw a q).2
    subst d1
    obtain ⟨f0, f1, f2, f3, f4, f5⟩ := hf d.it (by simp)
    exact wpAny_pyNext_enum_endD (d.D X.A.in1 (I.ok.hd hc)) he (by rw [d2, hlt]; exact d3) fun h' eb => ⟨rfl, I.turned (t' := s.toks) (fun b o hb q => eb b o hb q) f0 f1 f3 f4 f5⟩
  self := fun A i s Q E st h => let ⟨⟨_, he⟩, _⟩ := st; wpAny_pyIter_enum he h

/-! ### rows -/
theorem zipD_get : ∀ (ds : List (List D)) (i : Nat), ds ≠ [] → (∀ xs ∈ ds, i < xs.length) → ∃ r, (zipD ds)[i]? = some r ∧ Paired (fun (xs : List D) x => xs[i]? = some x) ds r
  | [], _, h, _ => absurd rfl h
  | [xs], i, _, h => ⟨[xs[i]'(h xs (by simp))], by simp [zipD, h xs (by simp)], .cons (by simp [h xs (by simp)]) .nil⟩
  | xs :: ys :: r, i, _, h => by
    obtain ⟨q, e, p⟩ := zipD_get (ys :: r) i (by simp) fun z m => h z (List.mem_cons_of_mem _ m)
    have hx := h xs (by simp)
    refine ⟨xs[i] :: q, ?_, .cons (by simp [hx]) p⟩
    simp only [zipD, List.getElem?_zipWith]
    rw [e]; simp [hx]
theorem zipD_len : ∀ (ds : List (List D)), ds ≠ [] → (∀ xs ∈ ds, (zipD ds).length ≤ xs.length) ∧ ∃ xs ∈ ds, xs.length ≤ (zipD ds).length
  | [], h => absurd rfl h
  | [xs], _ => by simp [zipD]
  | xs :: ys :: r, _ => by
    obtain ⟨h1, zs, m, h2⟩ := zipD_len (ys :: r) (by simp)
    have e : (zipD (xs :: ys :: r)).length = min xs.length (zipD (ys :: r)).length := by simp only [zipD, List.length_zipWith]
    refine ⟨fun z hz => ?_, ?_⟩
    · rw [e]
      rcases List.mem_cons.mp hz with rfl | hz
      · exact Nat.min_le_left _ _
      · exact Nat.le_trans (Nat.min_le_right _ _) (h1 z hz)
    · rw [e]
      by_cases hc : xs.length ≤ (zipD (ys :: r)).length
      · exact ⟨xs, by simp, by omega⟩
      · exact ⟨zs, List.mem_cons_of_mem _ m, by omega⟩
theorem enumD_get : ∀ (xs : List D) (k : Int) (i : Nat), (enumD k xs)[i]? = xs[i]?.map fun x => VL.d (.tup [.int (k + (i : Int)), x])
  | [], _, _ => by simp [enumD]
  | x :: xs, k, 0 => by simp [enumD]
  | x :: xs, k, i + 1 => by
    simp only [enumD, List.getElem?_cons_succ]
    rw [enumD_get xs (k + 1) i]
    have : k + 1 + (i : Int) = k + ((i + 1 : Nat) : Int) := by omega
    rw [this]
theorem enumD_len : ∀ (xs : List D) (k : Int), (enumD k xs).length = xs.length
  | [], _ => rfl
  | x :: xs, k => by simp [enumD, enumD_len xs]
/-! ### sources of walked values -/
section
variable {X : Cx} {pins : List (Addr × Obj)} {σ : Sg} {H : Hp} {s : Shared} {Z : Lk} {io : List Addr} {L : LH} {R : It → Hp → Prop} {tg : Expr}
/-- the source gives the items, as long as what it leans on stands -/
def SrcOk (Z : Lk) (io0 : List Addr) (H0 : Hp) (w : Walked) (src : Src) : Prop := ∀ io H L, Ex0 io0 H0 io H → Rep Z io H L → stands w.still L = true → ∃ xs, src.fits Z.K H xs ∧ RVs Z io H w.items xs
theorem SrcOk.ext {io io' : List Addr} {H H' : Hp} {w : Walked} {src : Src} (h : SrcOk Z io H w src) (x : Ext io H io' H') : SrcOk Z io' H' w src := fun io2 H2 L2 y => h io2 H2 L2 (x.w.trans y)
theorem src_of (Rp : Rep Z io H L) {v : VL} {x : V} {u : Value} (ru : RelV x u) (r : RVl Z io H v x) {w : Walked} (e : walkOf L v = some w) : ∃ src : Src, src.val = u ∧ SrcOk Z io H w src ∧ stands w.still L = true := by
  unfold walkOf at e
  split at e
  · rename_i z
    simp only [Option.some.injEq] at e; subst e
    obtain ⟨rfl, ok⟩ := r.str
    obtain ⟨t, rfl⟩ := ru
    refine ⟨.txt (st z) t, rfl, fun io2 H2 L2 xt R2 _ => ⟨_, rfl, ?_⟩, rfl⟩
    show RVs Z io2 H2 ((chars z).map .d) ((st z).cps.toList.map fun c => V.str ⟨#[c]⟩)
    have : ∀ zs : List Nat, (∀ c ∈ zs, c < 1114112) → RVs Z io2 H2 ((chars zs).map .d) (zs.map fun c => V.str ⟨#[c]⟩) := by
      intro zs
      induction zs with
      | nil => exact fun _ => .nil
      | cons c zs ih => exact fun h => .cons (.d (.str [c] ⟨fun d hd => by simp only [List.mem_singleton] at hd; subst hd; exact h _ (by simp), by show 1 ≤ lim; decide⟩)) (ih fun c m => h c (List.mem_cons_of_mem _ m))
    exact this z ok.1
  · simp only [Option.some.injEq] at e; subst e
    obtain ⟨a, vs, rfl, t1, t2⟩ := r.tup
    obtain rfl : u = Value.ref a := ru
    exact ⟨.tup a, rfl, fun io2 H2 L2 xt R2 _ => ⟨vs, SqT.persist xt.2 t1, .of_ds (t2.persist xt.2)⟩, rfl⟩
  · simp only [Option.some.injEq] at e; subst e
    obtain ⟨a, vs, rfl, t1, t2⟩ := r.lst
    obtain rfl : u = Value.ref a := ru
    exact ⟨.lst a, rfl, fun io2 H2 L2 xt R2 _ => ⟨vs, (t1.persist xt.2).lk.sq, .of_ds (t2.persist xt.2)⟩, rfl⟩
  · simp only [Option.some.injEq] at e; subst e
    obtain ⟨a, vs, rfl, t1, t2⟩ := r.scr
    obtain rfl : u = Value.ref a := ru
    exact ⟨.lst a, rfl, fun io2 H2 L2 xt R2 _ => ⟨vs, (t1.persist xt.2).sq, .of_ds (t2.persist xt.2)⟩, rfl⟩
  · rename_i n
    split at e
    · rename_i xs eL
      simp only [Option.some.injEq] at e; subst e
      obtain ⟨a, vs, rfl, ha, hl, rv⟩ := lst_at Rp eL r
      obtain rfl : u = Value.ref a := ru
      refine ⟨.lst a, rfl, fun io2 H2 L2 xt R2 hst => ?_, by simp [stands, eL]⟩
      have e := (stands_get hst).1
      obtain ⟨b, q, vs, h1, h2⟩ := R2.get e
      rw [prefix_get xt.1 ha] at q; cases q
      exact ⟨vs, .inl (.inl h1), h2⟩
    · cases e
  · cases e
theorem srcs_of (Rp : Rep Z io H L) : ∀ {vs : List VL} {xs : List V} {us : List Value} {ws : List Walked}, Vals xs us → RVs Z io H vs xs → walksOf L vs = some ws →
    ∃ srcs : List Src, srcs.map Src.val = us ∧ Paired (SrcOk Z io H) ws srcs ∧ stands (ws.map (·.still)).flatten L = true
  | [], _, _, _, .nil, .nil, e => by simp only [walksOf, Option.some.injEq] at e; subst e; exact ⟨[], rfl, .nil, rfl⟩
  | v :: vs, _, _, ws, .cons a t, .cons b u, e => by
    simp only [walksOf] at e
    split at e
    · rename_i w ws' e1 e2
      simp only [Option.some.injEq] at e; subst e
      obtain ⟨src, s1, s2, s3⟩ := src_of Rp a b e1
      obtain ⟨srcs, q1, q2, q3⟩ := srcs_of Rp t u e2
      exact ⟨src :: srcs, by simp [s1, q1], .cons s2 q2, by simp only [stands, List.map_cons, List.flatten_cons, List.all_append, Bool.and_eq_true] at q3 s3 ⊢; exact ⟨s3, q3⟩⟩
    · cases e
theorem stands_app {g h : List (Nat × LO)} {L : LH} (e : stands (g ++ h) L = true) : stands g L = true ∧ stands h L = true := by
  simpa only [stands, List.all_append, Bool.and_eq_true] using e
/-- the rows that the sources stand for -/
theorem rows_of (Rp : Rep Z io H L) {io0 : List Addr} {H0 : Hp} (x : Ex0 io0 H0 io H) : ∀ {ws : List Walked} {srcs : List Src} {ds : List (List D)}, Paired (SrcOk Z io0 H0) ws srcs → stands (ws.map (·.still)).flatten L = true → (ws.mapM fun w => allD w.items) = some ds →
    ∃ rows : List (List V), Paired (fun (src : Src) xs => src.fits Z.K H xs) srcs rows ∧ Paired (fun (d : List D) xs => RDs Z H d xs) ds rows
  | [], _, ds, .nil, _, e => by simp at e; subst e; exact ⟨[], .nil, .nil⟩
  | w :: ws, _, ds, .cons a t, st, e => by
    simp only [List.map_cons, List.flatten_cons] at st
    obtain ⟨s1, s2⟩ := stands_app st
    simp only [List.mapM_cons, Option.bind_eq_bind, Option.bind_eq_some_iff, Option.pure_def, Option.some.injEq] at e
    obtain ⟨d, e1, ds', e2, rfl⟩ := e
    obtain ⟨rows, q1, q2⟩ := rows_of Rp x t s2 e2
    obtain ⟨xs, f, r⟩ := a io H L x Rp s1
    exact ⟨xs :: rows, .cons f q1, .cons (RVs.all e1 r) q2⟩
theorem row_at {i : Nat} : ∀ {ds : List (List D)} {rows : List (List V)} {r : List D} {vs : List V}, Paired (fun (d : List D) xs => RDs Z H d xs) ds rows → Paired (fun (xs : List D) x => xs[i]? = some x) ds r → Paired (fun (xs : List V) v => xs[i]? = some v) rows vs → RDs Z H r vs
  | _, _, _, _, .nil, .nil, .nil => .nil
  | _, _, _, _, .cons a t, .cons b u, .cons c w => by
    obtain ⟨v, e, r⟩ := RDs.get a b
    rw [c] at e; cases e
    exact .cons r (row_at t u w)
theorem itz_ok (hK : X.K = Z.K) {ws : List Walked} {srcs : List Src} {ds : List (List D)} (hne : ws ≠ []) (h : Paired (SrcOk Z io H) ws srcs) (e : (ws.mapM fun w => allD w.items) = some ds) :
    ItOk Z io H ⟨(zipD ds).map fun r => .d (.tup r), (ws.map (·.still)).flatten⟩ (ItzN X.K srcs) := by
  intro io2 H2 L2 xt R2 st
  obtain ⟨rows, q1, q2⟩ := rows_of R2 xt h st e
  have hds : ds ≠ [] := fun z => by
    have l1 := Paired.length q2
    have l2 := Paired.length q1
    have l3 := Paired.length h
    rw [z] at l1
    simp only [List.length_nil] at l1
    exact hne (List.eq_nil_of_length_eq_zero (by omega))
  obtain ⟨z1, z2⟩ := zipD_len ds hds
  have lens : ∀ xs ∈ rows, ∃ d ∈ ds, d.length = xs.length := fun xs m => by
    obtain ⟨d, md, r⟩ := paired_mem2 q2 m
    exact ⟨d, md, r.length⟩
  rw [hK]
  refine ⟨fun i v hv => ⟨⟨rows, q1, fun xs m => ?_⟩, fun x H' hy => ?_⟩, rows, q1, fun xs m => ?_, ?_⟩
  · obtain ⟨d, md, ed⟩ := lens xs m
    have hi := (List.getElem?_eq_some_iff.mp hv).1
    rw [List.length_map] at hi
    have := z1 d md
    omega
  · obtain ⟨T, vs, rfl, hT, rfl, hall⟩ := hy
    have p := hall rows q1
    have hi := (List.getElem?_eq_some_iff.mp hv).1
    rw [List.length_map] at hi
    obtain ⟨r, er, pr⟩ := zipD_get ds i hds fun d md => Nat.lt_of_lt_of_le hi (z1 d md)
    rw [List.getElem?_map, er] at hv
    simp only [Option.map_some, Option.some.injEq] at hv
    subst hv
    have rr := row_at q2 pr p
    refine ⟨Ext.new hT, R2.new hT, .d (.tup (.inl (.inl upd_same)) (rr.persist (Persist.new hT)))⟩
  · obtain ⟨d, md, ed⟩ := lens xs m
    rw [List.length_map]
    have := z1 d md
    omega
  · obtain ⟨d, md, hd⟩ := z2
    obtain ⟨xs, m, r⟩ := paired_mem1 q2 md
    exact ⟨xs, m, by rw [List.length_map, ← r.length]; exact hd⟩
theorem ite_ok (hK : X.K = Z.K) {w : Walked} {src : Src} {ds : List D} {k : Int} (h : SrcOk Z io H w src) (e : allD w.items = some ds) : ItOk Z io H ⟨enumD k ds, w.still⟩ (ItE X.K src k) := by
  intro io2 H2 L2 xt R2 st
  obtain ⟨xs, f, r⟩ := h io2 H2 L2 xt R2 st
  have rd := RVs.all e r
  rw [hK]
  refine ⟨fun i v hv => ⟨⟨xs, f, ?_⟩, fun x H' hy => ?_⟩, xs, f, ?_⟩
  · have hi := (List.getElem?_eq_some_iff.mp hv).1
    rw [enumD_len, rd.length] at hi
    exact hi
  · obtain ⟨T, x1, rfl, hT, rfl, hall⟩ := hy
    have p := hall xs f
    rw [enumD_get] at hv
    obtain ⟨d, ed, rfl⟩ := Option.map_eq_some_iff.mp hv
    obtain ⟨v, ev, rv⟩ := RDs.get rd ed
    rw [p] at ev; cases ev
    exact ⟨Ext.new hT, R2.new hT, .d (.tup (.inl (.inl upd_same)) (.cons (.int _) (.cons (rv.persist (Persist.new hT)) .nil)))⟩
  · rw [enumD_len, rd.length]
end
end L3
end
section
set_option Elab.async false
set_option linter.all false
set_option maxRecDepth 100000
set_option maxHeartbeats 4000000
/-! LX: dict displays; zip and enumerate read. -/
namespace L3
open PySem PySem.Spec PyProof.Rows L2
section
variable {X : Cx} {pins : List (Addr × Obj)} {σ : Sg} {H : Hp} {s : Shared} {Z : Lk} {io : List Addr} {L : LH} {E : XK} {Q : VK}
theorem dx_empty {P : Program} {w : World} {H : Hp} (h : Heap) (hb : sysModules < h.objs.size) : ObjOk P w H (h.push { cls := .type "dict", data := .dict #[] }) h.objs.size (dx h.objs.size []) :=
  dx_ok ⟨_, 0, Heap.get?_push_size _ rfl, ⟨rfl, rfl, rfl⟩, rfl⟩ (beq_eq_false_iff_ne.mpr (Ne.symm (Nat.ne_of_lt hb))) (Nat.zero_le _)
theorem GK.nil : GK [] := ⟨List.nodup_nil, fun _ h => (nomatch h), fun _ h => (nomatch h)⟩
/-- a new dict as mkK gives it -/
theorem fzK {io0 : List Addr} {H1 : Hp} {m : Bool} {ks : List D} {vs : List VL} {es : List DictEntry} {p : Addr} (h : Post Z (RVl Z) io0 H1 (mkK m ks vs L) Q E) (xt : Ext io0 H1 io H) (hn : H1 p = none) (R : Rep Z io H L) (hp : H p = some (dx p es)) (np : p ∉ io)
    (g : GK ks) (rk : RKeys Z H ks es) (rv : RVals Z io H vs es) : Fz Q (.ref p) H := by
  have al : Post Z (RVl Z) io0 H1 (alloc (.dct ks vs) L) Q E → Fz Q (.ref p) H := fun h => by
    have x0 : Ex0 io H (io ++ [p]) H := ⟨List.prefix_append _ _, .refl⟩
    have e : Ext io0 H1 (io ++ [p]) H := ⟨xt.pre.trans (List.prefix_append _ _), xt.per, fun b hb nb => ⟨fun hm => (List.mem_append.mp hm).elim (xt.frm b hb nb).1 fun z => hb (by rw [List.mem_singleton.mp z]; exact hn), (xt.frm b hb nb).2⟩⟩
    refine .now (h (io ++ [p]) _ H e ⟨by simp [R.len], ?_, fun n o eo => ?_⟩ (.r R.last))
    · rw [List.nodup_append]
      exact ⟨R.nd, by simp, fun a ha b hb => by rw [List.mem_singleton.mp hb]; rintro rfl; exact np ha⟩
    · by_cases hl : n < L.length
      · rw [List.getElem?_append_left hl] at eo
        obtain ⟨a, q, ro⟩ := R.at_ n o eo
        exact ⟨a, prefix_get x0.1 q, ro.keep x0 rfl⟩
      · rw [List.getElem?_append_right (by omega)] at eo
        have hz : n - L.length = 0 := by
          rcases Nat.eq_zero_or_pos (n - L.length) with z | z
          · exact z
          · rw [List.getElem?_eq_none (by simp only [List.length_cons, List.length_nil]; omega)] at eo; cases eo
        rw [hz] at eo
        simp only [List.getElem?_cons_zero, Option.some.injEq] at eo; subst eo
        have hnn : n = L.length := by omega
        subst hnn
        exact ⟨p, R.last, g, es, hp, rk, rv.ext0 x0⟩
  unfold mkK at h
  cases m with
  | true => exact al h
  | false =>
    simp only [Bool.false_eq_true, if_false] at h
    cases e : allD vs with
    | none => rw [e] at h; exact al h
    | some ds =>
      rw [e] at h
      refine .frz hp trivial fun od => .now ?_
      have P : Persist H (upd H p (.frz od (dx p es))) := Persist.write (by rw [hp]; trivial)
      have rd : RVals Z io H (ds.map .d) es := by
        have : vs = ds.map .d := by
          clear h rv rk al
          induction vs generalizing ds with
          | nil => simp only [allD, Option.some.injEq] at e; subst e; rfl
          | cons v vs ih =>
            cases v with
            | r _ => simp [allD] at e
            | d x =>
              simp only [allD, Option.map_eq_some_iff] at e
              obtain ⟨a, e1, rfl⟩ := e
              rw [List.map_cons, ← ih a e1]
        rw [← this]; exact rv
      refine h io _ _ ⟨xt.pre, xt.per.trans P, fun b hb nb => ⟨(xt.frm b hb nb).1, ?_⟩⟩ (R.other P fun n a q => upd_ne fun z => np (by rw [← z]; exact List.mem_of_getElem? q)) (.d (.dct g upd_same (RDkv.join (io := io) (rk.ext P) (rd.ext0 ⟨List.prefix_refl _, P⟩))))
      rw [upd_ne fun z => hb (by rw [z]; exact hn)]
      exact (xt.frm b hb nb).2
/-- the values of the pairs, one behind the other -/
def flat2 : List (Value × Value) → List Value
  | [] => []
  | (k, v) :: r => k :: v :: flat2 r
/-- the stores of a display -/
theorem put_all (hK : X.K = Z.K) (hw : X.w = Z.w) (hu : X.A.units + 66 < cLine) {a : Addr} {E' : Value → Shared → Prop} : ∀ (ws : List (Value × Value)) {s : Shared} {H : Hp} {es : List DictEntry} {ks : List D} {vs xs : List VL} {ys : List V} {ks' : List D} {vs' : List VL} {R : PUnit → Shared → Prop}, Inv X pins σ H s →
    H a = some (dx a es) → GK ks → RKeys Z H ks es → RVals Z io H vs es → RVs Z io H xs ys → Vals ys (flat2 ws) → dpairs xs ks vs = some (ks', vs') → ks.length + ws.length ≤ sizeLine →
    (∀ es' h' t, Inv X pins σ (upd H a (dx a es')) { s with heap := h', toks := t } → GK ks' → RKeys Z (upd H a (dx a es')) ks' es' → RVals Z io (upd H a (dx a es')) vs' es' → R ⟨⟩ { s with heap := h', toks := t }) →
    wpAny (model X.prog X.w) X.A (forIn ws PUnit.unit fun (x : Value × Value) (_ : PUnit) => (do dictSet a x.1 x.2; pure (ForInStep.yield PUnit.unit) : Sem (ForInStep PUnit))) R E' s
  | [], s, H, es, ks, vs, xs, ys, ks', vs', R, I, ha, g, rk, rv, rx, rw', e, hz, q => by
    cases rw'
    cases rx
    simp only [dpairs, Option.some.injEq, Prod.mk.injEq] at e
    obtain ⟨rfl, rfl⟩ := e
    rw [List.forIn_nil]
    have : upd H a (dx a es) = H := by
      funext b
      by_cases hb : b = a
      · subst hb; rw [upd_same, ha]
      · rw [upd_ne hb]
    have q := q es s.heap s.toks
    rw [this] at q
    exact wpAny_pure (q I g rk rv)
  | (kv, vv) :: ws, s, H, es, ks, vs, xs, ys, ks', vs', R, I, ha, g, rk, rv, rx, rw', e, hz, q => by
    cases rw' with
    | cons r1 t =>
      cases t with
      | cons r2 t =>
        cases rx with
        | cons p1 u =>
          cases u with
          | cons p2 u =>
            rename_i x1 _ x2 _
            cases p1 with
            | r _ => simp [dpairs] at e
            | d p1 =>
              rename_i kd
              simp only [dpairs] at e
              split at e
              · rename_i ok
                rw [List.forIn_cons]
                simp only [List.length_cons] at hz
                have hlen : ks.length = vs.length := by have := rkeys_len rk; have := rvals_len rv; omega
                refine wpAny_bind (wpAny_bind (dict_setG false I hK hw hu ha g rk rv ok p1 r1 p2 r2 (by omega) fun es' h' t' I' k1 k2 => wpAny_pure ?_))
                have P : Persist H (upd H a (dx a es')) := Persist.write (by rw [ha]; trivial)
                have x0 : Ex0 io H io (upd H a (dx a es')) := ⟨List.prefix_refl _, P⟩
                refine put_all hK hw hu ws I' upd_same (g.put ok hlen) (k1.ext P) (k2.ext0 x0) (u.ext0 x0) t e ?_ fun es2 h2 t2 I2 g2 c1 c2 => ?_
                · have : (dput ks vs kd x2).1.length ≤ ks.length + 1 := by
                    by_cases hm : kd ∈ ks
                    · rw [dput_old ks vs kd x2 hlen hm]; omega
                    · rw [dput_new ks vs kd x2 hlen hm]; simp
                  exact Nat.le_trans (Nat.add_le_add_right this _) (by omega)
                · rw [upd_upd] at I2 c1 c2
                  exact q es2 h2 t2 I2 g2 c1 c2
              · cases e
end
/-- the pairs of a display, read -/
structure RPs (X : Cx) (Z : Lk) (W : WX) (pos : Pos) (keys : List (Option Expr)) (values : List Expr) (fs : Env → LH → Res (List VL)) : Prop where
  run : ∀ (pins : List (Addr × Obj)) (s : Shared) (σ : Sg) (H : Hp) (Q : List V → Hp → Prop), Inv X pins σ H s → tR Z W (RVs Z) fs σ H Q →
    wpAny (model X.prog X.w) X.A (evalPairs (pairTrees keys values X.env pos)) (fun vs s' => ∃ ps H', Inv X pins σ H' s' ∧ Vals ps (flat2 vs) ∧ Q ps H') X.xe s
section
variable {X : Cx} {Z : Lk} {W : WX} {pos : Pos} {k v : Expr} {ks : List (Option Expr)} {vs : List Expr} {f g : Env → LH → Res VL} {fs : Env → LH → Res (List VL)}
theorem rp_nil : RPs X Z W pos [] [] (fun _ L => .ok [] L) := ⟨fun pins s σ H Q I ⟨io, ρ, L, R, S, p⟩ => pairTrees_nil_walk ⟨[], H, I, .nil, p io [] H .refl R .nil⟩⟩
theorem rp_cons (hk : RE X Z W k f) (hv : RE X Z W v g) (hr : RPs X Z W pos ks vs fs) : RPs X Z W pos (some k :: ks) (v :: vs) (fun ρ L => (f ρ L).bind fun x L => ((g ρ L).bind fun y L => (fs ρ L).bind fun zs L => .ok (y :: zs) L).bind fun yz L => .ok (x :: yz) L) := by
  refine ⟨fun pins s σ H Q I h => ?_⟩
  have h2 := tR_two (rel := RVl Z) (rel' := RVs Z) (k := fun x yz L => Res.ok (x :: yz) L) mo_v h
  refine pairTrees_cons_walk (thn (hk.run pins s σ H _ I h2) fun u s1 ⟨x, H1, I1, rx, q⟩ => ?_)
  have h3 := tR_two (rel := RVl Z) (rel' := RVs Z) (f := g) (g := fs) (k := fun y zs L => Res.ok (y :: zs) L) mo_v q
  refine thn (hv.run pins s1 σ H1 _ I1 h3) fun w2 s2 ⟨y, H2, I2, ry, q2⟩ => thn (hr.run pins s2 σ H2 _ I2 q2) fun ws s3 ⟨ps, H3, I3, rel, io, L, vy, vzs, E, R, r1, r2, p⟩ => ?_
  obtain ⟨io4, L4, vx, vyz, E4, R4, r3, r4, p4⟩ := p io (y :: ps) H3 .refl R (.cons r1 r2)
  exact ⟨x :: y :: ps, H3, I3, .cons rx (.cons ry rel), p4 io4 (x :: y :: ps) H3 .refl R4 (.cons r3 r4)⟩
/-- {k: v, ..} -/
theorem r_dict {m : Bool} (hK : X.K = Z.K) (hw : X.w = Z.w) (hu : X.A.units + 66 < cLine) (h : RPs X Z W pos ks vs fs) (hall : ks.all (·.isSome) = true) (hl : ks.length = vs.length) (h0 : ks ≠ []) (h15 : ks.length ≤ 15) :
    RE X Z W (.Dict ks vs pos) (fun ρ L => (fs ρ L).bind fun xs L => mkD m xs L) := by
  refine ⟨fun pins s σ H Q I h2 => ?_⟩
  obtain ⟨io0, ρ, L0, R0, S0, p⟩ := h2
  have hn := I.hok.fresh (Nat.le_refl s.heap.objs.size)
  have I1 := I.laid (a := s.heap.objs.size) (o := dx s.heap.objs.size []) (h' := s.heap.push { cls := .type "dict", data := .dict #[] }) (t' := s.toks) (fun _ _ q => Heap.get?_push_of_some _ q) (Nat.le_refl _) (dx_empty s.heap I.big)
  have hplen := pairTrees_length ks vs X.env pos hall hl
  have hp0 : pairTrees ks vs X.env pos ≠ [] := fun he => by rw [he] at hplen; exact h0 (List.length_eq_zero_iff.mp hplen.symm)
  rw [arm_eval_Dict, zip_pairTrees ks vs X.env pos hall hl, dictDisplay_pairs (pairTrees ks vs X.env pos) hp0 (by omega)]
  refine wpAny_bind (wpAny_standAt (wpAny_bind ?_))
  unfold subDict
  refine wpAny_bind (wpAny_alloc ?_)
  refine wpAny_bind (wpAny_holding ?_)
  rw [if_pos (by omega)]
  have x1 : Ext io0 H io0 (upd H s.heap.objs.size (dx s.heap.objs.size [])) := Ext.new hn
  have hrun := h.run pins { s with heap := s.heap.push { cls := .type "dict", data := .dict #[] } } σ _ (fun xs H2 => ∃ io v L', fs ρ L0 = .ok v L' ∧ Ext io0 (upd H s.heap.objs.size (dx s.heap.objs.size [])) io H2 ∧ Rep Z io H2 L' ∧ RVs Z io H2 v xs) I1 ⟨io0, ρ, L0, R0.new hn, S0.ext x1, ?_⟩
  rotate_left
  · cases ef : fs ρ L0 with
    | stuck => simp only [ef] at p; exact p
    | exn d L' => simp only [ef] at p; exact fun i c d G xt => p i c d G (x1.trans xt)
    | ok v L' => exact fun i x G xt R' r => ⟨i, v, L', rfl, xt, R', r⟩
  refine wpAny_bind (wpAny_mono (wpAny_evalPairs_len hrun) (fun ws s1 h1 => ?_) fun _ _ e => e)
  obtain ⟨hwl, xs, H2, I2, rx, io, v, L', ef, xt, R2, rv⟩ := h1
  refine wpAny_holding ?_
  have q : Post Z (RVl Z) io0 H (mkD m v L') Q (fun c d H' => W c d σ H') := by simp only [ef] at p; exact p
  unfold mkD at q
  split at q
  rotate_left
  · exact q.elim
  split at q
  rotate_left
  · exact q.elim
  rename_i pr epr
  obtain ⟨ks', vs'⟩ := pr
  have np0 : s.heap.objs.size ∉ io0 := fun hm => by
    obtain ⟨n, hn', e⟩ := List.mem_iff_getElem.mp hm
    exact R0.ne_none (n := n) (a := s.heap.objs.size) (by simp [hn', e]) hn
  obtain ⟨np, e2⟩ := xt.frm s.heap.objs.size (by rw [upd_same]; simp) np0
  rw [upd_same] at e2
  refine wpAny_bind (put_all hK hw hu ws I2 e2 GK.nil .nil .nil rv rx epr (by rw [hwl]; rw [sizeLine_eq]; simp only [List.length_nil]; omega) fun es' h' t I3 g3 k1 k2 => wpAny_pure (wpAny_pure (wpAny_pure ?_)))
  refine Fz.ep (pins := pins) (σ := σ) (X := X) ⟨.ref s.heap.objs.size, _, I3, rfl, ?_⟩
  have P : Persist H2 (upd H2 s.heap.objs.size (dx s.heap.objs.size es')) := Persist.write (by rw [e2]; trivial)
  have xD : Ext io0 H io (upd H2 s.heap.objs.size (dx s.heap.objs.size es')) := by
    have z := x1.trans xt
    exact ⟨z.pre, z.per.trans P, fun b hb nb => ⟨(z.frm b hb nb).1, by rw [upd_ne fun e => hb (by rw [e]; exact hn)]; exact (z.frm b hb nb).2⟩⟩
  exact fzK (io0 := io0) (H1 := H) (L := L') q xD hn (R2.other P fun n a e => upd_ne fun z => np (by rw [← z]; exact List.mem_of_getElem? e)) upd_same np g3 k1 k2
/-- {} -/
theorem r_dict0 {m : Bool} : RE X Z W (.Dict [] [] pos) (fun _ L => (Res.ok [] L).bind fun xs L => mkD m xs L) := by
  refine ⟨fun pins s σ H Q I ⟨io0, ρ, L0, R0, S0, p⟩ => ?_⟩
  have hn := I.hok.fresh (Nat.le_refl s.heap.objs.size)
  have I1 := I.laid (a := s.heap.objs.size) (o := dx s.heap.objs.size []) (h' := s.heap.push { cls := .type "dict", data := .dict #[] }) (t' := s.toks) (fun _ _ q => Heap.get?_push_of_some _ q) (Nat.le_refl _) (dx_empty s.heap I.big)
  have np : s.heap.objs.size ∉ io0 := fun hm => by
    obtain ⟨n, hn', e⟩ := List.mem_iff_getElem.mp hm
    exact R0.ne_none (n := n) (a := s.heap.objs.size) (by simp [hn', e]) hn
  exact wpAny_Dict_empty (Fz.ep (pins := pins) (σ := σ) (X := X) ⟨.ref s.heap.objs.size, _, I1, rfl, fzK (io0 := io0) (H1 := H) (L := L0) (ks := []) (vs := []) (m := m) p (Ext.new hn) hn (R0.new hn) upd_same np GK.nil .nil .nil⟩)
end
/-! ### zip and enumerate -/
theorem zap_nodup (N n : Nat) : ((N + n + 2) :: (N + n) :: (N + n + 1) :: ((List.range n).map fun k => N + k)).Nodup := by
  simp only [List.nodup_cons, List.mem_cons, List.mem_map, List.mem_range, not_or, not_exists, not_and]
  refine ⟨⟨by omega, by omega, fun k hk => by omega⟩, ⟨by omega, fun k hk => by omega⟩, fun k hk => by omega, ?_⟩
  rw [List.nodup_iff_pairwise_ne, List.pairwise_map]
  exact List.Pairwise.imp (fun {a b} h => by omega) List.nodup_range
theorem zap_le (N n b : Nat) (h : b ∈ ((N + n + 2) :: (N + n) :: (N + n + 1) :: ((List.range n).map fun k => N + k))) : N ≤ b := by
  simp only [List.mem_cons, List.mem_map, List.mem_range] at h
  rcases h with e | e | e | ⟨k, _, e⟩ <;> omega
section
variable {X : Cx} {Z : Lk} {W : WX} {tg e : Expr} {es : List Expr} {p pos : Pos} {fs : Env → LH → Res (List VL)} {f : Env → LH → Res VL}
/-- zip(..) of up to five -/
theorem r_zip (hK : X.K = Z.K) (hg : Gl X "zip") (hm : X.mg "zip" = none) (ha : RA X Z W (e :: es) fs) (ns : noStars (e :: es) = true) (h5 : (e :: es).length ≤ 5) (ar : ∀ ρ L xs L', fs ρ L = .ok xs L' → xs.length = (e :: es).length) :
    RI X Z W tg (.Call (.Name "zip" p) (e :: es) [] pos) (fun ρ L => (fs ρ L).bind fun xs L => match walksOf L xs with
      | some ws => (match (ws.mapM fun w => allD w.items) with
        | some ds => .ok ⟨(zipD ds).map fun r => .d (.tup r), (ws.map (·.still)).flatten⟩ L
        | none => .stuck)
      | none => .stuck) := by
  have ns' : notStar e = true ∧ noStars es = true := by simpa [noStars] using ns
  refine ⟨fun pins s σ H R I h => ?_⟩
  obtain ⟨io0, ρ, L0, R0, S0, q0⟩ := h
  have h : tR Z W (RVs Z) fs σ H (fun xs H1 => ∃ io v L', v.length = (e :: es).length ∧ Rep Z io H1 L' ∧ RVs Z io H1 v xs ∧ Post Z (ItOk Z) io H1 (match walksOf L' v with
      | some ws => (match (ws.mapM fun w => allD w.items) with
        | some ds => .ok ⟨(zipD ds).map fun r => .d (.tup r), (ws.map (·.still)).flatten⟩ L'
        | none => .stuck)
      | none => .stuck) R (fun c d H' => W c d σ H')) := by
    refine ⟨io0, ρ, L0, R0, S0, ?_⟩
    cases ef : fs ρ L0 with
    | stuck => simp only [ef] at q0; exact q0
    | exn d L' => simp only [ef] at q0; exact q0
    | ok v L' => simp only [ef] at q0; exact fun i x G xt R' r => ⟨i, v, L', ar _ _ _ _ ef, R', r, Post.ext q0 xt⟩
  refine Call_ (ld_blt I hg hm PyProof.Rows.boot_zip (PyProof.Rows.callWith_type1 (thn (ha.run pos pins s σ H _ I h) fun us s1 ⟨vs, H1, I1, r1, io, v, L, hlen, Rp, rv, q⟩ => ?_) (star_each ns'.1) (stars_none pos X.env es ns'.2)))
  split at q
  rotate_left
  · exact q.elim
  rename_i ws ew
  split at q
  rotate_left
  · exact q.elim
  rename_i ds ed
  obtain ⟨srcs, e1, e2, e3⟩ := srcs_of Rp r1 rv ew
  have hl : srcs.length = (e :: es).length := by
    have l1 := congrArg List.length e1
    rw [List.length_map] at l1
    rw [l1, ← r1.length, ← rv.length, hlen]
  have hwl : ws.length = srcs.length := Paired.length e2
  -- what each source stands for now
  obtain ⟨rows, f1, f2⟩ := rows_of Rp .refl e2 e3 ed
  rw [← hK] at f1
  have mk : ∀ {srcs : List Src} {rows : List (List V)}, Paired (fun (src : Src) xs => src.fits X.K H1 xs) srcs rows → ∃ bs : List Bg, bs.map (·.v) = srcs.map Src.val ∧ bs.map (·.o) = srcs.map Src.obj ∧ (∀ b ∈ bs, b.H s1.heap) ∧ ∀ src ∈ srcs, ∀ a, src.addr = some a → a < s1.heap.objs.size := by
    intro srcs rows h
    induction h with
    | nil => exact ⟨[], rfl, rfl, (fun _ h => nomatch h), (fun _ h => nomatch h)⟩
    | cons a _ ih =>
      rename_i src xs _ _ _
      obtain ⟨bs, b1, b2, b3, b4⟩ := ih
      obtain ⟨its, c1, c2⟩ := Src.stood I1 a
      refine ⟨⟨src.val, src.obj, src.stands its, src.begins its⟩ :: bs, by simp [b1], by simp [b2], fun b hb => ?_, fun s' hs' => ?_⟩
      · rcases List.mem_cons.mp hb with rfl | hb
        · exact c1
        · exact b3 b hb
      · rcases List.mem_cons.mp hs' with rfl | hs'
        · exact c2
        · exact b4 s' hs'
  obtain ⟨bs, b1, b2, b3, b4⟩ := mk f1
  have hbl : bs.length = srcs.length := by have := congrArg List.length b1; simpa using this
  rw [← e1, ← b1]
  refine zip_begins bs (by rw [hbl, hl]; simp) (by rw [hbl, hl]; exact h5) b3 fun h' z1 z2 z3 z4 z5 => z_pyIter z1 ?_
  have I2 : Inv X pins σ H1 { s1 with heap := h' } := I1.kept (t' := s1.toks) z5
  generalize hN : s1.heap.objs.size = N at z1 z2 z3 z4 b4 ⊢
  rw [hbl] at z1 z2 z3 ⊢
  have itsE : (refsFrom N srcs.length) = ((List.range srcs.length).map fun k => N + k).map Value.ref := by simp [refsFrom, List.map_map]
  have ap : ZApart (N + srcs.length + 2) (N + srcs.length) (N + srcs.length + 1) ((List.range srcs.length).map fun k => N + k) srcs := by
    refine ⟨zap_nodup N srcs.length, fun src hs a ea hm => ?_⟩
    exact absurd (b4 src hs a ea) (Nat.not_lt.mpr (zap_le N srcs.length a hm))
  have hat : ∀ (n : Nat) (srcs : List Src), (∀ k src, srcs[k]? = some src → h'.get? (N + n + k) = some src.obj) → Paired (fun (src : Src) it => src.at it 0 h') srcs ((List.range srcs.length).map fun k => N + n + k) := by
    intro n srcs
    induction srcs generalizing n with
    | nil => exact fun _ => .nil
    | cons src srcs ih =>
      intro h
      rw [List.length_cons, List.range_succ_eq_map, List.map_cons, List.map_map]
      refine .cons (Src.at_new (h 0 src rfl)) ?_
      have := ih (n + 1) fun k s e => by
        have := h (k + 1) s (by simpa using e)
        rw [show N + (n + 1) + k = N + n + (k + 1) by omega]; exact this
      have e : ((fun k => N + n + k) ∘ Nat.succ) = fun k => N + (n + 1) + k := by funext k; simp; omega
      rw [e]; exact this
  have hgets : ∀ (k : Nat) (src : Src), srcs[k]? = some src → h'.get? (N + 0 + k) = some src.obj := fun k src e => by
    have h1 : (bs.map (·.o))[k]? = some src.obj := by rw [b2]; simp [e]
    obtain ⟨b, hb, eb⟩ : ∃ b, bs[k]? = some b ∧ b.o = src.obj := by
      rw [List.getElem?_map] at h1
      obtain ⟨b, hb, eb⟩ := Option.map_eq_some_iff.mp h1
      exact ⟨b, hb, eb⟩
    rw [Nat.add_zero, ← eb]; exact z4 k b hb
  have pz := hat 0 srcs hgets
  simp only [Nat.add_zero] at pz
  refine ⟨N + srcs.length + 2, (N + srcs.length + 2) :: (N + srcs.length) :: (N + srcs.length + 1) :: ((List.range srcs.length).map fun k => N + k), _, _, H1, rfl, I2, turn_zipN ap (fun z => by rw [z] at hl; simp at hl) (by rw [hl]; exact h5),
    ⟨⟨.none, false, z1, .inl rfl⟩, by rw [← itsE]; exact z2, ⟨(refsFrom N srcs.length).map fun _ => Value.none, by simp [refsFrom], z3⟩, pz⟩, fun b hb => ?_, q io _ H1 .refl Rp (itz_ok hK (fun z => by rw [z] at hwl; rw [← hwl] at hl; simp at hl) e2 ed)⟩
  have hle : s1.heap.objs.size ≤ b := by
    rw [hN]
    exact zap_le N srcs.length b hb
  exact I1.fpOk hle (I1.hok.fresh hle)
/-- enumerate(e) -/
theorem r_enum {elts : List Expr} {kk : Nat} {tpos : Pos} (hK : X.K = Z.K) (hg : Gl X "enumerate") (hm : X.mg "enumerate" = none) (ha : RE X Z W e f) (ns : notStar e = true) :
    RI X Z W (.Tuple elts kk tpos) (.Call (.Name "enumerate" p) [e] [] pos) (fun ρ L => (f ρ L).bind fun x L => match walkOf L x with
      | some w => (match allD w.items with
        | some ds => .ok ⟨enumD 0 ds, w.still⟩ L
        | none => .stuck)
      | none => .stuck) := by
  refine ⟨fun pins s σ H R I h => ?_⟩
  refine Call_ (ld_blt I hg hm boot_enumerate (PyProof.Rows.callWith_type1 (PyProof.Rows.args_cons (thn (ha.run pins s σ H _ I (tR_one (rel := RVl Z) h)) fun v s1 ⟨x, H1, I1, rx, io, L, vx, E, Rp, r, q⟩ => PyProof.Rows.args_nil ?_) (star_each ns)) (star_each ns) rfl))
  split at q
  rotate_left
  · exact q.elim
  rename_i w ew
  split at q
  rotate_left
  · exact q.elim
  rename_i ds ed
  obtain ⟨src, e1, e2, e3⟩ := src_of Rp rx r ew
  obtain ⟨xs, f1, f2⟩ := e2 io H1 L .refl Rp e3
  rw [← hK] at f1
  obtain ⟨its, c1, c2⟩ := Src.stood I1 f1
  subst e1
  refine enum_begins1 (src.begins its) c1 fun h' he hit hsz hk => wpAny_pyIter_enum he ?_
  have I2 : Inv X pins σ H1 { s1 with heap := h' } := I1.kept (t' := s1.toks) hk
  refine ⟨s1.heap.objs.size + 1, [s1.heap.objs.size + 1, s1.heap.objs.size], _, _, H1, rfl, I2, turn_enumN (src := src) (k := 0) (Nat.succ_ne_self _) (fun a ea => ?_), ⟨⟨.none, he⟩, Src.at_new hit⟩, fun b hb => ?_, q io _ H1 .refl Rp (ite_ok hK e2 ed)⟩
  · have := c2 a ea
    exact ⟨Nat.ne_of_lt (Nat.lt_succ_of_lt this), Nat.ne_of_lt this⟩
  · have e' : b = s1.heap.objs.size + 1 ∨ b = s1.heap.objs.size := by simpa using hb
    have hle : s1.heap.objs.size ≤ b := by
      rcases e' with z | z
      · rw [z]; exact Nat.le_add_right _ _
      · rw [z]; exact Nat.le_refl _
    exact I1.fpOk hle (I1.hok.fresh hle)
end
end L3
end
section
set_option Elab.async false
set_option linter.all false
set_option maxRecDepth 100000
set_option maxHeartbeats 4000000
/-! LY: comprehensions of two clauses; name = [..] on one line. -/
namespace L3
open PySem PySem.Spec PyProof.Rows L2
theorem Fz.map {α β : Type} {Q : α → Hp → Prop} {x : α} {Q' : β → Hp → Prop} {y : β} {H : Hp} (h : Fz Q x H) (f : ∀ G, Q x G → Q' y G) : Fz Q' y H := by
  induction h with
  | now q => exact .now (f _ q)
  | frz e mu _ ih => exact .frz e mu ih
theorem PS.fz {X : Cx} {st : Stmt} {t : TS} (h : PS X st t) : PS X st (fun D σ H => t { D with nx := fun σ' H' => Fz (fun (_ : Unit) G => D.nx σ' G) () H' } σ H) := by
  refine ⟨fun pins s σ H D I q => thn (h.run pins s σ H _ I q) fun fl s' z => ?_⟩
  cases fl with
  | next =>
    obtain ⟨τ, G, J, f⟩ := z
    obtain ⟨G', J', q'⟩ := f.inv J
    exact ⟨τ, G', J', q'⟩
  | brk => exact z
  | cont => exact z
  | ret v => exact z
section
variable {X : Cx} {Z : Lk} {W : WX} {tg iter elt tg1 iter1 : Expr} {ifs ifs1 : List Expr} {scope : Scope} {own : List (Str × Nat)} {pos py spos : Pos} {is is1 vs1 : List Nat} {m : Bool} {fi fi1 : Env → LH → Res Walked} {fa fa1 : LH → VL → Env → Option Env} {ft ft1 : Env → LH → Res Bool} {fe : Env → LH → Res VL} {i : Nat} {y : Str}
/-- name = [..], the name a plain local, on one line -/
theorem r_setLc (hc : X.calm = true) (hN : X.N.Nodup) (hy : X.N[i]? = some y) (hyl : X.env.scope.names.lookup y = some .local) (hsw : swapsWith (.ListComp elt [⟨tg, iter, ifs, 0⟩] scope pos) (some (.Name y py)) spos.line X.env = pure true)
    (hi : RI X Z W tg iter fi) (ok : BlkOk X.N X.env.scope scope own) (sub : ∀ i ∈ is, i ∈ own.map (·.2))
    (hg : ∀ (s : Shared) (H : Hp) (C : Addr) (cl : List (Str × Addr)) (fp : List Addr), PG (X.blk s H scope (compEnvC scope cl C X.env) fp) tg (gR Z is fa))
    (ht : ∀ (s : Shared) (H : Hp) (C : Addr) (cl : List (Str × Addr)) (fp : List Addr), PTs (X.blk s H scope (compEnvC scope cl C X.env) fp) ifs (tR Z W0 REq ft))
    (he : ∀ (s : Shared) (H : Hp) (C : Addr) (cl : List (Str × Addr)) (fp : List Addr), RE (X.blk s H scope (compEnvC scope cl C X.env) fp) Z W0 elt fe) (hs : ∀ x, foldedSetIterable iter X.env x = pure x) :
    RS X Z W (.Assign [.Name y py] (.ListComp elt [⟨tg, iter, ifs, 0⟩] scope pos) spos) (fun ρ L => ((fi ρ L).bind fun w L => (mapR w.still (lcF fa ft fe (wipeE ρ (own.map (·.2)))) w.items L).bind fun xs L => mkL m xs L).fl ρ fun v L => .next (ρ.set i (some v)) L) := by
  refine (PS.fz (ps_setLc hc hN hy hyl hsw hi ok hg ht he hs)).imp fun D σ H h => ?_
  have h2 := tRS_e (rel := RVl Z) (g := fun ρ v L => .next (ρ.set i (some v)) L) h
  have h3 : tR Z W (RVl Z) (fun ρ L => (fi ρ L).bind fun w L => (mapR w.still (lcF fa ft fe (wipeE ρ (own.map (·.2)))) w.items L).bind fun xs L => mkL m xs L) σ H fun x H1 => D.nx (σ.set i (some x)) H1 :=
    tR_imp h2 fun x H1 ⟨io, ρ, v, L, R, S, r, p⟩ => p io _ H1 .refl R (S.set i r)
  have h4 := lc_tR sub h3
  show tLc _ _ _ _ _ σ H fun x H1 => Fz (fun (_ : Unit) G => D.nx (σ.set i (some x)) G) () H1
  obtain ⟨io, ρ, L, R, S, p⟩ := h4
  refine ⟨io, ρ, L, R, S, p.imp (fun J H1 q Dp hD => ?_) fun _ _ _ z => z⟩
  obtain ⟨Wd, w0, step⟩ := q Dp hD
  refine ⟨Wd, w0, fun k mm G w => ?_⟩
  rcases step k mm G w with ⟨a, b⟩ | b
  · exact .inl ⟨a, b.map fun _ q => q⟩
  · exact .inr b
/-! ### two clauses -/
def lcI (fa1 : LH → VL → Env → Option Env) (ft1 : Env → LH → Res Bool) (fe : Env → LH → Res VL) (ρ : Env) (y : VL) (L : LH) : Res (List VL) := match fa1 L y ρ with
  | some ρ' => (ft1 ρ' L).bind fun b L => if b then (fe ρ' L).bind fun v L => .ok [v] L else .ok [] L
  | none => .stuck
def lc2F (fa : LH → VL → Env → Option Env) (ft : Env → LH → Res Bool) (fi1 : Env → LH → Res Walked) (vs1 : List Nat) (fa1 : LH → VL → Env → Option Env) (ft1 : Env → LH → Res Bool) (fe : Env → LH → Res VL) (g : List (Nat × LO)) (ρ : Env) (x : VL) (L : LH) : Res (List VL) := match fa L x ρ with
  | some ρ' => ((ft ρ' L).bind fun b L => if b then (fi1 ρ' L).bind fun w2 L => mapR (g ++ w2.still) (lcI fa1 ft1 fe (wipeE ρ' vs1)) w2.items L else .ok [] L).noX
  | none => .stuck
theorem noX_exn {α : Type} {r : Res α} {e : D} {L : LH} : r.noX ≠ .exn e L := by cases r <;> exact fun h => nomatch h
theorem lc2F_exn {g : List (Nat × LO)} {ρ : Env} {x : VL} {L L' : LH} {e : D} : lc2F fa ft fi1 vs1 fa1 ft1 fe g ρ x L ≠ .exn e L' := by
  unfold lc2F
  split
  · exact noX_exn
  · exact fun h => nomatch h
theorem noX_ok' {α : Type} {r : Res α} {a : α} {L : LH} (h : r.noX = .ok a L) : r = .ok a L := by cases r <;> first | exact h | exact nomatch h
theorem lc2_tR {vl : List Nat} {σ : Sg} {H : Hp} {Q : VK} (sub : ∀ i ∈ is, i ∈ vl) (sub1 : ∀ i ∈ is1, i ∈ vs1) (h : tR Z W (RVl Z) (fun ρ L => (fi ρ L).bind fun w L => (mapR w.still (lc2F fa ft fi1 vs1 fa1 ft1 fe w.still (wipeE ρ vl)) w.items L).bind fun xs L => mkL m xs L) σ H Q) :
    tLc2 (tR Z W (ItOk Z) fi) (gR Z is fa) (tR Z W0 REq ft) (tR Z W0 (ItOk Z) fi1) (gR Z is1 fa1) (tR Z W0 REq ft1) (tR Z W0 (RVl Z) fe) vl vs1 σ H (Fz Q) := by
  refine tR_imp (tR_bind (rel := ItOk Z) h) fun J H1 ⟨io0, ρ, w, L0, Rp0, S0, okJ, p⟩ => fun Da hD => ?_
  have outer : ∀ {F : VL → LH → Res (List VL)} {xs : List VL} {L : LH} {acc more : List VL}, (∀ x L e L', F x L ≠ .exn e L') → Post Z (RVl Z) io0 H1 ((mapR w.still F xs L).bind fun zs L => mkL m (acc ++ zs) L) Q (fun c d H' => W c d σ H') → acc.length ≤ lim := by
    intro F xs L acc more hF q
    cases em : mapR w.still F xs L with
    | ok ys L4 =>
      simp only [em, Res.bind_ok] at q
      unfold mkL at q
      split at q
      · rename_i hz
        simp only [List.length_append] at hz
        omega
      · exact q.elim
    | exn d L4 => exact absurd em (mapR_exn hF _ _ _ _)
    | stuck => simp only [em] at q; exact q.elim
  refine ⟨fun i mm H => mm = w.items.length - i ∧ i ≤ w.items.length ∧ ∃ io L acc vs, Ext io0 H1 io H ∧ Rep Z io H L ∧ H Da = some (.lst vs) ∧ Da ∉ io ∧ RVs Z io H acc vs ∧
    Post Z (RVl Z) io0 H1 ((mapR w.still (lc2F fa ft fi1 vs1 fa1 ft1 fe w.still (wipeE ρ vl)) (w.items.drop i) L).bind fun xs L => mkL m (acc ++ xs) L) Q (fun c d H' => W c d σ H'),
    ⟨w.items.length, by simp, Nat.zero_le _, io0, L0, [], [], Ext.new hD, Rp0.new hD, upd_same, fun hm => ?_, .nil, by simpa using p⟩, ?_⟩
  · obtain ⟨n, hn, e⟩ := List.mem_iff_getElem.mp hm
    exact Rp0.ne_none (n := n) (a := Da) (by simp [hn, e]) hD
  rintro i mm G ⟨rfl, hi', io, L, acc, vs, xt, R, hv, nD, rv, q⟩
  by_cases hlt : i < w.items.length
  · rw [List.drop_eq_getElem_cons hlt] at q
    simp only [mapR] at q
    split at q
    rotate_left
    · exact q.elim
    rename_i hst
    obtain ⟨go, yl⟩ := (okJ io G L xt.w R hst).1 i w.items[i] (by simp [hlt])
    refine .inr ⟨go, fun H' => ∃ io L acc vs, Ext io0 H1 io H' ∧ Rep Z io H' L ∧ H' Da = some (.lst vs) ∧ Da ∉ io ∧ RVs Z io H' acc vs ∧ Post Z (RVl Z) io0 H1 ((mapR w.still (lc2F fa ft fi1 vs1 fa1 ft1 fe w.still (wipeE ρ vl)) (w.items.drop (i + 1)) L).bind fun xs L => mkL m (acc ++ xs) L) Q (fun c d H' => W c d σ H'),
      fun H' z => ⟨w.items.length - (i + 1), by omega, rfl, hlt, z⟩, fun x H' hy => ?_⟩
    obtain ⟨x1, R1, r1⟩ := yl x H' hy
    have xt1 := xt.trans x1
    obtain ⟨nD1, hv1⟩ := x1.frm Da (by rw [hv]; simp) nD
    rw [hv] at hv1
    have S1 : Slots Z io H' (wipe σ vl) (wipeE ρ vl) := (slots_wipe (S0.ext xt1) _)
    -- the whole turn gives ys
    cases eF : lc2F fa ft fi1 vs1 fa1 ft1 fe w.still (wipeE ρ vl) w.items[i] L with
    | stuck => simp only [eF] at q; exact q.elim
    | exn d L' => exact absurd eF lc2F_exn
    | ok ys Le =>
      simp only [eF, Res.bind_ok] at q
      have q : Post Z (RVl Z) io0 H1 ((mapR w.still (lc2F fa ft fi1 vs1 fa1 ft1 fe w.still (wipeE ρ vl)) (w.items.drop (i + 1)) Le).bind fun xs L => mkL m ((acc ++ ys) ++ xs) L) Q (fun c d H' => W c d σ H') := by
        cases em : mapR w.still (lc2F fa ft fi1 vs1 fa1 ft1 fe w.still (wipeE ρ vl)) (w.items.drop (i + 1)) Le with
        | ok zs L3 => simp only [em, Res.bind_ok, List.append_assoc] at q ⊢; exact q
        | exn d L3 => simp only [em] at q ⊢; exact q
        | stuck => simp only [em] at q; exact q.elim
      unfold lc2F at eF
      split at eF
      rotate_left
      · cases eF
      rename_i ρ' ea
      have eF := noX_ok' eF
      refine ⟨io, _, L, w.items[i], ρ', R1, S1, r1, ea, fun σ2 S2 b2 => ⟨wipe_but b2 sub, io, ρ', L, R1, S2, ?_⟩⟩
      cases et : ft ρ' L with
      | stuck => simp only [et] at eF; cases eF
      | exn d L' => simp only [et] at eF; cases eF
      | ok b L' =>
        simp only [et, Res.bind_ok] at eF
        intro io2 b2' H2 xt2 R2 eb
        cases eb
        obtain ⟨nD2, hv2⟩ := xt2.frm Da (by rw [hv1]; simp) nD1
        rw [hv1] at hv2
        cases b with
        | false =>
          simp only [Bool.false_eq_true, if_false, Res.ok.injEq] at eF ⊢
          obtain ⟨rfl, rfl⟩ := eF
          exact ⟨io2, L', acc, vs, xt1.trans xt2, R2, hv2, nD2, (rv.ext x1).ext xt2, by simpa using q⟩
        | true =>
          simp only [if_true] at eF ⊢
          refine ⟨io2, ρ', L', R2, S2.ext xt2, ?_⟩
          cases ew : fi1 ρ' L' with
          | stuck => simp only [ew] at eF; cases eF
          | exn d L3 => simp only [ew] at eF; cases eF
          | ok w2 L3 =>
            simp only [ew, Res.bind_ok] at eF
            intro io3 J1 H3 xt3 R3 ok1
            obtain ⟨nD3, hv3⟩ := xt3.frm Da (by rw [hv2]; simp) nD2
            rw [hv2] at hv3
            have xt3' := (xt1.trans xt2).trans xt3
            have S3 := (S2.ext xt2).ext xt3
            refine ⟨fun j kk H => kk = w2.items.length - j ∧ j ≤ w2.items.length ∧ ∃ io L acc vs, Ext io0 H1 io H ∧ Ex0 io3 H3 io H ∧ Rep Z io H L ∧ H Da = some (.lst vs) ∧ Da ∉ io ∧ RVs Z io H acc vs ∧ ∃ ys Le, mapR (w.still ++ w2.still) (lcI fa1 ft1 fe (wipeE ρ' vs1)) (w2.items.drop j) L = .ok ys Le ∧
              Post Z (RVl Z) io0 H1 ((mapR w.still (lc2F fa ft fi1 vs1 fa1 ft1 fe w.still (wipeE ρ vl)) (w.items.drop (i + 1)) Le).bind fun xs L => mkL m ((acc ++ ys) ++ xs) L) Q (fun c d H' => W c d σ H'),
              ⟨w2.items.length, by simp, Nat.zero_le _, io3, L3, acc, vs, xt3', Ex0.refl, R3, hv3, nD3, ((rv.ext x1).ext xt2).ext xt3, ys, Le, by simpa using eF, q⟩, ?_⟩
            rintro j kk G4 ⟨rfl, hj', io4, L4, acc4, vs4, xt4, xt4', R4, hv4, nD4, rv4, ys4, Le4, eM, q4⟩
            by_cases hjt : j < w2.items.length
            · rw [List.drop_eq_getElem_cons hjt] at eM
              simp only [mapR] at eM
              split at eM
              rotate_left
              · cases eM
              rename_i hst4
              obtain ⟨go4, yl4⟩ := (ok1 io4 G4 L4 xt4' R4 (stands_app hst4).2).1 j w2.items[j] (by simp [hjt])
              refine .inr ⟨go4, fun H' => ∃ io L acc vs, Ext io0 H1 io H' ∧ Ex0 io3 H3 io H' ∧ Rep Z io H' L ∧ H' Da = some (.lst vs) ∧ Da ∉ io ∧ RVs Z io H' acc vs ∧ ∃ ys Le, mapR (w.still ++ w2.still) (lcI fa1 ft1 fe (wipeE ρ' vs1)) (w2.items.drop (j + 1)) L = .ok ys Le ∧
                  Post Z (RVl Z) io0 H1 ((mapR w.still (lc2F fa ft fi1 vs1 fa1 ft1 fe w.still (wipeE ρ vl)) (w.items.drop (i + 1)) Le).bind fun xs L => mkL m ((acc ++ ys) ++ xs) L) Q (fun c d H' => W c d σ H'),
                fun H' z => ⟨w2.items.length - (j + 1), by omega, rfl, hjt, z⟩, fun x5 H5 hy5 => ?_⟩
              obtain ⟨x5e, R5, r5⟩ := yl4 x5 H5 hy5
              obtain ⟨nD5, hv5⟩ := x5e.frm Da (by rw [hv4]; simp) nD4
              rw [hv4] at hv5
              have S5 : Slots Z io4 H5 (wipe σ2 vs1) (wipeE ρ' vs1) := slots_wipe ((S3.ext0 xt4').ext x5e) _
              cases eI : lcI fa1 ft1 fe (wipeE ρ' vs1) w2.items[j] L4 with
              | stuck => simp only [eI] at eM; cases eM
              | exn d L6 => simp only [eI] at eM; cases eM
              | ok zs L6 =>
                simp only [eI, Res.bind_ok] at eM
                cases eR : mapR (w.still ++ w2.still) (lcI fa1 ft1 fe (wipeE ρ' vs1)) (w2.items.drop (j + 1)) L6 with
                | stuck => simp only [eR] at eM; cases eM
                | exn d L7 => simp only [eR] at eM; cases eM
                | ok us L7 =>
                  simp only [eR, Res.bind_ok, Res.ok.injEq] at eM
                  obtain ⟨rfl, rfl⟩ := eM
                  unfold lcI at eI
                  split at eI
                  rotate_left
                  · cases eI
                  rename_i ρ5 ea5
                  refine ⟨io4, _, L4, w2.items[j], ρ5, R5, S5, r5, ea5, fun σ6 S6 b6 => ⟨wipe_but b6 sub1, io4, ρ5, L4, R5, S6, ?_⟩⟩
                  cases et5 : ft1 ρ5 L4 with
                  | stuck => simp only [et5] at eI; cases eI
                  | exn d L8 => simp only [et5] at eI; cases eI
                  | ok b5 L8 =>
                    simp only [et5, Res.bind_ok] at eI
                    intro io8 b8 H8 xt8 R8 eb8
                    cases eb8
                    obtain ⟨nD8, hv8⟩ := xt8.frm Da (by rw [hv5]; simp) nD5
                    rw [hv5] at hv8
                    cases b5 with
                    | false =>
                      simp only [Bool.false_eq_true, if_false, Res.ok.injEq] at eI ⊢
                      obtain ⟨rfl, rfl⟩ := eI
                      exact ⟨io8, L8, acc4, vs4, (xt4.trans x5e).trans xt8, (xt4'.trans x5e.w).trans xt8.w, R8, hv8, nD8, (rv4.ext x5e).ext xt8, us, L7, eR, by simpa using q4⟩
                    | true =>
                      simp only [if_true] at eI ⊢
                      refine ⟨io8, ρ5, L8, R8, S6.ext xt8, ?_⟩
                      cases ev : fe ρ5 L8 with
                      | stuck => simp only [ev] at eI; cases eI
                      | exn d L9 => simp only [ev] at eI; cases eI
                      | ok v L9 =>
                        simp only [ev, Res.bind_ok, Res.ok.injEq] at eI
                        obtain ⟨rfl, rfl⟩ := eI
                        intro io9 yv H9 xt9 R9 ry
                        obtain ⟨nD9, hv9⟩ := xt9.frm Da (by rw [hv8]; simp) nD8
                        rw [hv8] at hv9
                        have P : Persist H9 (upd H9 Da (.lst (vs4 ++ [yv]))) := Persist.write (by rw [hv9]; trivial)
                        have z9 := ((xt4.trans x5e).trans xt8).trans xt9
                        have z9' : Ex0 io3 H3 io9 (upd H9 Da (.lst (vs4 ++ [yv]))) := (((xt4'.trans x5e.w).trans xt8.w).trans xt9.w).trans ⟨List.prefix_refl _, P⟩
                        have xD : Ext io0 H1 io9 (upd H9 Da (.lst (vs4 ++ [yv]))) :=
                          ⟨z9.pre, z9.per.trans P, fun b hb nb => ⟨(z9.frm b hb nb).1, by rw [upd_ne fun e => hb (by rw [e]; exact hD)]; exact (z9.frm b hb nb).2⟩⟩
                        have rall : RVs Z io9 H9 (acc4 ++ [v]) (vs4 ++ [yv]) := (((rv4.ext x5e).ext xt8).ext xt9).append (.cons ry .nil)
                        have q9 : Post Z (RVl Z) io0 H1 ((mapR w.still (lc2F fa ft fi1 vs1 fa1 ft1 fe w.still (wipeE ρ vl)) (w.items.drop (i + 1)) L7).bind fun xs L => mkL m (((acc4 ++ [v]) ++ us) ++ xs) L) Q (fun c d H' => W c d σ H') := by simpa using q4
                        refine ⟨vs4, hv9, ?_, io9, L9, acc4 ++ [v], vs4 ++ [yv], xD, z9', R9.other P (fun n a e => upd_ne fun z => nD9 (by rw [← z]; exact List.mem_of_getElem? e)), upd_same, nD9, rall.ext0 ⟨List.prefix_refl _, P⟩, us, L7, eR, q9⟩
                        have hz := outer (more := []) (fun _ _ _ _ => lc2F_exn) q9
                        have h1 := (((rv4.ext x5e).ext xt8).ext xt9).length
                        rw [← h1, ← line_eq]
                        simp only [List.length_append, List.length_cons, List.length_nil] at hz
                        omega
            · have e : j = w2.items.length := by omega
              subst e
              rw [List.drop_length] at eM
              simp only [mapR] at eM
              split at eM
              rotate_left
              · cases eM
              rename_i hst4
              simp only [Res.ok.injEq] at eM
              obtain ⟨rfl, rfl⟩ := eM
              exact .inl ⟨(ok1 io4 G4 L4 xt4' R4 (stands_app hst4).2).2, io4, L4, acc4, vs4, xt4, R4, hv4, nD4, rv4, by simpa using q4⟩
  · have e : i = w.items.length := by omega
    subst e
    rw [List.drop_length] at q
    simp only [mapR] at q
    split at q
    rotate_left
    · exact q.elim
    rename_i hst
    simp only [Res.bind_ok, List.append_nil] at q
    exact .inl ⟨(okJ io G L xt.w R hst).2, fzD q xt hD R hv nD rv⟩
/-- [.. for .. in .. for .. in ..] -/
theorem r_lc2 (hc : X.calm = true) (hN : X.N.Nodup) (hi : RI X Z W tg iter fi) (ok : BlkOk X.N X.env.scope scope own) (hv : ∀ i ∈ vs1, i ∈ own.map (·.2)) (sub : ∀ i ∈ is, i ∈ own.map (·.2)) (sub1 : ∀ i ∈ is1, i ∈ vs1)
    (hg : ∀ (s : Shared) (H : Hp) (C : Addr) (cl : List (Str × Addr)) (fp : List Addr), PG (X.blk s H scope (compEnvC scope cl C X.env) fp) tg (gR Z is fa))
    (ht : ∀ (s : Shared) (H : Hp) (C : Addr) (cl : List (Str × Addr)) (fp : List Addr), PTs (X.blk s H scope (compEnvC scope cl C X.env) fp) ifs (tR Z W0 REq ft))
    (hi1 : ∀ (s : Shared) (H : Hp) (C : Addr) (cl : List (Str × Addr)) (fp : List Addr), RI (X.blk s H scope (compEnvC scope cl C X.env) fp) Z W0 tg1 iter1 fi1)
    (hg1 : ∀ (s : Shared) (H : Hp) (C : Addr) (cl : List (Str × Addr)) (fp : List Addr), PG (X.blk s H scope (compEnvC scope cl C X.env) fp) tg1 (gR Z is1 fa1))
    (ht1 : ∀ (s : Shared) (H : Hp) (C : Addr) (cl : List (Str × Addr)) (fp : List Addr), PTs (X.blk s H scope (compEnvC scope cl C X.env) fp) ifs1 (tR Z W0 REq ft1))
    (he : ∀ (s : Shared) (H : Hp) (C : Addr) (cl : List (Str × Addr)) (fp : List Addr), RE (X.blk s H scope (compEnvC scope cl C X.env) fp) Z W0 elt fe) (hs : ∀ x, foldedSetIterable iter X.env x = pure x) (hs1 : ∀ env x, foldedSetIterable iter1 env x = pure x) :
    RE X Z W (.ListComp elt [⟨tg, iter, ifs, 0⟩, ⟨tg1, iter1, ifs1, 0⟩] scope pos) (fun ρ L => (fi ρ L).bind fun w L => (mapR w.still (lc2F fa ft fi1 vs1 fa1 ft1 fe w.still (wipeE ρ (own.map (·.2)))) w.items L).bind fun xs L => mkL m xs L) :=
  (PE.fz (pe_lc2 hc hN hi ok hv hg ht hi1 hg1 ht1 he hs hs1)).imp fun σ H Q h => lc2_tR sub sub1 h
theorem r_setLc2 (hc : X.calm = true) (hN : X.N.Nodup) (hy : X.N[i]? = some y) (hyl : X.env.scope.names.lookup y = some .local) (hsw : swapsWith (.ListComp elt [⟨tg, iter, ifs, 0⟩, ⟨tg1, iter1, ifs1, 0⟩] scope pos) (some (.Name y py)) spos.line X.env = pure true)
    (hi : RI X Z W tg iter fi) (ok : BlkOk X.N X.env.scope scope own) (hv : ∀ i ∈ vs1, i ∈ own.map (·.2)) (sub : ∀ i ∈ is, i ∈ own.map (·.2)) (sub1 : ∀ i ∈ is1, i ∈ vs1)
    (hg : ∀ (s : Shared) (H : Hp) (C : Addr) (cl : List (Str × Addr)) (fp : List Addr), PG (X.blk s H scope (compEnvC scope cl C X.env) fp) tg (gR Z is fa))
    (ht : ∀ (s : Shared) (H : Hp) (C : Addr) (cl : List (Str × Addr)) (fp : List Addr), PTs (X.blk s H scope (compEnvC scope cl C X.env) fp) ifs (tR Z W0 REq ft))
    (hi1 : ∀ (s : Shared) (H : Hp) (C : Addr) (cl : List (Str × Addr)) (fp : List Addr), RI (X.blk s H scope (compEnvC scope cl C X.env) fp) Z W0 tg1 iter1 fi1)
    (hg1 : ∀ (s : Shared) (H : Hp) (C : Addr) (cl : List (Str × Addr)) (fp : List Addr), PG (X.blk s H scope (compEnvC scope cl C X.env) fp) tg1 (gR Z is1 fa1))
    (ht1 : ∀ (s : Shared) (H : Hp) (C : Addr) (cl : List (Str × Addr)) (fp : List Addr), PTs (X.blk s H scope (compEnvC scope cl C X.env) fp) ifs1 (tR Z W0 REq ft1))
    (he : ∀ (s : Shared) (H : Hp) (C : Addr) (cl : List (Str × Addr)) (fp : List Addr), RE (X.blk s H scope (compEnvC scope cl C X.env) fp) Z W0 elt fe) (hs : ∀ x, foldedSetIterable iter X.env x = pure x) (hs1 : ∀ env x, foldedSetIterable iter1 env x = pure x) :
    RS X Z W (.Assign [.Name y py] (.ListComp elt [⟨tg, iter, ifs, 0⟩, ⟨tg1, iter1, ifs1, 0⟩] scope pos) spos) (fun ρ L => ((fi ρ L).bind fun w L => (mapR w.still (lc2F fa ft fi1 vs1 fa1 ft1 fe w.still (wipeE ρ (own.map (·.2)))) w.items L).bind fun xs L => mkL m xs L).fl ρ fun v L => .next (ρ.set i (some v)) L) := by
  refine (PS.fz (ps_setLc2 hc hN hy hyl hsw hi ok hv hg ht hi1 hg1 ht1 he hs hs1)).imp fun D σ H h => ?_
  have h2 := tRS_e (rel := RVl Z) (g := fun ρ v L => .next (ρ.set i (some v)) L) h
  have h3 : tR Z W (RVl Z) (fun ρ L => (fi ρ L).bind fun w L => (mapR w.still (lc2F fa ft fi1 vs1 fa1 ft1 fe w.still (wipeE ρ (own.map (·.2)))) w.items L).bind fun xs L => mkL m xs L) σ H fun x H1 => D.nx (σ.set i (some x)) H1 :=
    tR_imp h2 fun x H1 ⟨io, ρ, v, L, R, S, r, p⟩ => p io _ H1 .refl R (S.set i r)
  have h4 := lc2_tR sub sub1 h3
  show tLc2 _ _ _ _ _ _ _ _ _ σ H fun x H1 => Fz (fun (_ : Unit) G => D.nx (σ.set i (some x)) G) () H1
  obtain ⟨io, ρ, L, R, S, p⟩ := h4
  refine ⟨io, ρ, L, R, S, p.imp (fun J H1 q Dp hD => ?_) fun _ _ _ z => z⟩
  obtain ⟨Wd, w0, step⟩ := q Dp hD
  refine ⟨Wd, w0, fun k mm G w => ?_⟩
  rcases step k mm G w with ⟨a, b⟩ | b
  · exact .inl ⟨a, b.map fun _ q => q⟩
  · exact .inr b
end
end L3
end
section
set_option Elab.async false
set_option linter.all false
set_option maxRecDepth 100000
set_option maxHeartbeats 4000000
/-! MA: dict comprehensions whose keys are of any kind. -/
namespace L3
open PySem PySem.Spec PyProof.Rows L2
/-- a pair is put into the dict at Dd -/
def PutAt (Z : Lk) (Dd : Addr) (y z : V) (H : Hp) (next : Hp → Prop) : Prop := ∃ (io : List Addr) (es : List DictEntry) (ks : List D) (vs : List VL) (k : D) (v : VL), H Dd = some (dx Dd es) ∧ GK ks ∧ RKeys Z H ks es ∧ RVals Z io H vs es ∧ keysOk ks k = true ∧ RD Z H k y ∧ RVl Z io H v z ∧ ks.length < sizeLine ∧
  ∀ es', RKeys Z H (dput ks vs k v).1 es' → RVals Z io H (dput ks vs k v).2 es' → next (upd H Dd (dx Dd es'))
def tDcX (Z : Lk) (wi : TI) (g : TG) (tt : TT) (tk tv : TE) (vl : List Nat) : TE := fun σ H Q => wi σ H fun J H1 => ∀ Dd, H1 Dd = none → ∃ Wt : Nat → Nat → Hp → Prop, (∃ m, Wt 0 m (upd H1 Dd (dx Dd []))) ∧ ∀ i m H, Wt i m H →
  (J.stop i H ∧ Q (.ref Dd) H) ∨ (J.go i H ∧ ∃ Nx : Hp → Prop, (∀ H', Nx H' → ∃ m', m' < m ∧ Wt (i + 1) m' H') ∧ ∀ x H', J.yld i H x H' → g x (wipe σ vl) H' fun σ2 H2 => wipe σ2 vl = wipe σ vl ∧ tt σ2 H2 fun b H3 =>
    if b = true then tk σ2 H3 fun y H4 => tv σ2 H4 fun z H5 => PutAt Z Dd y z H5 Nx else Nx H3)
section
variable {X : Cx} {Z : Lk}
theorem dcX_core {pins : List (Addr × Obj)} {sh : Shared} {σ : Sg} {H : Hp} {Q : VK} {ke ve tgt itr : Expr} {conds : List Expr} {sc : Scope} {own : List (Str × Nat)} {p0 p1 : Pos} {wi : TI} {g : TG} {tt : TT} {tk tv : TE} {use : Option (Value → Sem Unit)} {Qf : Value → Shared → Prop}
    (hK : X.K = Z.K) (hw : X.w = Z.w) (hu : X.A.units + 66 < cLine) (calm : X.calm = true) (nodup : X.N.Nodup) (I : Inv X pins σ H sh) (hi : PI X tgt itr wi) (ok : BlkOk X.N X.env.scope sc own)
    (hg : ∀ (s1 : Shared) (G : Hp) (C : Addr) (cl : List (Str × Addr)) (ff : List Addr), PG (X.blk s1 G sc (compEnvC sc cl C X.env) ff) tgt g)
    (ht : ∀ (s1 : Shared) (G : Hp) (C : Addr) (cl : List (Str × Addr)) (ff : List Addr), PTs (X.blk s1 G sc (compEnvC sc cl C X.env) ff) conds tt)
    (hk : ∀ (s1 : Shared) (G : Hp) (C : Addr) (cl : List (Str × Addr)) (ff : List Addr), PE (X.blk s1 G sc (compEnvC sc cl C X.env) ff) ke tk)
    (hv : ∀ (s1 : Shared) (G : Hp) (C : Addr) (cl : List (Str × Addr)) (ff : List Addr), PE (X.blk s1 G sc (compEnvC sc cl C X.env) ff) ve tv) (fold : ∀ x, foldedSetIterable itr X.env x = pure x)
    (h : tDcX Z wi g tt tk tv (own.map (·.2)) σ H Q)
    (back : ∀ Dd C s' m H', Inv X pins σ H' s' → Q (.ref Dd) H' → s'.heap.Ns C m → FpOk X pins H' C → compPost (model X.prog X.w) X.A X.xe use Qf (.ref Dd) C (.ok .next) s') :
    wpAny (model X.prog X.w) X.A (comprehension (.DictComp ke ve [⟨tgt, itr, conds, 0⟩] sc p0) sc X.env p1 newDict false (eval itr X.env) use) Qf X.xe sh := by
  have captured : ∀ y ∈ sc.names, y.2 = .free → ∃ c, X.env.cells.lookup y.1 = some c := fun y hy e => (ok.free y hy e).elim (fun k => I.ok.has _ (.inl k)) fun k => I.ok.has _ (.inr k)
  refine wpAny_comprehension_free (use := use) rfl fold (closure_ok captured) ok.kind (fun y hy e => by rw [ok.uniq y hy, e]) (thn (hi.run pins sh σ H _ I h) fun xv sx hx => thn hx fun itv st hit => ?_)
  obtain ⟨it, ff, tn, J, G0, rfl, I0, T, tn0, fp0, todo⟩ := hit
  refine wpAny_newObj_type (newEnv_comp ?_)
  have fresh0 : G0 st.heap.objs.size = none := I0.hok.fresh (Nat.le_refl _)
  obtain ⟨Wt, ⟨m0, wt0⟩, step⟩ := todo st.heap.objs.size fresh0
  have I1 : Inv X pins σ (upd G0 st.heap.objs.size (dx st.heap.objs.size [])) { st with heap := st.heap.push { cls := .type "dict", data := .dict #[] } } :=
    I0.laid (t' := st.toks) (fun b o e => Heap.get?_push_of_some _ e) (Nat.le_refl _) (dx_empty st.heap I0.big)
  have below : ∀ b ∈ ff, b < st.heap.objs.size := fun b hb => let ⟨_, e, _⟩ := T.obj _ _ tn0 b hb; Heap.lt_size e
  have sz1 : (st.heap.push { cls := .type "dict", data := .dict #[] }).objs.size = st.heap.objs.size + 1 := Heap.size_push ..
  have fp1 : ∀ b ∈ ff, FpOk X pins (upd G0 st.heap.objs.size (dx st.heap.objs.size [])) b ∧ b < (st.heap.push { cls := .type "dict", data := .dict #[] }).objs.size := fun b hb =>
    ⟨⟨by rw [upd_ne (Nat.ne_of_lt (below b hb))]; exact (fp0 b hb).1, (fp0 b hb).2⟩, by rw [sz1]; exact Nat.lt_succ_of_lt (below b hb)⟩
  have tn1 : tn 0 (st.heap.push { cls := .type "dict", data := .dict #[] }) := T.keep _ _ _ tn0 fun b _ o e => Heap.get?_push_of_some _ e
  generalize st.heap.objs.size = Dd at I1 fp1 wt0 step ⊢
  generalize hsD : ({ st with heap := st.heap.push { cls := .type "dict", data := .dict #[] } } : Shared) = sD at I1
  have hsDh : st.heap.push { cls := .type "dict", data := .dict #[] } = sD.heap := by rw [← hsD]
  rw [hsDh] at fp1 tn1
  generalize upd G0 Dd (dx Dd []) = GD at I1 fp1 wt0
  have I2 := block_start I1 ok nodup fp1
  have pg := hg sD GD sD.heap.objs.size (cellsFrom (sD.heap.objs.size + 1) sc.names (cloFrom X.env.cells sc.names [])) ff
  have pt := ht sD GD sD.heap.objs.size (cellsFrom (sD.heap.objs.size + 1) sc.names (cloFrom X.env.cells sc.names [])) ff
  have pk := hk sD GD sD.heap.objs.size (cellsFrom (sD.heap.objs.size + 1) sc.names (cloFrom X.env.cells sc.names [])) ff
  have pv := hv sD GD sD.heap.objs.size (cellsFrom (sD.heap.objs.size + 1) sc.names (cloFrom X.env.cells sc.names [])) ff
  have hidden : ∀ b ∈ ff, GD b = none := fun b hb => (fp1 b hb).1.1
  show codeAny (model X.prog X.w) X.A (.compStart (.DictComp ke ve [⟨tgt, itr, conds, 0⟩] sc p0) 0 (.ref it) (.ref Dd) (compEnvC sc (cellsFrom (sD.heap.objs.size + 1) sc.names (cloFrom X.env.cells sc.names [])) sD.heap.objs.size X.env)) (compPost (model X.prog X.w) X.A X.xe use Qf (.ref Dd) sD.heap.objs.size) { sD with heap := pushCells (sD.heap.push { cls := .type "dict", data := .dict #[] }) sc.names }
  generalize hce : compEnvC sc (cellsFrom (sD.heap.objs.size + 1) sc.names (cloFrom X.env.cells sc.names [])) sD.heap.objs.size X.env = ce at I2 pg pt pk pv ⊢
  have ceLoc : ce.locals = sD.heap.objs.size := by rw [← hce]; rfl
  have tn2 : tn 0 (pushCells (sD.heap.push { cls := .type "dict", data := .dict #[] }) sc.names) := T.keep _ _ _ tn1 fun b _ o e => pushCells_keeps _ _ _ _ (Heap.get?_push_of_some _ e)
  generalize hsB : ({ sD with heap := pushCells (sD.heap.push { cls := .type "dict", data := .dict #[] }) sc.names } : Shared) = sB at I2 ⊢
  have tn2 : tn 0 sB.heap := by rw [← hsB]; exact tn2
  -- the block's own context
  generalize hB : X.blk sD GD sc ce ff = B at I2 pg pt pk pv
  have bP : B.prog = X.prog := by rw [← hB]
  have bw : B.w = X.w := by rw [← hB]
  have bA : B.A = X.A := by rw [← hB]
  have bK : B.K = X.K := by rw [← hB]
  have bc : B.calm = true := by rw [← hB]; exact calm
  have bpn : B.pn = [] := by rw [← hB]
  have bex : B.ex = ff := by rw [← hB]
  have bxe : B.xe = fun _ _ => False := by rw [← hB]
  have free : ∀ {τ : Sg} {G : Hp} {s' : Shared}, Inv B [] τ G s' → (∀ b ∈ ff, G b = none) → ∀ b ∈ ff, FpOk B [] G b := fun {τ G s'} J hn b hb =>
    ⟨hn b hb, (J.ok.exf b (by rw [bex]; exact hb)).1, J.ok.exfs b (by rw [bex]; exact hb), .inl (by rw [bex]; exact hb), fun x c e => (J.ok.exf b (by rw [bex]; exact hb)).2 x c e, fun p hp => by rw [bpn] at hp; exact absurd hp (by simp)⟩
  have whole : codeAny (model X.prog X.w) X.A (.compLoop (.DictComp ke ve [⟨tgt, itr, conds, 0⟩] sc p0) 0 (.ref it) (.ref Dd) ce) (compPost (model X.prog X.w) X.A X.xe use Qf (.ref Dd) sD.heap.objs.size) sB := by
    refine compLoop_anyD (fun n s' => ∃ i G, Inv B [] (wipe σ (own.map (·.2))) G s' ∧ tn i s'.heap ∧ (∀ b ∈ ff, G b = none) ∧ Wt i n G) ?_ m0 ⟨0, GD, I2, tn2, hidden, wt0⟩
    rintro n s1 ⟨i, G1, J1, t1, n1, w1⟩
    rcases step i n G1 w1 with ⟨stop, fin⟩ | ⟨go, Nx, down, turn⟩
    · have over := T.done B bP bw bK bc i [] s1 _ G1 (fun _ _ => False) J1 (free J1 n1) t1 stop
      rw [bA] at over
      refine thnF over fun r s2 ⟨hr, J2⟩ => ?_
      subst hr
      have outside : Inv X pins σ G1 s2 := I1.call' (ch := ff) (by rw [← hB] at J2; exact J2.os) (by rw [← hB] at J2; exact J2.base) (by rw [← hB] at J2; exact J2.hok) (by rw [← hB] at J2; exact J2.bare) fun b hb =>
        let q := (fp1 b hb).1; ⟨q.2.2.2.1, q.2.1, q.2.2.2.2.1, q.2.2.2.2.2⟩
      have hloc : B.env.locals = sD.heap.objs.size := by rw [← hB]; exact ceLoc
      have none1 : G1 sD.heap.objs.size = none := by have z := J2.free; rw [hloc] at z; exact z
      obtain ⟨m, hm, _⟩ := J2.loc
      rw [hloc] at hm
      exact back Dd _ s2 m G1 outside fin hm (I1.fpOk (Nat.le_refl _) none1)
    · have more := T.item B bP bw bK bc i [] s1 _ G1 (fun _ _ => False) J1 (free J1 n1) t1 go
      rw [bA] at more
      refine thnF more fun r s2 ⟨u, hr, let2⟩ => ?_
      subst hr
      refine thnF let2 fun _ s3 ⟨x, G3, J3, r3, y3, t3, n3⟩ => ?_
      have J3 := J3.pinned (free J3 n3) (T.obj _ _ t3)
      have Eg := pg.run _ s3 _ G3 x u _ J3 r3 (turn x G3 y3)
      rw [bP, bw, bA, bxe, show B.env = ce by rw [← hB]] at Eg
      refine thnF Eg fun _ s4 ⟨σ4, G4, J4, hw4, q4⟩ => ?_
      have Et := pt.run _ s4 σ4 G4 _ J4 q4
      rw [bP, bw, bA, bxe, show B.env = ce by rw [← hB]] at Et
      refine thnF Et fun b s5 ⟨G5, J5, q5⟩ => ?_
      have again : ∀ {s' : Shared} {G : Hp}, Inv B ([] ++ pinsAt ff s3.heap) σ4 G s' → Nx G → ∃ m, m < n ∧ ∃ i G, Inv B [] (wipe σ (own.map (·.2))) G s' ∧ tn i s'.heap ∧ (∀ b ∈ ff, G b = none) ∧ Wt i m G := fun {s' G} K nx => by
        obtain ⟨m', less, w'⟩ := down G nx
        have pin' : ∀ b ∈ ff, ∀ o, s3.heap.get? b = some o → s'.heap.get? b = some o ∧ G b = none := fun b hb o e =>
          let z := K.pin (b, o) (List.mem_append_right _ (List.mem_append_right _ (mem_pinsAt hb e)))
          ⟨z.1, z.2.1⟩
        refine ⟨m', less, i + 1, G, (K.unpinned (pins := [])).weak (by rw [← hw4, wipe_length]) (fun j v e => (wipe_some (by rw [hw4]; exact e)).1), T.keep _ _ _ t3 fun b hb o e => (pin' b hb o e).1, fun b hb => ?_, w'⟩
        obtain ⟨o, e, _⟩ := T.obj _ _ t3 b hb
        exact (pin' b hb o e).2
      cases b with
      | false => exact again J5 q5
      | true =>
        have Ek := pk.run _ s5 σ4 G5 _ J5 q5
        rw [bP, bw, bA, bxe, show B.env = ce by rw [← hB]] at Ek
        refine thnF Ek fun kv s6 ⟨yk, G6, J6, r6, q6⟩ => ?_
        have Ev := pv.run _ s6 σ4 G6 _ J6 q6
        rw [bP, bw, bA, bxe, show B.env = ce by rw [← hB]] at Ev
        refine thnF Ev fun vv s7 ⟨yv, G7, J7, r7, io, es, ks, vs, k, v, e1, e2, e3, e4, e5, e6, e7, e8, nx⟩ => ?_
        have put := dict_setG (Z := Z) (io := io) (X := B) (E' := (notedBy (model X.prog X.w) X.A ce fun e s' => compPost (model X.prog X.w) X.A X.xe use Qf (.ref Dd) sD.heap.objs.size (.error e) s')) (R := fun _ s8 => ∃ m, m < n ∧ ∃ i G, Inv B [] (wipe σ (own.map (·.2))) G s8 ∧ tn i s8.heap ∧ (∀ b ∈ ff, G b = none) ∧ Wt i m G) false J7 (by rw [bK]; exact hK) (by rw [bw]; exact hw) (by rw [bA]; exact hu) e1 e2 e3 e4 e5 e6 r6 e7 r7 e8 fun es' h' t' J8 k1 k2 => again J8 (nx es' k1 k2)
        rw [bP, bw, bA] at put
        exact put
  exact codeAny_compStart_dict whole (T.self X.A 0 _ _ _ tn2 whole)
/-- {k: v for .. in ..}, as a value -/
theorem pe_dcX {ke ve tgt itr : Expr} {conds : List Expr} {sc : Scope} {own : List (Str × Nat)} {p0 : Pos} {wi : TI} {g : TG} {tt : TT} {tk tv : TE} (hK : X.K = Z.K) (hw : X.w = Z.w) (hu : X.A.units + 66 < cLine) (calm : X.calm = true) (nodup : X.N.Nodup) (hi : PI X tgt itr wi) (ok : BlkOk X.N X.env.scope sc own)
    (hg : ∀ (s1 : Shared) (G : Hp) (C : Addr) (cl : List (Str × Addr)) (ff : List Addr), PG (X.blk s1 G sc (compEnvC sc cl C X.env) ff) tgt g)
    (ht : ∀ (s1 : Shared) (G : Hp) (C : Addr) (cl : List (Str × Addr)) (ff : List Addr), PTs (X.blk s1 G sc (compEnvC sc cl C X.env) ff) conds tt)
    (hk : ∀ (s1 : Shared) (G : Hp) (C : Addr) (cl : List (Str × Addr)) (ff : List Addr), PE (X.blk s1 G sc (compEnvC sc cl C X.env) ff) ke tk)
    (hv : ∀ (s1 : Shared) (G : Hp) (C : Addr) (cl : List (Str × Addr)) (ff : List Addr), PE (X.blk s1 G sc (compEnvC sc cl C X.env) ff) ve tv) (fold : ∀ x, foldedSetIterable itr X.env x = pure x) :
    PE X (.DictComp ke ve [⟨tgt, itr, conds, 0⟩] sc p0) (tDcX Z wi g tt tk tv (own.map (·.2))) := by
  refine ⟨fun pins s σ H Q I q => ?_⟩
  rw [arm_eval_DictComp]
  refine dcX_core hK hw hu calm nodup I hi ok hg ht hk hv fold q fun Dd C s' m G J fin ns ff => ⟨m, ns, fun h'' sb => ?_⟩
  obtain ⟨_, f1, f2, f3, f4, f5⟩ := ff
  exact ⟨.ref Dd, G, J.turned (t' := s'.toks) (fun b o hb e => (sb.2 b hb).trans e) (by assumption) f1 f3 f4 f5, rfl, fin⟩
end
end L3
end
section
set_option Elab.async false
set_option linter.all false
set_option maxRecDepth 100000
set_option maxHeartbeats 4000000
/-! MB: dict comprehensions read. -/
namespace L3
open PySem PySem.Spec PyProof.Rows L2
theorem dpairs_app : ∀ (xs ys : List VL) (a : List D) (b : List VL) {c : List D} {d : List VL}, dpairs xs a b = some (c, d) → dpairs (xs ++ ys) a b = dpairs ys c d
  | [], ys, a, b, c, d, e => by simp only [dpairs, Option.some.injEq, Prod.mk.injEq] at e; obtain ⟨rfl, rfl⟩ := e; rfl
  | [x], ys, a, b, c, d, e => by cases x <;> simp [dpairs] at e
  | x :: v :: xs, ys, a, b, c, d, e => by
    cases x with
    | r _ => simp [dpairs] at e
    | d k =>
      simp only [dpairs] at e
      split at e
      · rename_i ok
        simp only [List.cons_append, dpairs, ok, if_true]
        exact dpairs_app xs ys _ _ e
      · cases e
def dcF (fa : LH → VL → Env → Option Env) (ft : Env → LH → Res Bool) (fk fv : Env → LH → Res VL) (ρ : Env) (x : VL) (L : LH) : Res (List VL) := match fa L x ρ with
  | some ρ' => ((ft ρ' L).bind fun b L => if b then (fk ρ' L).bind fun k L => (fv ρ' L).bind fun v L => .ok [k, v] L else .ok [] L).noX
  | none => .stuck
section
variable {X : Cx} {Z : Lk} {W : WX} {tg iter ke ve : Expr} {ifs : List Expr} {scope : Scope} {own : List (Str × Nat)} {pos : Pos} {is : List Nat} {m : Bool} {fi : Env → LH → Res Walked} {fa : LH → VL → Env → Option Env} {ft : Env → LH → Res Bool} {fk fv : Env → LH → Res VL}
theorem dcF_exn {ρ : Env} {x : VL} {L L' : LH} {e : D} : dcF fa ft fk fv ρ x L ≠ .exn e L' := by
  unfold dcF
  split
  · exact noX_exn
  · exact fun h => nomatch h
theorem dc_tR {vl : List Nat} {σ : Sg} {H : Hp} {Q : VK} (sub : ∀ i ∈ is, i ∈ vl) (h : tR Z W (RVl Z) (fun ρ L => (fi ρ L).bind fun w L => (mapR w.still (dcF fa ft fk fv (wipeE ρ vl)) w.items L).bind fun xs L => mkD m xs L) σ H Q) :
    tDcX Z (tR Z W (ItOk Z) fi) (gR Z is fa) (tR Z W0 REq ft) (tR Z W0 (RVl Z) fk) (tR Z W0 (RVl Z) fv) vl σ H (Fz Q) := by
  refine tR_imp (tR_bind (rel := ItOk Z) h) fun J H1 ⟨io0, ρ, w, L0, Rp0, S0, okJ, p⟩ => fun Dd hD => ?_
  refine ⟨fun i mm H => mm = w.items.length - i ∧ i ≤ w.items.length ∧ ∃ io L acc ks vs es, Ext io0 H1 io H ∧ Rep Z io H L ∧ H Dd = some (dx Dd es) ∧ Dd ∉ io ∧ GK ks ∧ RKeys Z H ks es ∧ RVals Z io H vs es ∧ dpairs acc [] [] = some (ks, vs) ∧ ks.length ≤ acc.length ∧
    Post Z (RVl Z) io0 H1 ((mapR w.still (dcF fa ft fk fv (wipeE ρ vl)) (w.items.drop i) L).bind fun xs L => mkD m (acc ++ xs) L) Q (fun c d H' => W c d σ H'),
    ⟨w.items.length, by simp, Nat.zero_le _, io0, L0, [], [], [], [], Ext.new hD, Rp0.new hD, upd_same, fun hm => ?_, GK.nil, .nil, .nil, rfl, Nat.le_refl _, by simpa using p⟩, ?_⟩
  · obtain ⟨n, hn, e⟩ := List.mem_iff_getElem.mp hm
    exact Rp0.ne_none (n := n) (a := Dd) (by simp [hn, e]) hD
  rintro i mm G ⟨rfl, hi', io, L, acc, ks, vs, es, xt, R, hv, nD, gk, rk, rv, ed, hkl, q⟩
  by_cases hlt : i < w.items.length
  · rw [List.drop_eq_getElem_cons hlt] at q
    simp only [mapR] at q
    split at q
    rotate_left
    · exact q.elim
    rename_i hst
    obtain ⟨go, yl⟩ := (okJ io G L xt.w R hst).1 i w.items[i] (by simp [hlt])
    refine .inr ⟨go, fun H' => ∃ io L acc ks vs es, Ext io0 H1 io H' ∧ Rep Z io H' L ∧ H' Dd = some (dx Dd es) ∧ Dd ∉ io ∧ GK ks ∧ RKeys Z H' ks es ∧ RVals Z io H' vs es ∧ dpairs acc [] [] = some (ks, vs) ∧ ks.length ≤ acc.length ∧ Post Z (RVl Z) io0 H1 ((mapR w.still (dcF fa ft fk fv (wipeE ρ vl)) (w.items.drop (i + 1)) L).bind fun xs L => mkD m (acc ++ xs) L) Q (fun c d H' => W c d σ H'),
      fun H' z => ⟨w.items.length - (i + 1), by omega, rfl, hlt, z⟩, fun x H' hy => ?_⟩
    obtain ⟨x1, R1, r1⟩ := yl x H' hy
    have xt1 := xt.trans x1
    obtain ⟨nD1, hv1⟩ := x1.frm Dd (by rw [hv]; simp) nD
    rw [hv] at hv1
    have S1 : Slots Z io H' (wipe σ vl) (wipeE ρ vl) := (slots_wipe (S0.ext xt1) _)
    cases eF : dcF fa ft fk fv (wipeE ρ vl) w.items[i] L with
    | stuck => simp only [eF] at q; exact q.elim
    | exn d L' => exact absurd eF dcF_exn
    | ok ys Le =>
      simp only [eF, Res.bind_ok] at q
      have q : Post Z (RVl Z) io0 H1 ((mapR w.still (dcF fa ft fk fv (wipeE ρ vl)) (w.items.drop (i + 1)) Le).bind fun xs L => mkD m ((acc ++ ys) ++ xs) L) Q (fun c d H' => W c d σ H') := by
        cases em : mapR w.still (dcF fa ft fk fv (wipeE ρ vl)) (w.items.drop (i + 1)) Le with
        | ok zs L3 => simp only [em, Res.bind_ok, List.append_assoc] at q ⊢; exact q
        | exn d L3 => simp only [em] at q ⊢; exact q
        | stuck => simp only [em] at q; exact q.elim
      unfold dcF at eF
      split at eF
      rotate_left
      · cases eF
      rename_i ρ' ea
      have eF := noX_ok' eF
      refine ⟨io, _, L, w.items[i], ρ', R1, S1, r1, ea, fun σ2 S2 b2 => ⟨wipe_but b2 sub, io, ρ', L, R1, S2, ?_⟩⟩
      cases et : ft ρ' L with
      | stuck => simp only [et] at eF; cases eF
      | exn d L' => simp only [et] at eF; cases eF
      | ok b L' =>
        simp only [et, Res.bind_ok] at eF
        intro io2 b2' H2 xt2 R2 eb
        cases eb
        obtain ⟨nD2, hv2⟩ := xt2.frm Dd (by rw [hv1]; simp) nD1
        rw [hv1] at hv2
        have rk2 := (rk.ext x1.per).ext xt2.per
        have rv2 := (rv.ext x1).ext xt2
        cases b with
        | false =>
          simp only [Bool.false_eq_true, if_false, Res.ok.injEq] at eF ⊢
          obtain ⟨rfl, rfl⟩ := eF
          exact ⟨io2, L', acc, ks, vs, es, xt1.trans xt2, R2, hv2, nD2, gk, rk2, rv2, ed, hkl, by simpa using q⟩
        | true =>
          simp only [if_true] at eF ⊢
          refine ⟨io2, ρ', L', R2, S2.ext xt2, ?_⟩
          cases ek : fk ρ' L' with
          | stuck => simp only [ek] at eF; cases eF
          | exn d L3 => simp only [ek] at eF; cases eF
          | ok kv L3 =>
            simp only [ek, Res.bind_ok] at eF
            intro io3 yk H3 xt3 R3 ryk
            obtain ⟨nD3, hv3⟩ := xt3.frm Dd (by rw [hv2]; simp) nD2
            rw [hv2] at hv3
            refine ⟨io3, ρ', L3, R3, (S2.ext xt2).ext xt3, ?_⟩
            cases ev : fv ρ' L3 with
            | stuck => simp only [ev] at eF; cases eF
            | exn d L4 => simp only [ev] at eF; cases eF
            | ok vv L4 =>
              simp only [ev, Res.bind_ok, Res.ok.injEq] at eF
              obtain ⟨rfl, rfl⟩ := eF
              intro io4 yv H4 xt4 R4 ryv
              obtain ⟨nD4, hv4⟩ := xt4.frm Dd (by rw [hv3]; simp) nD3
              rw [hv3] at hv4
              have ryk4 := ryk.ext xt4
              have rk4 := (rk2.ext xt3.per).ext xt4.per
              have rv4 := (rv2.ext xt3).ext xt4
              -- the whole list of pairs is one of a dict
              have fine : ∃ kd, kv = .d kd ∧ keysOk ks kd = true ∧ (acc ++ [kv, vv]).length ≤ lim := by
                cases em : mapR w.still (dcF fa ft fk fv (wipeE ρ vl)) (w.items.drop (i + 1)) L4 with
                | stuck => simp only [em] at q; exact q.elim
                | exn d L5 => exact absurd em (mapR_exn (fun _ _ _ _ => dcF_exn) _ _ _ _)
                | ok zs L5 =>
                  simp only [em, Res.bind_ok] at q
                  unfold mkD at q
                  split at q
                  rotate_left
                  · exact q.elim
                  rename_i hlen
                  split at q
                  rotate_left
                  · exact q.elim
                  rename_i pr epr
                  rw [List.append_assoc, dpairs_app acc _ _ _ ed] at epr
                  cases kv with
                  | r _ => simp [dpairs] at epr
                  | d kd =>
                    simp only [List.cons_append, List.nil_append, dpairs] at epr
                    split at epr
                    · rename_i ok
                      exact ⟨kd, rfl, ok, by simp only [List.length_append, List.length_cons, List.length_nil] at hlen ⊢; omega⟩
                    · cases epr
              obtain ⟨kd, rfl, ok, hlen⟩ := fine
              cases ryk4 with
              | d ryk4 =>
                have hkv : ks.length = vs.length := by have := rkeys_len rk; have := rvals_len rv; omega
                simp only [List.length_append, List.length_cons, List.length_nil] at hlen
                refine ⟨io4, es, ks, vs, kd, vv, hv4, gk, rk4, rv4, ok, ryk4, ryv, by rw [← line_eq]; omega, fun es' k1 k2 => ?_⟩
                have P : Persist H4 (upd H4 Dd (dx Dd es')) := Persist.write (by rw [hv4]; trivial)
                have z := ((xt1.trans xt2).trans xt3).trans xt4
                have xD : Ext io0 H1 io4 (upd H4 Dd (dx Dd es')) := ⟨z.pre, z.per.trans P, fun b hb nb => ⟨(z.frm b hb nb).1, by rw [upd_ne fun e => hb (by rw [e]; exact hD)]; exact (z.frm b hb nb).2⟩⟩
                refine ⟨io4, L4, acc ++ [.d kd, vv], _, _, es', xD, R4.other P (fun n a e => upd_ne fun z => nD4 (by rw [← z]; exact List.mem_of_getElem? e)), upd_same, nD4, gk.put ok hkv, k1.ext P, k2.ext0 ⟨List.prefix_refl _, P⟩, ?_, ?_, q⟩
                · rw [dpairs_app acc _ _ _ ed]
                  simp only [dpairs, ok, if_true]
                · have h1 : (dput ks vs kd vv).1.length ≤ ks.length + 1 := by
                    by_cases hm : kd ∈ ks
                    · rw [dput_old ks vs kd vv hkv hm]; omega
                    · rw [dput_new ks vs kd vv hkv hm]; simp
                  simp only [List.length_append, List.length_cons, List.length_nil]
                  omega
  · have e : i = w.items.length := by omega
    subst e
    rw [List.drop_length] at q
    simp only [mapR] at q
    split at q
    rotate_left
    · exact q.elim
    rename_i hst
    simp only [Res.bind_ok, List.append_nil] at q
    unfold mkD at q
    split at q
    rotate_left
    · exact q.elim
    rw [ed] at q
    exact .inl ⟨(okJ io G L xt.w R hst).2, fzK q xt hD R hv nD gk rk rv⟩
theorem r_dc (hK : X.K = Z.K) (hw : X.w = Z.w) (hu : X.A.units + 66 < cLine) (hc : X.calm = true) (hN : X.N.Nodup) (hi : RI X Z W tg iter fi) (ok : BlkOk X.N X.env.scope scope own) (sub : ∀ i ∈ is, i ∈ own.map (·.2))
    (hg : ∀ (s : Shared) (H : Hp) (C : Addr) (cl : List (Str × Addr)) (fp : List Addr), PG (X.blk s H scope (compEnvC scope cl C X.env) fp) tg (gR Z is fa))
    (ht : ∀ (s : Shared) (H : Hp) (C : Addr) (cl : List (Str × Addr)) (fp : List Addr), PTs (X.blk s H scope (compEnvC scope cl C X.env) fp) ifs (tR Z W0 REq ft))
    (hk : ∀ (s : Shared) (H : Hp) (C : Addr) (cl : List (Str × Addr)) (fp : List Addr), RE (X.blk s H scope (compEnvC scope cl C X.env) fp) Z W0 ke fk)
    (hv : ∀ (s : Shared) (H : Hp) (C : Addr) (cl : List (Str × Addr)) (fp : List Addr), RE (X.blk s H scope (compEnvC scope cl C X.env) fp) Z W0 ve fv) (hs : ∀ x, foldedSetIterable iter X.env x = pure x) :
    RE X Z W (.DictComp ke ve [⟨tg, iter, ifs, 0⟩] scope pos) (fun ρ L => (fi ρ L).bind fun w L => (mapR w.still (dcF fa ft fk fv (wipeE ρ (own.map (·.2)))) w.items L).bind fun xs L => mkD m xs L) :=
  (PE.fz (pe_dcX hK hw hu hc hN hi ok hg ht hk hv hs)).imp fun σ H Q h => dc_tR sub h
end
end L3
end
section
set_option Elab.async false
set_option linter.all false
set_option maxRecDepth 100000
set_option maxHeartbeats 4000000
/-! MC: from a def's body to its promise; instances that may be frozen. -/
namespace L3
open PySem PySem.Spec PyProof.Rows L2
section
variable {Z : Lk} {io io' : List Addr} {H H' : Hp} {L L' : LH}
theorem RVl.cut (x : io <+: io') {v : VL} {y : V} (hb : v.below io.length = true) (h : RVl Z io' H v y) : RVl Z io H' v y ∨ ∃ d, v = .d d := by
  cases h with
  | d q => exact .inr ⟨_, rfl⟩
  | r q =>
    rename_i n a
    refine .inl (.r ?_)
    have hn : n < io.length := of_decide_eq_true hb
    obtain ⟨t, rfl⟩ := x
    rw [List.getElem?_append_left hn] at q
    exact q
theorem RVl.cut' (x : io <+: io') {v : VL} {y : V} (hb : v.below io.length = true) (h : RVl Z io' H v y) : RVl Z io H v y := by
  cases h with
  | d q => exact .d q
  | r q =>
    rename_i n a
    have hn : n < io.length := of_decide_eq_true hb
    obtain ⟨t, rfl⟩ := x
    rw [List.getElem?_append_left hn] at q
    exact .r q
theorem RVs.trim (x : io <+: io') : ∀ {v : List VL} {y : List V}, v.all (·.below io.length) = true → RVs Z io' H v y → RVs Z io H v y
  | _, _, _, .nil => .nil
  | _, _, h, .cons a t => by
    simp only [List.all_cons, Bool.and_eq_true] at h
    exact .cons (a.cut' x h.1) (RVs.trim x h.2 t)
theorem RVals.trim (x : io <+: io') {v : List VL} {y : List DictEntry} (h : v.all (·.below io.length) = true) (r : RVals Z io' H v y) : RVals Z io H v y := by
  induction r with
  | nil => exact .nil
  | cons a t ih =>
    simp only [List.all_cons, Bool.and_eq_true] at h
    obtain ⟨vx, q1, q2⟩ := a
    exact .cons ⟨vx, q1.cut' x h.1, q2⟩ (ih h.2)
theorem RO.cut (x : io <+: io') {o : LO} {a : Addr} (hb : o.below io.length = true) (h : RO Z io' H o a) : RO Z io H o a := by
  cases o with
  | lst xs => obtain ⟨vs, h1, h2⟩ := h; exact ⟨vs, h1, h2.trim x hb⟩
  | dct ks xs => obtain ⟨g, es, h1, h2, h3⟩ := h; exact ⟨g, es, h1, h2, h3.trim x hb⟩
  | obj c ns xs => obtain ⟨y, fs, h1, h2, h3⟩ := h; exact ⟨y, fs, h1, h2, h3.trim x hb⟩
  | dead => exact h
theorem RVl.lt {v : VL} {y : V} (h : RVl Z io H v y) : v.below io.length = true := by
  cases h with
  | d q => rfl
  | r q => exact decide_eq_true (List.getElem?_eq_some_iff.mp q).1
theorem RVs.lt : ∀ {v : List VL} {y : List V}, RVs Z io H v y → v.all (·.below io.length) = true
  | _, _, .nil => rfl
  | _, _, .cons a t => by simp only [List.all_cons, Bool.and_eq_true]; exact ⟨a.lt, t.lt⟩
theorem RVals.lt {v : List VL} {y : List DictEntry} (r : RVals Z io H v y) : v.all (·.below io.length) = true := by
  induction r with
  | nil => rfl
  | cons a t ih =>
    obtain ⟨vx, q1, _⟩ := a
    simp only [List.all_cons, Bool.and_eq_true]
    exact ⟨q1.lt, ih⟩
theorem RO.lt {o : LO} {a : Addr} (h : RO Z io H o a) : o.below io.length = true := by
  cases o with
  | lst xs => obtain ⟨vs, h1, h2⟩ := h; exact h2.lt
  | dct ks xs => obtain ⟨g, es, h1, h2, h3⟩ := h; exact h3.lt
  | obj c ns xs => obtain ⟨y, fs, h1, h2, h3⟩ := h; exact h3.lt
  | dead => rfl
/-- what a def has made is let go -/
theorem Rep.cut (R : Rep Z io H L) (x : Ext io H io' H') (R' : Rep Z io' H' L') (c : CutOk L L') : Rep Z io H' (L'.take L.length) ∧ Ext io H io H' := by
  have hl : io.length = L.length := R.len
  refine ⟨⟨by rw [List.length_take]; have := c.1; omega, R.nd, fun n o e => ?_⟩, List.prefix_refl _, x.per, fun b hb nb => ⟨nb, (x.frm b hb nb).2⟩⟩
  have hn : n < L.length := by
    have h1 := (List.getElem?_eq_some_iff.mp e).1
    rw [List.length_take] at h1
    omega
  rw [List.getElem?_take_of_lt hn] at e
  obtain ⟨a, q, ro⟩ := R'.at_ n o e
  have qa : io[n]? = some a := by
    obtain ⟨t, ht⟩ := x.pre
    rw [← ht, List.getElem?_append_left (by omega)] at q
    exact q
  refine ⟨a, qa, ro.cut x.pre ?_⟩
  rw [hl]
  rcases c.2 n hn with z | ⟨o', z, hb⟩
  · rw [e] at z
    obtain ⟨a', _, ro'⟩ := R.at_ n o z.symm
    have := ro'.lt
    rw [hl] at this
    exact this
  · rw [e] at z; cases z; exact hb
theorem leave_ok {keep : Bool} {v : VL} {x : V} {r : Res VL} (R : Rep Z io H L) (xt : Ext io H io' H') (R' : Rep Z io' H' L') (rv : RVl Z io' H' v x) (e : leave keep L v L' = r) {Q : VK} {E : XK} (p : Post Z (RVl Z) io H r Q E) : Q x H' := by
  unfold leave at e
  split at e
  · subst e; exact p io' x H' xt R' rv
  · split at e
    · rename_i h
      subst e
      obtain ⟨R2, x2⟩ := R.cut xt R' h.1
      refine p io x H' x2 R2 (rv.cut' xt.pre ?_)
      rw [R.len]; exact h.2
    · subst e; exact p.elim
theorem leaveX_ok {keep : Bool} {d : D} {c : Value} {dd : Option Addr} {r : Res VL} (R : Rep Z io H L) (xt : Ext io H io' H') (R' : Rep Z io' H' L') (rx : RX Z H' d c dd) (e : leaveX keep L d L' = r) {Q : VK} {E : XK} (p : Post Z (RVl Z) io H r Q E) : E c dd H' := by
  unfold leaveX at e
  split at e
  · subst e; exact p io' c dd H' xt R' rx
  · split at e
    · rename_i h
      subst e
      obtain ⟨R2, x2⟩ := R.cut xt R' h
      exact p io c dd H' x2 R2 rx
    · subst e; exact p.elim
theorem slots_start {N : List Str} {xs : List VL} {vs : List V} {n : Nat} (hn : n = N.length) (h : RVs Z io H xs vs) : Slots Z io H (L2.start N vs) (xs.map some ++ List.replicate (n - xs.length) none) := by
  have hl := h.length
  refine ⟨by simp [L2.start, hn, hl], fun i v e => ?_⟩
  by_cases hi : i < xs.length
  · rw [List.getElem?_append_left (by simpa using hi)] at e
    rw [List.getElem?_map] at e
    obtain ⟨w, e1, e2⟩ := Option.map_eq_some_iff.mp e
    cases e2
    obtain ⟨z, q, r⟩ := h.get e1
    refine ⟨z, ?_, r⟩
    unfold L2.start
    rw [List.getElem?_append_left (by rw [List.length_map, ← hl]; exact hi), List.getElem?_map, q]; rfl
  · rw [List.getElem?_append_right (by simpa using Nat.le_of_not_lt hi)] at e
    rw [List.getElem?_replicate] at e
    split at e
    · cases e
    · cases e
end
/-- a def's promise from its body's reading -/
theorem body_sp {Z : Lk} {T : Tab} {call : Nat → List VL → LH → Res VL} {f : Nat} {d : FDef} (hd : T.fns[f]? = some d) {N : List Str} (hN : d.nslots = N.length) {vs : List V} {H : Hp} {Q : VK} {E : XK} (h : spL Z (runFn T call f) d.npar vs H Q E) :
    tRS Z (fun c dd _ H' => E c dd H') (evSs T call d.body) { nx := fun _ G => Q .non G, rt := Q } (L2.start N vs) H := by
  obtain ⟨hl, io, L, xs, R, rv, p⟩ := h
  have hx : xs.length = d.npar := by rw [rv.length]; exact hl
  simp only [runFn, hd, hx, if_true] at p
  refine ⟨io, _, L, R, slots_start hN rv, ?_⟩
  rw [hx]
  cases e : evSs T call d.body (xs.map some ++ List.replicate (d.nslots - d.npar) none) L with
  | next ρ L' => simp only [e] at p; exact fun io' σ' H' xt R' S => leave_ok R xt R' (.d .non) rfl p
  | ret v L' => simp only [e] at p; exact fun io' x H' xt R' r => leave_ok R xt R' r rfl p
  | exn d2 ρ L' => simp only [e] at p; exact fun io' c dd σ' H' xt R' S rx => leaveX_ok R xt R' rx rfl p
  | brk ρ L' => simp only [e] at p; exact p.elim
  | cont ρ L' => simp only [e] at p; exact p.elim
  | stuck => simp only [e] at p; exact p.elim
/-! ### instances, whether they are frozen or not -/
section
variable {X : Cx} {pins : List (Addr × Obj)} {σ : Sg} {H : Hp} {s : Shared} {a C dxa : Addr} {fs : List (Str × V)} {f : Str} {v : V} {A : Around} {E : Value → Shared → Prop}
theorem insR {P : Program} {w : World} {H : Hp} {h : Heap} (hok : HOk P w H h) (e : Rd H a (.ins C dxa fs)) : ∃ mA, ObjM h a dxa C mA ∧ (∀ f, RelO (fs.lookup f) (mA f)) := by
  obtain ⟨d, z, ne, ob, mA, n, r, q⟩ := (show ObjOk P w H h a (.ins C dxa fs) from e.ok hok)
  exact ⟨mA, ⟨ob, n, ne⟩, r⟩
theorem getattrR {b : Bool} {Q : Value → Shared → Prop} (I : Inv X pins σ H s) (e : Rd H a (.ins C dxa fs)) (c : Cls X.K C) (n : NoAttr X.K C f) (l : fs.lookup f = some v) (h : ∀ u s', Inv X pins σ H s' → RelV v u → Q u s') : wpAny (model X.prog X.w) A (getAttr (.ref a) f b) Q E s := by
  obtain ⟨mA, O, r⟩ := insR I.hok e
  obtain ⟨u, hu, ru⟩ := RelO.some_of (v := v) (o := mA f) (by rw [← l]; exact r f)
  exact get_map I.kIn O (c.get f) c.hd n hu (handed_of ru) (h u _ (I.tok _) ru)
theorem getmethR {m : Str} {g : Addr} {pl : Sem Bool} {Q : Value × List Value → Shared → Prop} (I : Inv X pins σ H s) (e : Rd H a (.ins C dxa fs)) (c : Cls X.K C) (k : Meth X.K C m g) (l : fs.lookup m = none) (h : Q (.ref g, [.ref a]) s) : wpAny (model X.prog X.w) A (getMethod (.ref a) m pl) Q E s := by
  obtain ⟨mA, O, r⟩ := insR I.hok e
  exact get_meth I.kIn O (c.get m) k.at_ k.fn (RelO.none_of (by rw [← l]; exact r m)) h
end
section
variable {X : Cx} {CX : CXT} {k n : Nat} {C p g a dxa : Addr} {fs : List (Str × V)} {f : Str} {fd : FuncData} {ps : List Str} {sp : Sp} {E : XK}
/-- a property of an instance: its getter runs -/
theorem getpropR {pins : List (Addr × Obj)} {σ : Sg} {H : Hp} {s : Shared} {Q : VK} {b : Bool} (hg : X.A.guards = some []) (I : Inv X pins σ H s) (ea : Rd H a (.ins C dxa fs)) (c : Cls X.K C) (hp : PropOf X.K C f p g)
    (F : FnG X.prog X.w X.K X.mg X.base CX k g fd ps sp) (hr : Room (k + 1) X.A) (hb : Binds X.K fd ps []) (hx : ∀ s e s', CX X.stack H s E e s' → False) (h : sp [.ref a] H Q E) :
    wpAny (model X.prog X.w) X.A (getAttr (.ref a) f b) (EP X pins σ Q) X.xe s := by
  obtain ⟨mA, O, _⟩ := insR I.hok ea
  obtain ⟨od, J, _⟩ := O.look
  obtain ⟨rest, hrec⟩ := hp.rec_
  have I1 := I.tok (s.toks + 1)
  have hl : ([Value.ref a] ++ []).length = ps.length := F.len _ _ _ _ h
  have isC : (PySem.W.clsIn X.K C).isSome = true := by
    obtain ⟨cd, e, _⟩ := PySem.W.any_some c.hd
    rw [e]; rfl
  have bd := hb { s with toks := s.toks + 1 } [.ref a] I1.kIn hl
  rw [List.append_nil] at bd
  refine PySem.W.get_bind I.kIn J (PySem.W.plainGet_of (c.get f)).1 (PySem.W.findObj_data isC hp.at_ hp.get hp.tak) (PySem.W.plainGet_of (c.get f)).2 (wpAny_call (PySem.W.prop_get (s := { s with toks := s.toks + 1 }) I.kIn hrec ?_))
  refine codeAny_mono (F.run X.A.in1 X.stack { s with toks := s.toks + 1 } H ⟨[.ref a], []⟩ [.ref a] [.ref a] Q E hg hr.in1 I1.env0.in1 bd (.cons rfl .nil) h) fun res s' hq => ?_
  cases res with
  | error er => exact (hx { s with toks := s.toks + 1 } er s' hq).elim
  | ok fl =>
    cases fl with
    | ret u =>
      obtain ⟨v, H', I3, rv, q3⟩ := I1.after hq
      show wpAny _ _ (handedOut u) _ _ _
      rw [PySem.W.handedOut_of (handed_of rv)]
      exact wpAny_pure ⟨v, H', I3, rv, q3⟩
    | next => exact False.elim hq
    | brk => exact False.elim hq
    | cont => exact False.elim hq
end
end L3
end
section
set_option Elab.async false
set_option linter.all false
set_option maxRecDepth 100000
set_option maxHeartbeats 4000000
/-! MD: freezing by the evaluator's word; isinstance of built-in types; globals. -/
namespace L3
open PySem PySem.Spec PyProof.Rows L2
/-! ### freezing -/
section
variable {Z : Lk} {io : List Addr}
/-- the state goes on, objects frozen -/
abbrev FzH (P : Hp → Prop) (H : Hp) : Prop := Fz (fun (_ : Unit) G => P G) () H
theorem FzH.bind {P Q : Hp → Prop} {H : Hp} (h : FzH P H) (k : ∀ G, P G → FzH Q G) : FzH Q H := by
  induction h with
  | now q => exact k _ q
  | frz e mu _ ih => exact .frz e mu ih
theorem ext_lock {H : Hp} {n : Nat} {a : Addr} {od : Obj} {u : HO} (ha : io[n]? = some a) (e : H a = some u) (mu : Mut (some u)) : Ext io H io (upd H a (.frz od u)) := Ext.write ha (by rw [e]; exact mu)
theorem frz_ok : ∀ (k : Nat) {L L' : LH} {v : VL} {x : V} {d : D} {H : Hp}, frz k L v = some (d, L') → Rep Z io H L → RVl Z io H v x → FzH (fun H' => Ext io H io H' ∧ Rep Z io H' L' ∧ RD Z H' d x) H
  | 0, L, L', v, x, d, H, e, R, r => by
    cases v with
    | r n => simp [frz] at e
    | d y =>
      simp only [frz, Option.some.injEq, Prod.mk.injEq] at e
      obtain ⟨rfl, rfl⟩ := e
      cases r with
      | d r => exact .now ⟨.refl, R, r⟩
  | k + 1, L, L', v, x, d, H, e, R, r => by
    have many : ∀ (xs : List VL) {L L' : LH} {vs : List V} {ds : List D} {H : Hp}, mapF (frz k) L xs = some (ds, L') → Rep Z io H L → RVs Z io H xs vs → FzH (fun H' => Ext io H io H' ∧ Rep Z io H' L' ∧ RDs Z H' ds vs) H := by
      intro xs
      induction xs with
      | nil =>
        intro L L' vs ds H e R r
        simp only [mapF, Option.some.injEq, Prod.mk.injEq] at e
        obtain ⟨rfl, rfl⟩ := e
        cases r
        exact .now ⟨.refl, R, .nil⟩
      | cons y ys ih =>
        intro L L' vs ds H e R r
        simp only [mapF] at e
        split at e
        · rename_i d1 L1 e1
          obtain ⟨p, e2, e3⟩ := Option.map_eq_some_iff.mp e
          simp only [Prod.mk.injEq] at e3
          obtain ⟨rfl, rfl⟩ := e3
          cases r with
          | cons r rs =>
            refine FzH.bind (frz_ok k e1 R r) fun G1 ⟨x1, R1, q1⟩ => ?_
            refine FzH.bind (ih e2 R1 (rs.ext x1)) fun G2 ⟨x2, R2, q2⟩ => ?_
            exact .now ⟨x1.trans x2, R2, .cons (q1.persist x2.per) q2⟩
        · cases e
    cases v with
    | d y =>
      simp only [frz, Option.some.injEq, Prod.mk.injEq] at e
      obtain ⟨rfl, rfl⟩ := e
      cases r with
      | d r => exact .now ⟨.refl, R, r⟩
    | r n =>
      cases r with
      | r ha =>
        rename_i a
        simp only [frz] at e
        split at e
        · rename_i xs eL
          obtain ⟨p, e2, e3⟩ := Option.map_eq_some_iff.mp e
          simp only [Prod.mk.injEq] at e3
          obtain ⟨rfl, rfl⟩ := e3
          obtain ⟨b, q, vs, h1, h2⟩ := R.get eL
          rw [ha] at q; cases q
          refine .frz h1 trivial fun od => ?_
          have x1 : Ext io H io (upd H a (.frz od (.lst vs))) := ext_lock ha h1 trivial
          refine FzH.bind (many xs e2 (R.write ha x1.per ⟨_, _, upd_same⟩) (h2.ext x1)) fun G ⟨x2, R2, q2⟩ => .now ⟨x1.trans x2, R2, .lst ⟨od, x2.per.2 _ _ _ upd_same⟩ q2⟩
        · rename_i ks xs eL
          obtain ⟨p, e2, e3⟩ := Option.map_eq_some_iff.mp e
          simp only [Prod.mk.injEq] at e3
          obtain ⟨rfl, rfl⟩ := e3
          obtain ⟨b, q, g, es, h1, h2, h3⟩ := R.get eL
          rw [ha] at q; cases q
          refine .frz h1 trivial fun od => ?_
          have x1 : Ext io H io (upd H a (.frz od (dx a es))) := ext_lock ha h1 trivial
          -- the values of the entries
          have vals : ∀ {xs : List VL} {es : List DictEntry}, RVals Z io H xs es → ∃ vs : List V, RVs Z io H xs vs ∧ Paired (fun v (e : DictEntry) => RelV v e.val) vs es := by
            intro xs es r
            induction r with
            | nil => exact ⟨[], .nil, .nil⟩
            | cons a _ ih =>
              obtain ⟨vx, q1, q2⟩ := a
              obtain ⟨vs, q3, q4⟩ := ih
              exact ⟨vx :: vs, .cons q1 q3, .cons q2 q4⟩
          obtain ⟨vs, v1, v2⟩ := vals h3
          refine FzH.bind (many xs e2 (R.write ha x1.per ⟨_, _, upd_same⟩) (v1.ext x1)) fun G ⟨x2, R2, q2⟩ => .now ⟨x1.trans x2, R2, .dct g (x2.per.2 _ _ _ upd_same) ?_⟩
          have back : ∀ {ds : List D} {vs : List V} {es : List DictEntry}, RDs Z G ds vs → Paired (fun v (e : DictEntry) => RelV v e.val) vs es → RVals Z io G (ds.map .d) es := by
            intro ds vs es r p
            induction p generalizing ds with
            | nil => cases r; exact .nil
            | cons a _ ih =>
              cases r with
              | cons r rs => exact .cons ⟨_, .d r, a⟩ (ih rs)
          exact RDkv.join (io := io) ((h2.ext x1.per).ext x2.per) (back q2 v2)
        · rename_i c ns xs eL
          obtain ⟨p, e2, e3⟩ := Option.map_eq_some_iff.mp e
          simp only [Prod.mk.injEq] at e3
          obtain ⟨rfl, rfl⟩ := e3
          obtain ⟨b, q, y, fs, h1, h2, h3⟩ := R.get eL
          rw [ha] at q; cases q
          refine .frz h1 trivial fun od => ?_
          have x1 : Ext io H io (upd H a (.frz od (.ins (Z.ca c) y fs))) := ext_lock ha h1 trivial
          refine FzH.bind (many xs e2 (R.write ha x1.per ⟨_, _, upd_same⟩) (h3.ext x1)) fun G ⟨x2, R2, q2⟩ => .now ⟨x1.trans x2, R2, .obj (x2.per.2 _ _ _ upd_same) h2 q2⟩
        · cases e
end
section
variable {X : Cx} {Z : Lk} {W : WX} {e : Expr} {f : Env → LH → Res VL} {p pos : Pos}
theorem FzH.fz {α : Type} {Q : α → Hp → Prop} {x : α} {H : Hp} (h : FzH (fun G => Q x G) H) : Fz Q x H := h.map fun _ q => q
theorem r_frz (h : RE X Z W e f) : RE X Z W e (fun ρ L => (f ρ L).bind fun x L => match frz frzLim L x with | some (y, L) => .ok (.d y) L | none => .stuck) := by
  refine (PE.fz h).imp fun σ H Q q => ?_
  refine tR_imp (tR_one (rel := RVl Z) q) fun x H1 ⟨io, L, v, E, R, r, p⟩ => ?_
  split at p
  · rename_i y L' ef
    exact FzH.fz (FzH.bind (frz_ok frzLim ef R r) fun G ⟨x1, R1, q1⟩ => .now (p io x G x1 R1 (.d q1)))
  · exact p.elim
/-- a constant of the module -/
theorem r_glob {d : D} {v : V} {u : Value} {x : Str} (hg : Gl X x) (hm : X.mg x = some u) (rv : RelV v u) (rd : ∀ H, RD Z H d v) (hdb : (x == ("__debug__" : Str)) = false) : RE X Z W (.Name x pos) (fun _ L => .ok (.d d) L) :=
  r_lit (pe_glob hg hm rv hdb) rd
theorem r_wall (e : Expr) : RE X Z W e (fun _ _ => .stuck) := ⟨fun _ _ _ _ _ _ ⟨_, _, _, _, _, p⟩ => p.elim⟩
theorem s_wall (s : Stmt) : RS X Z W s (fun _ _ => .stuck) := ⟨fun _ _ _ _ _ _ ⟨_, _, _, _, _, p⟩ => p.elim⟩
end
/-! ### isinstance of the built-in types -/
def tyStr : Ty → Option String
  | .int => some "int" | .str => some "str" | .tuple => some "tuple" | .list => some "list" | .bool => some "bool" | .dict => some "dict" | .cls _ => none
theorem kit_table : ([("NoneType", []), ("bool", [Ty.bool, Ty.int]), ("int", [.int]), ("str", [.str]), ("tuple", [.tuple]), ("list", [.list]), ("dict", [.dict])] : List (String × List Ty)).all
    (fun p => [Ty.int, .str, .tuple, .list, .bool, .dict].all fun t => match tyStr t with
      | some b => kitB p.1 b == some (p.2.contains t)
      | none => false) = true := by decide +kernel
theorem kit_at {a b : String} {us : List Ty} {t : Ty} (h : (a, us) ∈ ([("NoneType", []), ("bool", [Ty.bool, Ty.int]), ("int", [.int]), ("str", [.str]), ("tuple", [.tuple]), ("list", [.list]), ("dict", [.dict])] : List (String × List Ty))) (ht : tyStr t = some b) (K : PySem.W.Frag) : PySem.W.kitOne K (.type a) (.type b) = some (us.contains t) := by
  have h1 := List.all_eq_true.mp kit_table _ h
  have hm : t ∈ [Ty.int, .str, .tuple, .list, .bool, .dict] := by cases t <;> first | decide | simp [tyStr] at ht
  have h2 := List.all_eq_true.mp h1 t hm
  rw [ht] at h2
  exact kit_ty (beq_iff_eq.mp h2)
section
variable {X : Cx} {Z : Lk} {pins : List (Addr × Obj)} {σ : Sg} {H : Hp} {s : Shared} {io : List Addr} {L : LH}
theorem kit_vl (hK : X.K = Z.K) (I : Inv X pins σ H s) (R : Rep Z io H L) {v : VL} {x : V} {u : Value} {us : List Ty} (rx : RelV x u) (r : RVl Z io H v x) (e : tyOf L v = some us) :
    ∃ (a : String) (P : Heap → Prop), (a, us) ∈ ([("NoneType", []), ("bool", [Ty.bool, Ty.int]), ("int", [.int]), ("str", [.str]), ("tuple", [.tuple]), ("list", [.list]), ("dict", [.dict])] : List (String × List Ty)) ∧ PySem.W.KitX X.K u (.type a) P ∧ P s.heap ∧ u ≠ .builtin "__main__.__loader__#opaque" := by
  have lst : ∀ {a : Addr} {vs : List V}, x = .ref a → SqL X.K H a vs → us = [.list] → ∃ (a : String) (P : Heap → Prop), (a, us) ∈ ([("NoneType", []), ("bool", [Ty.bool, Ty.int]), ("int", [.int]), ("str", [.str]), ("tuple", [.tuple]), ("list", [.list]), ("dict", [.dict])] : List (String × List Ty)) ∧ PySem.W.KitX X.K u (.type a) P ∧ P s.heap ∧ u ≠ .builtin "__main__.__loader__#opaque" := fun {a vs} ex h eu => by
    subst ex
    obtain rfl : u = Value.ref a := rx
    obtain ⟨its, rv, p, _⟩ := I.list h
    obtain ⟨o, e1, e2, _⟩ := p.isList
    exact ⟨"list", _, by rw [eu]; decide, PySem.W.kitx_list, ⟨o, e1, e2⟩, fun z => nomatch z⟩
  have dct : ∀ {a : Addr} {es : List DictEntry}, x = .ref a → DAt H a es → us = [.dict] → ∃ (a : String) (P : Heap → Prop), (a, us) ∈ ([("NoneType", []), ("bool", [Ty.bool, Ty.int]), ("int", [.int]), ("str", [.str]), ("tuple", [.tuple]), ("list", [.list]), ("dict", [.dict])] : List (String × List Ty)) ∧ PySem.W.KitX X.K u (.type a) P ∧ P s.heap ∧ u ≠ .builtin "__main__.__loader__#opaque" := fun {a es} ex h eu => by
    subst ex
    obtain rfl : u = Value.ref a := rx
    obtain ⟨⟨o, ep, e1, e2, _⟩, _⟩ := h.raw I
    exact ⟨"dict", _, by rw [eu]; decide, PySem.W.kitx_dict, ⟨o, e1, e2.1⟩, fun z => nomatch z⟩
  cases r with
  | d rd =>
    rename_i d
    cases rd with
    | non => simp only [tyOf, Option.some.injEq] at e; subst e; cases (show u = Value.none from rx); exact ⟨"NoneType", _, by decide, PySem.W.kitx_none, True.intro, fun z => nomatch z⟩
    | bl b => simp only [tyOf, Option.some.injEq] at e; subst e; cases (show u = Value.bool b from rx); exact ⟨"bool", _, by decide, PySem.W.kitx_bool, True.intro, fun z => nomatch z⟩
    | int i => simp only [tyOf, Option.some.injEq] at e; subst e; obtain ⟨t, q⟩ := (show ∃ t, u = Value.int i t from rx); cases q; exact ⟨"int", _, by decide, PySem.W.kitx_int, True.intro, fun z => nomatch z⟩
    | str y _ => simp only [tyOf, Option.some.injEq] at e; subst e; obtain ⟨t, q⟩ := (show ∃ t, u = Value.str (st y) t from rx); cases q; exact ⟨"str", _, by decide, PySem.W.kitx_str, True.intro, fun z => nomatch z⟩
    | tup h1 h2 =>
      simp only [tyOf, Option.some.injEq] at e; subst e
      rename_i a _ _
      obtain rfl : u = Value.ref a := rx
      obtain ⟨its, rv, p, _⟩ := I.tuple (hK ▸ h1)
      obtain ⟨o, e1, e2, _⟩ := p
      exact ⟨"tuple", _, by decide, PySem.W.kitx_tuple, ⟨o, e1, e2⟩, fun z => nomatch z⟩
    | lst h1 h2 => simp only [tyOf, Option.some.injEq] at e; exact lst rfl h1.lk.sq e.symm
    | dct g h1 h2 => simp only [tyOf, Option.some.injEq] at e; exact dct rfl (.inr ⟨_, h1⟩) e.symm
    | obj h1 h2 h3 => simp [tyOf] at e
    | cls c => simp [tyOf] at e
    | scr h1 h2 => simp [tyOf] at e
  | r q =>
    rename_i n a
    simp only [tyOf] at e
    split at e
    · rename_i xs eL
      obtain ⟨b, q', vs, h1, h2⟩ := R.get eL
      rw [q] at q'; cases q'
      simp only [Option.some.injEq] at e
      exact lst rfl (.inl (.inl h1)) e.symm
    · rename_i ks xs eL
      obtain ⟨b, q', g, es, h1, h2, h3⟩ := R.get eL
      rw [q] at q'; cases q'
      simp only [Option.some.injEq] at e
      exact dct rfl (.inl h1) e.symm
    · cases e
end
/-- isinstance(e, T), T a built-in type -/
theorem r_isinst {X : Cx} {Z : Lk} {W : WX} {e : Expr} {f : Env → LH → Res VL} {p p2 pos : Pos} {x : Str} {b : String} {t : Ty} (hK : X.K = Z.K) (hg : Gl X "isinstance") (hm : X.mg "isinstance" = none) (hg2 : Gl X x) (hm2 : X.mg x = none) (hb : bootBuiltins x = some (.type b)) (ht : tyStr t = some b)
    (ha : RE X Z W e f) (ns : notStar e = true) (hn : x ≠ "__name__") (hdb : (x == ("__debug__" : Str)) = false) :
    RE X Z W (.Call (.Name "isinstance" p) [e, .Name x p2] [] pos) (fun ρ L => (f ρ L).bind fun x L => bIsinst t [x] L) := by
  have hc : CallR X (.builtin "isinstance") (fun xs H Q => ∃ x c io L vx us, xs = [x, c] ∧ c = .ty b ∧ Rep Z io H L ∧ RVl Z io H vx x ∧ tyOf L vx = some us ∧ Q (.bl (us.contains t)) H) := by
    intro pins s σ H xs us Q I r hh
    obtain ⟨x, c, io, L, vx, ts, rfl, rfl, R, rv, ety, q⟩ := hh
    obtain ⟨u1, u2, rfl, r1, r2⟩ := vals2 r
    obtain rfl : u2 = Value.type b := r2
    obtain ⟨a, P, hmem, hk, hp, hx⟩ := kit_vl hK I R r1 rv ety
    exact PySem.W.kia_one hk I.kIn hp (kit_at hmem ht X.K) hx fun tk => ⟨.bl _, H, I.tok tk, rfl, q⟩
  have hty : PE X (.Name x p2) (tC (.ty b)) := ⟨fun pins s σ H Q I h => ld_blt I hg2 hm2 hb ⟨.ty b, H, I, rfl, h⟩ hn hdb⟩
  refine (pe_callB hc hg hm PyProof.Rows.boot_isinstance (pa_cons ha (pa_cons hty pa_nil rfl) (star_each ns)) (by decide) (by decide) (star_each ns) rfl).imp fun σ H Q h => ?_
  refine tR_imp (tR_one (rel := RVl Z) h) fun x H1 ⟨io, L, v, E, R, r, z⟩ => ?_
  unfold bIsinst at z
  simp only at z
  split at z
  · rename_i us eu
    exact ⟨x, .ty b, io, L, v, us, rfl, rfl, R, r, eu, okD z R (.bl _)⟩
  · exact z.elim
end L3
end
section
set_option Elab.async false
set_option linter.all false
set_option maxRecDepth 100000
set_option maxHeartbeats 4000000
/-! ME: calls with keywords, new instances, attributes, methods. -/
namespace L3
open PySem PySem.Spec PyProof.Rows L2
section
variable {Z : Lk} {io : List Addr} {H : Hp} {L : LH}
theorem clsOf_of (R : Rep Z io H L) {v : VL} {x : V} {c : Nat} {ns : List Nat} {vs : List VL} (e : clsOf L v = some (c, ns, vs)) (r : RVl Z io H v x) :
    ∃ a y fs, x = .ref a ∧ Rd H a (.ins (Z.ca c) y fs) ∧ fs.map (·.1) = ns.map Z.nm ∧ RVs Z io H vs (fs.map (·.2)) := by
  unfold clsOf at e
  split at e
  · simp only [Option.some.injEq, Prod.mk.injEq] at e
    obtain ⟨rfl, rfl, rfl⟩ := e
    cases r with
    | d r =>
      cases r with
      | obj h1 h2 h3 => exact ⟨_, _, _, rfl, .inr ⟨_, h1⟩, h2, .of_ds h3⟩
  · rename_i n
    split at e
    · rename_i c' ns' vs' eL
      simp only [Option.some.injEq, Prod.mk.injEq] at e
      obtain ⟨rfl, rfl, rfl⟩ := e
      cases r with
      | r q =>
        obtain ⟨b, q', y, fs, h1, h2, h3⟩ := R.get eL
        rw [q] at q'; cases q'
        exact ⟨_, y, fs, rfl, .inl h1, h2, h3⟩
    · cases e
  · cases e
theorem look_fld {a : Nat} : ∀ {ns : List Nat} {vs : List VL} {fs : List (Str × V)}, fs.map (·.1) = ns.map Z.nm → RVs Z io H vs (fs.map (·.2)) →
    match nlook ns vs a with | some v => ∃ y, fs.lookup (Z.nm a) = some y ∧ RVl Z io H v y | none => fs.lookup (Z.nm a) = none
  | [], vs, fs, e, r => by
    have : fs = [] := by simpa using e
    subst this
    cases r
    rfl
  | n :: ns, vs, [], e, r => by simp at e
  | n :: ns, vs, (g, y) :: fs, e, r => by
    simp only [List.map_cons, List.cons.injEq] at e
    obtain ⟨e1, e2⟩ := e
    subst e1
    cases r with
    | cons r1 r2 =>
      simp only [nlook]
      by_cases h : n = a
      · subst h
        rw [if_pos rfl]
        exact ⟨y, by simp [List.lookup], r1⟩
      · rw [if_neg h]
        have hb : (Z.nm a == Z.nm n) = false := by rw [beq_eq_false_iff_ne]; exact fun q => h (Z.inj _ _ q.symm)
        have ih := look_fld (a := a) e2 r2
        simp only [List.lookup, hb]
        exact ih
theorem rvs_pick {n : Nat} {f : Nat → VL} {g : Nat → V} (h : ∀ i, i < n → RVl Z io H (f i) (g i)) : RVs Z io H ((List.range n).map f) ((List.range n).map g) := by
  have : ∀ l : List Nat, (∀ i ∈ l, i < n) → RVs Z io H (l.map f) (l.map g) := by
    intro l
    induction l with
    | nil => exact fun _ => .nil
    | cons a l ih => exact fun hl => .cons (h a (hl a List.mem_cons_self)) (ih fun i hi => hl i (List.mem_cons_of_mem _ hi))
  exact this _ fun i hi => List.mem_range.mp hi
theorem vals_pick {n : Nat} {f : Nat → V} {g : Nat → Value} (h : ∀ i, i < n → RelV (f i) (g i)) : Vals ((List.range n).map f) ((List.range n).map g) := by
  have : ∀ l : List Nat, (∀ i ∈ l, i < n) → Vals (l.map f) (l.map g) := by
    intro l
    induction l with
    | nil => exact fun _ => .nil
    | cons a l ih => exact fun hl => .cons (h a (hl a List.mem_cons_self)) (ih fun i hi => hl i (List.mem_cons_of_mem _ hi))
  exact this _ fun i hi => List.mem_range.mp hi
def kwOk (m n : Nat) (ks : List Nat) : Bool := (List.range n).all fun i => decide (i < m) || ks.contains i
theorem kwOk_at {m n : Nat} {ks : List Nat} (h : kwOk m n ks = true) {i : Nat} (hi : i < n) : i < m ∨ ks.idxOf i < ks.length := by
  have := List.all_eq_true.mp h i (List.mem_range.mpr hi)
  simp only [Bool.or_eq_true, decide_eq_true_eq] at this
  rcases this with z | z
  · exact .inl z
  · exact .inr (List.idxOf_lt_length_of_mem (List.contains_iff_mem.mp z))
theorem rvs_place {n : Nat} {xs zs : List VL} {vs ys : List V} {ks : List Nat} (h1 : RVs Z io H xs vs) (h2 : RVs Z io H zs ys) (hk : kwOk xs.length n ks = true) (hl : ks.length = zs.length) :
    RVs Z io H (placeG (.d .non) n xs ks zs) (placeG .non n vs ks ys) := by
  refine rvs_pick fun i hi => ?_
  have l1 := h1.length
  have l2 := h2.length
  rw [← l1]
  by_cases hx : i < xs.length
  · rw [if_pos hx, if_pos hx]
    obtain ⟨y, e, r⟩ := h1.get (i := i) (x := xs[i]) (by simp [hx])
    rw [List.getD_eq_getElem?_getD, List.getD_eq_getElem?_getD, e]
    simpa [hx] using r
  · rw [if_neg hx, if_neg hx]
    have hj : ks.idxOf i < zs.length := by
      rcases kwOk_at hk hi with z | z
      · exact absurd z hx
      · omega
    obtain ⟨y, e, r⟩ := h2.get (i := ks.idxOf i) (x := zs[ks.idxOf i]) (by simp [hj])
    rw [List.getD_eq_getElem?_getD, List.getD_eq_getElem?_getD, e]
    simpa [hj] using r
theorem vals_place {n : Nat} {xs zs : List V} {vs ys : List Value} {ks : List Nat} (h1 : Vals xs vs) (h2 : Vals zs ys) (hk : kwOk xs.length n ks = true) (hl : ks.length = zs.length) :
    Vals (placeG .non n xs ks zs) (placeG .none n vs ks ys) := by
  refine vals_pick fun i hi => ?_
  have l1 := h1.length
  have l2 := h2.length
  rw [← l1]
  by_cases hx : i < xs.length
  · rw [if_pos hx, if_pos hx]
    obtain ⟨y, e, r⟩ := h1.get (i := i) (x := xs[i]) (by simp [hx])
    rw [List.getD_eq_getElem?_getD, List.getD_eq_getElem?_getD, e]
    simpa [hx] using r
  · rw [if_neg hx, if_neg hx]
    have hj : ks.idxOf i < zs.length := by
      rcases kwOk_at hk hi with z | z
      · exact absurd z hx
      · omega
    obtain ⟨y, e, r⟩ := h2.get (i := ks.idxOf i) (x := zs[ks.idxOf i]) (by simp [hj])
    rw [List.getD_eq_getElem?_getD, List.getD_eq_getElem?_getD, e]
    simpa [hj] using r
end
section
variable {X : Cx} {Z : Lk} {W : WX} {CX : CXT} {k n : Nat} {f : Addr} {fd : FuncData} {ps : List Str} {x : Str} {e o value : Expr} {es : List Expr} {p pos apos pos' : Pos} {fs gs : Env → LH → Res (List VL)} {fo fv : Env → LH → Res VL} {c : List VL → LH → Res VL}
/-- f() -/
theorem r_call0 (F : FnG X.prog X.w X.K X.mg X.base CX k f fd ps (spL Z c n)) (hgd : X.A.guards = some []) (hr : Room k X.A) (hg : Gl X x) (hm : X.mg x = some (.ref f)) (hk : PySem.W.keepIn X.K (.ref f) = true) (hb : Binds X.K fd ps [])
    (hx : ∀ σ, PassesAt CX X σ (fun c d H' => W c d σ H')) (hn : n = 0) (hdb : (x == ("__debug__" : Str)) = false) :
    RE X Z W (.Call (.Name x p) [] [] pos) (fun ρ L => (Res.ok [] L).bind fun xs L => c xs L) := by
  refine ⟨fun pins s σ H Q I ⟨io, ρ, L, R, S, q⟩ => ?_⟩
  refine wpAny_Call_Name_kw (ld_glob I hg hm ?_ hdb)
  refine PySem.W.callWith_K0 I.kIn hk ?_
  exact run_fnG (us := []) (vs := []) F hgd hr hb (hx σ) I .nil ⟨by rw [hn]; rfl, io, L, [], R, .nil, q⟩
/-- keywords -/
abbrev RKs (X : Cx) (Z : Lk) (W : WX) (kws : List Keyword) (f : Env → LH → Res (List VL)) : Prop := PK X kws (tR Z W (RVs Z) f)
theorem rk_nil : RKs X Z W [] (fun _ L => .ok [] L) := ⟨fun _ _ s σ H Q I ⟨io, ρ, L, R, S, p⟩ => wpAny_evalAll_nil ⟨[], H, I, .nil, p io [] H .refl R .nil⟩⟩
theorem rk_cons {nm : Option Str} {kp : Pos} {kws : List Keyword} (ha : RE X Z W e fo) (hr : RKs X Z W kws fs) : RKs X Z W (⟨nm, e, kp⟩ :: kws) (fun ρ L => (fo ρ L).bind fun v L => (fs ρ L).bind fun vs L => .ok (v :: vs) L) := by
  refine ⟨fun pos pins s σ H Q I h => ?_⟩
  have h2 := tR_two (rel := RVl Z) (rel' := RVs Z) (k := fun v vs L => Res.ok (v :: vs) L) mo_v h
  exact (pk_cons (nm := nm) (kpos := kp) ha hr).run pos pins s σ H Q I (tR_imp h2 fun y H1 h1 => tR_imp h1 fun ys H2 ⟨io, L, v, vs, E, R, r1, r2, p⟩ => p io (y :: ys) H2 .refl R (.cons r1 r2))
/-- f(e, .., k = v, ..) -/
theorem r_callK {kws : List Keyword} {ks : List Nat} {m : Nat} (F : FnG X.prog X.w X.K X.mg X.base CX k f fd ps (spL Z c n)) (hgd : X.A.guards = some []) (hr : Room k X.A) (hg : Gl X x) (hm : X.mg x = some (.ref f)) (hk : PySem.W.keepIn X.K (.ref f) = true)
    (hb : ∀ (s : Shared) (us ws : List Value), X.K.In s.heap → us.length = m → ws.length = ks.length → BindsTo s fd ⟨us, ((backToKw pos (keywordEach kws X.env)).filterMap (·.1)).zip ws⟩ (ps.zip (placeG .none n us ks ws)))
    (hx : ∀ σ, PassesAt CX X σ (fun c d H' => W c d σ H')) (ha : RA X Z W es fs) (hkw : RKs X Z W kws gs) (ar : ∀ ρ L xs L', fs ρ L = .ok xs L' → xs.length = m) (ar2 : ∀ ρ L xs L', gs ρ L = .ok xs L' → xs.length = ks.length) (hmn : m + ks.length = n) (hok : kwOk m n ks = true) (hnil : es = [] → ∀ ρ L, fs ρ L = .ok [] L)
    (hall : (backToKw pos (keywordEach kws X.env)).all (·.1.isSome) = true) (hdb : (x == ("__debug__" : Str)) = false) (ns : noStars es = true)
    (hpl : ((backTo pos (starEach es X.env)).any (·.1) || (backToKw pos (keywordEach kws X.env)).any (·.1.isNone)) = false) :
    RE X Z W (.Call (.Name x p) es kws pos) (fun ρ L => (fs ρ L).bind fun xs L => (gs ρ L).bind fun zs L => c (placeG (.d .non) (xs.length + zs.length) xs ks zs) L) := by
  refine ⟨fun pins s σ H Q I ⟨io, ρ, L, R, S, q⟩ => ?_⟩
  have fin : ∀ {us ws : List Value} {vs zs : List V} {s2 : Shared} {H2 : Hp} {io2 : List Addr} {xl zl : List VL} {L2 : LH}, Inv X pins σ H2 s2 → Vals vs us → Vals zs ws → Rep Z io2 H2 L2 → RVs Z io2 H2 xl vs → RVs Z io2 H2 zl zs → xl.length = m → zl.length = ks.length →
      Post Z (RVl Z) io2 H2 (c (placeG (.d .non) (xl.length + zl.length) xl ks zl) L2) Q (fun c d H' => W c d σ H') →
      wpAny (model X.prog X.w) X.A (call (.ref f) us (((backToKw pos (keywordEach kws X.env)).filterMap (·.1)).zip ws)) (EP X pins σ Q) X.xe s2 := by
    intro us ws vs zs s2 H2 io2 xl zl L2 I2 ru rw' R2 r1 r2 l1 l2 p
    have l3 : us.length = m := by rw [← ru.length, ← r1.length, l1]
    have l4 : ws.length = ks.length := by rw [← rw'.length, ← r2.length, l2]
    have e : xl.length + zl.length = n := by omega
    rw [e] at p
    refine wpAny_call (codeAny_mono (F.run X.A X.stack s2 H2 ⟨us, ((backToKw pos (keywordEach kws X.env)).filterMap (·.1)).zip ws⟩ (placeG .none n us ks ws) (placeG .non n vs ks zs) Q _ hgd hr I2.env0 (hb s2 us ws I2.kIn l3 l4) (vals_place ru rw' (by rw [ru.length, l3]; exact hok) (by rw [rw'.length, l4]))
      ⟨by unfold placeG; simp, io2, L2, _, R2, rvs_place r1 r2 (by rw [l1]; exact hok) l2.symm, p⟩) fun res s' z => ?_)
    cases res with
    | error e => exact hx σ pins H2 s2 e s' I2 z
    | ok fl =>
      cases fl with
      | ret u => exact I2.after z
      | next => exact False.elim z
      | brk => exact False.elim z
      | cont => exact False.elim z
  refine wpAny_Call_Name_kw (ld_glob I hg hm ?_ hdb)
  have kwp : ∀ {s1 : Shared} {us : List Value} {vs : List V} {H1 : Hp} {io1 : List Addr} {xl : List VL} {L1 : LH}, Inv X pins σ H1 s1 → Vals vs us → Rep Z io1 H1 L1 → Slots Z io1 H1 σ ρ → RVs Z io1 H1 xl vs → xl.length = m →
      Post Z (RVl Z) io1 H1 ((gs ρ L1).bind fun zs L => c (placeG (.d .non) (xl.length + zs.length) xl ks zs) L) Q (fun c d H' => W c d σ H') →
      wpAny (model X.prog X.w) X.A (evalAll ((backToKw pos (keywordEach kws X.env)).map (·.2))) (fun ws s2 => X.K.In s2.heap ∧ wpAny (model X.prog X.w) X.A (call (.ref f) us (((backToKw pos (keywordEach kws X.env)).filterMap (·.1)).zip ws)) (EP X pins σ Q) X.xe s2) X.xe s1 := by
    intro s1 us vs H1 io1 xl L1 I1 ru R1 S1 r1 l1 p
    refine thn (hkw.run pos pins s1 σ H1 (fun zs H2 => ∃ io2 zl L2, Ext io1 H1 io2 H2 ∧ Rep Z io2 H2 L2 ∧ RVs Z io2 H2 zl zs ∧ zl.length = ks.length ∧ Post Z (RVl Z) io2 H2 (c (placeG (.d .non) (xl.length + zl.length) xl ks zl) L2) Q (fun c d H' => W c d σ H')) I1 ⟨io1, ρ, L1, R1, S1, ?_⟩) fun ws s2 ⟨zs, H2, I2, rz, io2, zl, L2, xt2, R2, r2, l2, p2⟩ => ⟨I2.kIn, fin I2 ru rz R2 (r1.ext xt2) r2 l1 l2 p2⟩
    cases eg : gs ρ L1 with
    | stuck => simp only [eg] at p; exact p
    | exn d L' => simp only [eg] at p; exact p
    | ok zl L' => simp only [eg] at p; exact fun i zs G xt R' r => ⟨i, zl, L', xt, R', r, ar2 _ _ _ _ eg, Post.ext (r := c (placeG (.d .non) (xl.length + zl.length) xl ks zl) L') p xt⟩
  have base : tR Z W (RVs Z) fs σ H fun vs H1 => ∃ io1 xl L1, Rep Z io1 H1 L1 ∧ Slots Z io1 H1 σ ρ ∧ RVs Z io1 H1 xl vs ∧ xl.length = m ∧ Post Z (RVl Z) io1 H1 ((gs ρ L1).bind fun zs L => c (placeG (.d .non) (xl.length + zs.length) xl ks zs) L) Q (fun c d H' => W c d σ H') := by
    refine ⟨io, ρ, L, R, S, ?_⟩
    cases ef : fs ρ L with
    | stuck => simp only [ef] at q; exact q
    | exn d L' => simp only [ef] at q; exact q
    | ok xl L' => simp only [ef] at q; exact fun i vs G xt R' r => ⟨i, xl, L', R', S.ext xt, r, ar _ _ _ _ ef, Post.ext (r := (gs ρ L').bind fun zs L => c (placeG (.d .non) (xl.length + zs.length) xl ks zs) L) q xt⟩
  cases es with
  | nil =>
    refine PySem.W.callWith_KW0 (h₀ := X.base) I.ok.mod.kin hk hall ?_ hpl
    have ef := hnil rfl ρ L
    simp only [ef] at q
    exact kwp (us := []) (xl := []) I .nil R S .nil (ar _ _ _ _ ef) q
  | cons e es =>
    have ns' : notStar e = true ∧ noStars es = true := by simpa [noStars] using ns
    refine PySem.W.callWith_KW (h₀ := X.base) I.ok.mod.kin hk hall (thn (ha.run pos pins s σ H _ I base) fun us s1 ⟨vs, H1, I1, ru, io1, xl, L1, R1, S1, r1, l1, p1⟩ => kwp I1 ru R1 S1 r1 l1 p1) hpl (star_each ns'.1)
/-- e.f, an attribute of an instance -/
theorem r_attr {T : Tab} {call : Nat → List VL → LH → Res VL} {a : Nat} {nmv : Str} (hK : X.K = Z.K) (hgd : X.A.guards = some []) (he : RE X Z W e fo) (hb : attributeBase e nmv X.env (eval e X.env) = eval e X.env) (hnm : nmv = Z.nm a)
    (hc : ∀ c cd, T.clss[c]? = some cd → Cls X.K (Z.ca c) ∧ (∀ a ∈ cd.flds, NoAttr X.K (Z.ca c) (Z.nm a)) ∧ ∀ f, cd.props.lookup a = some f → ∃ (k : Nat) (p g : Addr) (fd : FuncData) (ps : List Str), PropOf X.K (Z.ca c) (Z.nm a) p g ∧ FnG X.prog X.w X.K X.mg X.base CX k g fd ps (spL Z (call f) 1) ∧ Room (k + 1) X.A ∧ Binds X.K fd ps [])
    (hx : ∀ H s e s', CX X.stack H s (fun _ _ _ => False) e s' → False) : RE X Z W (.Attribute e nmv pos) (fun ρ L => (fo ρ L).bind fun x L => attrR T call a x L) := by
  subst hnm
  refine ⟨fun pins s σ H Q I h => attr_of hb (thn (he.run pins s σ H _ I (tR_one (rel := RVl Z) h)) fun u s1 ⟨x, H1, I1, rx, io, L, v, E, R, r, q⟩ => ?_)⟩
  unfold attrR at q
  split at q
  rotate_left
  · exact q.elim
  rename_i c ns vs ec
  split at q
  rotate_left
  · exact q.elim
  rename_i cd ecd
  obtain ⟨b, y, fs, rfl, h1, h2, h3⟩ := clsOf_of R ec r
  obtain rfl : u = Value.ref b := rx
  obtain ⟨cl, na, pr⟩ := hc c cd ecd
  split at q
  · rename_i hf
    have lk := look_fld (a := a) h2 h3
    cases en : nlook ns vs a with
    | none => rw [en] at q; exact q.elim
    | some w =>
      rw [en] at q lk
      obtain ⟨z, l1, l2⟩ := lk
      exact getattrR I1 h1 cl (na a (List.contains_iff_mem.mp hf)) l1 fun u' s2 I2 ru => ⟨z, H1, I2, ru, q io z H1 .refl R l2⟩
  · split at q
    · rename_i f ef
      obtain ⟨k, p, g, fd, ps, hp, F, hr, bd⟩ := pr f ef
      exact getpropR hgd I1 h1 cl hp F hr bd (fun s e s' => hx H1 s e s') ⟨rfl, io, L, [v], R, .cons r .nil, Post.noX q⟩
    · exact q.elim
/-- what is between an instance and its method, frozen or not -/
theorem r_umeth {T : Tab} {call : Nat → List VL → LH → Res VL} {m : Nat} {nmv : Str} {pl : Sem Bool} (hK : X.K = Z.K) (hgd : X.A.guards = some []) (he : RE X Z W o fo) (hnm : nmv = Z.nm m)
    (hc : ∀ c cd, T.clss[c]? = some cd → Cls X.K (Z.ca c) ∧ ∀ f, cd.meths.lookup m = some f → ∃ (k n : Nat) (g : Addr) (fd : FuncData) (ps : List Str), Meth X.K (Z.ca c) (Z.nm m) g ∧ FnG X.prog X.w X.K X.mg X.base CX k g fd ps (spL Z (call f) n) ∧ Room k X.A ∧ Binds X.K fd ps [] ∧ (es.length + 1 = n))
    (hx : ∀ σ, PassesAt CX X σ (fun c d H' => W c d σ H')) (ha : RA X Z W es fs) (ar : ∀ ρ L xs L', fs ρ L = .ok xs L' → xs.length = es.length) (hnil : es = [] → ∀ ρ L, fs ρ L = .ok [] L) (ns : noStars es = true)
    (ht : eval (.Call (.Attribute o nmv apos) es [] pos) X.env = (do
      let ov ← eval o X.env
      standAt apos.atName
      let (f, first) ← holding [ov] (getMethod ov nmv pl)
      callWith pos f first (backTo pos (starEach es X.env)) (backToKw pos (keywordEach [] X.env)))) :
    RE X Z W (.Call (.Attribute o nmv apos) es [] pos) (fun ρ L => (fo ρ L).bind fun x L => match methOf T L x m with
      | some f => (fs ρ L).bind fun xs L => call f (x :: xs) L
      | none => .stuck) := by
  subst hnm
  refine ⟨fun pins s σ H Q I h => ?_⟩
  refine PySem.W.methodCall_KW (pl := pl) (thn (he.run pins s σ H _ I (tR_bind (rel := RVl Z) h)) fun u s1 ⟨x, H1, I1, rx, io, ρ, v, L, R, S, r, q⟩ => ?_) ht
  unfold methOf at q
  split at q
  rotate_left
  · exact q.elim
  rename_i f ef
  split at ef
  rotate_left
  · cases ef
  rename_i c ns vs ec
  split at ef
  rotate_left
  · cases ef
  rename_i en
  obtain ⟨cd, ecd, em⟩ := Option.bind_eq_some_iff.mp ef
  obtain ⟨b, y, fs', rfl, h1, h2, h3⟩ := clsOf_of R ec r
  obtain rfl : u = Value.ref b := rx
  obtain ⟨cl, mm⟩ := hc c cd ecd
  obtain ⟨k, n, g, fd, ps, hm, F, hr, bd, hn⟩ := mm f em
  have lk := look_fld (a := m) h2 h3
  rw [en] at lk
  refine getmethR I1 h1 cl hm lk ?_
  -- the arguments, then the method
  have base : tR Z W (RVs Z) fs σ H1 fun vs H2 => ∃ io2 xl L2, Ext io H1 io2 H2 ∧ Rep Z io2 H2 L2 ∧ RVs Z io2 H2 xl vs ∧ xl.length = es.length ∧ Post Z (RVl Z) io2 H2 (call f (v :: xl) L2) Q (fun c d H' => W c d σ H') := by
    refine ⟨io, ρ, L, R, S, ?_⟩
    cases e : fs ρ L with
    | stuck => simp only [e] at q; exact q
    | exn d L' => simp only [e] at q; exact q
    | ok xl L' => simp only [e] at q; exact fun i vs G xt R' r' => ⟨i, xl, L', xt, R', r', ar _ _ _ _ e, Post.ext (r := call f (v :: xl) L') q xt⟩
  have fin : ∀ {us : List Value} {s2 : Shared} {H2 : Hp} {vs : List V} {io2 : List Addr} {xl : List VL} {L2 : LH}, Inv X pins σ H2 s2 → Vals vs us → Ext io H1 io2 H2 → Rep Z io2 H2 L2 → RVs Z io2 H2 xl vs → xl.length = es.length → Post Z (RVl Z) io2 H2 (call f (v :: xl) L2) Q (fun c d H' => W c d σ H') →
      wpAny (model X.prog X.w) X.A (PySem.call (.ref g) (.ref b :: us)) (EP X pins σ Q) X.xe s2 := by
    intro us s2 H2 vs io2 xl L2 I2 ru xt R2 r2 l2 p2
    exact run_fnG (us := .ref b :: us) (vs := .ref b :: vs) F hgd hr bd (hx σ) I2 (.cons rfl ru) ⟨by rw [List.length_cons, ← r2.length, l2, hn], io2, L2, v :: xl, R2, .cons (r.ext xt) r2, p2⟩
  cases es with
  | nil =>
    have ef := hnil rfl ρ L
    simp only [ef] at q
    exact PySem.W.callWith_K0 (first := [.ref b]) I1.kIn hm.kp (fin (us := []) I1 .nil .refl R .nil rfl q)
  | cons e es =>
    have ns' : notStar e = true ∧ noStars es = true := by simpa [noStars] using ns
    exact PySem.W.callWith_K (first := [.ref b]) (h₀ := X.base) I1.ok.mod.kin hm.kp (thn (ha.run pos pins s1 σ H1 _ I1 base) fun us s2 ⟨vs, H2, I2, ru, io2, xl, L2, xt, R2, r2, l2, p2⟩ => ⟨I2.kIn, fin I2 ru xt R2 r2 l2 p2⟩) (star_each ns'.1) (stars_none pos X.env es ns'.2)
end
/-! ### a new instance -/
section
variable {X : Cx} {Z : Lk} {W : WX} {CX : CXT} {k : Nat} {C f : Addr} {fd : FuncData} {ps : List Str} {sp : Sp} {E : XK}
theorem run_makeG {pins : List (Addr × Obj)} {σ : Sg} {H : Hp} {s : Shared} {Q : VK} {us : List Value} {vs : List V} (M : Mk X.K C f) (F : FnG X.prog X.w X.K X.mg X.base CX k f fd ps sp) (hgd : X.A.guards = some []) (hr : Room (k + 1) X.A) (hb : Binds X.K fd ps [])
    (hx : PassesAt CX X σ E) (I : Inv X pins σ H s) (r : Vals vs us)
    (h : ∀ x dxa, H x = none → H dxa = none → dxa ≠ x → sp (.ref x :: vs) (upd (upd H dxa (.own x)) x (.ins C dxa [])) (fun v H2 => v = .non ∧ Q (.ref x) H2) E) :
    wpAny (model X.prog X.w) X.A (call (.ref C) us) (EP X pins σ Q) X.xe s := by
  have hq := h (s.heap.objs.size + 1) s.heap.objs.size (I.hok.fresh (Nat.le_succ _)) (I.hok.fresh (Nat.le_refl _)) (Nat.ne_of_lt (Nat.lt_succ_self _))
  have made := Inv.made (C := C) I
  have rall : Vals (V.ref (s.heap.objs.size + 1) :: vs) (Value.ref (s.heap.objs.size + 1) :: us) := .cons rfl r
  have hl : (Value.ref (s.heap.objs.size + 1) :: us ++ []).length = ps.length := by
    have e := rall.length
    rw [F.len _ _ _ _ hq] at e
    rw [List.append_nil]; exact e.symm
  have bd := hb _ (Value.ref (s.heap.objs.size + 1) :: us) made.kIn hl
  rw [List.append_nil] at bd
  have run := F.run (X.A.under (.builtin "type.__call__" ⟨.ref C :: us, []⟩)) X.stack _ _ ⟨Value.ref (s.heap.objs.size + 1) :: us, []⟩ (Value.ref (s.heap.objs.size + 1) :: us) _ _ E (by first | exact hgd | (simpa [Around.under, Code.isGuard, guardIds] using hgd)) (hr.make C us []) (made.env0.make C us []) bd rall hq
  refine wpAny_call (make_map (f := f) I.kIn M.makes M.init (beq_iff_eq.mp M.fn) (codeAny_mono run fun res s' z => ?_))
  cases res with
  | error e => exact hx pins _ _ e s' made z
  | ok fl =>
    cases fl with
    | next => exact False.elim z
    | brk => exact False.elim z
    | cont => exact False.elim z
    | ret u =>
      obtain ⟨v, H', J, rv, ev, q⟩ := made.after z
      subst ev
      exact ⟨rv, V.ref (s.heap.objs.size + 1), H', J, rfl, q⟩
/-- C(e, ..) -/
theorem r_make {T : Tab} {call : Nat → List VL → LH → Res VL} {c : Nat} {cd : CDef} {x : Str} {es : List Expr} {p pos : Pos} {fs : Env → LH → Res (List VL)} (hcd : T.clss[c]? = some cd) (M : Mk X.K (Z.ca c) f) (n : Nat) (F : FnG X.prog X.w X.K X.mg X.base CX k f fd ps (spL Z (call cd.init) n)) (hn : es.length + 1 = n)
    (hgd : X.A.guards = some []) (hr : Room (k + 1) X.A) (hg : Gl X x) (hm : X.mg x = some (.ref (Z.ca c))) (hb : Binds X.K fd ps []) (hx : ∀ σ, PassesAt CX X σ (fun c d H' => W c d σ H')) (ha : RA X Z W es fs) (ar : ∀ ρ L xs L', fs ρ L = .ok xs L' → xs.length = es.length) (hnil : es = [] → ∀ ρ L, fs ρ L = .ok [] L)
    (hdb : (x == ("__debug__" : Str)) = false) (ns : noStars es = true) : RE X Z W (.Call (.Name x p) es [] pos) (fun ρ L => (fs ρ L).bind fun xs L => makeR T call c xs L) := by
  refine ⟨fun pins s σ H Q I ⟨io, ρ, L, R, S, q⟩ => ?_⟩
  have fin : ∀ {us : List Value} {s2 : Shared} {H2 : Hp} {vs : List V} {io2 : List Addr} {xl : List VL} {L2 : LH}, Inv X pins σ H2 s2 → Vals vs us → Rep Z io2 H2 L2 → RVs Z io2 H2 xl vs → xl.length = es.length → Post Z (RVl Z) io2 H2 (makeR T call c xl L2) Q (fun c d H' => W c d σ H') →
      wpAny (model X.prog X.w) X.A (PySem.call (.ref (Z.ca c)) us) (EP X pins σ Q) X.xe s2 := by
    intro us s2 H2 vs io2 xl L2 I2 ru R2 r2 l2 p2
    refine wpAny_mono (run_makeG (Q := Fz Q) M F hgd hr hb (hx σ) I2 ru fun y dy hy hdy ne => ?_) (fun _ _ z => Fz.ep z) fun _ _ z => z
    have own : H2 y = none := hy
    have hy1 : upd H2 dy (.own y) y = none := by rw [upd_ne (fun e => ne e.symm)]; exact hy
    have x1 : Ext io2 H2 io2 (upd H2 dy (.own y)) := Ext.new hdy
    have R3 := R2.new (u := .own y) hdy
    have x2 : Ext io2 (upd H2 dy (.own y)) (io2 ++ [y]) (upd (upd H2 dy (.own y)) y (.ins (Z.ca c) dy [])) := Ext.alloc hy1
    have R4 : Rep Z (io2 ++ [y]) (upd (upd H2 dy (.own y)) y (.ins (Z.ca c) dy [])) (L2 ++ [.obj c [] []]) := R3.alloc hy1 ⟨dy, [], upd_same, rfl, .nil⟩
    have x12 := x1.trans x2
    refine ⟨by rw [List.length_cons, ← r2.length, l2, hn], _, _, .r L2.length :: xl, R4, .cons (.r R2.last) (r2.ext x12), ?_⟩
    simp only [makeR, hcd] at p2
    cases e : call cd.init (.r L2.length :: xl) (L2 ++ [.obj c [] []]) with
    | stuck => simp only [e] at p2; exact p2.elim
    | exn d L' => simp only [e] at p2; exact fun io' cc dd H' xt R' rx => leaveX_ok R2 (x12.trans xt) R' rx rfl p2
    | ok v L' =>
      simp only [e] at p2
      split at p2
      · rename_i ev
        simp only [Res.ok.injEq] at ev
        obtain ⟨rfl, rfl⟩ := ev
        intro io' z H' xt R' rz
        refine ⟨rz.non, ?_⟩
        have ry : RVl Z io' H' (.r L2.length) (.ref y) := .r (prefix_get xt.pre R2.last)
        split at p2
        · split at p2
          · rename_i o L3 ef
            exact FzH.fz (FzH.bind (frz_ok frzLim ef R' ry) fun G ⟨x3, R5, q5⟩ => .now (leave_ok R2 ((x12.trans xt).trans x3) R5 (.d q5) rfl p2))
          · exact p2.elim
        · exact .now (p2 io' _ H' (x12.trans xt) R' ry)
      · rename_i ev; cases ev
      · exact p2.elim
  have base : tR Z W (RVs Z) fs σ H fun vs H2 => ∃ io2 xl L2, Rep Z io2 H2 L2 ∧ RVs Z io2 H2 xl vs ∧ xl.length = es.length ∧ Post Z (RVl Z) io2 H2 (makeR T call c xl L2) Q (fun c d H' => W c d σ H') := by
    refine ⟨io, ρ, L, R, S, ?_⟩
    cases e : fs ρ L with
    | stuck => simp only [e] at q; exact q
    | exn d L' => simp only [e] at q; exact q
    | ok xl L' => simp only [e] at q; exact fun i vs G xt R' r' => ⟨i, xl, L', R', r', ar _ _ _ _ e, Post.ext (r := makeR T call c xl L') q xt⟩
  refine wpAny_Call_Name_kw (ld_glob I hg hm ?_ hdb)
  cases es with
  | nil =>
    have ef := hnil rfl ρ L
    simp only [ef] at q
    exact PySem.W.callWith_K0 I.kIn M.kp (fin (us := []) I .nil R .nil rfl q)
  | cons e es =>
    have ns' : notStar e = true ∧ noStars es = true := by simpa [noStars] using ns
    exact PySem.W.callWith_K (h₀ := X.base) I.ok.mod.kin M.kp (thn (ha.run pos pins s σ H _ I base) fun us s1 ⟨vs, H1, I1, ru, io2, xl, L2, R2, r2, l2, p2⟩ => ⟨I1.kIn, fin I1 ru R2 r2 l2 p2⟩) (star_each ns'.1) (stars_none pos X.env es ns'.2)
end
end L3
end
section
set_option Elab.async false
set_option linter.all false
set_option maxRecDepth 100000
set_option maxHeartbeats 4000000
/-! MF: self.f = e; a, b, c = x, y, z; list(range(..)). -/
namespace L3
open PySem PySem.Spec PyProof.Rows L2
section
variable {Z : Lk} {io : List Addr} {H : Hp} {L : LH}
theorem put_fld {a : Nat} {v : VL} {y : V} (rv : RVl Z io H v y) : ∀ {ns : List Nat} {vs : List VL} {fs : List (Str × V)}, fs.map (·.1) = ns.map Z.nm → RVs Z io H vs (fs.map (·.2)) →
    (putF (Z.nm a) y fs).map (·.1) = (nput ns vs a v).1.map Z.nm ∧ RVs Z io H (nput ns vs a v).2 ((putF (Z.nm a) y fs).map (·.2))
  | [], vs, fs, e, r => by
    have : fs = [] := by simpa using e
    subst this
    cases r
    exact ⟨rfl, .cons rv .nil⟩
  | n :: ns, vs, [], e, r => by simp at e
  | n :: ns, vs, (g, z) :: fs, e, r => by
    simp only [List.map_cons, List.cons.injEq] at e
    obtain ⟨e1, e2⟩ := e
    subst e1
    cases r with
    | cons r1 r2 =>
      simp only [nput, putF]
      by_cases h : n = a
      · subst h
        rw [if_pos rfl, if_pos rfl]
        exact ⟨by simp [e2], .cons rv r2⟩
      · rw [if_neg h, if_neg fun q => h (Z.inj _ _ q)]
        obtain ⟨q1, q2⟩ := put_fld (a := a) rv e2 r2
        exact ⟨by simp [q1], .cons r1 q2⟩
end
section
variable {X : Cx} {Z : Lk} {W : WX} {o value : Expr} {pos pos' : Pos} {fo fv : Env → LH → Res VL}
theorem r_setA {T : Tab} {a : Nat} {nmv : Str} (hnm : nmv = Z.nm a) (hv : RE X Z W value fv) (ho : RE X Z W o fo) (hs : swapsWith value (some (.Attribute o nmv pos')) pos.line X.env = pure false)
    (hc : ∀ c cd, T.clss[c]? = some cd → Cls X.K (Z.ca c) ∧ ∀ a ∈ cd.flds, NoAttr X.K (Z.ca c) (Z.nm a)) :
    RS X Z W (.Assign [.Attribute o nmv pos'] value pos) (fun ρ L => (fv ρ L).fl ρ fun v L => (fo ρ L).fl ρ fun x L => match setAttr T a x v L with | some L => .next ρ L | none => .stuck) := by
  subst hnm
  refine ⟨fun pins s σ H D I h => ?_⟩
  have h1 := tRS_e (rel := RVl Z) (f := fv) (g := fun ρ v L => (fo ρ L).fl ρ fun x L => match setAttr T a x v L with | some L => .next ρ L | none => .stuck) h
  refine plainObj_wpAny_Assign_Attribute (thn (hv.run pins s σ H _ I h1) fun u s1 ⟨y, H1, I1, ry, io, ρ, v, L, R, S, rv, p⟩ => ?_) hs
  have h2 : tR Z W (RVl Z) fo σ H1 fun x2 H2 => ∃ io2 v2 L2, Ext io H1 io2 H2 ∧ Rep Z io2 H2 L2 ∧ Slots Z io2 H2 σ ρ ∧ RVl Z io2 H2 v2 x2 ∧ PostF Z W D io2 H2 (match setAttr T a v2 v L2 with | some L => .next ρ L | none => .stuck) := by
    refine ⟨io, ρ, L, R, S, ?_⟩
    cases e : fo ρ L with
    | ok v2 L' => simp only [e] at p; exact fun i x G xt R' r' => ⟨i, v2, L', xt, R', S.ext xt, r', PostF.ext (r := match setAttr T a v2 v L' with | some L => Fl.next ρ L | none => .stuck) p xt⟩
    | exn d L' => simp only [e] at p; exact fun i c d G xt R' r' => p i c d σ G xt R' (S.ext xt) r'
    | stuck => simp only [e] at p; exact p
  refine thn (ho.run pins s1 σ H1 _ I1 h2) fun ov s2 ⟨x, H2, I2, rx, io2, v2, L2, xt, R2, S2, r2, p2⟩ => ?_
  unfold setAttr at p2
  split at p2
  · rename_i L3 e
    split at e
    rotate_left
    · cases e
    rename_i n
    split at e
    rotate_left
    · cases e
    rename_i c ns vs eL
    split at e
    rotate_left
    · cases e
    rename_i hcond
    simp only [Option.some.injEq] at e
    subst e
    obtain ⟨hlen, hf⟩ := hcond
    obtain ⟨cd, ecd, ef⟩ := Option.map_eq_some_iff.mp hf
    cases r2 with
    | r hq =>
      rename_i b
      obtain ⟨b', q', dy, fs, k1, k2, k3⟩ := R2.get eL
      rw [hq] at q'; cases q'
      obtain rfl : ov = Value.ref b := rx
      obtain ⟨cl, na⟩ := hc c cd ecd
      have hfl : fs.length < 1000 := by
        have := congrArg List.length k2
        simp only [List.length_map] at this
        omega
      refine setattr_ok I2 k1 cl (na a (List.contains_iff_mem.mp ef)) hfl ry fun s3 I3 => ⟨σ, _, I3, ?_⟩
      have mu : Mut (H2 b) := by rw [k1]; trivial
      have P : Persist H2 (upd H2 b (.ins (Z.ca c) dy (putF (Z.nm a) y fs))) := Persist.write mu
      have xw : Ext io2 H2 io2 (upd H2 b (.ins (Z.ca c) dy (putF (Z.nm a) y fs))) := Ext.write hq mu
      obtain ⟨f1, f2⟩ := put_fld (a := a) (rv.ext xt) k2 k3
      exact p2 io2 σ _ xw (R2.write hq P ⟨dy, _, upd_same, f1, f2.ext xw⟩) (S2.ext xw)
  · exact p2.elim
theorem r_par3 {i j l : Nat} {x y z : Str} {a b c : Expr} {px py pz pt : Pos} {kt k2 pt2} {fs : Env → LH → Res (List VL)} (hc : X.calm = true) (hN : X.N.Nodup) (hi : X.N[i]? = some x) (hj : X.N[j]? = some y) (hl : X.N[l]? = some z) (hij : i ≠ j) (hil : i ≠ l) (hjl : j ≠ l)
    (hx : X.env.scope.names.lookup x = some .local) (hy : X.env.scope.names.lookup y = some .local) (hz : X.env.scope.names.lookup z = some .local) (ha : RA X Z W [a, b, c] fs)
    (hs : swapsWithSole [.Tuple [.Name x px, .Name y py, .Name z pz] kt pt] (.Tuple [a, b, c] k2 pt2) pos.line X.env = pure false)
    (hw : swappedStores [.Tuple [.Name x px, .Name y py, .Name z pz] kt pt] (.Tuple [a, b, c] k2 pt2) X.env = pure (some [x, y, z])) :
    RS X Z W (.Assign [.Tuple [.Name x px, .Name y py, .Name z pz] kt pt] (.Tuple [a, b, c] k2 pt2) pos) (fun ρ L => (fs ρ L).fl ρ fun vs L => match asgTs L [.name i, .name j, .name l] vs ρ with | some ρ' => .next ρ' L | none => .stuck) := by
  refine (ps_par3 hc hN hi hj hl hij hil hjl hx hy hz ha (hs := hs) (hw := hw)).imp fun D σ H h => tR_imp (tRS_e (rel := RVs Z) h) fun vs H1 ⟨io, ρ, v, L, R, S, r, p⟩ => ?_
  cases r with
  | nil => simp [asgTs] at p; exact p.elim
  | cons r1 r =>
    cases r with
    | nil => simp [asgTs, asgT] at p; exact p.elim
    | cons r2 r =>
      cases r with
      | nil => simp [asgTs, asgT] at p; exact p.elim
      | cons r3 r =>
        cases r with
        | cons _ _ => simp [asgTs, asgT] at p; exact p.elim
        | nil =>
          simp only [asgTs, asgT] at p
          exact ⟨_, _, _, rfl, p io _ H1 .refl R (((S.set i r1).set j r2).set l r3)⟩
theorem r_par2 {i j : Nat} {x y : Str} {a b : Expr} {px py pt : Pos} {kt k2 pt2} {fs : Env → LH → Res (List VL)} (hc : X.calm = true) (hN : X.N.Nodup) (hi : X.N[i]? = some x) (hj : X.N[j]? = some y) (hij : i ≠ j)
    (hx : X.env.scope.names.lookup x = some .local) (hy : X.env.scope.names.lookup y = some .local) (ha : RA X Z W [a, b] fs)
    (hs : swapsWithSole [.Tuple [.Name x px, .Name y py] kt pt] (.Tuple [a, b] k2 pt2) pos.line X.env = pure false)
    (hw : swappedStores [.Tuple [.Name x px, .Name y py] kt pt] (.Tuple [a, b] k2 pt2) X.env = pure (some [x, y])) :
    RS X Z W (.Assign [.Tuple [.Name x px, .Name y py] kt pt] (.Tuple [a, b] k2 pt2) pos) (fun ρ L => (fs ρ L).fl ρ fun vs L => match asgTs L [.name i, .name j] vs ρ with | some ρ' => .next ρ' L | none => .stuck) := by
  refine (ps_par hc hN hi hj hij hx hy ha (hs := hs) (hw := hw)).imp fun D σ H h => tR_imp (tRS_e (rel := RVs Z) h) fun vs H1 ⟨io, ρ, v, L, R, S, r, p⟩ => ?_
  cases r with
  | nil => simp [asgTs] at p; exact p.elim
  | cons r1 r =>
    cases r with
    | nil => simp [asgTs, asgT] at p; exact p.elim
    | cons r2 r =>
      cases r with
      | cons _ _ => simp [asgTs, asgT] at p; exact p.elim
      | nil =>
        simp only [asgTs, asgT] at p
        exact ⟨_, _, rfl, p io _ H1 .refl R ((S.set i r1).set j r2)⟩
/-- a, b, .. = x, y, .. by way of a tuple -/
theorem r_parT {ts es : List Expr} {is : List Nat} {kt : Nat} {pt : Pos} {k2 : Nat} {pt2 : Pos} {fs : Env → LH → Res (List VL)} {fa : LH → List VL → Env → Option Env} {n : Nat} (hK : X.K = Z.K) (hc : X.calm = true) (ha : RA X Z W es fs) (hg : PGs X ts (gRs Z is fa)) (hfl : ∀ L vs ρ ρ', fa L vs ρ = some ρ' → vs.length = n) (h16 : n ≤ 1000)
    (hn : (assignEach ts X.env).length = n) (hst : (assignEach ts X.env).findIdx? (·.1) = none) (hs : swapsWithSole [.Tuple ts kt pt] (.Tuple es k2 pt2) pos.line X.env = pure false) (hw : swappedStores [.Tuple ts kt pt] (.Tuple es k2 pt2) X.env = pure none)
    (h1 : (assignEach [.Tuple ts kt pt] X.env).map (·.2) = [assign (.Tuple ts kt pt) X.env]) :
    RS X Z W (.Assign [.Tuple ts kt pt] (.Tuple es k2 pt2) pos) (fun ρ L => (fs ρ L).fl ρ fun vs L => match fa L vs ρ with | some ρ' => .next ρ' L | none => .stuck) := by
  refine (ps_asg (pe_tup ha) (pg_tup hc hg hn hst) hs hw h1).imp fun D σ H h => tR_imp (tRS_e (rel := RVs Z) h) fun vs H1 ⟨io, ρ, v, L, R, S, r, p⟩ => ?_
  split at p
  · rename_i ρ' e
    have hl := hfl _ _ _ _ e
    refine ⟨by rw [← r.length, hl]; exact Nat.le_trans h16 (by decide), fun q hq => ⟨q, vs, rfl, .inl (.inl upd_same), by rw [← r.length, hl], io, ρ, L, v, ρ', R.new hq, S.ext (Ext.new hq), r.ext (Ext.new hq), e, fun σ' S' _ => p io σ' _ (Ext.new hq) (R.new hq) S'⟩⟩
  · exact p.elim
/-- list(range(..)) -/
theorem r_listRg1 {m : Bool} {a : Expr} {p p2 p3 : Pos} {f : Env → LH → Res VL} (hc : X.calm = true) (hg : Gl X "list") (hm : X.mg "list" = none) (hg2 : Gl X "range") (hm2 : X.mg "range" = none) (ha : RE X Z W a f) (na : notStar a = true) :
    RE X Z W (.Call (.Name "list" p) [.Call (.Name "range" p2) [a] [] p3] [] pos) (fun ρ L => (f ρ L).bind fun x L => match x with | .d (.int j) => if small j then mkL m (rangeI 0 j.toNat) L else .stuck | _ => .stuck) := by
  refine (PE.fz (pe_listRg hc hg hm (prg_1 hg2 hm2 ha (star_each na)) rfl)).imp fun σ H Q h => ?_
  obtain ⟨io, ρ, L, R, S, q⟩ := h
  refine ⟨io, ρ, L, R, S, ?_⟩
  cases e : f ρ L with
  | stuck => simp only [e] at q; exact q
  | exn d L' => simp only [e] at q; exact q
  | ok v L' =>
    simp only [e, Res.bind_ok] at q
    intro io2 x H2 xt R2 r
    split at q
    rotate_left
    · exact q.elim
    rename_i j
    split at q
    rotate_left
    · exact q.elim
    rename_i hs
    have hb : -(2 ^ 62) ≤ j ∧ j < 2 ^ 62 := of_decide_eq_true hs
    have hz : (rangeI 0 j.toNat).length ≤ lim := by
      unfold mkL at q
      split at q
      · rename_i hz; exact hz
      · exact q.elim
    have hz' : j.toNat ≤ lim := by simpa [rangeI] using hz
    refine ⟨j, r.int, ⟨by decide, by decide, hb.1, hb.2, ?_⟩, fun p hp => ?_⟩
    · rw [Int.sub_zero]
      exact hz'
    · refine fzL (io := io2) (L := L') (xs := rangeI 0 j.toNat) (Post.ext q xt) R2 hp ?_
      unfold rgV rangeI
      rw [Int.sub_zero]
      exact rvs_pick fun i _ => .d (.int _)
end
end L3
end
section
set_option Elab.async false
set_option linter.all false
set_option maxRecDepth 100000
set_option maxHeartbeats 4000000
/-! MG: the checker: an expression of the program's text is what a core term says. -/
namespace L3
open PySem PySem.Spec PyProof.Rows L2
/-- what a global name is: a def, a class, a constant -/
inductive GM where
  | fn (i : Nat)
  | cls (c : Nat)
  | con (d : D)
structure GE where
  globs : List (Str × GM)
  names : List Str
  /-- calls with keywords that there are: the def, the positional values, the parameters by name -/
  kwt : List (Nat × Nat × List Nat)
  /-- the parameters' names of each def -/
  pnames : List (List Str)
/-- a block: its slots, its scope, the names that are cells of its own -/
structure Bk where
  N : List Str
  sc : Scope
  own : Str → Bool
def mConst : Const → D → Bool
  | .int i, .int j => decide (i = j)
  | .str x, .str s => decide (x = st s) && decide (SOk s)
  | .bool b, .bl c => b == c
  | .none, .non => true
  | _, _ => false
def okNm (x : Str) : Bool := !(x == ("__debug__" : Str)) && !(x == ("__classdict__" : Str)) && !decide (x = ("__name__" : Str))
def mVis (b : Bk) (x : Str) : Bool := match b.sc.names.lookup x with
  | some .local => true
  | some .cell => true
  | some .free => true
  | _ => false
def mGl (b : Bk) (x : Str) : Bool := (match b.sc.names.lookup x with
  | some .globalImplicit => true
  | _ => false) && okNm x
def bltNames : List Str := ["len", "int", "str", "repr", "list", "tuple", "sum", "max", "min", "all", "any", "set", "isinstance", "range", "enumerate", "zip", "bool", "dict", "sorted"]
def bfName : BF → Str
  | .len => "len" | .int => "int" | .str => "str" | .repr => "repr" | .list _ => "list" | .tuple => "tuple" | .sum => "sum" | .min => "min" | .max => "max" | .all => "all" | .any => "any" | .lenset => "len" | .isinst _ => "isinstance" | .sorted _ => "sorted"
def mfName : MF → Str
  | .append => "append" | .extend => "extend" | .pop => "pop" | .sindex => "index" | .lindex => "index" | .join => "join" | .split _ => "split" | .get => "get" | _ => ""
def mfOk : MF → Nat → Bool
  | .append, 1 | .extend, 1 | .pop, 0 | .sindex, 1 | .lindex, 1 | .join, 1 | .split _, 1 | .get, 1 | .get, 2 => true
  | _, _ => false
def bfOk : BF → Bool
  | .lenset | .isinst _ => false
  | _ => true
def tyNm : Ty → Str
  | .int => "int" | .str => "str" | .tuple => "tuple" | .list => "list" | .bool => "bool" | .dict => "dict" | .cls _ => ""
def tyBt : Ty → Bool
  | .cls _ => false
  | _ => true
/-- the block of a comprehension -/
def inner (b : Bk) (scope : Scope) : Bk := ⟨b.N, relS scope b.sc, fun x => scope.names.lookup x == some .cell⟩
def ownS (N : List Str) (own : List Nat) : List (Str × Nat) := own.filterMap fun i => (N[i]?).map fun x => (x, i)
mutual
def tSlots : CT → List Nat
  | .name i => [i]
  | .tup ts => tSlotss ts
def tSlotss : List CT → List Nat
  | [] => []
  | t :: ts => tSlots t ++ tSlotss ts
end
mutual
def mT (b : Bk) : CT → Expr → Bool
  | .name i, .Name x _ => decide (b.N[i]? = some x) && (match b.sc.names.lookup x with
    | some .local => true
    | some .cell => b.own x
    | _ => false)
  | .tup ts, .Tuple es _ _ => mTs b ts es
  | _, _ => false
def mTs (b : Bk) : List CT → List Expr → Bool
  | [], [] => true
  | t :: ts, e :: es => mT b t e && notStar e && mTs b ts es
  | _, _ => false
end
section
variable (g : GE) (T : Tab)
def isFn (x : Str) (f n : Nat) : Bool := (match g.globs.lookup x with
  | some (.fn i) => decide (i = f)
  | _ => false) && (match T.fns[f]? with
  | some d => decide (d.npar = n)
  | none => false)
def isCls (x : Str) (c n : Nat) : Bool := (match g.globs.lookup x with
  | some (.cls i) => decide (i = c)
  | _ => false) && (match T.clss[c]? with
  | some cd => (match T.fns[cd.init]? with
    | some d => decide (d.npar = n)
    | none => false)
  | none => false)
def isBlt (b : Bk) (x y : Str) : Bool := mGl b x && decide (x = y) && bltNames.contains x
def isCon (x : Str) (d : D) : Bool := match g.globs.lookup x with
  | some (.con d') => decide (d = d')
  | _ => false
/-- every class that has the method has it with that many parameters -/
def methN (m n : Nat) : Bool := T.clss.all fun cd => match cd.meths.lookup m with
  | some f => (match T.fns[f]? with
    | some d => decide (d.npar = n)
    | none => false)
  | none => true
/-- every class that has the property has it as a def of one parameter -/
def propN (a : Nat) : Bool := T.clss.all fun cd => match cd.props.lookup a with
  | some f => (match T.fns[f]? with
    | some d => decide (d.npar = 1)
    | none => false)
  | none => true
def kwNames : List Keyword → List (Option Str)
  | [] => []
  | ⟨a, _, _⟩ :: r => a :: kwNames r
mutual
def mE (b : Bk) : CE → Expr → Bool
  | .wall, _ => true
  | .frz a, e => mE b a e
  | .var i, e => (match e with
    | .Name x _ => decide (b.N[i]? = some x) && mVis b x && okNm x
    | _ => false)
  | .lit d, e => (match e with
    | .Constant c _ _ => mConst c d
    | .Name x _ => mGl b x && isCon g x d
    | _ => false)
  | .tup es, e => (match e with
    | .Tuple xs _ _ => mA b es xs
    | _ => false)
  | .lst _ es, e => (match e with
    | .List xs _ => mA b es xs
    | _ => false)
  | .dict _ es, e => (match e with
    | .Dict ks vs _ => if ks.isEmpty then vs.isEmpty && es.isEmpty else mP b es ks vs && decide (ks.length ≤ 15)
    | _ => false)
  | .bin op a c, e => (match e with
    | .BinOp x o y _ => decide (o = opOf op) && mE b a x && mE b c y
    | _ => false)
  | .neg a, e => (match e with
    | .UnaryOp .USub x _ => mE b a x
    | _ => false)
  | .not a, e => (match e with
    | .UnaryOp .Not x _ => mE b a x
    | _ => false)
  | .cmp op a c, e => (match e with
    | .Compare x [o] [y] _ => decide (o = copOf op) && mE b a x && mE b c y && notSet y
    | _ => false)
  | .chain o1 o2 a c d, e => (match e with
    | .Compare x [p1, p2] [y, z] _ => decide (p1 = copOf o1) && decide (p2 = copOf o2) && mE b a x && mE b c y && mE b d z && notSet z
    | _ => false)
  | .and a c, e => (match e with
    | .BoolOp .And [x, y] _ => mE b a x && mE b c y
    | .BoolOp .And (x :: y :: z :: rest) p => mE b a x && mE b c (.BoolOp .And (y :: z :: rest) p)
    | _ => false)
  | .or a c, e => (match e with
    | .BoolOp .Or [x, y] _ => mE b a x && mE b c y
    | .BoolOp .Or (x :: y :: z :: rest) p => mE b a x && mE b c (.BoolOp .Or (y :: z :: rest) p)
    | _ => false)
  | .ite c a d, e => (match e with
    | .IfExp t x y _ => mB b c t && mE b a x && mE b d y
    | _ => false)
  | .call f es, e => (match e with
    | .Call (.Name x _) args [] _ => mGl b x && isFn g T x f args.length && mL b es args && noStars args
    | _ => false)
  | .callK f es ks ws, e => (match e with
    | .Call (.Name x _) args kws _ => mGl b x && isFn g T x f (args.length + kws.length) && mL b es args && noStars args && mK b ws kws && decide (ks.length = kws.length) && kwOk args.length (args.length + kws.length) ks && g.kwt.contains (f, args.length, ks) && decide (ks.map (fun j => (g.pnames.getD f [])[j]?) = kws.map (·.arg))
    | _ => false)
  | .make c es, e => (match e with
    | .Call (.Name x _) args [] _ => mGl b x && isCls g T x c (args.length + 1) && mL b es args && noStars args
    | _ => false)
  | .isinst t a, e => (match e with
    | .Call (.Name x _) [y, .Name ty _] [] _ => isBlt b x "isinstance" && isBlt b ty (tyNm t) && tyBt t && mE b a y && notStar y
    | _ => false)
  | .lenset a, e => (match e with
    | .Call (.Name x _) [.Call (.Name y _) [z] [] _] [] _ => isBlt b x "len" && isBlt b y "set" && mE b a z && notStar z
    | _ => false)
  | .lrange _ a, e => (match e with
    | .Call (.Name x _) [.Call (.Name y _) [z] [] _] [] _ => isBlt b x "list" && isBlt b y "range" && mE b a z && notStar z
    | _ => false)
  | .callB bf es, e => (match e with
    | .Call (.Name x _) (y :: args) [] _ => bfOk bf && isBlt b x (bfName bf) && mL b es (y :: args) && noStars (y :: args)
    | _ => false)
  | .meth m o es, e => (match e with
    | .Call (.Attribute x nm ap) args [] p => decide (nm = mfName m) && mfOk m args.length && mE b o x && mL b es args && noSup x && noStars args && decide (ap.endLine = p.line)
    | _ => false)
  | .umeth m o es, e => (match e with
    | .Call (.Attribute x nm ap) args [] p => decide (g.names[m]? = some nm) && methN T m (args.length + 1) && mE b o x && mL b es args && noSup x && noStars args && decide (args.length < 30) && decide (ap.endLine = p.line)
    | _ => false)
  | .attr a o, e => (match e with
    | .Attribute x nm _ => decide (g.names[a]? = some nm) && propN T a && mE b o x && noSup x
    | _ => false)
  | .idx a i, e => (match e with
    | .Subscript x y _ => plainIx y && mE b a x && mE b i y
    | _ => false)
  | .slc _ a lo hi, e => (match e with
    | .Subscript x (.Slice l u none _) _ => mE b a x && mO b lo l && mO b hi u
    | _ => false)
  | .rev _ a, e => (match e with
    | .Subscript x (.Slice none none (some (.UnaryOp .USub (.Constant (.int 1) _ _) _)) _) _ => mE b a x
    | _ => false)
  | .lc _ own t it c e, x => (match x with
    | .ListComp elt [⟨tg, iter, ifs, 0⟩] scope _ => mI b it tg iter && notSet iter && blkC b.N b.sc scope (ownS b.N own) && decide ((ownS b.N own).map (·.2) = own) && (tSlots t).all own.contains && mT (inner b scope) t tg && mC (inner b scope) c ifs && mE (inner b scope) e elt
    | _ => false)
  | .lc2 _ own t it c own2 t2 it2 c2 e, x => (match x with
    | .ListComp elt [⟨tg, iter, ifs, 0⟩, ⟨tg2, iter2, ifs2, 0⟩] scope _ => mI b it tg iter && notSet iter && blkC b.N b.sc scope (ownS b.N own) && decide ((ownS b.N own).map (·.2) = own) && (tSlots t).all own.contains && mT (inner b scope) t tg && mC (inner b scope) c ifs &&
      own2.all own.contains && (tSlots t2).all own2.contains && mI (inner b scope) it2 tg2 iter2 && notSet iter2 && mT (inner b scope) t2 tg2 && mC (inner b scope) c2 ifs2 && mE (inner b scope) e elt
    | _ => false)
  | .dc _ own t it c k v, x => (match x with
    | .DictComp ke ve [⟨tg, iter, ifs, 0⟩] scope _ => mI b it tg iter && notSet iter && blkC b.N b.sc scope (ownS b.N own) && decide ((ownS b.N own).map (·.2) = own) && (tSlots t).all own.contains && mT (inner b scope) t tg && mC (inner b scope) c ifs && mE (inner b scope) k ke && mE (inner b scope) v ve
    | _ => false)
  | .lof _ _, _ => false
def mB (b : Bk) : CB → Expr → Bool
  | .e a, x => plainTest x && mE b a x
  | .cmp op a c, e => (match e with
    | .Compare x [o] [y] _ => decide (o = copOf op) && mE b a x && mE b c y && notSet y
    | _ => false)
  | .chain o1 o2 a c d, e => (match e with
    | .Compare x [p1, p2] [y, z] _ => decide (p1 = copOf o1) && decide (p2 = copOf o2) && mE b a x && mE b c y && mE b d z && notSet z
    | _ => false)
  | .not a, e => (match e with
    | .UnaryOp .Not x _ => mB b a x
    | _ => false)
  | .and a c, e => (match e with
    | .BoolOp .And [x, y] _ => mB b a x && mB b c y
    | .BoolOp .And (x :: y :: z :: rest) p => mB b a x && mB b c (.BoolOp .And (y :: z :: rest) p)
    | _ => false)
  | .or a c, e => (match e with
    | .BoolOp .Or [x, y] _ => mB b a x && mB b c y
    | .BoolOp .Or (x :: y :: z :: rest) p => mB b a x && mB b c (.BoolOp .Or (y :: z :: rest) p)
    | _ => false)
def mC (b : Bk) : Option CB → List Expr → Bool
  | none, [] => true
  | some c, [x] => mB b c x
  | _, _ => false
def mO (b : Bk) : Option CE → Option Expr → Bool
  | none, none => true
  | some a, some x => mE b a x
  | _, _ => false
def mL (b : Bk) : List CE → List Expr → Bool
  | [], [] => true
  | a :: as, x :: xs => mE b a x && mL b as xs
  | _, _ => false
def mP (b : Bk) : List CE → List (Option Expr) → List Expr → Bool
  | [], [], [] => true
  | k :: v :: r, some x :: xs, y :: ys => mE b k x && mE b v y && mP b r xs ys
  | _, _, _ => false
def mK (b : Bk) : List CE → List Keyword → Bool
  | [], [] => true
  | a :: as, ⟨some _, x, _⟩ :: xs => mE b a x && mK b as xs
  | _, _ => false
def mA (b : Bk) : List CA → List Expr → Bool
  | [], [] => true
  | .one a :: as, x :: xs => notStar x && mE b a x && mA b as xs
  | .star a :: as, .Starred x _ :: xs => mE b a x && mA b as xs
  | _, _ => false
def mI (b : Bk) : CIt → Expr → Expr → Bool
  | .of a, _, x => mE b a x
  | .range1 a, _, e => (match e with
    | .Call (.Name x _) [y] [] _ => isBlt b x "range" && mE b a y && notStar y
    | _ => false)
  | .range2 a c, _, e => (match e with
    | .Call (.Name x _) [y, z] [] _ => isBlt b x "range" && mE b a y && mE b c z && notStar y && notStar z
    | _ => false)
  | .enum a s, tg, e => (match s, tg, e with
    | none, .Tuple _ _ _, .Call (.Name x _) [y] [] _ => isBlt b x "enumerate" && mE b a y && notStar y
    | _, _, _ => false)
  | .zip es, _, e => (match e with
    | .Call (.Name x _) (y :: args) [] _ => isBlt b x "zip" && mL b es (y :: args) && noStars (y :: args) && decide ((y :: args).length ≤ 5)
    | _ => false)
  | .items _, _, _ => false
end
end
end L3
end
section
set_option maxRecDepth 100000
namespace L3
open PySem PySem.Spec PyProof.Rows L2
theorem meth_tree {o : Expr} {m : Str} {apos pos : Pos} {es : List Expr} {env : PySem.Env} (ns : noSup o = true) (nt : noStars es = true) (few : es.length < 30) (hl : (apos.endLine == pos.line) = true) :
    eval (.Call (.Attribute o m apos) es [] pos) env = (do
      let ov ← eval o env
      standAt apos.atName
      let (f, first) ← holding [ov] (getMethod ov m (do return (← importBound o env).getD true))
      callWith pos f first (backTo pos (starEach es env)) (backToKw pos (keywordEach [] env))) := by
  rw [arm_eval_Call, attr_base ns]
  have hf : methodCallForm (es.length + ([] : List Keyword).length) (backTo pos (starEach es env)) (backToKw pos (keywordEach [] env)) = true := by
    unfold methodCallForm
    rw [stars_all pos env es nt]
    simp [backToKw, keywordEach, few]
  have hp : methodCallPos true o env apos pos = pure pos := by unfold methodCallPos; simp [hl]
  unfold methodCall calleeOf
  rw [hf]
  simp only [if_true, hp, pure_bind]
end L3
end
section
set_option Elab.async false
set_option linter.all false
set_option maxRecDepth 100000
set_option maxHeartbeats 4000000
/-! MH: the checker is right. -/
namespace L3
open PySem PySem.Spec PyProof.Rows L2
/-- where the defs stand -/
structure Fns where
  fa : Nat → Addr
  fd : Nat → FuncData
  ps : Nat → List Str
/-- what a context must know: the defs keep the evaluator's word, the names are what the table says -/
structure CtxE (Z : Lk) (g : GE) (T : Tab) (call : Nat → List VL → LH → Res VL) (CX : CXT) (k : Nat) (F : Fns) (X : Cx) (W : WX) : Prop where
  hK : X.K = Z.K
  hw : X.w = Z.w
  calm : X.calm = true
  nd : X.N.Nodup
  gd : X.A.guards = some []
  room : Room (k + 1) X.A
  kind : X.env.scope.kind = .function
  hx : ∀ σ, PassesAt CX X σ (fun c d H' => W c d σ H')
  hx0 : ∀ H s e s', CX X.stack H s (fun _ _ _ => False) e s' → False
  fns : ∀ i d, T.fns[i]? = some d → FnG X.prog X.w X.K X.mg X.base CX k (F.fa i) (F.fd i) (F.ps i) (spL Z (call i) d.npar) ∧ PySem.W.keepIn X.K (.ref (F.fa i)) = true ∧ Binds X.K (F.fd i) (F.ps i) []
  kws : ∀ f m ks, g.kwt.contains (f, m, ks) = true → ∀ d, T.fns[f]? = some d → ∀ (s : Shared) (us ws : List Value) (nms : List Str), X.K.In s.heap → us.length = m → ws.length = ks.length → ks.map (fun j => (F.ps f)[j]?) = nms.map some → BindsTo s (F.fd f) ⟨us, nms.zip ws⟩ ((F.ps f).zip (placeG .none d.npar us ks ws))
  pn : ∀ f d, T.fns[f]? = some d → F.ps f = g.pnames.getD f []
  gfn : ∀ x i, g.globs.lookup x = some (.fn i) → X.mg x = some (.ref (F.fa i))
  gcls : ∀ x c, g.globs.lookup x = some (.cls c) → X.mg x = some (.ref (Z.ca c))
  gcon : ∀ x d, g.globs.lookup x = some (.con d) → ∃ u v, X.mg x = some u ∧ RelV v u ∧ ∀ H, RD Z H d v
  gblt : ∀ x ∈ bltNames, X.mg x = none
  nms : ∀ i x, g.names[i]? = some x → Z.nm i = x
  cls : ∀ c cd, T.clss[c]? = some cd → Cls X.K (Z.ca c) ∧ Mk X.K (Z.ca c) (F.fa cd.init) ∧ (∀ a ∈ cd.flds, NoAttr X.K (Z.ca c) (Z.nm a)) ∧ (∀ m f, cd.meths.lookup m = some f → Meth X.K (Z.ca c) (Z.nm m) (F.fa f)) ∧ ∀ a f, cd.props.lookup a = some f → ∃ p, PropOf X.K (Z.ca c) (Z.nm a) p (F.fa f)
structure Bks (X : Cx) (b : Bk) : Prop where
  N : X.N = b.N
  sc : X.env.scope = b.sc
  own : X.fn = b.own
section
variable {Z : Lk} {g : GE} {T : Tab} {call : Nat → List VL → LH → Res VL} {CX : CXT} {k : Nat} {F : Fns} {X : Cx} {W : WX} {b : Bk}
theorem CtxE.hu (c : CtxE Z g T call CX k F X W) : X.A.units + 66 < cLine := by have := c.room.un; omega
theorem CtxE.blk (c : CtxE Z g T call CX k F X W) {s : Shared} {H : Hp} {scope : Scope} {C : Addr} {cl : List (Str × Addr)} {fp : List Addr} (hk : scope.kind = .function) : CtxE Z g T call CX k F (X.blk s H scope (compEnvC scope cl C X.env) fp) W0 :=
  ⟨c.hK, c.hw, c.calm, c.nd, c.gd, c.room, hk, fun σ pins H s e s' _ h => c.hx0 H s e s' h, c.hx0, c.fns, c.kws, c.pn, c.gfn, c.gcls, c.gcon, c.gblt, c.nms, c.cls⟩
theorem Bks.blk (h : Bks X b) {s : Shared} {H : Hp} {scope : Scope} {C : Addr} {cl : List (Str × Addr)} {fp : List Addr} : Bks (X.blk s H scope (compEnvC scope cl C X.env) fp) (inner b scope) :=
  ⟨h.N, by show relabel scope X.env = relS scope b.sc; rw [← h.sc]; rfl, rfl⟩
theorem mGl_ok (h : Bks X b) {x : Str} (e : mGl b x = true) : Gl X x ∧ (x == ("__debug__" : Str)) = false ∧ x ≠ "__name__" := by
  simp only [mGl, okNm, Bool.and_eq_true, Bool.not_eq_true', decide_eq_false_iff_not] at e
  obtain ⟨e1, ⟨e2, _⟩, e3⟩ := e
  refine ⟨?_, e2, e3⟩
  show X.env.scope.names.lookup x = _
  rw [h.sc]
  split at e1
  · rename_i z; exact z
  · cases e1
theorem isBlt_ok (c : CtxE Z g T call CX k F X W) (h : Bks X b) {x y : Str} (e : isBlt b x y = true) : Gl X x ∧ X.mg x = none ∧ x = y ∧ (x == ("__debug__" : Str)) = false ∧ x ≠ "__name__" := by
  simp only [isBlt, Bool.and_eq_true, decide_eq_true_eq] at e
  obtain ⟨⟨e1, e2⟩, e3⟩ := e
  obtain ⟨g1, g2, g3⟩ := mGl_ok h e1
  exact ⟨g1, c.gblt x (List.contains_iff_mem.mp e3), e2, g2, g3⟩
theorem mVis_ok (h : Bks X b) {x : Str} (e : mVis b x = true) : Vis X.env.scope x := by
  unfold mVis at e
  rw [h.sc]
  split at e
  · rename_i z; exact .inl z
  · rename_i z; exact .inr (.inl z)
  · rename_i z; exact .inr (.inr z)
  · cases e
theorem mConst_ok {cst : Const} {d : D} {j : Nat} {p : Pos} (e : mConst cst d = true) : RE X Z W (.Constant cst j p) (fun _ L => .ok (.d d) L) := by
  unfold mConst at e
  split at e
  · rw [of_decide_eq_true e]; exact r_lit pe_int fun H => .int _
  · simp only [Bool.and_eq_true, decide_eq_true_eq] at e
    obtain ⟨rfl, e2⟩ := e
    exact r_lit pe_str fun H => .str _ e2
  · rw [beq_iff_eq.mp e]; exact r_lit pe_bl fun H => .bl _
  · exact r_lit pe_non fun H => .non
  · cases e
/-! ### targets -/
mutual
theorem tgt_ok (c : CtxE Z g T call CX k F X W) (h : Bks X b) : ∀ (t : CT) (e : Expr), mT b t e = true → PG X e (gR Z (tSlots t) fun L v ρ => asgT L t v ρ)
  | .name i, e, q => by
    cases e with
    | Name x p =>
      simp only [mT, Bool.and_eq_true, decide_eq_true_eq] at q
      obtain ⟨q1, q2⟩ := q
      have hloc : Loc X.env.scope x ∧ (X.fn x = true ∨ X.env.scope.names.lookup x = some .local) := by
        rw [h.sc, h.own]
        split at q2
        · rename_i z; exact ⟨.inl z, .inr z⟩
        · rename_i z; exact ⟨.inr z, .inl q2⟩
        · cases q2
      exact g_name c.nd (by rw [h.N]; exact q1) hloc.1 hloc.2
    | _ => simp [mT] at q
  | .tup ts, e, q => by
    cases e with
    | Tuple es kk p =>
      simp only [mT] at q
      obtain ⟨q1, q2, q3⟩ := tgts_ok c h ts es q
      exact g_tup c.hK c.calm q1 es.length (fun L vs ρ ρ' e => by rw [← mTs_len ts es q]; exact asgTs_len ts e) q2 q3
    | _ => simp [mT] at q
theorem tgts_ok (c : CtxE Z g T call CX k F X W) (h : Bks X b) : ∀ (ts : List CT) (es : List Expr), mTs b ts es = true → PGs X es (gRs Z (tSlotss ts) fun L vs ρ => asgTs L ts vs ρ) ∧ (assignEach es X.env).length = es.length ∧ (assignEach es X.env).findIdx? (·.1) = none
  | [], [], q => ⟨g_nil.imp fun vs σ H Q ⟨io, ρ, L, vv, ρ', R, S, r, e, z⟩ => ⟨io, ρ, L, vv, ρ', R, S, r, by cases vv <;> simp [asgTs] at e ⊢; exact e, z⟩, rfl, rfl⟩
  | [], _ :: _, q => by simp [mTs] at q
  | _ :: _, [], q => by simp [mTs] at q
  | t :: ts, e :: es, q => by
    simp only [mTs, Bool.and_eq_true] at q
    obtain ⟨⟨q1, q2⟩, q3⟩ := q
    obtain ⟨r1, r2, r3⟩ := tgts_ok c h ts es q3
    have he : assignEach (e :: es) X.env = (false, assign e X.env) :: assignEach es X.env := by cases e <;> first | rfl | simp [notStar] at q2
    refine ⟨(g_cons (tgt_ok c h t e q1) r1 (by rw [he]; rfl)).imp fun vs σ H Q ⟨io, ρ, L, vv, ρ', R, S, r, e, z⟩ => ⟨io, ρ, L, vv, ρ', R, S, r, ?_, z⟩, by rw [he]; simp [r2], by rw [he]; simp [List.findIdx?_cons, r3]⟩
    cases vv with
    | nil => simp [asgTs] at e
    | cons v vs =>
      simp only [asgTs] at e
      show (match asgT L t v ρ with | some ρ' => asgTs L ts vs ρ' | none => none) = some ρ'
      cases h1 : asgT L t v ρ with
      | none => rw [h1] at e; cases e
      | some ρ1 => rw [h1] at e; exact e
theorem asgTs_len : ∀ (ts : List CT) {L : LH} {vs : List VL} {ρ ρ' : Env}, asgTs L ts vs ρ = some ρ' → vs.length = ts.length
  | [], L, [], ρ, ρ', e => rfl
  | [], L, _ :: _, ρ, ρ', e => by simp [asgTs] at e
  | _ :: _, L, [], ρ, ρ', e => by simp [asgTs] at e
  | t :: ts, L, v :: vs, ρ, ρ', e => by
    simp only [asgTs] at e
    split at e
    · rw [List.length_cons, List.length_cons, asgTs_len ts e]
    · cases e
theorem mTs_len : ∀ (ts : List CT) (es : List Expr), mTs b ts es = true → ts.length = es.length
  | [], [], _ => rfl
  | [], _ :: _, q => by simp [mTs] at q
  | _ :: _, [], q => by simp [mTs] at q
  | t :: ts, e :: es, q => by
    simp only [mTs, Bool.and_eq_true] at q
    rw [List.length_cons, List.length_cons, mTs_len ts es q.2]
end
theorem evL_len : ∀ (es : List CE) {ρ : Env} {L L' : LH} {xs : List VL}, evL T call ρ es L = .ok xs L' → xs.length = es.length
  | [], ρ, L, L', xs, e => by simp only [evL, Res.ok.injEq] at e; rw [← e.1]; rfl
  | a :: as, ρ, L, L', xs, e => by
    simp only [evL] at e
    cases h1 : evE T call ρ a L with
    | stuck => rw [h1] at e; cases e
    | exn d L1 => rw [h1] at e; cases e
    | ok v L1 =>
      simp only [h1, Res.bind_ok] at e
      cases h2 : evL T call ρ as L1 with
      | stuck => rw [h2] at e; cases e
      | exn d L2 => rw [h2] at e; cases e
      | ok vs L2 =>
        simp only [h2, Res.bind_ok, Res.ok.injEq] at e
        rw [← e.1, List.length_cons, List.length_cons, evL_len as h2]
/-! ### expressions -/
theorem mL_len : ∀ (es : List CE) (xs : List Expr), mL g T b es xs = true → es.length = xs.length
  | [], [], _ => rfl
  | [], _ :: _, q => by simp [mL] at q
  | _ :: _, [], q => by simp [mL] at q
  | a :: as, x :: xs, q => by
    simp only [mL, Bool.and_eq_true] at q
    rw [List.length_cons, List.length_cons, mL_len as xs q.2]
theorem mK_len : ∀ (es : List CE) (xs : List Keyword), mK g T b es xs = true → es.length = xs.length
  | [], [], _ => rfl
  | [], _ :: _, q => by simp [mK] at q
  | _ :: _, [], q => by simp [mK] at q
  | a :: as, ⟨none, x, p⟩ :: xs, q => by simp [mK] at q
  | a :: as, ⟨some n, x, p⟩ :: xs, q => by
    simp only [mK, Bool.and_eq_true] at q
    rw [List.length_cons, List.length_cons, mK_len as xs q.2]
theorem isFn_ok {x : Str} {f n : Nat} (e : isFn g T x f n = true) : g.globs.lookup x = some (.fn f) ∧ ∃ d, T.fns[f]? = some d ∧ d.npar = n := by
  simp only [isFn, Bool.and_eq_true] at e
  obtain ⟨e1, e2⟩ := e
  constructor
  · split at e1
    · rename_i i z; rw [z, of_decide_eq_true e1]
    · cases e1
  · split at e2
    · rename_i d z; exact ⟨d, z, of_decide_eq_true e2⟩
    · cases e2
theorem isCls_ok {x : Str} {c n : Nat} (e : isCls g T x c n = true) : g.globs.lookup x = some (.cls c) ∧ ∃ cd d, T.clss[c]? = some cd ∧ T.fns[cd.init]? = some d ∧ d.npar = n := by
  simp only [isCls, Bool.and_eq_true] at e
  obtain ⟨e1, e2⟩ := e
  constructor
  · split at e1
    · rename_i i z; rw [z, of_decide_eq_true e1]
    · cases e1
  · split at e2
    · rename_i cd z
      split at e2
      · rename_i d z2; exact ⟨cd, d, z, z2, of_decide_eq_true e2⟩
      · cases e2
    · cases e2
theorem isCon_ok {x : Str} {d : D} (e : isCon g x d = true) : g.globs.lookup x = some (.con d) := by
  unfold isCon at e
  split at e
  · rename_i z; rw [of_decide_eq_true e]; exact z
  · cases e
theorem methN_ok {m n c : Nat} {cd : CDef} {f : Nat} (e : methN T m n = true) (hc : T.clss[c]? = some cd) (hf : cd.meths.lookup m = some f) : ∃ d, T.fns[f]? = some d ∧ d.npar = n := by
  have := List.all_eq_true.mp e cd (List.mem_of_getElem? hc)
  rw [hf] at this
  simp only at this
  split at this
  · rename_i d z; exact ⟨d, z, of_decide_eq_true this⟩
  · cases this
theorem propN_ok {a c : Nat} {cd : CDef} {f : Nat} (e : propN T a = true) (hc : T.clss[c]? = some cd) (hf : cd.props.lookup a = some f) : ∃ d, T.fns[f]? = some d ∧ d.npar = 1 := by
  have := List.all_eq_true.mp e cd (List.mem_of_getElem? hc)
  rw [hf] at this
  simp only at this
  split at this
  · rename_i d z; exact ⟨d, z, of_decide_eq_true this⟩
  · cases this
theorem r_tchain {a c d : Expr} {f k' l : Env → LH → Res VL} {pos : Pos} (hK : X.K = Z.K) (hw : X.w = Z.w) (hu : X.A.units + 66 < cLine) {o1 o2 : COp} (ha : RE X Z W a f) (hb : RE X Z W c k') (hc : RE X Z W d l) (hm : lastMarks [copOf o1, copOf o2] [c, d] = false) :
    RT X Z W (.Compare a [copOf o1, copOf o2] [c, d] pos) (fun ρ L => (f ρ L).bind fun x L => (k' ρ L).bind fun y L => (ofOpt (cmpop o1 L x y) L).bind fun t L => if t then (l ρ L).bind fun z L => ofOpt (cmpop o2 L y z) L else .ok false L) := by
  refine (pt_chain (op_cmpA hK hw hu o1) (op_cmpA hK hw hu o2) ha hb hc hm).imp fun σ H Q h => ?_
  refine tR_imp (tR_bind (rel := RVl Z) h) fun x H1 ⟨io, ρ, v, L, R, S, r, q⟩ => ⟨io, ρ, L, R, S, q.bind.imp (fun y H2 ⟨i, w, L', xt, R', r', p'⟩ => ?_) fun _ _ _ z => z⟩
  cases e1 : cmpop o1 L' v w with
  | none => rw [e1] at p'; exact p'.elim
  | some t =>
    rw [e1] at p'
    refine ⟨i, L', v, w, fun _ _ _ => True, R', r.ext xt, r', ?_⟩
    unfold cmpR
    rw [e1]
    intro io2 z H3 xt2 R3 rz
    refine ⟨t, rz.bl, ?_⟩
    have p0 : Post Z REq i H2 (if t then (l ρ L').bind fun z L => ofOpt (cmpop o2 L w z) L else .ok false L') Q (fun c d H' => W c d σ H') := p'
    have p2 := Post.ext p0 xt2
    cases t with
    | false => exact ⟨false, rfl, p2 io2 false H3 .refl R3 rfl⟩
    | true =>
      refine ⟨io2, ρ, L', R3, (S.ext xt).ext xt2, ?_⟩
      have p3 : Post Z REq io2 H3 ((l ρ L').bind fun z L => ofOpt (cmpop o2 L w z) L) Q _ := p2
      refine p3.bind.imp (fun zz H4 ⟨i4, w4, L4, xt4, R4, r4, p4⟩ => ?_) fun _ _ _ z => z
      cases e2 : cmpop o2 L4 w w4 with
      | none => rw [e2] at p4; exact p4.elim
      | some t2 =>
        rw [e2] at p4
        refine ⟨i4, L4, w, w4, fun _ _ _ => True, R4, (r'.ext xt2).ext xt4, r4, ?_⟩
        show Post Z (RVl Z) i4 H4 ((ofOpt (cmpop o2 L4 w w4) L4).bind fun b L => Res.ok (VL.d (D.bl b)) L) _ _
        rw [e2]
        exact fun i5 z5 H5 xt5 R5 r5 => ⟨t2, r5.bl, p4 i5 t2 H5 xt5 R5 rfl⟩
end
end L3
end
section
set_option Elab.async false
set_option linter.all false
set_option maxRecDepth 100000
set_option maxHeartbeats 4000000
/-! MI: the checker is right: expressions. -/
namespace L3
open PySem PySem.Spec PyProof.Rows L2
section
variable {Z : Lk} {g : GE} {T : Tab} {call : Nat → List VL → LH → Res VL} {CX : CXT} {k : Nat} {F : Fns}
theorem fold_no {e : Expr} (h : notSet e = true) (env : PySem.Env) (x : Value) : foldedSetIterable e env x = pure x := by
  unfold foldedSetIterable
  cases e <;> first | rfl | simp [notSet] at h
theorem evL_nil {es : List CE} {args : List Expr} {b : Bk} (h : mL g T b es args = true) (e : args = []) (ρ : Env) (L : LH) : evL T call ρ es L = .ok [] L := by
  subst e
  cases es with
  | nil => rfl
  | cons _ _ => simp [mL] at h
theorem sub_of {t : CT} {own : List Nat} {b : Bk} (h1 : (tSlots t).all own.contains = true) (h2 : (ownS b.N own).map (·.2) = own) : ∀ i ∈ tSlots t, i ∈ (ownS b.N own).map (·.2) := fun i hi => by
  rw [h2]
  exact List.contains_iff_mem.mp (List.all_eq_true.mp h1 i hi)
theorem boot_ty {t : Ty} {s : String} (h : tyStr t = some s) : bootBuiltins (tyNm t) = some (.type s) := by
  cases t <;> simp only [tyStr, Option.some.injEq, reduceCtorEq] at h <;> subst h <;> decide +kernel
theorem kw_names {b : Bk} {ws : List CE} : ∀ {kws : List Keyword} {env : PySem.Env} {pos : Pos}, mK g T b ws kws = true →
    ∃ nms : List Str, (backToKw pos (keywordEach kws env)).filterMap (·.1) = nms ∧ nms.length = kws.length ∧ (backToKw pos (keywordEach kws env)).all (·.1.isSome) = true ∧ (backToKw pos (keywordEach kws env)).any (·.1.isNone) = false ∧ kws.map (·.arg) = nms.map some := by
  intro kws
  induction kws generalizing ws with
  | nil => intro env pos _; exact ⟨[], rfl, rfl, rfl, rfl, rfl⟩
  | cons kw kws ih =>
    intro env pos q
    obtain ⟨a, x, p⟩ := kw
    cases ws with
    | nil => simp [mK] at q
    | cons w ws =>
      cases a with
      | none => simp [mK] at q
      | some a =>
        simp only [mK, Bool.and_eq_true] at q
        obtain ⟨nms, h1, h2, h3, h4, h5⟩ := ih (env := env) (pos := pos) q.2
        refine ⟨a :: nms, ?_, by simp [h2], ?_, ?_, by simp [h5]⟩
        · show (((some a, _) :: backToKw pos (keywordEach kws env)) : List (Option Str × Sem Value)).filterMap (·.1) = _
          simp [h1]
        · show (((some a, _) :: backToKw pos (keywordEach kws env)) : List (Option Str × Sem Value)).all (·.1.isSome) = _
          simp only [List.all_cons, Option.isSome_some, Bool.true_and]; exact h3
        · show (((some a, _) :: backToKw pos (keywordEach kws env)) : List (Option Str × Sem Value)).any (·.1.isNone) = _
          simp only [List.any_cons, Option.isNone_some, Bool.false_or]; exact h4
theorem mTy_str {m : MF} {L : LH} {x : VL} (hm : mTy m L x = (match x with | .d (.str _) => true | _ => false)) (e : mTy m L x = true) : ∃ s, x = .d (.str s) := by
  rw [hm] at e
  split at e
  · exact ⟨_, rfl⟩
  · cases e
/-- the names of the keywords are those of the parameters -/
def kwPs (F : Fns) (f : Nat) (ks : List Nat) (kws : List Keyword) : Prop := ks.map (fun j => (F.ps f)[j]?) = kws.map (·.arg)
mutual
theorem mE_ok : ∀ (a : CE) {X : Cx} {W : WX} {b : Bk} (c : CtxE Z g T call CX k F X W) (h : Bks X b) (e : Expr), mE g T b a e = true → RE X Z W e (fun ρ L => evE T call ρ a L)
  | .wall, X, W, b, c, h, e, q => r_wall e
  | .frz a, X, W, b, c, h, e, q => by
    simp only [mE] at q
    exact r_frz (mE_ok a c h e q)
  | .var i, X, W, b, c, h, e, q => by
    simp only [mE] at q
    split at q
    · simp only [Bool.and_eq_true, decide_eq_true_eq, okNm, Bool.not_eq_true', decide_eq_false_iff_not] at q
      obtain ⟨⟨q1, q2⟩, ⟨q3, q4⟩, _⟩ := q
      exact r_var (by rw [h.N]; exact q1) (mVis_ok h q2) q3 q4
    · cases q
  | .lit d, X, W, b, c, h, e, q => by
    simp only [mE] at q
    split at q
    · exact mConst_ok q
    · simp only [Bool.and_eq_true] at q
      obtain ⟨g1, g2, _⟩ := mGl_ok h q.1
      obtain ⟨u, v, m1, m2, m3⟩ := c.gcon _ _ (isCon_ok q.2)
      exact r_glob g1 m1 m2 m3 g2
    · cases q
  | .tup es, X, W, b, c, h, e, q => by
    simp only [mE] at q
    split at q
    · exact r_tup (mA_ok es c h _ q)
    · cases q
  | .lst m es, X, W, b, c, h, e, q => by
    simp only [mE] at q
    split at q
    · exact r_lst (mA_ok es c h _ q)
    · cases q
  | .dict m es, X, W, b, c, h, e, q => by
    simp only [mE] at q
    split at q
    · rename_i ks vs p
      split at q
      · rename_i hk
        simp only [Bool.and_eq_true, List.isEmpty_iff] at q hk
        obtain ⟨rfl, rfl⟩ := q
        subst hk
        exact r_dict0
      · rename_i hk
        simp only [Bool.and_eq_true, decide_eq_true_eq] at q
        obtain ⟨p1, p2, p3⟩ := mP_ok es c h ks vs p q.1
        exact r_dict c.hK c.hw c.hu p1 p2 p3 (by simpa using hk) q.2
    · cases q
  | .bin op x y, X, W, b, c, h, e, q => by
    simp only [mE] at q
    split at q
    · simp only [Bool.and_eq_true, decide_eq_true_eq] at q
      obtain ⟨⟨rfl, q1⟩, q2⟩ := q
      exact r_op c.hK (mE_ok x c h _ q1) (mE_ok y c h _ q2)
    · cases q
  | .neg x, X, W, b, c, h, e, q => by
    simp only [mE] at q
    split at q
    · exact r_neg (mE_ok x c h _ q)
    · cases q
  | .not x, X, W, b, c, h, e, q => by
    simp only [mE] at q
    split at q
    · exact r_not (mE_ok x c h _ q)
    · cases q
  | .cmp op x y, X, W, b, c, h, e, q => by
    simp only [mE] at q
    split at q
    · simp only [Bool.and_eq_true, decide_eq_true_eq] at q
      obtain ⟨⟨⟨rfl, q1⟩, q2⟩, q3⟩ := q
      exact r_cmp c.hK c.hw c.hu (mE_ok x c h _ q1) (mE_ok y c h _ q2) (behind_no q3)
    · cases q
  | .chain o1 o2 x y z, X, W, b, c, h, e, q => by
    simp only [mE] at q
    split at q
    · simp only [Bool.and_eq_true, decide_eq_true_eq] at q
      obtain ⟨⟨⟨⟨⟨rfl, rfl⟩, q1⟩, q2⟩, q3⟩, q4⟩ := q
      exact r_chain c.hK c.hw c.hu (mE_ok x c h _ q1) (mE_ok y c h _ q2) (mE_ok z c h _ q3) (last_no q4)
    · cases q
  | .and x y, X, W, b, c, h, e, q => by
    simp only [mE] at q
    split at q
    · simp only [Bool.and_eq_true] at q
      exact r_and (mE_ok x c h _ q.1) (r_one (mE_ok y c h _ q.2))
    · simp only [Bool.and_eq_true] at q
      exact r_and (mE_ok x c h _ q.1) (mE_ok y c h _ q.2)
    · cases q
  | .or x y, X, W, b, c, h, e, q => by
    simp only [mE] at q
    split at q
    · simp only [Bool.and_eq_true] at q
      exact r_or (mE_ok x c h _ q.1) (r_one (mE_ok y c h _ q.2))
    · simp only [Bool.and_eq_true] at q
      exact r_or (mE_ok x c h _ q.1) (mE_ok y c h _ q.2)
    · cases q
  | .ite t x y, X, W, b, c, h, e, q => by
    simp only [mE] at q
    split at q
    · simp only [Bool.and_eq_true] at q
      exact r_ite (mB_ok t c h _ q.1.1) (mE_ok x c h _ q.1.2) (mE_ok y c h _ q.2)
    · cases q
  | .call f es, X, W, b, c, h, e, q => by
    simp only [mE] at q
    split at q
    · rename_i x p args pos
      simp only [Bool.and_eq_true] at q
      obtain ⟨⟨⟨q1, q2⟩, q3⟩, q4⟩ := q
      obtain ⟨g1, g2, _⟩ := mGl_ok h q1
      obtain ⟨f1, d, f2, f3⟩ := isFn_ok q2
      obtain ⟨F1, F2, F3⟩ := c.fns f d f2
      have ra := mL_ok es c h args q3 q4
      cases args with
      | nil =>
        have hn := evL_nil (call := call) q3 rfl
        have := r_call0 (W := W) (pos := pos) (p := p) F1 c.gd (c.room.mono (Nat.le_succ _)) g1 (c.gfn _ _ f1) F2 F3 c.hx f3 g2
        refine this.imp fun σ H Q z => ?_
        have e : (fun ρ L => evE T call ρ (.call f es) L) = fun (ρ : Env) L => (Res.ok [] L).bind fun xs L => call f xs L := by
          funext ρ L
          show (evL T call ρ es L).bind _ = _
          rw [hn]
        rw [e] at z; exact z
      | cons y ys => exact r_call F1 c.gd (c.room.mono (Nat.le_succ _)) g1 (c.gfn _ _ f1) F2 F3 c.hx ra (fun ρ L xs L' e => by rw [evL_len es e, mL_len es _ q3, ← f3]) g2 q4
    · cases q
  | .callK f es ks ws, X, W, b, c, h, e, q => by
    simp only [mE] at q
    split at q
    · rename_i x p args kws pos
      simp only [Bool.and_eq_true, decide_eq_true_eq] at q
      obtain ⟨⟨⟨⟨⟨⟨⟨⟨q1, q2⟩, q3⟩, q4⟩, q5⟩, q6⟩, q7⟩, q8⟩, q9⟩ := q
      obtain ⟨g1, g2, _⟩ := mGl_ok h q1
      obtain ⟨f1, d, f2, f3⟩ := isFn_ok q2
      obtain ⟨F1, F2, F3⟩ := c.fns f d f2
      obtain ⟨nms, n1, n2, n3, n4, n5⟩ := kw_names (env := X.env) (pos := pos) q5
      have e9 : ks.map (fun j => (F.ps f)[j]?) = nms.map some := by rw [c.pn f d f2, q9, n5]
      refine r_callK (n := d.npar) (ks := ks) (m := args.length) F1 c.gd (c.room.mono (Nat.le_succ _)) g1 (c.gfn _ _ f1) F2 (fun s us ws hin l1 l2 => ?_) c.hx (mL_ok es c h args q3 q4) (mK_ok ws c h kws q5) (fun ρ L xs L' e => by rw [evL_len es e, mL_len es _ q3]) (fun ρ L xs L' e => by rw [evL_len ws e, mK_len ws _ q5, q6]) (by rw [f3, q6]) (by rw [f3]; exact q7) (fun e ρ L => evL_nil q3 e ρ L) n3 g2 q4 ?_
      · rw [n1]
        exact c.kws f args.length ks q8 d f2 s us ws nms hin l1 l2 e9
      · rw [n4, Bool.or_false]
        exact stars_none pos X.env args q4
    · cases q
  | .make cc es, X, W, b, c, h, e, q => by
    simp only [mE] at q
    split at q
    · rename_i x p args pos
      simp only [Bool.and_eq_true] at q
      obtain ⟨⟨⟨q1, q2⟩, q3⟩, q4⟩ := q
      obtain ⟨g1, g2, _⟩ := mGl_ok h q1
      obtain ⟨f1, cd, d, f2, f3, f4⟩ := isCls_ok q2
      obtain ⟨C1, C2, C3, C4, C5⟩ := c.cls cc cd f2
      obtain ⟨F1, F2, F3⟩ := c.fns cd.init d f3
      exact r_make f2 C2 d.npar F1 f4.symm c.gd c.room g1 (c.gcls _ _ f1) F3 c.hx (mL_ok es c h args q3 q4) (fun ρ L xs L' e => by rw [evL_len es e, mL_len es _ q3]) (fun e ρ L => evL_nil q3 e ρ L) g2 q4
    · cases q
  | .isinst t a, X, W, b, c, h, e, q => by
    simp only [mE] at q
    split at q
    · rename_i x p y ty p2 pos
      simp only [Bool.and_eq_true] at q
      obtain ⟨⟨⟨⟨q1, q2⟩, q3⟩, q4⟩, q5⟩ := q
      obtain ⟨g1, g2, rfl, g4, _⟩ := isBlt_ok c h q1
      obtain ⟨t1, t2, rfl, t4, t5⟩ := isBlt_ok c h q2
      obtain ⟨s, hs⟩ : ∃ s, tyStr t = some s := by cases t <;> first | exact ⟨_, rfl⟩ | simp [tyBt] at q3
      exact r_isinst c.hK g1 g2 t1 t2 (boot_ty hs) hs (mE_ok a c h _ q4) q5 t5 t4
    · cases q
  | .lenset a, X, W, b, c, h, e, q => by
    simp only [mE] at q
    split at q
    · simp only [Bool.and_eq_true] at q
      obtain ⟨⟨⟨q1, q2⟩, q3⟩, q4⟩ := q
      obtain ⟨g1, g2, rfl, _⟩ := isBlt_ok c h q1
      obtain ⟨t1, t2, rfl, _⟩ := isBlt_ok c h q2
      exact r_lenset c.calm g1 g2 t1 t2 (mE_ok a c h _ q3) q4
    · cases q
  | .lrange m a, X, W, b, c, h, e, q => by
    simp only [mE] at q
    split at q
    · simp only [Bool.and_eq_true] at q
      obtain ⟨⟨⟨q1, q2⟩, q3⟩, q4⟩ := q
      obtain ⟨g1, g2, rfl, _⟩ := isBlt_ok c h q1
      obtain ⟨t1, t2, rfl, _⟩ := isBlt_ok c h q2
      exact r_listRg1 c.calm g1 g2 t1 t2 (mE_ok a c h _ q3) q4
    · cases q
  | .callB bf es, X, W, b, c, h, e, q => by
    simp only [mE] at q
    split at q
    · rename_i x p y args pos
      simp only [Bool.and_eq_true] at q
      obtain ⟨⟨⟨q1, q2⟩, q3⟩, q4⟩ := q
      obtain ⟨g1, g2, rfl, g4, g5⟩ := isBlt_ok c h q2
      have ra := mL_ok es c h _ q3 q4
      cases bf with
      | len => exact r_cb (cr_len c.hK) g1 g2 (by decide +kernel) ra g5 g4 q4
      | int => exact r_ct cr_int g1 g2 (by decide +kernel) ra g5 g4 q4
      | str => exact r_ct cr_str g1 g2 (by decide +kernel) ra g5 g4 q4
      | repr => exact r_cb (cr_repr c.hK c.gd c.hu) g1 g2 (by decide +kernel) ra g5 g4 q4
      | list m => exact r_ct (cr_list c.hK m) g1 g2 (by show bootBuiltins "list" = _; decide +kernel) ra g5 g4 q4
      | tuple => exact r_ct (cr_tuple c.hK) g1 g2 (by decide +kernel) ra g5 g4 q4
      | sum => exact r_cb (cr_sumA c.calm) g1 g2 (by decide +kernel) ra g5 g4 q4
      | min => exact r_cb (cr_minA c.calm) g1 g2 (by decide +kernel) ra g5 g4 q4
      | max => exact r_cb (cr_maxA c.calm) g1 g2 (by decide +kernel) ra g5 g4 q4
      | all => exact r_cb (cr_allA c.calm) g1 g2 (by decide +kernel) ra g5 g4 q4
      | any => exact r_cb (cr_anyA c.calm) g1 g2 (by decide +kernel) ra g5 g4 q4
      | sorted m => exact r_cb (cr_sorted c.hK c.hu m) g1 g2 (by show bootBuiltins "sorted" = _; decide +kernel) ra g5 g4 q4
      | lenset => simp [bfOk] at q1
      | isinst t => simp [bfOk] at q1
    · cases q
  | .meth m o es, X, W, b, c, h, e, q => by
    simp only [mE] at q
    split at q
    · rename_i x nm ap args p
      simp only [Bool.and_eq_true, decide_eq_true_eq] at q
      obtain ⟨⟨⟨⟨⟨⟨rfl, q2⟩, q3⟩, q4⟩, q5⟩, q6⟩, q7⟩ := q
      have ro := mE_ok o c h _ q3
      have ra := mL_ok es c h args q4 q6
      have hl : (ap.endLine == p.line) = true := beq_iff_eq.mpr q7
      have one : ∀ {n : Nat}, args.length = n + 1 → n + 1 < 30 → ∃ y ys, args = y :: ys ∧ (y :: ys).length < 30 := fun {n} e hn => by
        cases args with
        | nil => simp at e
        | cons y ys => exact ⟨y, ys, rfl, by omega⟩
      cases m with
      | append =>
        have ha : args.length = 1 := by rcases args with _ | ⟨_, _ | ⟨_, _⟩⟩ <;> first | rfl | simp [mfOk] at q2
        obtain ⟨y, ys, rfl, hl'⟩ := one ha (by decide)
        exact r_meth (ty_list _ fun _ _ => rfl) PySem.F.plainAttrs_list PySem.F.slot_list_append PySem.F.type_list_append mt_appendA ro ra q5 q6 hl' hl
      | extend =>
        have ha : args.length = 1 := by rcases args with _ | ⟨_, _ | ⟨_, _⟩⟩ <;> first | rfl | simp [mfOk] at q2
        obtain ⟨y, ys, rfl, hl'⟩ := one ha (by decide)
        exact r_meth (ty_list _ fun _ _ => rfl) PySem.F.plainAttrs_list PySem.F.slot_list_extend PySem.F.type_list_extend mt_extendA ro ra q5 q6 hl' hl
      | pop =>
        have ha : args = [] := by rcases args with _ | ⟨_, _⟩ <;> first | rfl | simp [mfOk] at q2
        subst ha
        refine (r_meth0 (W := W) (ty_list .pop fun _ _ => rfl) PySem.F.plainAttrs_list PySem.F.slot_list_pop PySem.F.type_list_pop mt_popA ro q5 hl).imp fun σ H Q z => ?_
        have e : (fun ρ L => evE T call ρ (.meth .pop o es) L) = fun ρ L => (evE T call ρ o L).bind fun x L => if mTy .pop L x then (Res.ok [] L).bind fun xs L => mfun .pop x xs L else .stuck := by
          funext ρ L
          show (evE T call ρ o L).bind _ = _
          congr 1
          funext x L
          rw [evL_nil (call := call) q4 rfl]
        rw [e] at z; exact z
      | sindex =>
        have ha : args.length = 1 := by rcases args with _ | ⟨_, _ | ⟨_, _⟩⟩ <;> first | rfl | simp [mfOk] at q2
        obtain ⟨y, ys, rfl, hl'⟩ := one ha (by decide)
        exact r_meth (ty_str _ fun _ _ e => mTy_str rfl e) PySem.F.plainAttrs_str PySem.F.slot_str_index PySem.F.type_str_index mt_sindexA ro ra q5 q6 hl' hl
      | lindex =>
        have ha : args.length = 1 := by rcases args with _ | ⟨_, _ | ⟨_, _⟩⟩ <;> first | rfl | simp [mfOk] at q2
        obtain ⟨y, ys, rfl, hl'⟩ := one ha (by decide)
        exact r_meth (ty_list _ fun _ _ => rfl) PySem.F.plainAttrs_list PySem.F.slot_list_index PySem.F.type_list_index (mt_lindexA c.hK c.hu) ro ra q5 q6 hl' hl
      | join =>
        have ha : args.length = 1 := by rcases args with _ | ⟨_, _ | ⟨_, _⟩⟩ <;> first | rfl | simp [mfOk] at q2
        obtain ⟨y, ys, rfl, hl'⟩ := one ha (by decide)
        exact r_meth (ty_str _ fun _ _ e => mTy_str rfl e) PySem.F.plainAttrs_str PySem.F.slot_str_join PySem.F.type_str_join (mt_joinA c.hK) ro ra q5 q6 hl' hl
      | split mm =>
        have ha : args.length = 1 := by rcases args with _ | ⟨_, _ | ⟨_, _⟩⟩ <;> first | rfl | simp [mfOk] at q2
        obtain ⟨y, ys, rfl, hl'⟩ := one ha (by decide)
        exact r_meth (ty_str _ fun _ _ e => mTy_str rfl e) PySem.F.plainAttrs_str PySem.F.slot_str_split PySem.F.type_str_split (mt_splitA mm) ro ra q5 q6 hl' hl
      | get =>
        have ha : ∃ n, args.length = n + 1 ∧ n + 1 < 30 := by
          rcases args with _ | ⟨_, _ | ⟨_, _ | ⟨_, _⟩⟩⟩
          · simp [mfOk] at q2
          · exact ⟨0, rfl, by decide⟩
          · exact ⟨1, rfl, by decide⟩
          · simp [mfOk] at q2
        obtain ⟨n, hn, hn2⟩ := ha
        obtain ⟨y, ys, rfl, hl'⟩ := one hn hn2
        exact r_meth ty_dict PySem.F.plainAttrs_dict PySem.F.slot_dict_get PySem.F.type_dict_get (mt_getA c.hK c.hw c.hu) ro ra q5 q6 hl' hl
      | upper => simp [mfOk] at q2
      | setdefault => simp [mfOk] at q2
      | update => simp [mfOk] at q2
    · cases q
  | .umeth m o es, X, W, b, c, h, e, q => by
    simp only [mE] at q
    split at q
    · rename_i x nm ap args p
      simp only [Bool.and_eq_true, decide_eq_true_eq] at q
      obtain ⟨⟨⟨⟨⟨⟨⟨q1, q2⟩, q3⟩, q4⟩, q5⟩, q6⟩, q7⟩, q8⟩ := q
      refine r_umeth c.hK c.gd (mE_ok o c h _ q3) (c.nms m nm q1).symm (fun cc cd hcd => ?_) c.hx (mL_ok es c h args q4 q6) (fun ρ L xs L' e => by rw [evL_len es e, mL_len es _ q4]) (fun e ρ L => evL_nil q4 e ρ L) q6 (meth_tree q5 q6 q7 (beq_iff_eq.mpr q8))
      obtain ⟨C1, C2, C3, C4, C5⟩ := c.cls cc cd hcd
      refine ⟨C1, fun f hf => ?_⟩
      obtain ⟨d, d1, d2⟩ := methN_ok q2 hcd hf
      obtain ⟨F1, F2, F3⟩ := c.fns f d d1
      exact ⟨k, d.npar, _, _, _, C4 m f hf, F1, c.room.mono (Nat.le_succ _), F3, d2.symm⟩
    · cases q
  | .attr a o, X, W, b, c, h, e, q => by
    simp only [mE] at q
    split at q
    · rename_i x nm p
      simp only [Bool.and_eq_true, decide_eq_true_eq] at q
      obtain ⟨⟨⟨q1, q2⟩, q3⟩, q4⟩ := q
      refine r_attr c.hK c.gd (mE_ok o c h _ q3) (attr_base q4) (c.nms a nm q1).symm (fun cc cd hcd => ?_) c.hx0
      obtain ⟨C1, C2, C3, C4, C5⟩ := c.cls cc cd hcd
      refine ⟨C1, C3, fun f hf => ?_⟩
      obtain ⟨d, d1, d2⟩ := propN_ok q2 hcd hf
      obtain ⟨F1, F2, F3⟩ := c.fns f d d1
      obtain ⟨pp, hp⟩ := C5 a f hf
      rw [d2] at F1
      exact ⟨k, pp, _, _, _, hp, F1, c.room, F3⟩
    · cases q
  | .idx a i, X, W, b, c, h, e, q => by
    simp only [mE] at q
    split at q
    · simp only [Bool.and_eq_true] at q
      exact r_ix c.hK c.hw c.hu (mE_ok a c h _ q.1.2) (mE_ok i c h _ q.2) (plain_ix q.1.1)
    · cases q
  | .slc m a lo hi, X, W, b, c, h, e, q => by
    simp only [mE] at q
    split at q
    · simp only [Bool.and_eq_true] at q
      exact r_slice c.hK (mE_ok a c h _ q.1.1) (mO_ok lo c h _ q.1.2) (mO_ok hi c h _ q.2)
    · cases q
  | .rev m a, X, W, b, c, h, e, q => by
    simp only [mE] at q
    split at q
    · exact r_rev (mE_ok a c h _ q)
    · cases q
  | .lc m own t it cc e, X, W, b, c, h, x, q => by
    simp only [mE] at q
    split at q
    · rename_i elt tg iter ifs scope pos
      simp only [Bool.and_eq_true, decide_eq_true_eq] at q
      obtain ⟨⟨⟨⟨⟨⟨⟨q1, q2⟩, q3⟩, q4⟩, q5⟩, q6⟩, q7⟩, q8⟩ := q
      have ok : BlkOk X.N X.env.scope scope (ownS b.N own) := by rw [h.N, h.sc]; exact blkOk_by q3
      have r := r_lc (W := W) (m := m) (pos := pos) c.calm c.nd (mI_ok it c h tg iter q1) ok (sub_of q5 q4) (fun s H C cl fp => tgt_ok (c.blk ok.kind) h.blk t tg q6) (fun s H C cl fp => mC_ok cc (c.blk ok.kind) h.blk ifs q7) (fun s H C cl fp => mE_ok e (c.blk ok.kind) h.blk elt q8) (fold_no q2 X.env)
      rw [q4] at r
      exact r
    · cases q
  | .lc2 m own t it cc own2 t2 it2 c2 e, X, W, b, c, h, x, q => by
    simp only [mE] at q
    split at q
    · rename_i elt tg iter ifs tg2 iter2 ifs2 scope pos
      simp only [Bool.and_eq_true, decide_eq_true_eq] at q
      obtain ⟨⟨⟨⟨⟨⟨⟨⟨⟨⟨⟨⟨⟨q1, q2⟩, q3⟩, q4⟩, q5⟩, q6⟩, q7⟩, s1⟩, s2⟩, s3⟩, s4⟩, s5⟩, s6⟩, s7⟩ := q
      have ok : BlkOk X.N X.env.scope scope (ownS b.N own) := by rw [h.N, h.sc]; exact blkOk_by q3
      have r := r_lc2 (W := W) (m := m) (pos := pos) (vs1 := own2) c.calm c.nd (mI_ok it c h tg iter q1) ok (fun i hi => by rw [q4]; exact List.contains_iff_mem.mp (List.all_eq_true.mp s1 i hi)) (sub_of q5 q4) (fun i hi => List.contains_iff_mem.mp (List.all_eq_true.mp s2 i hi)) (fun s H C cl fp => tgt_ok (c.blk ok.kind) h.blk t tg q6) (fun s H C cl fp => mC_ok cc (c.blk ok.kind) h.blk ifs q7)
        (fun s H C cl fp => mI_ok it2 (c.blk ok.kind) h.blk tg2 iter2 s3) (fun s H C cl fp => tgt_ok (c.blk ok.kind) h.blk t2 tg2 s5) (fun s H C cl fp => mC_ok c2 (c.blk ok.kind) h.blk ifs2 s6) (fun s H C cl fp => mE_ok e (c.blk ok.kind) h.blk elt s7) (fold_no q2 X.env) (fun env x => fold_no s4 env x)
      rw [q4] at r
      exact r
    · cases q
  | .dc m own t it cc kk v, X, W, b, c, h, x, q => by
    simp only [mE] at q
    split at q
    · rename_i ke ve tg iter ifs scope pos
      simp only [Bool.and_eq_true, decide_eq_true_eq] at q
      obtain ⟨⟨⟨⟨⟨⟨⟨⟨q1, q2⟩, q3⟩, q4⟩, q5⟩, q6⟩, q7⟩, q8⟩, q9⟩ := q
      have ok : BlkOk X.N X.env.scope scope (ownS b.N own) := by rw [h.N, h.sc]; exact blkOk_by q3
      have r := r_dc (W := W) (m := m) (pos := pos) c.hK c.hw c.hu c.calm c.nd (mI_ok it c h tg iter q1) ok (sub_of q5 q4) (fun s H C cl fp => tgt_ok (c.blk ok.kind) h.blk t tg q6) (fun s H C cl fp => mC_ok cc (c.blk ok.kind) h.blk ifs q7) (fun s H C cl fp => mE_ok kk (c.blk ok.kind) h.blk ke q8) (fun s H C cl fp => mE_ok v (c.blk ok.kind) h.blk ve q9) (fold_no q2 X.env)
      rw [q4] at r
      exact r
    · cases q
  | .lof m it, X, W, b, c, h, e, q => by simp [mE] at q
theorem mB_ok : ∀ (a : CB) {X : Cx} {W : WX} {b : Bk} (c : CtxE Z g T call CX k F X W) (h : Bks X b) (e : Expr), mB g T b a e = true → RT X Z W e (fun ρ L => evB T call ρ a L)
  | .e a, X, W, b, c, h, e, q => by
    simp only [mB, Bool.and_eq_true] at q
    exact r_test (mE_ok a c h e q.2) c.hK (plain_test q.1)
  | .cmp op x y, X, W, b, c, h, e, q => by
    simp only [mB] at q
    split at q
    · simp only [Bool.and_eq_true, decide_eq_true_eq] at q
      obtain ⟨⟨⟨rfl, q1⟩, q2⟩, q3⟩ := q
      exact r_tcmp c.hK c.hw c.hu (mE_ok x c h _ q1) (mE_ok y c h _ q2) (behind_no q3)
    · cases q
  | .chain o1 o2 x y z, X, W, b, c, h, e, q => by
    simp only [mB] at q
    split at q
    · simp only [Bool.and_eq_true, decide_eq_true_eq] at q
      obtain ⟨⟨⟨⟨⟨rfl, rfl⟩, q1⟩, q2⟩, q3⟩, q4⟩ := q
      exact r_tchain c.hK c.hw c.hu (mE_ok x c h _ q1) (mE_ok y c h _ q2) (mE_ok z c h _ q3) (last_no q4)
    · cases q
  | .not x, X, W, b, c, h, e, q => by
    simp only [mB] at q
    split at q
    · exact r_tnot (mB_ok x c h _ q)
    · cases q
  | .and x y, X, W, b, c, h, e, q => by
    simp only [mB] at q
    split at q
    · simp only [Bool.and_eq_true] at q
      exact (r_wand (mB_ok x c h _ q.1) (r_wand1 (mB_ok y c h _ q.2))).pt
    · simp only [Bool.and_eq_true] at q
      exact (r_wand (mB_ok x c h _ q.1) (mW_ok y c h _ _ _ q.2)).pt
    · cases q
  | .or x y, X, W, b, c, h, e, q => by
    simp only [mB] at q
    split at q
    · simp only [Bool.and_eq_true] at q
      exact (r_wor (mB_ok x c h _ q.1) (r_wor1 (mB_ok y c h _ q.2))).pt
    · simp only [Bool.and_eq_true] at q
      exact (r_wor (mB_ok x c h _ q.1) (mW_ok y c h _ _ _ q.2)).pt
    · cases q
theorem mW_ok : ∀ (a : CB) {X : Cx} {W : WX} {b : Bk} (c : CtxE Z g T call CX k F X W) (h : Bks X b) (op : PySem.BoolOp) (xs : List Expr) (p : Pos), mB g T b a (.BoolOp op xs p) = true → RW' X Z W (.BoolOp op xs p) (fun ρ L => evB T call ρ a L)
  | .e a, X, W, b, c, h, op, xs, p, q => by simp [mB, plainTest] at q
  | .cmp _ _ _, X, W, b, c, h, op, xs, p, q => by simp [mB] at q
  | .chain _ _ _ _ _, X, W, b, c, h, op, xs, p, q => by simp [mB] at q
  | .not _, X, W, b, c, h, op, xs, p, q => by simp [mB] at q
  | .and x y, X, W, b, c, h, op, xs, p, q => by
    simp only [mB] at q
    split at q
    · rename_i e1
      cases e1
      simp only [Bool.and_eq_true] at q
      exact r_wand (mB_ok x c h _ q.1) (r_wand1 (mB_ok y c h _ q.2))
    · rename_i e1
      cases e1
      simp only [Bool.and_eq_true] at q
      exact r_wand (mB_ok x c h _ q.1) (mW_ok y c h _ _ _ q.2)
    · cases q
  | .or x y, X, W, b, c, h, op, xs, p, q => by
    simp only [mB] at q
    split at q
    · rename_i e1
      cases e1
      simp only [Bool.and_eq_true] at q
      exact r_wor (mB_ok x c h _ q.1) (r_wor1 (mB_ok y c h _ q.2))
    · rename_i e1
      cases e1
      simp only [Bool.and_eq_true] at q
      exact r_wor (mB_ok x c h _ q.1) (mW_ok y c h _ _ _ q.2)
    · cases q
theorem mC_ok : ∀ (a : Option CB) {X : Cx} {W : WX} {b : Bk} (c : CtxE Z g T call CX k F X W) (h : Bks X b) (es : List Expr), mC g T b a es = true → PTs X es (tR Z W REq (fun ρ L => evC T call ρ a L))
  | none, X, W, b, c, h, [], q => ⟨fun pins s σ H Q I ⟨io, ρ, L, R, S, p⟩ => (pts_nil (X := X)).run pins s σ H Q I (p io true H .refl R rfl)⟩
  | none, X, W, b, c, h, _ :: _, q => by simp [mC] at q
  | some a, X, W, b, c, h, [], q => by simp [mC] at q
  | some a, X, W, b, c, h, [e], q => by
    simp only [mC] at q
    exact pts_one (mB_ok a c h e q)
  | some a, X, W, b, c, h, _ :: _ :: _, q => by simp [mC] at q
theorem mO_ok : ∀ (a : Option CE) {X : Cx} {W : WX} {b : Bk} (c : CtxE Z g T call CX k F X W) (h : Bks X b) (e : Option Expr), mO g T b a e = true → RO' X Z W e (fun ρ L => evO T call ρ a L)
  | none, X, W, b, c, h, none, q => r_noPart
  | none, X, W, b, c, h, some _, q => by simp [mO] at q
  | some a, X, W, b, c, h, none, q => by simp [mO] at q
  | some a, X, W, b, c, h, some e, q => by
    simp only [mO] at q
    exact r_part (mE_ok a c h e q)
theorem mL_ok : ∀ (as : List CE) {X : Cx} {W : WX} {b : Bk} (c : CtxE Z g T call CX k F X W) (h : Bks X b) (es : List Expr), mL g T b as es = true → noStars es = true → RA X Z W es (fun ρ L => evL T call ρ as L)
  | [], X, W, b, c, h, [], q, _ => r_nil
  | [], X, W, b, c, h, _ :: _, q, _ => by simp [mL] at q
  | _ :: _, X, W, b, c, h, [], q, _ => by simp [mL] at q
  | a :: as, X, W, b, c, h, e :: es, q, ns => by
    simp only [mL, Bool.and_eq_true] at q
    have ns' : notStar e = true ∧ noStars es = true := by simpa [noStars] using ns
    exact r_cons (mE_ok a c h e q.1) (mL_ok as c h es q.2 ns'.2) (star_each ns'.1)
theorem mP_ok : ∀ (as : List CE) {X : Cx} {W : WX} {b : Bk} (c : CtxE Z g T call CX k F X W) (h : Bks X b) (ks : List (Option Expr)) (vs : List Expr) (pos : Pos), mP g T b as ks vs = true → RPs X Z W pos ks vs (fun ρ L => evL T call ρ as L) ∧ ks.all (·.isSome) = true ∧ ks.length = vs.length
  | [], X, W, b, c, h, [], [], pos, q => ⟨rp_nil, rfl, rfl⟩
  | [], X, W, b, c, h, _ :: _, _, pos, q => by simp [mP] at q
  | [], X, W, b, c, h, [], _ :: _, pos, q => by simp [mP] at q
  | [_], X, W, b, c, h, _, _, pos, q => by simp [mP] at q
  | k1 :: v1 :: as, X, W, b, c, h, [], _, pos, q => by simp [mP] at q
  | k1 :: v1 :: as, X, W, b, c, h, none :: _, _, pos, q => by simp [mP] at q
  | k1 :: v1 :: as, X, W, b, c, h, some _ :: _, [], pos, q => by simp [mP] at q
  | k1 :: v1 :: as, X, W, b, c, h, some x :: xs, y :: ys, pos, q => by
    simp only [mP, Bool.and_eq_true] at q
    obtain ⟨r1, r2, r3⟩ := mP_ok as c h xs ys pos q.2
    exact ⟨rp_cons (mE_ok k1 c h x q.1.1) (mE_ok v1 c h y q.1.2) r1, by simp [r2], by simp [r3]⟩
theorem mK_ok : ∀ (as : List CE) {X : Cx} {W : WX} {b : Bk} (c : CtxE Z g T call CX k F X W) (h : Bks X b) (kws : List Keyword), mK g T b as kws = true → RKs X Z W kws (fun ρ L => evL T call ρ as L)
  | [], X, W, b, c, h, [], q => rk_nil
  | [], X, W, b, c, h, _ :: _, q => by simp [mK] at q
  | _ :: _, X, W, b, c, h, [], q => by simp [mK] at q
  | a :: as, X, W, b, c, h, ⟨none, x, p⟩ :: kws, q => by simp [mK] at q
  | a :: as, X, W, b, c, h, ⟨some n, x, p⟩ :: kws, q => by
    simp only [mK, Bool.and_eq_true] at q
    exact rk_cons (mE_ok a c h x q.1) (mK_ok as c h kws q.2)
theorem mA_ok : ∀ (as : List CA) {X : Cx} {W : WX} {b : Bk} (c : CtxE Z g T call CX k F X W) (h : Bks X b) (es : List Expr), mA g T b as es = true → RA X Z W es (fun ρ L => evA T call ρ as L)
  | [], X, W, b, c, h, [], q => r_nil
  | [], X, W, b, c, h, _ :: _, q => by simp [mA] at q
  | .one a :: as, X, W, b, c, h, [], q => by simp [mA] at q
  | .star a :: as, X, W, b, c, h, [], q => by simp [mA] at q
  | .one a :: as, X, W, b, c, h, e :: es, q => by
    simp only [mA, Bool.and_eq_true] at q
    exact r_cons (mE_ok a c h e q.1.2) (mA_ok as c h es q.2) (star_each q.1.1)
  | .star a :: as, X, W, b, c, h, e :: es, q => by
    cases e with
    | Starred x p =>
      simp only [mA, Bool.and_eq_true] at q
      exact r_star c.hK (mE_ok a c h x q.1) (mA_ok as c h es q.2) star_star
    | _ => simp [mA] at q
theorem mI_ok : ∀ (a : CIt) {X : Cx} {W : WX} {b : Bk} (c : CtxE Z g T call CX k F X W) (h : Bks X b) (tg e : Expr), mI g T b a tg e = true → RI X Z W tg e (fun ρ L => evI T call ρ a L)
  | .of a, X, W, b, c, h, tg, e, q => by
    simp only [mI] at q
    exact r_of c.hK (mE_ok a c h e q)
  | .range1 a, X, W, b, c, h, tg, e, q => by
    simp only [mI] at q
    split at q
    · simp only [Bool.and_eq_true] at q
      obtain ⟨g1, g2, rfl, _⟩ := isBlt_ok c h q.1.1
      exact r_range1 g1 g2 (mE_ok a c h _ q.1.2) q.2
    · cases q
  | .range2 a a2, X, W, b, c, h, tg, e, q => by
    simp only [mI] at q
    split at q
    · simp only [Bool.and_eq_true] at q
      obtain ⟨⟨⟨⟨q1, q2⟩, q3⟩, q4⟩, q5⟩ := q
      obtain ⟨g1, g2, rfl, _⟩ := isBlt_ok c h q1
      exact r_range2 g1 g2 (mE_ok a c h _ q2) (mE_ok a2 c h _ q3) q4 q5
    · cases q
  | .enum a s, X, W, b, c, h, tg, e, q => by
    simp only [mI] at q
    split at q
    · simp only [Bool.and_eq_true] at q
      obtain ⟨g1, g2, rfl, _⟩ := isBlt_ok c h q.1.1
      refine (r_enum (W := W) c.hK g1 g2 (mE_ok a c h _ q.1.2) q.2).imp fun σ H R z => ?_
      have e : (fun ρ L => evI T call ρ (.enum a none) L) = fun ρ L => (evE T call ρ a L).bind fun x L => match walkOf L x with
          | some w => (match allD w.items with
            | some ds => .ok ⟨enumD 0 ds, w.still⟩ L
            | none => .stuck)
          | none => .stuck := by
        funext ρ L
        simp only [evI, evO, Res.bind_ok, optI]
        congr 1
        funext x L
        cases walkOf L x <;> rfl
      rw [e] at z; exact z
    · cases q
  | .zip es, X, W, b, c, h, tg, e, q => by
    simp only [mI] at q
    split at q
    · rename_i x p y args pos
      simp only [Bool.and_eq_true, decide_eq_true_eq] at q
      obtain ⟨⟨⟨q1, q2⟩, q3⟩, q4⟩ := q
      obtain ⟨g1, g2, rfl, _⟩ := isBlt_ok c h q1
      exact r_zip c.hK g1 g2 (mL_ok es c h _ q2 q3) q3 q4 (fun ρ L xs L' e => by rw [evL_len es e, mL_len es _ q2])
    · cases q
  | .items a, X, W, b, c, h, tg, e, q => by simp [mI] at q
end
end
end L3
end
section
set_option Elab.async false
set_option linter.all false
set_option maxRecDepth 100000
set_option maxHeartbeats 4000000
/-! MJ: the checker is right: statements. -/
namespace L3
open PySem PySem.Spec PyProof.Rows L2
def compSc : Expr → Option Scope
  | .ListComp _ _ s _ | .SetComp _ _ s _ | .DictComp _ _ _ s _ => some s
  | _ => none
/-- a comprehension's value goes to that target by way of the exchanged store -/
def swB (sc : Scope) (value tg : Expr) : Bool := match compSc value, tg with
  | some s, .Name t p => sc.names.lookup t == some .local && p.line == value.pos.line && !(s.names.any fun (n, k) => n == t && (k == .local || k == .cell))
  | _, _ => false
theorem swB_ok {env : PySem.Env} {value tg : Expr} {line : Nat} (hk : env.scope.kind = .function) : swapsWith value (some tg) line env = pure (swB env.scope value tg) := by
  have hb : (env.blockKind == .function) = true := by unfold Env.blockKind; rw [hk]; rfl
  unfold swapsWith swB compSc
  cases value <;> first | rfl | (cases tg <;> first | rfl | (simp only [hb, Bool.true_and]; rfl))
theorem swB_loc {sc : Scope} {v : Expr} {y : Str} {py : Pos} (h : swB sc v (.Name y py) = true) : sc.names.lookup y = some .local := by
  unfold swB at h
  split at h
  · rename_i e1 e2
    cases e2
    simp only [Bool.and_eq_true, beq_iff_eq] at h
    exact h.1.1
  · cases h
def swNames (sc : Scope) (ts : List Expr) : List Str := ts.filterMap fun
    | .Name id pos => if sc.names.lookup id == some .local && pos.line == (ts.head?.map (·.pos.line)).getD 0 then some id else none
    | _ => none
def isStarX : Expr → Bool
  | .Starred .. => true
  | _ => false
def swNone (sc : Scope) (ts vs : List Expr) : Bool := !(ts.length == 2 || ts.length == 3) || vs.length != ts.length || vs.any isStarX || (swNames sc ts).length != ts.length || (swNames sc ts).eraseDups.length != (swNames sc ts).length || vs.all (foldedForSure 8)
theorem swNone_ok {env : PySem.Env} {ts vs : List Expr} {kt k2 : Nat} {pt pt2 : Pos} (h : swNone env.scope ts vs = true) : swappedStores [.Tuple ts kt pt] (.Tuple vs k2 pt2) env = pure none := by
  unfold swappedStores
  unfold swNone at h
  simp only
  by_cases h1 : (!(ts.length == 2 || ts.length == 3) || vs.length != ts.length || env.blockKind != .function) = true
  · rw [if_pos h1]
  rw [if_neg h1]
  show (if vs.any isStarX = true then _ else _) = _
  by_cases h2 : vs.any isStarX = true
  · rw [if_pos h2]
  rw [if_neg h2]
  show (if ((swNames env.scope ts).length != ts.length || (swNames env.scope ts).eraseDups.length != (swNames env.scope ts).length) = true then _ else _) = _
  by_cases h3 : ((swNames env.scope ts).length != ts.length || (swNames env.scope ts).eraseDups.length != (swNames env.scope ts).length) = true
  · rw [if_pos h3]
  rw [if_neg h3]
  by_cases h4 : vs.all (foldedForSure 8) = true
  · rw [if_pos h4]
  · simp only [Bool.or_eq_true] at h h1 h2 h3
    rcases h with ((((h | h) | h) | h) | h) | h
    · exact (h1 (.inl (.inl h))).elim
    · exact (h1 (.inl (.inr h))).elim
    · exact (h2 h).elim
    · exact (h3 (.inl h)).elim
    · exact (h3 (.inr h)).elim
    · exact (h4 h).elim
theorem swSome_ok {env : PySem.Env} {ts vs : List Expr} {kt k2 : Nat} {pt pt2 : Pos} (hk : env.scope.kind = .function) (h : swNone env.scope ts vs = false) (hc : vs.all (constantsAlone 8) = false) : swappedStores [.Tuple ts kt pt] (.Tuple vs k2 pt2) env = pure (some (swNames env.scope ts)) := by
  have hb : (env.blockKind != .function) = false := by unfold Env.blockKind; rw [hk]; rfl
  unfold swNone at h
  simp only [Bool.or_eq_false_iff] at h
  obtain ⟨⟨⟨⟨⟨h1, h2⟩, h3⟩, h4⟩, h5⟩, h6⟩ := h
  unfold swappedStores
  simp only
  rw [if_neg (by rw [hb, h1, h2]; decide)]
  show (if vs.any isStarX = true then _ else _) = _
  rw [if_neg (by rw [h3]; decide)]
  show (if ((swNames env.scope ts).length != ts.length || (swNames env.scope ts).eraseDups.length != (swNames env.scope ts).length) = true then _ else _) = _
  rw [if_neg (by rw [h4, h5]; decide), if_neg (by rw [h6]; decide), if_neg (by rw [hc]; decide)]
  rfl
def noTup : Expr → Bool
  | .Tuple _ _ _ => false
  | _ => true
theorem noTup_ok {env : PySem.Env} {tg v : Expr} (h : (noTup tg || noTup v) = true) (ht : ∀ ts p, tg ≠ .List ts p) : swappedStores [tg] v env = pure none := by
  unfold swappedStores
  cases tg <;> first | rfl | (exfalso; exact ht _ _ rfl) | (cases v <;> first | rfl | simp [noTup] at h)
section
variable (g : GE) (T : Tab)
mutual
def mS (b : Bk) : CS → Stmt → Bool
  | .wall, _ => true
  | .asg t e, s => (match s with
    | .Assign [tg] v pos => (if swB b.sc v tg then (match t, tg, v, e with
      | .name i, .Name y _, .ListComp elt [⟨tg, iter, ifs, 0⟩] scope _, .lc _ own t it c e => decide (b.N[i]? = some y) && (mI g T b it tg iter && notSet iter && blkC b.N b.sc scope (ownS b.N own) && decide ((ownS b.N own).map (·.2) = own) && (tSlots t).all own.contains && mT (inner b scope) t tg && mC g T (inner b scope) c ifs && mE g T (inner b scope) e elt)
      | .name i, .Name y _, .ListComp elt [⟨tg, iter, ifs, 0⟩, ⟨tg2, iter2, ifs2, 0⟩] scope _, .lc2 _ own t it c own2 t2 it2 c2 e => decide (b.N[i]? = some y) && (mI g T b it tg iter && notSet iter && blkC b.N b.sc scope (ownS b.N own) && decide ((ownS b.N own).map (·.2) = own) && (tSlots t).all own.contains && mT (inner b scope) t tg && mC g T (inner b scope) c ifs &&
        own2.all own.contains && (tSlots t2).all own2.contains && mI g T (inner b scope) it2 tg2 iter2 && notSet iter2 && mT (inner b scope) t2 tg2 && mC g T (inner b scope) c2 ifs2 && mE g T (inner b scope) e elt)
      | _, _, _, _ => false) else mT b t tg && mE g T b e v && (noTup tg || noTup v))
    | _ => false)
  | .par is es, s => (match s with
    | .Assign [.Tuple ts _ _] (.Tuple vs _ _) pos => mL g T b es vs && noStars vs && (if swNone b.sc ts vs then mTs b (is.map .name) ts && decide (ts.length ≤ 1000) else !vs.all (constantsAlone 8) && (match is, ts, vs with
      | [i, j], [.Name x _, .Name y _], [_, _] => decide (swNames b.sc ts = [x, y]) && decide (b.N[i]? = some x) && decide (b.N[j]? = some y) && decide (i ≠ j) && b.sc.names.lookup x == some .local && b.sc.names.lookup y == some .local
      | [i, j, l], [.Name x _, .Name y _, .Name z _], [_, _, _] => decide (swNames b.sc ts = [x, y, z]) && decide (b.N[i]? = some x) && decide (b.N[j]? = some y) && decide (b.N[l]? = some z) && decide (i ≠ j) && decide (i ≠ l) && decide (j ≠ l) && b.sc.names.lookup x == some .local && b.sc.names.lookup y == some .local && b.sc.names.lookup z == some .local
      | _, _, _ => false))
    | _ => false)
  | .setI o i e, s => (match s with
    | .Assign [.Subscript x y _] v pos => mE g T b e v && mE g T b o x && mE g T b i y && plainIx y
    | _ => false)
  | .setA o a e, s => (match s with
    | .Assign [.Attribute x nm _] v pos => decide (g.names[a]? = some nm) && mE g T b e v && mE g T b o x
    | _ => false)
  | .aug _ _ _, _ => false
  | .expr e, s => (match s with
    | .Expr v _ => (compSc v).isNone && mE g T b e v
    | _ => false)
  | .ret e, s => (match s with
    | .Return (some v) _ => mE g T b e v
    | _ => false)
  | .ite c x y, s => (match s with
    | .If t ss ts _ => mB g T b c t && mSs b x ss && mSs b y ts
    | _ => false)
  | .whil c x, s => (match s with
    | .While t ss [] _ => mB g T b c t && mSs b x ss
    | _ => false)
  | .forr t it x, s => (match s with
    | .For tg iter ss [] _ => mI g T b it tg iter && notSet iter && mT b t tg && mSs b x ss
    | _ => false)
  | .brk, s => (match s with
    | .Break _ => true
    | _ => false)
  | .cont, s => (match s with
    | .Continue _ => true
    | _ => false)
  | .pass, s => (match s with
    | .Pass _ => true
    | _ => false)
  | .raise _ _, _ => false
  | .tryE _ _, _ => false
def mSs (b : Bk) : List CS → List Stmt → Bool
  | [], [] => true
  | c :: cs, s :: ss => mS b c s && mSs b cs ss
  | _, _ => false
end
end
section
variable {Z : Lk} {g : GE} {T : Tab} {call : Nat → List VL → LH → Res VL} {CX : CXT} {k : Nat} {F : Fns} {X : Cx} {W : WX} {b : Bk}
theorem mT_one {t : CT} {tg : Expr} {env : PySem.Env} (h : mT b t tg = true) : (assignEach [tg] env).map (·.2) = [assign tg env] ∧ ∀ ts p, tg ≠ .List ts p := by
  cases t <;> cases tg <;> first | (simp [mT] at h; done) | (constructor; rfl; intro _ _ e; cases e)
theorem mTs_name : ∀ {is : List Nat} {ts : List Expr}, mTs b (is.map .name) ts = true → tSlotss (is.map .name) = is
  | [], _, _ => rfl
  | i :: is, [], h => by simp [mTs] at h
  | i :: is, t :: ts, h => by
    simp only [List.map_cons, mTs, Bool.and_eq_true] at h
    show [i] ++ tSlotss (is.map .name) = _
    rw [mTs_name h.2]; rfl
mutual
theorem mS_ok (hp : PassesOwn (model X.prog X.w) X.A X.env X.xe) (c : CtxE Z g T call CX k F X W) (h : Bks X b) : ∀ (a : CS) (s : Stmt), mS g T b a s = true → RS X Z W s (fun ρ L => evS T call a ρ L)
  | .wall, s, q => s_wall s
  | .asg t e, s, q => by
    simp only [mS] at q
    split at q
    · rename_i tg v pos
      split at q
      · rename_i hsw
        split at q
        · rename_i i y py elt tg iter ifs scope p m own t it cc e
          simp only [Bool.and_eq_true, decide_eq_true_eq] at q
          obtain ⟨q0, ⟨⟨⟨⟨⟨⟨q1, q2⟩, q3⟩, q4⟩, q5⟩, q6⟩, q7⟩, q8⟩ := q
          have ok : BlkOk X.N X.env.scope scope (ownS b.N own) := by rw [h.N, h.sc]; exact blkOk_by q3
          have hsw2 : swapsWith (.ListComp elt [⟨tg, iter, ifs, 0⟩] scope p) (some (.Name y py)) pos.line X.env = pure true := by rw [swB_ok c.kind, h.sc, hsw]
          have r := r_setLc (W := W) (m := m) c.calm c.nd (by rw [h.N]; exact q0) (swB_loc (by rw [h.sc]; exact hsw)) hsw2 (mI_ok it c h tg iter q1) ok (sub_of q5 q4) (fun s H C cl fp => tgt_ok (c.blk ok.kind) h.blk t tg q6) (fun s H C cl fp => mC_ok cc (c.blk ok.kind) h.blk ifs q7) (fun s H C cl fp => mE_ok e (c.blk ok.kind) h.blk elt q8) (fold_no q2 X.env)
          rw [q4] at r
          exact r
        · rename_i i y py elt tg iter ifs tg2 iter2 ifs2 scope p m own t it cc own2 t2 it2 c2 e
          simp only [Bool.and_eq_true, decide_eq_true_eq] at q
          obtain ⟨q0, ⟨⟨⟨⟨⟨⟨⟨⟨⟨⟨⟨⟨q1, q2⟩, q3⟩, q4⟩, q5⟩, q6⟩, q7⟩, s1⟩, s2⟩, s3⟩, s4⟩, s5⟩, s6⟩, s7⟩ := q
          have ok : BlkOk X.N X.env.scope scope (ownS b.N own) := by rw [h.N, h.sc]; exact blkOk_by q3
          have hsw2 : swapsWith (.ListComp elt [⟨tg, iter, ifs, 0⟩, ⟨tg2, iter2, ifs2, 0⟩] scope p) (some (.Name y py)) pos.line X.env = pure true := by rw [swB_ok c.kind, h.sc, hsw]
          have r := r_setLc2 (W := W) (m := m) (vs1 := own2) c.calm c.nd (by rw [h.N]; exact q0) (swB_loc (by rw [h.sc]; exact hsw)) hsw2 (mI_ok it c h tg iter q1) ok (fun i hi => by rw [q4]; exact List.contains_iff_mem.mp (List.all_eq_true.mp s1 i hi)) (sub_of q5 q4) (fun i hi => List.contains_iff_mem.mp (List.all_eq_true.mp s2 i hi)) (fun s H C cl fp => tgt_ok (c.blk ok.kind) h.blk t tg q6) (fun s H C cl fp => mC_ok cc (c.blk ok.kind) h.blk ifs q7)
            (fun s H C cl fp => mI_ok it2 (c.blk ok.kind) h.blk tg2 iter2 s3) (fun s H C cl fp => tgt_ok (c.blk ok.kind) h.blk t2 tg2 s5) (fun s H C cl fp => mC_ok c2 (c.blk ok.kind) h.blk ifs2 s6) (fun s H C cl fp => mE_ok e (c.blk ok.kind) h.blk elt s7) (fold_no q2 X.env) (fun env x => fold_no s4 env x)
          rw [q4] at r
          exact r
        · cases q
      · rename_i hsw
        simp only [Bool.and_eq_true] at q
        obtain ⟨⟨q1, q2⟩, q3⟩ := q
        obtain ⟨e1, e2⟩ := mT_one (env := X.env) q1
        have hs : swapsWithSole [tg] v pos.line X.env = pure false := by
          show swapsWith v (some tg) pos.line X.env = pure false
          rw [swB_ok c.kind, h.sc, Bool.eq_false_iff.mpr hsw]
        exact r_asg (mE_ok e c h v q2) (tgt_ok c h t tg q1) hs (noTup_ok q3 e2) e1
    · cases q
  | .par is es, s, q => by
    simp only [mS] at q
    split at q
    · rename_i ts kt pt vs k2 pt2 pos
      simp only [Bool.and_eq_true] at q
      obtain ⟨⟨q1, q2⟩, q3⟩ := q
      have hs : swapsWithSole [.Tuple ts kt pt] (.Tuple vs k2 pt2) pos.line X.env = pure false := rfl
      split at q3
      · rename_i hn
        simp only [Bool.and_eq_true, decide_eq_true_eq] at q3
        obtain ⟨q4, q5⟩ := q3
        obtain ⟨t1, t2, t3⟩ := tgts_ok c h _ ts q4
        exact r_parT c.hK c.calm (mL_ok es c h vs q1 q2) t1 (fun L vs ρ ρ' e => by rw [← mTs_len (b := b) (W := W) (X := X) (F := F) (k := k) (CX := CX) (call := call) (T := T) (g := g) (Z := Z) _ ts q4]; exact asgTs_len (b := b) (W := W) (X := X) (F := F) (k := k) (CX := CX) (call := call) (T := T) (g := g) (Z := Z) _ e) q5 t2 t3 hs (swNone_ok (by rw [h.sc]; exact hn)) rfl
      · rename_i hn
        simp only [Bool.and_eq_true, Bool.not_eq_true'] at q3
        obtain ⟨q4, q5⟩ := q3
        have hw := swSome_ok (kt := kt) (k2 := k2) (pt := pt) (pt2 := pt2) c.kind (by rw [h.sc]; exact Bool.eq_false_iff.mpr hn) q4
        rw [h.sc] at hw
        split at q5
        · simp only [Bool.and_eq_true, decide_eq_true_eq, beq_iff_eq] at q5
          obtain ⟨⟨⟨⟨⟨n0, n1⟩, n2⟩, n3⟩, n4⟩, n5⟩ := q5
          rw [n0] at hw
          exact r_par2 c.calm c.nd (by rw [h.N]; exact n1) (by rw [h.N]; exact n2) n3 (by rw [h.sc]; exact n4) (by rw [h.sc]; exact n5) (mL_ok es c h _ q1 q2) hs hw
        · simp only [Bool.and_eq_true, decide_eq_true_eq, beq_iff_eq] at q5
          obtain ⟨⟨⟨⟨⟨⟨⟨⟨⟨n0, n1⟩, n2⟩, n3⟩, n4⟩, n5⟩, n6⟩, n7⟩, n8⟩, n9⟩ := q5
          rw [n0] at hw
          exact r_par3 c.calm c.nd (by rw [h.N]; exact n1) (by rw [h.N]; exact n2) (by rw [h.N]; exact n3) n4 n5 n6 (by rw [h.sc]; exact n7) (by rw [h.sc]; exact n8) (by rw [h.sc]; exact n9) (mL_ok es c h _ q1 q2) hs hw
        · cases q5
    · cases q
  | .setI o i e, s, q => by
    simp only [mS] at q
    split at q
    · rename_i x y p' v pos
      simp only [Bool.and_eq_true] at q
      obtain ⟨⟨⟨q1, q2⟩, q3⟩, q4⟩ := q
      refine r_setI c.hK c.hw c.hu (mE_ok e c h v q1) (mE_ok o c h x q2) (mE_ok i c h y q3) q4 ?_ (noTup_ok rfl fun _ _ e => by cases e) ?_
      · show swapsWith v (some (.Subscript x y p')) pos.line X.env = pure false
        rw [swB_ok c.kind]
        unfold swB
        split
        · rename_i hh; cases hh
        · rfl
      · intro v
        cases y <;> first | rfl | (rename_i lo up st pp; cases st <;> first | rfl | simp [plainIx] at q4)
    · cases q
  | .setA o a e, s, q => by
    simp only [mS] at q
    split at q
    · rename_i x nm p' v pos
      simp only [Bool.and_eq_true, decide_eq_true_eq] at q
      obtain ⟨⟨q1, q2⟩, q3⟩ := q
      refine r_setA (c.nms a nm q1).symm (mE_ok e c h v q2) (mE_ok o c h x q3) ?_ fun cc cd hcd => ⟨(c.cls cc cd hcd).1, (c.cls cc cd hcd).2.2.1⟩
      rw [swB_ok c.kind]
      unfold swB
      split
      · rename_i hh; cases hh
      · rfl
    · cases q
  | .aug _ _ _, s, q => by simp [mS] at q
  | .expr e, s, q => by
    simp only [mS] at q
    split at q
    · rename_i v pos
      simp only [Bool.and_eq_true] at q
      refine r_expr (mE_ok e c h v q.2) ?_
      have q1 := q.1
      unfold swapsWith
      cases v <;> first | rfl | (simp [compSc] at q1)
    · cases q
  | .ret e, s, q => by
    simp only [mS] at q
    split at q
    · exact r_ret (mE_ok e c h _ q)
    · cases q
  | .ite t x y, s, q => by
    simp only [mS] at q
    split at q
    · simp only [Bool.and_eq_true] at q
      exact r_if (mB_ok t c h _ q.1.1) (mSs_ok hp c h x _ q.1.2) (mSs_ok hp c h y _ q.2)
    · cases q
  | .whil t x, s, q => by
    simp only [mS] at q
    split at q
    · simp only [Bool.and_eq_true] at q
      exact r_while hp (mB_ok t c h _ q.1) (mSs_ok hp c h x _ q.2) T.fuel
    · cases q
  | .forr t it x, s, q => by
    simp only [mS] at q
    split at q
    · simp only [Bool.and_eq_true] at q
      exact r_for hp c.calm (mI_ok it c h _ _ q.1.1.1) (tgt_ok c h t _ q.1.2) (mSs_ok hp c h x _ q.2) (fold_no q.1.1.2 _)
    · cases q
  | .brk, s, q => by
    simp only [mS] at q
    split at q
    · exact r_brk
    · cases q
  | .cont, s, q => by
    simp only [mS] at q
    split at q
    · exact r_cont
    · cases q
  | .pass, s, q => by
    simp only [mS] at q
    split at q
    · exact r_pass
    · cases q
  | .raise _ _, s, q => by simp [mS] at q
  | .tryE _ _, s, q => by simp [mS] at q
theorem mSs_ok (hp : PassesOwn (model X.prog X.w) X.A X.env X.xe) (c : CtxE Z g T call CX k F X W) (h : Bks X b) : ∀ (as : List CS) (ss : List Stmt), mSs g T b as ss = true → RSs X Z W ss (fun ρ L => evSs T call as ρ L)
  | [], [], _ => r_snil
  | [], _ :: _, q => by simp [mSs] at q
  | _ :: _, [], q => by simp [mSs] at q
  | a :: as, s :: ss, q => by
    simp only [mSs, Bool.and_eq_true] at q
    exact r_scons (mS_ok hp c h a s q.1) (mSs_ok hp c h as ss q.2)
end
end
end L3
end
section
set_option Elab.async false
set_option linter.all false
set_option maxRecDepth 100000
set_option maxHeartbeats 4000000
/-! MK: every def of the table keeps the evaluator's word. -/
namespace L3
open PySem PySem.Spec PyProof.Rows L2
/-- a def of the table is a def of the program's text -/
structure DefOk (Z : Lk) (g : GE) (T : Tab) (f : Addr) (fd : FuncData) (ps : List Str) (d : FDef) : Prop where
  ex : ∃ (x qual : Str) (st : Stmt) (N : List Str), Fun Z.K x qual st f fd ∧ FnScope N ps (defScope st) ∧ mSs g T ⟨N, defScope st, fun _ => true⟩ d.body (defBody st) = true ∧ d.nslots = N.length
  np : d.npar = ps.length
  bd : Binds Z.K fd ps []
/-- what stands behind the top -/
structure Stat (Z : Lk) (g : GE) (T : Tab) (F : Fns) (mg : Str → Option Value) : Prop where
  defs : ∀ i d, T.fns[i]? = some d → DefOk Z g T (F.fa i) (F.fd i) (F.ps i) d
  kws : ∀ f m ks, g.kwt.contains (f, m, ks) = true → ∀ d, T.fns[f]? = some d → ∀ (s : Shared) (us ws : List Value) (nms : List Str), Z.K.In s.heap → us.length = m → ws.length = ks.length → ks.map (fun j => (F.ps f)[j]?) = nms.map some → BindsTo s (F.fd f) ⟨us, nms.zip ws⟩ ((F.ps f).zip (placeG .none d.npar us ks ws))
  pn : ∀ f d, T.fns[f]? = some d → F.ps f = g.pnames.getD f []
  gfn : ∀ x i, g.globs.lookup x = some (.fn i) → mg x = some (.ref (F.fa i))
  gcls : ∀ x c, g.globs.lookup x = some (.cls c) → mg x = some (.ref (Z.ca c))
  gcon : ∀ x d, g.globs.lookup x = some (.con d) → ∃ u v, mg x = some u ∧ RelV v u ∧ ∀ H, RD Z H d v
  gblt : ∀ x ∈ bltNames, mg x = none
  nms : ∀ i x, g.names[i]? = some x → Z.nm i = x
  cls : ∀ c cd, T.clss[c]? = some cd → Cls Z.K (Z.ca c) ∧ Mk Z.K (Z.ca c) (F.fa cd.init) ∧ (∀ a ∈ cd.flds, NoAttr Z.K (Z.ca c) (Z.nm a)) ∧ (∀ m f, cd.meths.lookup m = some f → Meth Z.K (Z.ca c) (Z.nm m) (F.fa f)) ∧ ∀ a f, cd.props.lookup a = some f → ∃ p, PropOf Z.K (Z.ca c) (Z.nm a) p (F.fa f)
section
variable {P : Program} {Z : Lk} {g : GE} {T : Tab} {F : Fns} {mg : Str → Option Value} {base : Heap}
theorem all_ok (S : Stat Z g T F mg) : ∀ (k i : Nat) (d : FDef), T.fns[i]? = some d → FnG P Z.w Z.K mg base CX0 (2 * k) (F.fa i) (F.fd i) (F.ps i) (spL Z (callN T k i) d.npar) := by
  intro k
  induction k with
  | zero =>
    intro i d hd
    have D := S.defs i d hd
    refine ⟨fun vs H Q E h => by rw [h.1, D.np], fun A outer s H args us vs Q E _ _ _ _ _ h => ?_⟩
    obtain ⟨_, _, _, _, _, _, p⟩ := h
    exact p.elim
  | succ k ih =>
    intro i d hd
    have D := S.defs i d hd
    obtain ⟨x, qual, st, N, Fu, Sc, hm, hn⟩ := D.ex
    obtain ⟨oc, od, kV, doc, pm, an, cdv, ct, osl, efd, lk, hcd⟩ := Fu.ex
    rw [efd] at lk ⊢
    show FnG P Z.w Z.K mg base CX0 (2 * k + 1 + 1) _ _ _ _
    refine fn_ofG lk hcd Sc (fun vs H Q E h => by rw [h.1, D.np]) fun A outer s H vs Q E hg hr hsp => ?_
    have c : CtxE Z g T (callN T k) CX0 (2 * k) F (cxOf CX0 P Z.w Z.K mg base N qual (defScope st) (F.fa i) cdv A outer s H E) (fun c dd _ H' => E c dd H') :=
      ⟨rfl, rfl, rfl, Sc.nd, hg, hr, Sc.kind, fun _ _ _ _ _ _ _ h => h.elim, fun _ _ _ _ h => h, fun j e hj => ⟨ih j e hj, let ⟨_, _, _, _, F1, _⟩ := (S.defs j e hj).ex; F1.kp, (S.defs j e hj).bd⟩, S.kws, S.pn, S.gfn, S.gcls, S.gcon, S.gblt, S.nms, S.cls⟩
    exact ⟨_, mSs_ok PassesOwn.leaving c ⟨rfl, rfl, rfl⟩ d.body _ hm, body_sp hd hn hsp⟩
end
end L3
end
section
set_option Elab.async false
set_option linter.all false
set_option maxRecDepth 100000
set_option maxHeartbeats 4000000
/-! ML: the end: the law's def keeps the evaluator's word, so the row's walk stands. -/
namespace L3
open PySem PySem.Spec PyProof.Rows L2
/-- the abstract heap at the start: the script alone, if it is no object of the module -/
def H00 (K : PySem.W.Frag) (a : Addr) (o : Obj) (xs : List V) : Hp := fun b => if b = a ∧ (K.lookup a).isNone = true then some (.frz o (.lst xs)) else none
section
variable {K : PySem.W.Frag} {a : Addr} {o : Obj} {xs : List V}
theorem H00.only {b : Addr} {u : HO} (h : H00 K a o xs b = some u) : b = a ∧ K.lookup a = none ∧ u = .frz o (.lst xs) := by
  unfold H00 at h
  split at h
  · rename_i c
    refine ⟨c.1, ?_, (Option.some.inj h).symm⟩
    cases e : K.lookup a with
    | none => rfl
    | some z => rw [e] at c; exact absurd c.2 (by simp)
  · cases h
theorem H00.ne {b : Addr} (h : b ≠ a) : H00 K a o xs b = none := if_neg fun c => h c.1
theorem H00.own {b : Addr} {z : Obj} (h : K.lookup b = some z) : H00 K a o xs b = none := by
  cases e : H00 K a o xs b with
  | none => rfl
  | some u =>
    obtain ⟨rfl, n, _⟩ := H00.only e
    rw [h] at n; cases n
theorem ints_rds {Z : Lk} {H : Hp} : ∀ ns : List Int, RDs Z H (ns.map .int) (ns.map V.int)
  | [] => .nil
  | n :: ns => .cons (.int n) (ints_rds ns)
end
/-- the law is called -/
theorem law_call0 {P : Program} {Z : Lk} {mg mb : Str → Option Value} {k : Nat} {fa a : Addr} {fd : FuncData} {x : Str} {call : List VL → LH → Res VL} {s₁ : Shared} {vs : List Value} {ns : List Int} {L : LH}
    (KX : Z.K.In s₁.heap) (hns : s₁.heap.Ns mainGlobals mg) (hb : s₁.heap.Ns builtinsNs mb) (hbb : ∀ x : Str, x ≠ "__name__" → mb x = bootBuiltins x) (hlim : s₁.heap.NoLimit) (hg : s₁.gens = #[])
    (ha : s₁.heap.get? a = some { cls := .type "list", data := .seq vs.toArray }) (hi : IntsAre vs ns) (hl : ns.length ≤ sizeLine) (hr : Room k callerA)
    (F : ∀ base : Heap, FnG P Z.w Z.K mg base CX0 k fa fd [x] (spL Z call 1)) (hbind : ∀ (s : Shared) (u : Value), BindsTo s fd ⟨[u], []⟩ [(x, u)])
    (law : call [.d (.scr (ns.map .int))] [] = .ok (.d (.bl true)) L) :
    codeAny (model P Z.w) callerA (.call (.ref fa) ⟨[.ref a], []⟩) (fun r s' => r = .ok (.ret (.bool true)) ∧ OldK s₁.heap s'.heap ∧ s'.os = s₁.os ∧ AllBare s'.gens) s₁ := by
  have len := hi.length
  let H : Hp := H00 Z.K a { cls := .type "list", data := .seq vs.toArray } (ns.map V.int)
  have good : HOk P Z.w H s₁.heap := fun b u e => by
    obtain ⟨rfl, _, rfl⟩ := H00.only e
    exact ⟨ha, by rw [List.length_map]; exact hl, vs, _, vals_ints hi, ha⟩
  have keepD : ∀ {b : Addr} {z : Obj} {es : Array DictEntry} {ep : Nat}, s₁.heap.get? b = some z → z.data = .dict es ep → H b = none := by
    intro b z es ep e1 e2
    refine H00.ne fun q => ?_
    subst q
    have e3 := ha.symm.trans e1
    cases e3
    simp at e2
  have spaces : ∀ {b : Addr} {m : Str → Option Value}, s₁.heap.Ns b m → (hidT s₁.heap H).Ns b m := by
    intro b m h
    obtain ⟨z, es, ep, e1, e2, e3⟩ := h
    exact ⟨z, es, ep, hidT_get e1 (keepD e1 e2), e2, e3⟩
  have inK : Z.K.In (hidT s₁.heap H) := fun b z e => hidT_get (KX b z e) (H00.own e)
  obtain ⟨mc, lim1, lim2⟩ := hlim
  have env : Env0 P Z.w Z.K mg (hidT s₁.heap H) callerA [] s₁ H := by
    refine ⟨rfl, ⟨inK, spaces hns, ⟨mb, spaces hb, hbb⟩, ⟨mc, spaces lim1, lim2⟩⟩, fun b z e => of_hidT e, ?_, trivial, fun b q => ?_, good, .of_eq hg⟩
    · rw [hidT_size]; exact Nat.le_refl _
    · cases q
  have sq : LK Z.K H a (ns.map V.int) := by
    cases e : Z.K.lookup a with
    | none => exact .inl ⟨_, if_pos ⟨rfl, by rw [e]; rfl⟩⟩
    | some z =>
      have e1 := ha.symm.trans (KX a z e)
      cases e1
      exact .inr ⟨_, vs.toArray, _, e, rfl, rfl, rfl, by rw [List.size_toArray, len]; exact hl, by simpa using vals_ints hi⟩
  have prom : spL Z call 1 [.ref a] H (fun v _ => v = .bl true) fun _ _ _ => False := by
    refine ⟨rfl, [], [], [.d (.scr (ns.map .int))], ⟨rfl, List.nodup_nil, fun n o e => by simp at e⟩, .cons (.d (.scr sq (ints_rds ns))) .nil, ?_⟩
    rw [law]
    intro io' v H' _ _ r
    exact r.bl
  refine codeAny_mono ((F _).run callerA [] s₁ H ⟨[.ref a], []⟩ [.ref a] [.ref a] _ _ rfl hr env (hbind s₁ (.ref a)) (.cons rfl .nil) prom) fun r s' h => ?_
  rcases r with e | fl
  · exact False.elim h
  rcases fl with _ | _ | _ | u <;> try exact False.elim h
  obtain ⟨v, H', os, bare, un, good', r', q⟩ := h
  have q1 : v = .bl true := q
  subst q1
  have r1 : u = Value.bool true := r'
  subst r1
  refine ⟨rfl, OldK.of_keep fun b z e => ?_, os, bare⟩
  cases q : H b with
  | none => exact un.keep b z e q (fun w => by cases w) (by simp)
  | some u =>
    obtain ⟨rfl, _, rfl⟩ := H00.only q
    have q2 := un.frzs b _ _ q
    have g2 := (good' b _ q2).1
    rw [ha] at e
    cases e
    exact g2
/-- all that a law needs: its table stands behind the top, and the evaluator answers True -/
structure LawOk (w : World) (K : PySem.W.Frag) (mg : Str → Option Value) (fa : Addr) (n : Nat) : Prop where
  ex : ∃ (Z : Lk) (g : GE) (T : Tab) (F : Fns) (i k : Nat) (dd : FDef) (x : Str), Z.w = w ∧ Z.K = K ∧ Stat Z g T F mg ∧ F.fa i = fa ∧ F.ps i = [x] ∧ T.fns[i]? = some dd ∧ (∀ (s : Shared) (u : Value), BindsTo s (F.fd i) ⟨[u], []⟩ [(x, u)]) ∧ Room (2 * k) callerA ∧
    ∀ ns : List Int, ns.length ≤ n → ∃ L, callN T k i [.d (.scr (ns.map .int))] [] = .ok (.d (.bl true)) L
theorem law_walk {l : PySem.W.OpenLaw} {n : Nat} {q : Program} {loose : List Str} {XP : (Str → Option Value) → Heap → Prop} {YP : World → Heap → Prop} {d : DefRec} {K : Params → PySem.W.Frag}
    (hn : l.most = some n) (hn2 : n ≤ sizeLine) (hdf : d.params.defaults = []) (hY : ∀ (w : World) (h : Heap), YP w h → (K w.params).In h)
    (all : ∀ (w : World) (mg : Str → Option Value) (fa : Addr) (h : Heap), (K w.params).In h → h.Ns mainGlobals mg → mg d.name = some (.ref fa) → LawOk w (K w.params) mg fa n) :
    PySem.W.WalkO q loose XP YP l.row.toRowW d [] (fun f vs => PySem.call f vs) := by
  refine Att.attach_call hn hdf fun w s₀ s₁ mg mb fa o pm cd doc a vs ns G Y ho hd hcd hmg hobj hints hlen hg => ?_
  obtain ⟨Z, g, T, F, i, k, dd, x, rfl, hK, S, hf, hp, hdd, hb, hr, hlaw⟩ := (all w mg fa _ (hY w _ Y) G.T.g hmg).ex
  obtain ⟨L, hL⟩ := hlaw ns hlen
  have np : dd.npar = 1 := by rw [(S.defs i dd hdd).np, hp]; rfl
  refine law_call0 (Z := Z) (by rw [hK]; exact hY _ _ Y) G.T.g G.T.b G.T.builtins G.T.nolimit hg hobj hints (Nat.le_trans hlen hn2) hr (fun base => ?_) hb hL
  have r := all_ok (P := l.prog) (base := base) S k i dd hdd
  rw [hf, hp, np] at r
  exact r
end L3
end
section
set_option Elab.async false
set_option linter.all false
set_option maxRecDepth 100000
set_option maxHeartbeats 4000000
/-! MM: helps for the facts behind the top. -/
namespace L3
open PySem PySem.Spec PyProof.Rows L2
/-- the names by number -/
def nmOf (ns : List Str) (i : Nat) : Str := match ns[i]? with
  | some x => x
  | none => ⟨Array.replicate (1000 + i) 0⟩
theorem nmOf_inj {ns : List Str} (nd : ns.Nodup) (sh : ∀ x ∈ ns, x.cps.size < 1000) : ∀ i j, nmOf ns i = nmOf ns j → i = j := by
  intro i j e
  unfold nmOf at e
  cases h1 : ns[i]? with
  | none =>
    cases h2 : ns[j]? with
    | none =>
      rw [h1, h2] at e
      have := congrArg (fun s : Str => s.cps.size) e
      simp at this
      exact this
    | some y =>
      rw [h1, h2] at e
      have := sh y (List.mem_of_getElem? h2)
      simp only at e
      rw [← e] at this
      simp at this
      omega
  | some x =>
    cases h2 : ns[j]? with
    | none =>
      rw [h1, h2] at e
      have := sh x (List.mem_of_getElem? h1)
      simp only at e
      rw [e] at this
      simp at this
      omega
    | some y =>
      rw [h1, h2] at e
      simp only at e
      subst e
      obtain ⟨a1, a2⟩ := List.getElem?_eq_some_iff.mp h1
      obtain ⟨b1, b2⟩ := List.getElem?_eq_some_iff.mp h2
      exact (List.getElem_inj nd).mp (a2.trans b2.symm)
theorem nmOf_get {ns : List Str} {i : Nat} {x : Str} (h : ns[i]? = some x) : nmOf ns i = x := by
  unfold nmOf
  rw [h]
/-- what a global name's entry says -/
def GOk (Z : Lk) (F : Fns) (mg : Str → Option Value) (p : Str × GM) : Prop := match p.2 with
  | .fn i => mg p.1 = some (.ref (F.fa i))
  | .cls c => mg p.1 = some (.ref (Z.ca c))
  | .con d => ∃ u v, mg p.1 = some u ∧ RelV v u ∧ ∀ H, RD Z H d v
section
variable {Z : Lk} {F : Fns} {mg : Str → Option Value} {l : List (Str × GM)} {x : Str}
theorem gok_fn (h : ∀ p ∈ l, GOk Z F mg p) {i : Nat} (e : l.lookup x = some (.fn i)) : mg x = some (.ref (F.fa i)) := h _ (PySem.mem_of_lookup e)
theorem gok_cls (h : ∀ p ∈ l, GOk Z F mg p) {i : Nat} (e : l.lookup x = some (.cls i)) : mg x = some (.ref (Z.ca i)) := h _ (PySem.mem_of_lookup e)
theorem gok_con (h : ∀ p ∈ l, GOk Z F mg p) {d : D} (e : l.lookup x = some (.con d)) : ∃ u v, mg x = some u ∧ RelV v u ∧ ∀ H, RD Z H d v := h _ (PySem.mem_of_lookup e)
theorem con_int {n : Int} {t : Nat} (h : mg x = some (.int n t)) : ∃ u v, mg x = some u ∧ RelV v u ∧ ∀ H, RD Z H (.int n) v := ⟨_, .int n, h, ⟨t, rfl⟩, fun _ => .int n⟩
theorem con_str {s : List Nat} {y : Str} {t : Nat} (h : mg x = some (.str y t)) (e : y = st s) (ok : SOk s) : ∃ u v, mg x = some u ∧ RelV v u ∧ ∀ H, RD Z H (.str s) v := ⟨_, .str (st s), h, ⟨t, by rw [e]⟩, fun _ => .str s ok⟩
/-- a tuple that the module holds -/
theorem con_tup {a : Addr} {ds : List D} {vs : List V} {o : Obj} {its : Array Value} {n : Nat} (h : mg x = some (.ref a)) (l : Z.K.lookup a = some o) (c : o.cls = .type "tuple") (d : o.data = .seq its n) (z : its.size ≤ sizeLine) (v : Vals vs its.toList) (r : ∀ H, RDs Z H ds vs) :
    ∃ u v, mg x = some u ∧ RelV v u ∧ ∀ H, RD Z H (.tup ds) v := ⟨_, .ref a, h, rfl, fun H => .tup (.inr ⟨o, its, n, l, c, d, z, v⟩) (r H)⟩
end
theorem mem_look {β : Type} {x : Nat} {y : β} : ∀ {l : List (Nat × β)}, l.lookup x = some y → (x, y) ∈ l
  | [], h => by simp at h
  | (k, z) :: l, h => by
    rw [List.lookup_cons] at h
    by_cases e : x = k
    · subst e
      simp at h
      subst h
      exact List.mem_cons_self
    · rw [beq_false_of_ne e] at h
      exact List.mem_cons_of_mem _ (mem_look h)
theorem all_nil {α : Type} {P : α → Prop} : ∀ p ∈ ([] : List α), P p := fun _ h => by cases h
theorem all_cons {α : Type} {P : α → Prop} {a : α} {l : List α} (h : P a) (r : ∀ p ∈ l, P p) : ∀ p ∈ a :: l, P p := fun p hp => by
  rcases List.mem_cons.mp hp with rfl | hp
  · exact h
  · exact r p hp
end L3
end
section
set_option Elab.async false
set_option linter.all false
set_option maxRecDepth 100000
set_option maxHeartbeats 1000000
/-! PA: plain lemmas about the evaluator. -/
namespace L3
theorem callN_succ {T : Tab} {n f : Nat} {xs : List VL} {L : LH} : callN T (n + 1) f xs L = runFn T (callN T n) f xs L := rfl
/-- a def's run, from its body's -/
theorem run_ret {T : Tab} {call : Nat → List VL → LH → Res VL} {f : Nat} {xs : List VL} {L L' : LH} {d : FDef} {v : VL} (hd : T.fns[f]? = some d) (hl : xs.length = d.npar)
    (h : evSs T call d.body (xs.map some ++ List.replicate (d.nslots - d.npar) none) L = .ret v L') : runFn T call f xs L = leave d.keep L v L' := by
  unfold runFn
  simp only [hd, hl, if_true, h]
theorem run_next {T : Tab} {call : Nat → List VL → LH → Res VL} {f : Nat} {xs : List VL} {L L' : LH} {ρ : Env} {d : FDef} (hd : T.fns[f]? = some d) (hl : xs.length = d.npar)
    (h : evSs T call d.body (xs.map some ++ List.replicate (d.nslots - d.npar) none) L = .next ρ L') : runFn T call f xs L = leave d.keep L (.d .non) L' := by
  unfold runFn
  simp only [hd, hl, if_true, h]
theorem leave_same {L : LH} {x : D} : leave false L (.d x) L = .ok (.d x) L := by
  unfold leave
  have h : CutOk L L ∧ (VL.d x).below L.length = true := ⟨⟨Nat.le_refl _, fun i _ => .inl rfl⟩, rfl⟩
  simp only [Bool.false_eq_true, if_false, h, and_self, if_true, List.take_length]
theorem leave_app {L X : LH} {x : D} : leave false L (.d x) (L ++ X) = .ok (.d x) L := by
  unfold leave
  have h : CutOk L (L ++ X) ∧ (VL.d x).below L.length = true := ⟨⟨by simp, fun i hi => .inl (by rw [List.getElem?_append_left hi])⟩, rfl⟩
  simp only [Bool.false_eq_true, if_false, h, and_self, if_true, List.take_left']
/-! ### loops -/
theorem forR_inv {g : List (Nat × LO)} {f : VL → Env → LH → Fl} (I : Nat → Env → LH → Prop) : ∀ (items : List VL) (k : Nat) (ρ : Env) (L : LH), I k ρ L → (∀ i ρ L, I i ρ L → stands g L = true) →
    (∀ i x ρ L, items[i]? = some x → I (k + i) ρ L → ∃ ρ' L', (f x ρ L = .next ρ' L' ∨ f x ρ L = .cont ρ' L') ∧ I (k + i + 1) ρ' L') → ∃ ρ' L', forR g f items ρ L = .next ρ' L' ∧ I (k + items.length) ρ' L'
  | [], k, ρ, L, h0, hs, step => ⟨ρ, L, by simp only [forR, hs _ _ _ h0, if_true], h0⟩
  | x :: xs, k, ρ, L, h0, hs, step => by
    obtain ⟨ρ', L', e, h1⟩ := step 0 x ρ L rfl h0
    obtain ⟨ρ2, L2, e2, h2⟩ := forR_inv I xs (k + 1) ρ' L' h1 hs (fun i y ρ L hy hI => by
      have := step (i + 1) y ρ L (by simpa using hy) (by rw [Nat.add_right_comm] at hI; exact hI)
      rw [Nat.add_right_comm k 1 i]
      exact this)
    refine ⟨ρ2, L2, ?_, by rw [List.length_cons, Nat.add_comm xs.length 1, ← Nat.add_assoc]; exact h2⟩
    simp only [forR, hs _ _ _ h0, if_true]
    rcases e with e | e <;> simp only [e, e2]
theorem forR_ok {g : List (Nat × LO)} {f : VL → Env → LH → Fl} {items : List VL} {ρ : Env} {L : LH} (I : Nat → Env → LH → Prop) (h0 : I 0 ρ L) (hs : ∀ i ρ L, I i ρ L → stands g L = true)
    (step : ∀ i x ρ L, items[i]? = some x → I i ρ L → ∃ ρ' L', (f x ρ L = .next ρ' L' ∨ f x ρ L = .cont ρ' L') ∧ I (i + 1) ρ' L') : ∃ ρ' L', forR g f items ρ L = .next ρ' L' ∧ I items.length ρ' L' := by
  have := forR_inv I items 0 ρ L h0 hs (fun i x ρ L hx hI => by simpa using step i x ρ L hx (by simpa using hI))
  simpa using this
/-- a comprehension whose turns change nothing -/
theorem mapR_pure {g : List (Nat × LO)} {f : VL → LH → Res (List VL)} {h : VL → List VL} {L : LH} (hs : stands g L = true) : ∀ {items : List VL}, (∀ x ∈ items, f x L = .ok (h x) L) → mapR g f items L = .ok (items.map h).flatten L
  | [], _ => by simp only [mapR, hs, if_true, List.map_nil, List.flatten_nil]
  | x :: xs, e => by
    simp only [mapR, hs, if_true, e x List.mem_cons_self, Res.bind_ok, mapR_pure hs (items := xs) fun y hy => e y (List.mem_cons_of_mem _ hy), List.map_cons, List.flatten_cons]
theorem flat1 {α β : Type} (f : α → β) : ∀ xs : List α, (xs.map fun x => [f x]).flatten = xs.map f
  | [] => rfl
  | x :: xs => by simp [flat1 f xs]
theorem mapR_one {g : List (Nat × LO)} {f : VL → LH → Res (List VL)} {h : VL → VL} {L : LH} (hs : stands g L = true) {items : List VL} (e : ∀ x ∈ items, f x L = .ok [h x] L) : mapR g f items L = .ok (items.map h) L := by
  rw [mapR_pure hs e, flat1]
/-- .. whose turns change the heap -/
theorem mapR_inv {g : List (Nat × LO)} {f : VL → LH → Res (List VL)} (I : LH → Prop) (P : VL → VL → Prop) (hs : ∀ L, I L → stands g L = true) : ∀ (items : List VL) (L : LH), I L → (∀ x ∈ items, ∀ L, I L → ∃ y L', f x L = .ok [y] L' ∧ P x y ∧ I L') →
    ∃ (ys : List VL) (L' : LH), mapR g f items L = .ok ys L' ∧ I L' ∧ ys.length = items.length ∧ ∀ (i : Nat) (x y : VL), items[i]? = some x → ys[i]? = some y → P x y
  | [], L, h, _ => ⟨[], L, by simp only [mapR, hs L h, if_true], h, rfl, fun i x y e => by simp at e⟩
  | x :: xs, L, h, step => by
    obtain ⟨y, L1, e1, p1, h1⟩ := step x List.mem_cons_self L h
    obtain ⟨ys, L2, e2, h2, l2, q2⟩ := mapR_inv I P hs xs L1 h1 fun z hz => step z (List.mem_cons_of_mem _ hz)
    refine ⟨y :: ys, L2, by simp only [mapR, hs L h, if_true, e1, Res.bind_ok, e2, List.cons_append, List.nil_append], h2, by simp [l2], fun i a b ha hb => ?_⟩
    cases i with
    | zero => simp at ha hb; subst ha; subst hb; exact p1
    | succ i => exact q2 i a b (by simpa using ha) (by simpa using hb)
theorem allD_mapP {α : Type} {f : α → D} : ∀ xs : List α, allD (xs.map fun x => VL.d (f x)) = some (xs.map f)
  | [] => rfl
  | x :: xs => by simp [allD, allD_mapP xs]
theorem allD_d : ∀ xs : List D, allD (xs.map VL.d) = some xs
  | [] => rfl
  | x :: xs => by simp [allD, allD_d xs]
end L3
end
section
set_option Elab.async false
set_option linter.all false
set_option maxRecDepth 100000
set_option maxHeartbeats 1000000
/-! PB: reading core terms: simp by hand. -/
namespace L3
/-! the equations of the evaluator, each proved once -/
theorem qE1 : type_of% @evE.eq_1 := id @evE.eq_1
theorem qE2 : type_of% @evE.eq_2 := id @evE.eq_2
theorem qE3 : type_of% @evE.eq_3 := id @evE.eq_3
theorem qE4 : type_of% @evE.eq_4 := id @evE.eq_4
theorem qE5 : type_of% @evE.eq_5 := id @evE.eq_5
theorem qE6 : type_of% @evE.eq_6 := id @evE.eq_6
theorem qE7 : type_of% @evE.eq_7 := id @evE.eq_7
theorem qE8 : type_of% @evE.eq_8 := id @evE.eq_8
theorem qE9 : type_of% @evE.eq_9 := id @evE.eq_9
theorem qE10 : type_of% @evE.eq_10 := id @evE.eq_10
theorem qE11 : type_of% @evE.eq_11 := id @evE.eq_11
theorem qE12 : type_of% @evE.eq_12 := id @evE.eq_12
theorem qE13 : type_of% @evE.eq_13 := id @evE.eq_13
theorem qE14 : type_of% @evE.eq_14 := id @evE.eq_14
theorem qE15 : type_of% @evE.eq_15 := id @evE.eq_15
theorem qE16 : type_of% @evE.eq_16 := id @evE.eq_16
theorem qE17 : type_of% @evE.eq_17 := id @evE.eq_17
theorem qE18 : type_of% @evE.eq_18 := id @evE.eq_18
theorem qE19 : type_of% @evE.eq_19 := id @evE.eq_19
theorem qE20 : type_of% @evE.eq_20 := id @evE.eq_20
theorem qE21 : type_of% @evE.eq_21 := id @evE.eq_21
theorem qE22 : type_of% @evE.eq_22 := id @evE.eq_22
theorem qE23 : type_of% @evE.eq_23 := id @evE.eq_23
theorem qE24 : type_of% @evE.eq_24 := id @evE.eq_24
theorem qE25 : type_of% @evE.eq_25 := id @evE.eq_25
theorem qE26 : type_of% @evE.eq_26 := id @evE.eq_26
theorem qE27 : type_of% @evE.eq_27 := id @evE.eq_27
theorem qE28 : type_of% @evE.eq_28 := id @evE.eq_28
theorem qE29 : type_of% @evE.eq_29 := id @evE.eq_29
theorem qE30 : type_of% @evE.eq_30 := id @evE.eq_30
theorem qE31 : type_of% @evE.eq_31 := id @evE.eq_31
theorem qE32 : type_of% @evE.eq_32 := id @evE.eq_32
theorem qB1 : type_of% @evB.eq_1 := id @evB.eq_1
theorem qB2 : type_of% @evB.eq_2 := id @evB.eq_2
theorem qB3 : type_of% @evB.eq_3 := id @evB.eq_3
theorem qB4 : type_of% @evB.eq_4 := id @evB.eq_4
theorem qB5 : type_of% @evB.eq_5 := id @evB.eq_5
theorem qB6 : type_of% @evB.eq_6 := id @evB.eq_6
theorem qC1 : type_of% @evC.eq_1 := id @evC.eq_1
theorem qC2 : type_of% @evC.eq_2 := id @evC.eq_2
theorem qO1 : type_of% @evO.eq_1 := id @evO.eq_1
theorem qO2 : type_of% @evO.eq_2 := id @evO.eq_2
theorem qL1 : type_of% @evL.eq_1 := id @evL.eq_1
theorem qL2 : type_of% @evL.eq_2 := id @evL.eq_2
theorem qA1 : type_of% @evA.eq_1 := id @evA.eq_1
theorem qA2 : type_of% @evA.eq_2 := id @evA.eq_2
theorem qA3 : type_of% @evA.eq_3 := id @evA.eq_3
theorem qI1 : type_of% @evI.eq_1 := id @evI.eq_1
theorem qI2 : type_of% @evI.eq_2 := id @evI.eq_2
theorem qI3 : type_of% @evI.eq_3 := id @evI.eq_3
theorem qI4 : type_of% @evI.eq_4 := id @evI.eq_4
theorem qI5 : type_of% @evI.eq_5 := id @evI.eq_5
theorem qI6 : type_of% @evI.eq_6 := id @evI.eq_6
theorem qS1 : type_of% @evS.eq_1 := id @evS.eq_1
theorem qS2 : type_of% @evS.eq_2 := id @evS.eq_2
theorem qS3 : type_of% @evS.eq_3 := id @evS.eq_3
theorem qS4 : type_of% @evS.eq_4 := id @evS.eq_4
theorem qS5 : type_of% @evS.eq_5 := id @evS.eq_5
theorem qS6 : type_of% @evS.eq_6 := id @evS.eq_6
theorem qS7 : type_of% @evS.eq_7 := id @evS.eq_7
theorem qS8 : type_of% @evS.eq_8 := id @evS.eq_8
theorem qS9 : type_of% @evS.eq_9 := id @evS.eq_9
theorem qS10 : type_of% @evS.eq_10 := id @evS.eq_10
theorem qS11 : type_of% @evS.eq_11 := id @evS.eq_11
theorem qS12 : type_of% @evS.eq_12 := id @evS.eq_12
theorem qS13 : type_of% @evS.eq_13 := id @evS.eq_13
theorem qS14 : type_of% @evS.eq_14 := id @evS.eq_14
theorem qS15 : type_of% @evS.eq_15 := id @evS.eq_15
theorem qS16 : type_of% @evS.eq_16 := id @evS.eq_16
theorem qT1 : type_of% @evSs.eq_1 := id @evSs.eq_1
theorem qT2 : type_of% @evSs.eq_2 := id @evSs.eq_2
theorem qG1 : type_of% @asgT.eq_1 := id @asgT.eq_1
theorem qG2 : type_of% @asgT.eq_2 := id @asgT.eq_2
theorem qH1 : type_of% @asgTs.eq_1 := id @asgTs.eq_1
theorem qH2 : type_of% @asgTs.eq_2 := id @asgTs.eq_2
theorem qW1 : type_of% @wipeE.eq_1 := id @wipeE.eq_1
theorem qW2 : type_of% @wipeE.eq_2 := id @wipeE.eq_2
theorem qZ1 : type_of% @walksOf.eq_1 := id @walksOf.eq_1
theorem qZ2 : type_of% @walksOf.eq_2 := id @walksOf.eq_2
section
variable {α : Type} {L : LH} {ρ ρ' : Env} {v : VL} {e : D}
theorem fl_ok {a : α} {f : α → LH → Fl} : (Res.ok a L).fl ρ f = f a L := id rfl
theorem bind_ok {β : Type} {a : α} {f : α → LH → Res β} : (Res.ok a L).bind f = f a L := id rfl
theorem noX_ok {a : α} : (Res.ok a L).noX = .ok a L := id rfl
theorem ofOpt_s {a : α} : ofOpt (some a) L = .ok a L := id rfl
theorem seq_next {f : Env → LH → Fl} : (Fl.next ρ L).seq f = f ρ L := id rfl
theorem seq_ret {f : Env → LH → Fl} : (Fl.ret v L).seq f = .ret v L := id rfl
theorem seq_brk {f : Env → LH → Fl} : (Fl.brk ρ L).seq f = .brk ρ L := id rfl
theorem seq_cont {f : Env → LH → Fl} : (Fl.cont ρ L).seq f = .cont ρ L := id rfl
theorem b_add {i j : Int} : binop .add (.d (.int i)) (.d (.int j)) L = .ok (.d (.int (i + j))) L := id rfl
theorem b_sub {i j : Int} : binop .sub (.d (.int i)) (.d (.int j)) L = .ok (.d (.int (i - j))) L := id rfl
theorem b_mul {i j : Int} (h : mulOk i j = true) : binop .mul (.d (.int i)) (.d (.int j)) L = .ok (.d (.int (i * j))) L := by
  simp only [binop, binI, h, if_true, ofOpt_some, Res.bind_ok]
theorem b_mod {i j : Int} (h : 0 < j) : binop .mod (.d (.int i)) (.d (.int j)) L = .ok (.d (.int (i % j))) L := by
  simp only [binop, binI, h, if_true, ofOpt_some, Res.bind_ok]
theorem b_fdiv {i j : Int} (h : 0 < j ∧ j < 1073741824) : binop .fdiv (.d (.int i)) (.d (.int j)) L = .ok (.d (.int (i / j))) L := by
  simp only [binop, binI, h, and_self, if_true, ofOpt_some, Res.bind_ok]
theorem mulOk_l {i j : Int} (h : -(2 ^ 64) < i ∧ i < 2 ^ 64) : mulOk i j = true := by unfold mulOk; exact decide_eq_true (.inl h)
theorem mulOk_r {i j : Int} (h : -(2 ^ 64) < j ∧ j < 2 ^ 64) : mulOk i j = true := by unfold mulOk; exact decide_eq_true (.inr h)
theorem b_tup {s t : List D} (h : s.length + t.length ≤ lim) : binop .add (.d (.tup s)) (.d (.tup t)) L = .ok (.d (.tup (s ++ t))) L := by
  simp only [binop, h, and_self, if_true]
theorem b_str {s t : List Nat} (h : s.length + t.length ≤ lim) : binop .add (.d (.str s)) (.d (.str t)) L = .ok (.d (.str (s ++ t))) L := by
  simp only [binop, h, and_self, if_true]
theorem b_times {s : List D} {k : Int} (h : -1000 ≤ k ∧ k ≤ 1000 ∧ s.length ≤ 1000) : binop .mul (.d (.tup s)) (.d (.int k)) L = .ok (.d (.tup (List.replicate k.toNat s).flatten)) L := by
  simp only [binop, h, and_self, if_true]
/-! places -/
theorem ixAt_nat {n k : Nat} : ixAt n (k : Int) = if k < n then some k else none := by
  unfold ixAt
  simp only [Int.natCast_nonneg, if_true, Int.toNat_natCast, Int.ofNat_lt]
theorem getI_tup {xs : List D} {k : Nat} : getI L (.d (.tup xs)) (.d (.int (k : Int))) = (xs[k]?).map .d := by
  simp only [getI, ixAt_nat]
  by_cases h : k < xs.length
  · simp only [h, if_true, Option.bind_some]
  · simp only [h, if_false, Option.bind_none, List.getElem?_eq_none (Nat.le_of_not_lt h), Option.map_none]
theorem getI_lst {xs : List D} {k : Nat} : getI L (.d (.lst xs)) (.d (.int (k : Int))) = (xs[k]?).map .d := by
  simp only [getI, ixAt_nat]
  by_cases h : k < xs.length
  · simp only [h, if_true, Option.bind_some]
  · simp only [h, if_false, Option.bind_none, List.getElem?_eq_none (Nat.le_of_not_lt h), Option.map_none]
theorem getI_str {xs : List Nat} {k : Nat} : getI L (.d (.str xs)) (.d (.int (k : Int))) = (xs[k]?).map fun c => .d (.str [c]) := by
  simp only [getI, ixAt_nat]
  by_cases h : k < xs.length
  · simp only [h, if_true, Option.bind_some]
  · simp only [h, if_false, Option.bind_none, List.getElem?_eq_none (Nat.le_of_not_lt h), Option.map_none]
theorem getI_tup_lit {xs : List D} {k : Nat} : getI L (.d (.tup xs)) (.d (.int (no_index (@OfNat.ofNat Int k _)))) = (xs[k]?).map .d := getI_tup
theorem getI_lst_lit {xs : List D} {k : Nat} : getI L (.d (.lst xs)) (.d (.int (no_index (@OfNat.ofNat Int k _)))) = (xs[k]?).map .d := getI_lst
theorem getI_str_lit {xs : List Nat} {k : Nat} : getI L (.d (.str xs)) (.d (.int (no_index (@OfNat.ofNat Int k _)))) = (xs[k]?).map fun c => .d (.str [c]) := getI_str
theorem getI_r {xs : List VL} {n k : Nat} (h : L[n]? = some (.lst xs)) : getI L (.r n) (.d (.int (k : Int))) = xs[k]? := by
  simp only [getI, h, ixAt_nat]
  by_cases h : k < xs.length
  · simp only [h, if_true, Option.bind_some]
  · simp only [h, if_false, Option.bind_none, List.getElem?_eq_none (Nat.le_of_not_lt h)]
theorem ixAt_last {n : Nat} (h : 0 < n) : ixAt n (-1) = some (n - 1) := by
  unfold ixAt
  rw [if_neg (by decide), if_pos (by omega)]
  congr 1
  omega
theorem seqOf_tup {xs : List D} : seqOf L (.d (.tup xs)) = some (xs.map .d) := id rfl
theorem seqOf_lst {xs : List D} : seqOf L (.d (.lst xs)) = some (xs.map .d) := id rfl
theorem walkOf_tup {xs : List D} : walkOf L (.d (.tup xs)) = some ⟨xs.map .d, []⟩ := id rfl
theorem walkOf_lst {xs : List D} : walkOf L (.d (.lst xs)) = some ⟨xs.map .d, []⟩ := id rfl
theorem walkOf_str {xs : List Nat} : walkOf L (.d (.str xs)) = some ⟨(chars xs).map .d, []⟩ := id rfl
/-! loops as they stand -/
variable {T : Tab} {call : Nat → List VL → LH → Res VL}
theorem evS_forr {t : CT} {it : CIt} {b : List CS} : evS T call (.forr t it b) ρ L = (evI T call ρ it L).fl ρ fun w L => forR w.still (fun x ρ L => match asgT L t x ρ with
    | some ρ' => evSs T call b ρ' L
    | none => .stuck) w.items ρ L := rfl
theorem evS_whil {c : CB} {b : List CS} : evS T call (.whil c b) ρ L = whileR (fun ρ L => evB T call ρ c L) (fun ρ L => evSs T call b ρ L) T.fuel ρ L := rfl
theorem evE_lc {m : Bool} {own : List Nat} {t : CT} {it : CIt} {c : Option CB} {e : CE} : evE T call ρ (.lc m own t it c e) L = (evI T call ρ it L).bind fun w L => (mapR w.still (fun x L => match asgT L t x (wipeE ρ own) with
      | some ρ' => ((evC T call ρ' c L).bind fun b L => if b then (evE T call ρ' e L).bind fun v L => .ok [v] L else .ok [] L).noX
      | none => .stuck) w.items L).bind fun xs L => mkL m xs L := rfl
end
/-! walks over several lists -/
theorem zipD2 {xs ys : List D} : zipD [xs, ys] = List.zipWith (fun x y => [x, y]) xs ys := by
  show List.zipWith (fun x y => x :: y) xs (ys.map fun x => [x]) = _
  induction xs generalizing ys with
  | nil => rfl
  | cons x xs ih => cases ys with
    | nil => rfl
    | cons y ys => simp only [List.map_cons, List.zipWith_cons_cons, ih]
theorem zipD_getP : ∀ {ds : List (List D)} {i : Nat}, ds ≠ [] → (zipD ds)[i]? = mapO (fun (d : List D) => d[i]?) ds
  | [], i, h => absurd rfl h
  | [xs], i, _ => by
    show (xs.map fun x => [x])[i]? = _
    rw [List.getElem?_map]
    simp only [mapO]
    cases xs[i]? <;> rfl
  | xs :: y :: r, i, _ => by
    show (List.zipWith (fun x y => x :: y) xs (zipD (y :: r)))[i]? = _
    rw [List.getElem?_zipWith, zipD_getP (ds := y :: r) (by simp)]
    conv => rhs; rw [mapO]
    cases xs[i]? with
    | none => rfl
    | some a => cases mapO (fun (d : List D) => d[i]?) (y :: r) <;> rfl
theorem zipD_lenP {n : Nat} : ∀ {ds : List (List D)}, ds ≠ [] → (∀ d ∈ ds, d.length = n) → (zipD ds).length = n
  | [], h, _ => absurd rfl h
  | [xs], _, h => by show (xs.map fun x => [x]).length = n; rw [List.length_map]; exact h _ List.mem_cons_self
  | xs :: y :: r, _, h => by
    show (List.zipWith (fun x y => x :: y) xs (zipD (y :: r))).length = n
    rw [List.length_zipWith, h xs List.mem_cons_self, zipD_lenP (ds := y :: r) (by simp) fun d hd => h d (List.mem_cons_of_mem _ hd), Nat.min_self]
theorem zip2_items {α β : Type} {f : α → D} {g : β → D} {h : List D → VL} : ∀ {xs : List α} {ys : List β}, (List.zipWith (fun x y => [x, y]) (xs.map f) (ys.map g)).map h = (List.zip xs ys).map fun p => h [f p.1, g p.2]
  | [], _ => rfl
  | _ :: _, [] => rfl
  | x :: xs, y :: ys => by simp only [List.map_cons, List.zipWith_cons_cons, List.zip_cons_cons, zip2_items (xs := xs) (ys := ys)]
def Fl.nx (r : Fl) (Q : Env → LH → Prop) : Prop := match r with
  | .next ρ L => Q ρ L
  | _ => False
/-- a body goes on: at its end, or by continue -/
def Fl.on (r : Fl) (Q : Env → LH → Prop) : Prop := match r with
  | .next ρ L => Q ρ L
  | .cont ρ L => Q ρ L
  | _ => False
def Fl.rt (r : Fl) (Q : VL → LH → Prop) : Prop := match r with
  | .ret v L => Q v L
  | _ => False
def Res.gives {α : Type} (r : Res α) (Q : α → LH → Prop) : Prop := match r with
  | .ok a L => Q a L
  | _ => False
theorem Fl.nx.ex {r : Fl} {Q : Env → LH → Prop} (h : r.nx Q) : ∃ ρ L, r = .next ρ L ∧ Q ρ L := by
  cases r <;> first | exact ⟨_, _, rfl, h⟩ | exact h.elim
theorem Fl.on.ex {r : Fl} {Q : Env → LH → Prop} (h : r.on Q) : ∃ ρ L, (r = .next ρ L ∨ r = .cont ρ L) ∧ Q ρ L := by
  cases r <;> first | exact ⟨_, _, .inl rfl, h⟩ | exact ⟨_, _, .inr rfl, h⟩ | exact h.elim
theorem Fl.rt.ex {r : Fl} {Q : VL → LH → Prop} (h : r.rt Q) : ∃ v L, r = .ret v L ∧ Q v L := by
  cases r <;> first | exact ⟨_, _, rfl, h⟩ | exact h.elim
theorem Res.gives.ex {α : Type} {r : Res α} {Q : α → LH → Prop} (h : r.gives Q) : ∃ a L, r = .ok a L ∧ Q a L := by
  cases r <;> first | exact ⟨_, _, rfl, h⟩ | exact h.elim
theorem nx_next {ρ : Env} {L : LH} {Q : Env → LH → Prop} : (Fl.next ρ L).nx Q = Q ρ L := id rfl
theorem on_next {ρ : Env} {L : LH} {Q : Env → LH → Prop} : (Fl.next ρ L).on Q = Q ρ L := id rfl
theorem on_cont {ρ : Env} {L : LH} {Q : Env → LH → Prop} : (Fl.cont ρ L).on Q = Q ρ L := id rfl
theorem rt_ret {v : VL} {L : LH} {Q : VL → LH → Prop} : (Fl.ret v L).rt Q = Q v L := id rfl
theorem gives_ok {α : Type} {v : α} {L : LH} {Q : α → LH → Prop} : (Res.ok v L).gives Q = Q v L := id rfl
/-- a loop over data that changes no heap -/
theorem for_nx {α β : Type} {g : List (Nat × LO)} {f : VL → Env → LH → Fl} {L : LH} {enc : α → VL} {Q : Env → LH → Prop} {items : List α} {ρ : Env} (step : β → α → β) (s : β) (P : β → Env → Prop) (hst : stands g L = true) (h0 : P s ρ)
    (hb : ∀ s x ρ, x ∈ items → P s ρ → (f (enc x) ρ L).on fun ρ' L' => L' = L ∧ P (step s x) ρ') (k : ∀ ρ', P (items.foldl step s) ρ' → Q ρ' L) : (forR g f (items.map enc) ρ L).nx Q := by
  induction items generalizing s ρ with
  | nil => simp only [List.map_nil, forR, hst, if_true]; exact k _ h0
  | cons x xs ih =>
    obtain ⟨ρ1, L1, e1, rfl, h1⟩ := (hb s x ρ List.mem_cons_self h0).ex
    have := ih (step s x) h1 (fun s y ρ hy => hb s y ρ (List.mem_cons_of_mem _ hy)) k
    simp only [List.map_cons, forR, hst, if_true]
    rcases e1 with e1 | e1 <;> simp only [e1] <;> exact this
/-- a loop by an invariant of the turn -/
theorem forI_nx {g : List (Nat × LO)} {f : VL → Env → LH → Fl} {items : List VL} {ρ : Env} {L : LH} {Q : Env → LH → Prop} (I : Nat → Env → LH → Prop) (hs : ∀ i ρ L, I i ρ L → stands g L = true) (h0 : I 0 ρ L)
    (step : ∀ i x ρ L, items[i]? = some x → I i ρ L → (f x ρ L).on fun ρ' L' => I (i + 1) ρ' L') (k : ∀ ρ' L', I items.length ρ' L' → Q ρ' L') : (forR g f items ρ L).nx Q := by
  obtain ⟨ρ', L', e, h⟩ := forR_ok I h0 hs fun i x ρ L hx hI => (step i x ρ L hx hI).ex
  rw [e]
  exact k _ _ h
/-- a comprehension over data that changes no heap -/
theorem map_eq {α : Type} {g : List (Nat × LO)} {f : VL → LH → Res (List VL)} {L : LH} {enc : α → VL} {h : α → VL} {items : List α} (hst : stands g L = true) (e : ∀ x ∈ items, f (enc x) L = .ok [h x] L) : mapR g f (items.map enc) L = .ok (items.map h) L := by
  induction items with
  | nil => simp only [List.map_nil, mapR, hst, if_true]
  | cons x xs ih => simp only [List.map_cons, mapR, hst, if_true, e x List.mem_cons_self, Res.bind_ok, ih fun y hy => e y (List.mem_cons_of_mem _ hy), List.cons_append, List.nil_append]
theorem mkL_d {xs : List D} {L : LH} (h : xs.length ≤ lim) : mkL false (xs.map .d) L = .ok (.d (.lst xs)) L := by
  simp only [mkL, List.length_map, h, if_true, Bool.false_eq_true, if_false, allD_d]
theorem mkT_d {xs : List D} {L : LH} (h : xs.length ≤ lim) : mkT (xs.map .d) L = .ok (.d (.tup xs)) L := by
  simp only [mkT, List.length_map, h, if_true, allD_d]
theorem mkL_m {xs : List VL} {L : LH} (h : xs.length ≤ lim) : mkL true xs L = .ok (.r L.length) (L ++ [.lst xs]) := by
  simp only [mkL, h, if_true, alloc]
theorem run_rt {T : Tab} {call : Nat → List VL → LH → Res VL} {f : Nat} {xs : List VL} {L : LH} {d : FDef} {Q : VL → LH → Prop} (hd : T.fns[f]? = some d) (hl : xs.length = d.npar)
    (h : (evSs T call d.body (xs.map some ++ List.replicate (d.nslots - d.npar) none) L).rt fun v L' => (leave d.keep L v L').gives Q) : (runFn T call f xs L).gives Q := by
  obtain ⟨v, L', e, q⟩ := h.ex
  rw [run_ret hd hl e]
  exact q
theorem bf_int {i : Int} {L : LH} : bfun .int [.d (.int i)] L = .ok (.d (.int i)) L := id rfl
theorem bf_len_tup {s : List D} {L : LH} : bfun .len [.d (.tup s)] L = .ok (.d (.int s.length)) L := id rfl
theorem bf_len_lst {s : List D} {L : LH} : bfun .len [.d (.lst s)] L = .ok (.d (.int s.length)) L := id rfl
theorem bf_len_str {s : List Nat} {L : LH} : bfun .len [.d (.str s)] L = .ok (.d (.int s.length)) L := id rfl
theorem bf_tuple_lst {s : List D} {L : LH} (h : s.length ≤ lim) : bfun .tuple [.d (.lst s)] L = .ok (.d (.tup s)) L := (mkT_d h : mkT (s.map .d) L = _)
theorem bf_tuple_tup {s : List D} {L : LH} (h : s.length ≤ lim) : bfun .tuple [.d (.tup s)] L = .ok (.d (.tup s)) L := (mkT_d h : mkT (s.map .d) L = _)
theorem lst_nil {L : LH} : mkL false [] L = .ok (.d (.lst [])) L := id rfl
end L3
end
section
local macro_rules
  | `(tactic| simp_arith) => `(tactic| simp only [L3.qE1, L3.qE2, L3.qE3, L3.qE4, L3.qE5, L3.qE6, L3.qE7, L3.qE8, L3.qE9, L3.qE10, L3.qE11, L3.qE12, L3.qE13, L3.qE14, L3.qE15, L3.qE16, L3.qE17, L3.qE18, L3.qE19, L3.qE20, L3.qE21, L3.qE22, L3.qE23, L3.qE24, L3.qE25, L3.qE26, L3.qE27, L3.qE28, L3.qE29, L3.qE30, L3.qE31, L3.qE32, L3.qB1, L3.qB2, L3.qB3, L3.qB4, L3.qB5, L3.qB6, L3.qC1, L3.qC2, L3.qO1, L3.qO2, L3.qL1, L3.qL2, L3.qA1, L3.qA2, L3.qA3, L3.qI1, L3.qI2, L3.qI3, L3.qI4, L3.qI5, L3.qI6, L3.qS1, L3.qS2, L3.qS3, L3.qS4, L3.qS5, L3.qS6, L3.qS7, L3.qS8, L3.qS9, L3.qS10, L3.qS11, L3.qS12, L3.qS13, L3.qS14, L3.qS15, L3.qS16, L3.qT1, L3.qT2, L3.qG1, L3.qG2, L3.qH1, L3.qH2, L3.qW1, L3.qW2, L3.qZ1, L3.qZ2, L3.bind_ok, L3.ofOpt_s, L3.fl_ok, L3.seq_next, L3.seq_ret, L3.seq_brk, L3.seq_cont, List.getElem?_cons_succ, List.getElem?_cons_zero, List.set_cons_succ, List.set_cons_zero, List.map_cons, List.map_nil, List.cons_append, List.nil_append, L3.noX_ok, if_true, if_false, Bool.false_eq_true, Option.map_some, Option.bind_some, List.replicate, L3.seqOf_tup, L3.seqOf_lst, L3.walkOf_tup, L3.walkOf_lst, L3.walkOf_str, List.mapM_cons, List.mapM_nil, L3.allD_d, Option.bind_eq_bind, Option.pure_def, List.flatten_cons, List.flatten_nil, List.append_nil, L3.b_add, L3.b_sub, true_and, L3.nx_next, L3.on_next, L3.on_cont, L3.rt_ret, L3.gives_ok, L3.bf_int, L3.bf_len_tup, L3.bf_len_lst, L3.bf_len_str, L3.lst_nil, L3.getI_tup_lit, L3.getI_lst_lit, L3.getI_str_lit, L3.getI_tup, L3.getI_lst, L3.getI_str])
local macro_rules
  | `(tactic| simp_arith [$xs,*]) => `(tactic| simp only [L3.qE1, L3.qE2, L3.qE3, L3.qE4, L3.qE5, L3.qE6, L3.qE7, L3.qE8, L3.qE9, L3.qE10, L3.qE11, L3.qE12, L3.qE13, L3.qE14, L3.qE15, L3.qE16, L3.qE17, L3.qE18, L3.qE19, L3.qE20, L3.qE21, L3.qE22, L3.qE23, L3.qE24, L3.qE25, L3.qE26, L3.qE27, L3.qE28, L3.qE29, L3.qE30, L3.qE31, L3.qE32, L3.qB1, L3.qB2, L3.qB3, L3.qB4, L3.qB5, L3.qB6, L3.qC1, L3.qC2, L3.qO1, L3.qO2, L3.qL1, L3.qL2, L3.qA1, L3.qA2, L3.qA3, L3.qI1, L3.qI2, L3.qI3, L3.qI4, L3.qI5, L3.qI6, L3.qS1, L3.qS2, L3.qS3, L3.qS4, L3.qS5, L3.qS6, L3.qS7, L3.qS8, L3.qS9, L3.qS10, L3.qS11, L3.qS12, L3.qS13, L3.qS14, L3.qS15, L3.qS16, L3.qT1, L3.qT2, L3.qG1, L3.qG2, L3.qH1, L3.qH2, L3.qW1, L3.qW2, L3.qZ1, L3.qZ2, L3.bind_ok, L3.ofOpt_s, L3.fl_ok, L3.seq_next, L3.seq_ret, L3.seq_brk, L3.seq_cont, List.getElem?_cons_succ, List.getElem?_cons_zero, List.set_cons_succ, List.set_cons_zero, List.map_cons, List.map_nil, List.cons_append, List.nil_append, L3.noX_ok, if_true, if_false, Bool.false_eq_true, Option.map_some, Option.bind_some, List.replicate, L3.seqOf_tup, L3.seqOf_lst, L3.walkOf_tup, L3.walkOf_lst, L3.walkOf_str, List.mapM_cons, List.mapM_nil, L3.allD_d, Option.bind_eq_bind, Option.pure_def, List.flatten_cons, List.flatten_nil, List.append_nil, L3.b_add, L3.b_sub, true_and, L3.nx_next, L3.on_next, L3.on_cont, L3.rt_ret, L3.gives_ok, L3.bf_int, L3.bf_len_tup, L3.bf_len_lst, L3.bf_len_str, L3.lst_nil, L3.getI_tup_lit, L3.getI_lst_lit, L3.getI_str_lit, L3.getI_tup, L3.getI_lst, L3.getI_str, $xs,*])
section
set_option Elab.async false
set_option linter.all false
set_option maxRecDepth 100000
set_option maxHeartbeats 1000000
/-! PC: a list that is being made at the heap's end; walks over several lists. -/
namespace L3
section
variable {L : LH} {s : List VL} {v : VL} {xs : List D}
theorem last_get {o : LO} : (L ++ [o])[L.length]? = some o := by simp
theorem last_set {o p : LO} : (L ++ [o]).set L.length p = L ++ [p] := by simp
theorem app_ty : mTy .append (L ++ [.lst s]) (.r L.length) = true := by
  simp only [mTy, isL, last_get]
theorem app_last (h : s.length < lim) : mfun .append (.r L.length) [v] (L ++ [.lst s]) = .ok (.d .non) (L ++ [.lst (s ++ [v])]) := by
  simp only [mfun, mAppend, last_get, h, if_true, last_set]
theorem tup_last (h : xs.length ≤ lim) : bfun .tuple [.r L.length] (L ++ [.lst (xs.map .d)]) = .ok (.d (.tup xs)) (L ++ [.lst (xs.map .d)]) := by
  simp only [bfun, bTuple, seqOf, last_get]
  exact mkT_d h
theorem sidx {s : List Nat} {c : Nat} (h : c ∈ s) : mfun .sindex (.d (.str s)) [.d (.str [c])] L = .ok (.d (.int (s.idxOf c : Nat))) L := by
  simp only [mfun, mSindex, List.length_cons, List.length_nil, List.headD_cons, h, and_self, if_true]
theorem sidx_ty {s : List Nat} : mTy .sindex L (.d (.str s)) = true := id rfl
end
theorem zip2_item {as bs : List D} {i : Nat} {x : VL} (e : ((zipD [as, bs]).map fun r => VL.d (.tup r))[i]? = some x) : ∃ a b, as[i]? = some a ∧ bs[i]? = some b ∧ x = .d (.tup [a, b]) := by
  rw [List.getElem?_map, zipD_getP (by simp)] at e
  obtain ⟨r, e1, rfl⟩ := Option.map_eq_some_iff.mp e
  simp only [mapO] at e1
  cases h1 : as[i]? with
  | none => rw [h1] at e1; cases e1
  | some a =>
    cases h2 : bs[i]? with
    | none => rw [h1, h2] at e1; cases e1
    | some b => rw [h1, h2] at e1; cases e1; exact ⟨a, b, rfl, rfl, rfl⟩
theorem zip3_item {as bs cs : List D} {i : Nat} {x : VL} (e : ((zipD [as, bs, cs]).map fun r => VL.d (.tup r))[i]? = some x) : ∃ a b c, as[i]? = some a ∧ bs[i]? = some b ∧ cs[i]? = some c ∧ x = .d (.tup [a, b, c]) := by
  rw [List.getElem?_map, zipD_getP (by simp)] at e
  obtain ⟨r, e1, rfl⟩ := Option.map_eq_some_iff.mp e
  simp only [mapO] at e1
  cases h1 : as[i]? with
  | none => rw [h1] at e1; cases e1
  | some a =>
    cases h2 : bs[i]? with
    | none => rw [h1, h2] at e1; cases e1
    | some b =>
      cases h3 : cs[i]? with
      | none => rw [h1, h2, h3] at e1; cases e1
      | some c => rw [h1, h2, h3] at e1; cases e1; exact ⟨a, b, c, rfl, rfl, rfl, rfl⟩
theorem zip4_item {as bs cs ds : List D} {i : Nat} {x : VL} (e : ((zipD [as, bs, cs, ds]).map fun r => VL.d (.tup r))[i]? = some x) : ∃ a b c d, as[i]? = some a ∧ bs[i]? = some b ∧ cs[i]? = some c ∧ ds[i]? = some d ∧ x = .d (.tup [a, b, c, d]) := by
  rw [List.getElem?_map, zipD_getP (by simp)] at e
  obtain ⟨r, e1, rfl⟩ := Option.map_eq_some_iff.mp e
  simp only [mapO] at e1
  cases h1 : as[i]? with
  | none => rw [h1] at e1; cases e1
  | some a =>
    cases h2 : bs[i]? with
    | none => rw [h1, h2] at e1; cases e1
    | some b =>
      cases h3 : cs[i]? with
      | none => rw [h1, h2, h3] at e1; cases e1
      | some c =>
        cases h4 : ds[i]? with
        | none => rw [h1, h2, h3, h4] at e1; cases e1
        | some d => rw [h1, h2, h3, h4] at e1; cases e1; exact ⟨a, b, c, d, rfl, rfl, rfl, rfl, rfl⟩
theorem map_get {α : Type} {f : α → D} {xs : List α} {i : Nat} {d : D} (e : (xs.map f)[i]? = some d) : ∃ x, xs[i]? = some x ∧ d = f x := by
  rw [List.getElem?_map] at e
  obtain ⟨x, h, rfl⟩ := Option.map_eq_some_iff.mp e
  exact ⟨x, h, rfl⟩
theorem getD_of {α : Type} {xs : List α} {i : Nat} {x d : α} (e : xs[i]? = some x) : xs.getD i d = x := by
  rw [List.getD_eq_getElem?_getD, e]; rfl
theorem range_step {α : Type} {f : Nat → α} {i : Nat} : (List.range (i + 1)).map f = (List.range i).map f ++ [f i] := by
  rw [List.range_succ, List.map_append]; rfl
theorem ofBools_map {α : Type} {f : α → Bool} : ∀ xs : List α, ofBools (xs.map fun x => VL.d (.bl (f x))) = some (xs.map f)
  | [] => rfl
  | x :: xs => by simp only [List.map_cons, ofBools, ofBools_map xs, Option.map_some]
theorem bf_all {α : Type} {L : LH} {f : α → Bool} {xs : List α} : bfun .all [.d (.lst (xs.map fun x => D.bl (f x)))] L = .ok (.d (.bl (xs.all f))) L := by
  have e : ((xs.map fun x => D.bl (f x)).map VL.d) = xs.map fun x => VL.d (.bl (f x)) := by rw [List.map_map]; rfl
  simp only [bfun, bAll, lstOf, isL, seqOf, if_true, Option.bind_some, e, ofBools_map]
  rw [List.all_map]; rfl
theorem mkL_map {α : Type} {L : LH} {f : α → D} {xs : List α} (h : xs.length ≤ lim) : mkL false (xs.map fun x => VL.d (f x)) L = .ok (.d (.lst (xs.map f))) L := by
  have := mkL_d (L := L) (xs := xs.map f) (by rw [List.length_map]; exact h)
  rw [List.map_map] at this
  exact this
theorem chars_map {s : List Nat} : (chars s).map VL.d = s.map fun c => VL.d (.str [c]) := by unfold chars; rw [List.map_map]; rfl
theorem c_in_str {L : LH} {c : Nat} {s : List Nat} : cmpop .isin L (.d (.str [c])) (.d (.str s)) = some (decide (c ∈ s)) := id rfl
theorem c_eq_str {L : LH} {a b : List Nat} : cmpop .eq L (.d (.str a)) (.d (.str b)) = some (a == b) := id rfl
theorem c_ne_str {L : LH} {a b : List Nat} : cmpop .ne L (.d (.str a)) (.d (.str b)) = some (!(a == b)) := id rfl
theorem c_le {L : LH} {i j : Int} : cmpop .le L (.d (.int i)) (.d (.int j)) = some (decide (i ≤ j)) := id rfl
theorem c_lt' {L : LH} {i j : Int} : cmpop .lt L (.d (.int i)) (.d (.int j)) = some (decide (i < j)) := id rfl
theorem c_gt {L : LH} {i j : Int} : cmpop .gt L (.d (.int i)) (.d (.int j)) = some (decide (j < i)) := id rfl
theorem c_eq_int {L : LH} {i j : Int} : cmpop .eq L (.d (.int i)) (.d (.int j)) = some (i == j) := id rfl
theorem c_ne_int {L : LH} {i j : Int} : cmpop .ne L (.d (.int i)) (.d (.int j)) = some (!(i == j)) := id rfl
theorem c_lt_ch {L : LH} {i j : Nat} : cmpop .lt L (.d (.str [i])) (.d (.str [j])) = some (decide (i < j)) := by
  show some (decide ([i] < [j])) = _
  have e : ([i] < [j]) ↔ i < j := by rw [List.cons_lt_cons_iff]; simp
  rw [decide_eq_decide.mpr e]
theorem is_int_int {L : LH} {i : Int} : bIsinst .int [.d (.int i)] L = .ok (.d (.bl true)) L := id rfl
theorem is_bool_int {L : LH} {i : Int} : bIsinst .bool [.d (.int i)] L = .ok (.d (.bl false)) L := id rfl
theorem is_str_str {L : LH} {s : List Nat} : bIsinst .str [.d (.str s)] L = .ok (.d (.bl true)) L := id rfl
theorem is_tup_tup {L : LH} {s : List D} : bIsinst .tuple [.d (.tup s)] L = .ok (.d (.bl true)) L := id rfl
theorem tr_bl {L : LH} {b : Bool} : truth L (.d (.bl b)) = some b := id rfl
theorem slc_1 {L : LH} {m : Bool} {s : List Nat} : slice m (.d (.str s)) (some 1) none L = .ok (.d (.str (s.drop 1))) L := by
  show Res.ok (VL.d (.str (cut s (some 1) none))) L = _
  congr 3
  unfold cut bound
  simp only [show ¬ ((1 : Int) < 0) by decide, if_false]
  by_cases h : s.length = 0
  · rw [List.eq_nil_of_length_eq_zero h]; rfl
  · rw [show min (1 : Int).toNat s.length = 1 from by show min 1 _ = 1; omega]
    exact List.take_of_length_le (by simp)
theorem map_flat {α : Type} {g : List (Nat × LO)} {f : VL → LH → Res (List VL)} {L : LH} {enc : α → VL} {h : α → List VL} {items : List α} (hst : stands g L = true) (e : ∀ x ∈ items, f (enc x) L = .ok (h x) L) : mapR g f (items.map enc) L = .ok (items.flatMap h) L := by
  induction items with
  | nil => simp only [List.map_nil, mapR, hst, if_true, List.flatMap_nil]
  | cons x xs ih => simp only [List.map_cons, mapR, hst, if_true, e x List.mem_cons_self, Res.bind_ok, ih fun y hy => e y (List.mem_cons_of_mem _ hy), List.flatMap_cons]
theorem evE_lc2 {T : Tab} {call : Nat → List VL → LH → Res VL} {ρ : Env} {L : LH} {m : Bool} {own own2 : List Nat} {t t2 : CT} {it it2 : CIt} {c c2 : Option CB} {e : CE} : evE T call ρ (.lc2 m own t it c own2 t2 it2 c2 e) L = (evI T call ρ it L).bind fun w L => (mapR w.still (fun x L => match asgT L t x (wipeE ρ own) with
      | some ρ' => ((evC T call ρ' c L).bind fun b L => if b then (evI T call ρ' it2 L).bind fun w2 L => mapR (w.still ++ w2.still) (fun y L => match asgT L t2 y (wipeE ρ' own2) with
          | some ρ'' => (evC T call ρ'' c2 L).bind fun b L => if b then (evE T call ρ'' e L).bind fun v L => .ok [v] L else .ok [] L
          | none => .stuck) w2.items L else .ok [] L).noX
      | none => .stuck) w.items L).bind fun xs L => mkL m xs L := rfl
theorem evE_dc {T : Tab} {call : Nat → List VL → LH → Res VL} {ρ : Env} {L : LH} {m : Bool} {own : List Nat} {t : CT} {it : CIt} {c : Option CB} {k v : CE} : evE T call ρ (.dc m own t it c k v) L = (evI T call ρ it L).bind fun w L => (mapR w.still (fun x L => match asgT L t x (wipeE ρ own) with
      | some ρ' => ((evC T call ρ' c L).bind fun b L => if b then (evE T call ρ' k L).bind fun k L => (evE T call ρ' v L).bind fun v L => .ok [k, v] L else .ok [] L).noX
      | none => .stuck) w.items L).bind fun xs L => mkD m xs L := rfl
/-- rows made longer by each item of a lot; all rows -/
def expand {α : Type} (found : List (List α)) (lot : List α) : List (List α) := found.flatMap fun row => lot.map fun c => row ++ [c]
def prodG {α : Type} (lots : List (List α)) : List (List α) := lots.foldl expand [[]]
theorem prodG_snoc {α : Type} {lots : List (List α)} {x : List α} : prodG (lots ++ [x]) = expand (prodG lots) x := by unfold prodG; rw [List.foldl_append]; rfl
theorem expand_len {α : Type} {found : List (List α)} {lot : List α} : (expand found lot).length = found.length * lot.length := by
  unfold expand
  induction found with
  | nil => simp
  | cons x xs ih => rw [List.flatMap_cons, List.length_append, ih, List.length_map, List.length_cons, Nat.succ_mul, Nat.add_comm]
theorem prodG_take {α : Type} {lots : List (List α)} (h4 : ∀ x ∈ lots, x.length ≤ 4) : ∀ i, (prodG (lots.take i)).length ≤ 4 ^ i ∧ ∀ r ∈ prodG (lots.take i), r.length ≤ i
  | 0 => ⟨by simp [prodG], fun r hr => by simp [prodG] at hr; subst hr; simp⟩
  | i + 1 => by
    obtain ⟨a, b⟩ := prodG_take h4 i
    rw [List.take_succ]
    cases e : lots[i]? with
    | none =>
      rw [Option.toList_none, List.append_nil]
      refine ⟨Nat.le_trans a (Nat.pow_le_pow_right (by decide) (Nat.le_succ _)), fun r hr => Nat.le_succ_of_le (b r hr)⟩
    | some x =>
      rw [Option.toList_some, prodG_snoc]
      refine ⟨?_, fun r hr => ?_⟩
      · rw [expand_len, Nat.pow_succ]
        exact Nat.mul_le_mul a (h4 x (List.mem_of_getElem? e))
      · unfold expand at hr
        obtain ⟨q, h1, h2⟩ := List.mem_flatMap.mp hr
        obtain ⟨c, _, rfl⟩ := List.mem_map.mp h2
        rw [List.length_append]
        exact Nat.succ_le_succ (b q h1)
theorem mkT_snoc {α : Type} {L : LH} {f : α → D} {row : List α} {c : α} (h : row.length < lim) : mkT ((row.map f).map VL.d ++ [VL.d (f c)]) L = .ok (.d (.tup ((row ++ [c]).map f))) L := by
  have := mkT_d (L := L) (xs := (row ++ [c]).map f) (by rw [List.length_map, List.length_append]; exact h)
  rw [List.map_append, List.map_append] at this
  rw [List.map_append]
  exact this
theorem ext_ty {L : LH} {s : List VL} : mTy .extend (L ++ [.lst s]) (.r L.length) = true := by
  simp only [mTy, isL, last_get]
theorem ext_last {L : LH} {s : List VL} {ys : List D} (h : s.length + ys.length ≤ lim) : mfun .extend (.r L.length) [.d (.lst ys)] (L ++ [.lst s]) = .ok (.d .non) (L ++ [.lst (s ++ ys.map .d)]) := by
  have h2 : s.length + (ys.map VL.d).length ≤ lim := by rw [List.length_map]; exact h
  simp only [mfun, mExtend, last_get, lstOf, isL, seqOf, if_true, h2, ne_eq, reduceCtorEq, not_false_eq_true, and_self, last_set]
theorem mapF_d {k : Nat} {L : LH} : ∀ xs : List D, mapF (frz k) L (xs.map .d) = some (xs, L)
  | [] => rfl
  | x :: xs => by
    have e : frz k L (.d x) = some (x, L) := by cases k <;> rfl
    simp only [List.map_cons, mapF, e, mapF_d xs, Option.map_some]
theorem frz_last {L : LH} {xs : List D} : frz frzLim (L ++ [.lst (xs.map .d)]) (.r L.length) = some (.lst xs, L ++ [.dead]) := by
  show (match (L ++ [LO.lst (xs.map .d)])[L.length]? with | some (.lst xs) => _ | some (.dct ks vs) => _ | some (.obj c ns vs) => _ | _ => none) = _
  simp only [last_get, last_set, mapF_d, Option.map_some]
theorem get_ex {α : Type} {xs : List α} {i : Nat} (h : i < xs.length) : ∃ x, xs[i]? = some x := ⟨_, List.getElem?_eq_getElem h⟩
end L3
end
section
set_option Elab.async false
set_option linter.all false
set_option maxRecDepth 100000
set_option maxHeartbeats 1000000
/-! PD: instances that are made; dicts of numbered keys. -/
namespace L3
section
variable {L : LH} {T : Tab} {c : Nat} {ns : List Nat} {ds : List D}
theorem setA_last {a : Nat} {v : VL} {vs : List VL} {k : CDef} (hk : T.clss[c]? = some k) (hl : ns.length < 900) (ha : k.flds.contains a = true) : setAttr T a (.r L.length) v (L ++ [.obj c ns vs]) = some (L ++ [.obj c (nput ns vs a v).1 (nput ns vs a v).2]) := by
  have h : ns.length < 900 ∧ ((T.clss[c]?).map fun k => k.flds.contains a) = some true := ⟨hl, by rw [hk]; exact congrArg some ha⟩
  simp only [setAttr, last_get, h, and_self, if_true, last_set]
theorem leave_obj {o : LO} {x : D} : leave false (L ++ [o]) (.d x) (L ++ [.obj c ns (ds.map .d)]) = .ok (.d x) (L ++ [.obj c ns (ds.map .d)]) := by
  unfold leave
  have h : CutOk (L ++ [o]) (L ++ [.obj c ns (ds.map .d)]) ∧ (VL.d x).below (L ++ [o]).length = true := by
    refine ⟨⟨by simp, fun i hi => ?_⟩, rfl⟩
    by_cases h : i < L.length
    · left
      rw [List.getElem?_append_left h, List.getElem?_append_left h]
    · right
      have : i = L.length := by simp at hi; omega
      subst this
      refine ⟨_, last_get, ?_⟩
      show (ds.map VL.d).all _ = true
      rw [List.all_eq_true]
      intro v hv
      obtain ⟨j, _, rfl⟩ := List.mem_map.mp hv
      rfl
  have t : (L ++ [LO.obj c ns (ds.map .d)]).take (L ++ [o]).length = L ++ [.obj c ns (ds.map .d)] := List.take_of_length_le (by simp)
  simp only [Bool.false_eq_true, if_false, h, and_self, if_true, t]
theorem frz_obj : frz frzLim (L ++ [.obj c ns (ds.map .d)]) (.r L.length) = some (.obj c ns ds, L ++ [.dead]) := by
  show (match (L ++ [LO.obj c ns (ds.map .d)])[L.length]? with | some (.lst xs) => _ | some (.dct ks vs) => _ | some (.obj c ns vs) => _ | _ => none) = _
  simp only [last_get, last_set, mapF_d, Option.map_some]
/-- C(..) of a class whose instances are frozen -/
theorem make_frz {call : Nat → List VL → LH → Res VL} {k : CDef} {xs : List VL} (hk : T.clss[c]? = some k) (hf : k.frozen = true) (h : call k.init (.r L.length :: xs) (L ++ [.obj c [] []]) = .ok (.d .non) (L ++ [.obj c ns (ds.map .d)])) :
    makeR T call c xs L = .ok (.d (.obj c ns ds)) L := by
  unfold makeR
  simp only [hk, h, hf, if_true, frz_obj]
  exact leave_app
end
/-- keys and their numbers, by turns -/
def kvs : Int → List D → List VL
  | _, [] => []
  | k, d :: ds => .d d :: .d (.int k) :: kvs (k + 1) ds
def numbers : Int → List D → List D
  | _, [] => []
  | k, _ :: ds => .int k :: numbers (k + 1) ds
theorem enum_map {f : VL → LH → Res (List VL)} {L : LH} (h : ∀ d k, f (.d (.tup [.int k, d])) L = .ok [.d d, .d (.int k)] L) : ∀ (ds : List D) (k : Int), mapR [] f (enumD k ds) L = .ok (kvs k ds) L
  | [], k => rfl
  | d :: ds, k => by
    simp only [enumD, mapR, stands_nil, if_true, h d k, Res.bind_ok, enum_map h ds (k + 1), kvs, List.cons_append, List.nil_append]
theorem dput_newP {k : D} {v : VL} : ∀ {ks : List D} {vs : List VL}, ks.length = vs.length → k ∉ ks → dput ks vs k v = (ks ++ [k], vs ++ [v])
  | [], [], _, _ => rfl
  | j :: ks, w :: vs, hl, hn => by
    have h1 : ¬ j = k := fun e => hn (by rw [e]; exact List.mem_cons_self)
    have h2 := dput_newP (k := k) (v := v) (ks := ks) (vs := vs) (by simpa using hl) fun h => hn (List.mem_cons_of_mem _ h)
    simp only [dput, h1, if_false, h2, List.cons_append]
theorem dpairs_new {b : Bool} : ∀ (ds : List D) (k : Int) (ks : List D) (vs : List VL), ks.length = vs.length → (ks ++ ds).Nodup → (∀ d ∈ ks ++ ds, d.isTup = b ∧ keyOk d = true) → dpairs (kvs k ds) ks vs = some (ks ++ ds, vs ++ (numbers k ds).map .d)
  | [], k, ks, vs, _, _, _ => by simp [kvs, dpairs, numbers]
  | d :: ds, k, ks, vs, hl, hn, hk => by
    have hd := hk d (by simp)
    have h1 : keysOk ks d = true := by
      unfold keysOk
      rw [hd.2, Bool.true_and, List.all_eq_true]
      intro j hj
      rw [(hk j (List.mem_append_left _ hj)).1, hd.1]
      exact beq_self_eq_true _
    have h2 : d ∉ ks := fun h => (List.nodup_append.mp hn).2.2 d h d List.mem_cons_self rfl
    have e : ks ++ d :: ds = (ks ++ [d]) ++ ds := by simp
    have ih := dpairs_new (b := b) ds (k + 1) (ks ++ [d]) (vs ++ [.d (.int k)]) (by simp [hl]) (by rw [← e]; exact hn) (by rw [← e]; exact hk)
    simp only [kvs, dpairs, h1, if_true, dput_newP hl h2, ih]
    rw [← e]
    simp [numbers]
theorem kvs_len : ∀ (ds : List D) (k : Int), (kvs k ds).length = 2 * ds.length
  | [], k => rfl
  | d :: ds, k => by simp only [kvs, List.length_cons, kvs_len ds (k + 1)]; omega
theorem mkD_new {L : LH} {b : Bool} {ds : List D} {k : Int} (hn : ds.Nodup) (hk : ∀ d ∈ ds, d.isTup = b ∧ keyOk d = true) (hl : ds.length ≤ 1000) : mkD false (kvs k ds) L = .ok (.d (.dct ds (numbers k ds))) L := by
  have h1 : (kvs k ds).length ≤ lim := by rw [kvs_len]; show _ ≤ 16777216; omega
  have h2 := dpairs_new (b := b) ds k [] [] rfl (by simpa using hn) (by simpa using hk)
  simp only [List.nil_append] at h2
  simp only [mkD, h1, if_true, h2, mkK, Bool.false_eq_true, if_false, allD_d]
theorem dlook_num {b : Bool} {x : D} : ∀ (ds : List D) (k : Int), x ∈ ds → dlook ds (numbers k ds) x = some (.int (k + (ds.idxOf x : Nat)))
  | [], k, h => by simp at h
  | d :: ds, k, h => by
    by_cases e : d = x
    · subst e; simp [dlook, numbers, List.idxOf_cons_self]
    · have h2 : x ∈ ds := by
        rcases List.mem_cons.mp h with h | h
        · exact absurd h.symm e
        · exact h
      simp only [dlook, numbers, e, if_false, dlook_num (b := b) ds (k + 1) h2]
      rw [List.idxOf_cons, beq_false_of_ne e]
      simp only [cond_false, Bool.false_eq_true, if_false]
      congr 2
      omega
theorem expand_nd {α : Type} {found : List (List α)} {lot : List α} (h1 : found.Nodup) (h2 : lot.Nodup) : (expand found lot).Nodup := by
  unfold expand
  unfold List.Nodup
  rw [List.pairwise_flatMap]
  refine ⟨fun r _ => ?_, h1.imp fun {a b} hab => ?_⟩
  · rw [List.pairwise_map]
    exact h2.imp fun {a b} hab e => hab (by simpa using e)
  · intro x hx y hy e
    obtain ⟨c, _, rfl⟩ := List.mem_map.mp hx
    obtain ⟨d, _, rfl⟩ := List.mem_map.mp hy
    exact hab (List.append_inj_left' e rfl)
theorem prodG_nd {α : Type} {lots : List (List α)} (h : ∀ x ∈ lots, x.Nodup) : ∀ i, (prodG (lots.take i)).Nodup
  | 0 => by simp [prodG]
  | i + 1 => by
    rw [List.take_succ]
    cases e : lots[i]? with
    | none => rw [Option.toList_none, List.append_nil]; exact prodG_nd h i
    | some x =>
      rw [Option.toList_some, prodG_snoc]
      exact expand_nd (prodG_nd h i) (h x (List.mem_of_getElem? e))
end L3
end
section
set_option Elab.async false
set_option linter.all false
set_option maxRecDepth 100000
set_option maxHeartbeats 1000000
/-! PE: what repr shows can be. -/
namespace L3
open PySem
def SgS (s : Str) : Prop := ∀ c ∈ s.cps.toList, c < 1114112
theorem SgS.app {a b : Str} (h : SgS a) (k : SgS b) : SgS (a ++ b) := by
  intro c hc
  have : (a ++ b).cps = a.cps ++ b.cps := rfl
  rw [this, Array.toList_append] at hc
  rcases List.mem_append.mp hc with hc | hc
  · exact h c hc
  · exact k c hc
theorem char_lt (c : Char) : c.toNat < 1114112 := by
  have := c.valid
  rcases this with h | ⟨_, h⟩
  · exact Nat.lt_trans h (by decide)
  · exact h
theorem SgS.lit (s : String) : SgS (Str.ofString s) := by
  intro c hc
  rw [Str.ofString_eq_toList] at hc
  obtain ⟨d, _, rfl⟩ := List.mem_map.mp hc
  exact char_lt d
theorem reprChar_lt {q c x : Nat} (hq : q < 1114112) (hc : c < 1114112) (h : x ∈ PySem.Builtin.Str.reprChar q c) : x < 1114112 := by
  have hex : ∀ w, x ∈ List.replicate (w - ((Nat.toDigits 16 c).map Char.toNat).length) 48 ++ (Nat.toDigits 16 c).map Char.toNat → x < 1114112 := by
    intro w hx
    rcases List.mem_append.mp hx with hx | hx
    · rw [(List.mem_replicate.mp hx).2]; decide
    · obtain ⟨d, _, rfl⟩ := List.mem_map.mp hx
      exact char_lt d
  have two : ∀ a b : Nat, a < 1114112 → b < 1114112 → x ∈ [a, b] → x < 1114112 := by
    intro a b ha hb hx
    simp only [List.mem_cons, List.not_mem_nil, or_false] at hx
    rcases hx with rfl | rfl <;> assumption
  unfold PySem.Builtin.Str.reprChar at h
  split at h
  · exact two 92 c (by decide) hc h
  split at h
  · exact two 92 110 (by decide) (by decide) h
  split at h
  · exact two 92 114 (by decide) (by decide) h
  split at h
  · exact two 92 116 (by decide) (by decide) h
  split at h
  · simp only [List.mem_cons, List.not_mem_nil, or_false] at h
    rw [h]; exact hc
  split at h
  · rcases List.mem_append.mp h with h | h
    · exact two 92 120 (by decide) (by decide) h
    · exact hex 2 h
  split at h
  · rcases List.mem_append.mp h with h | h
    · exact two 92 117 (by decide) (by decide) h
    · exact hex 4 h
  · rcases List.mem_append.mp h with h | h
    · exact two 92 85 (by decide) (by decide) h
    · exact hex 8 h
theorem reprText_sg {x : Str} (h : SgS x) : SgS (reprText x) := by
  have hq : reprQuote x < 1114112 := by unfold reprQuote; split <;> decide
  have key : ∀ (l : List Nat) (acc : Array Nat), (∀ c ∈ l, c < 1114112) → (∀ c ∈ acc.toList, c < 1114112) → ∀ c ∈ (l.foldl (fun out c => out ++ (PySem.Builtin.Str.reprChar (reprQuote x) c).toArray) acc).toList, c < 1114112 := by
    intro l
    induction l with
    | nil => exact fun acc _ ha => ha
    | cons y ys ih =>
      intro acc hl ha
      refine ih _ (fun c hc => hl c (List.mem_cons_of_mem _ hc)) fun c hc => ?_
      rw [Array.toList_append] at hc
      rcases List.mem_append.mp hc with hc | hc
      · exact ha c hc
      · exact reprChar_lt hq (hl y List.mem_cons_self) hc
  intro c hc
  unfold reprText at hc
  rw [Array.toList_push, ← Array.foldl_toList] at hc
  rcases List.mem_append.mp hc with hc | hc
  · refine key _ _ h (fun c hc => ?_) c hc
    simp only [List.mem_cons, List.not_mem_nil, or_false] at hc
    rw [hc]; exact hq
  · rw [List.mem_singleton.mp hc]; exact hq
theorem textFrom_sg : ∀ (ts : List Str) (k : Nat) (acc : Str), SgS acc → (∀ t ∈ ts, SgS t) → SgS (textFrom k acc ts)
  | [], _, _, h, _ => h
  | t :: ts, k, acc, h, hs => textFrom_sg ts (k + 1) _ ((h.app (SgS.lit _)).app (hs t List.mem_cons_self)) fun u hu => hs u (List.mem_cons_of_mem _ hu)
theorem join_sg {sep : Str} (h : SgS sep) : ∀ ts : List Str, (∀ t ∈ ts, SgS t) → SgS (Str.join sep ts)
  | [], _ => fun c hc => by cases hc
  | [x], hs => hs x List.mem_cons_self
  | x :: y :: r, hs => ((hs x List.mem_cons_self).app h).app (join_sg h (y :: r) fun u hu => hs u (List.mem_cons_of_mem _ hu))
/-! leaves that can be shown: small ints, texts -/
mutual
def D.sg : D → Bool
  | .non | .bl _ => true
  | .int i => decide (-999999999999 ≤ i ∧ i ≤ 999999999999)
  | .str s => s.all fun c => decide (c < 1114112)
  | .tup xs | .lst xs => D.sgs xs
  | _ => false
def D.sgs : List D → Bool
  | [] => true
  | x :: xs => D.sg x && D.sgs xs
end
mutual
theorem shown_sg : ∀ d : D, d.sg = true → SgS (PyData.shown (py d))
  | .non, _ => by simp only [py, PyData.shown]; exact SgS.lit _
  | .bl b, _ => by simp only [py, PyData.shown]; cases b <;> exact SgS.lit _
  | .int i, _ => by simp only [py, PyData.shown]; exact SgS.lit _
  | .str s, h => by
    simp only [py, PyData.shown]
    refine reprText_sg fun c hc => ?_
    simp only [D.sg, List.all_eq_true, decide_eq_true_eq] at h
    exact h c hc
  | .tup xs, h => by
    simp only [py, PyData.shown]
    have hs := shownAll_sg xs (by simpa only [D.sg] using h)
    unfold tupleText
    exact ((SgS.lit _).app (join_sg (SgS.lit _) _ hs)).app (SgS.lit _)
  | .lst xs, h => by
    simp only [py, PyData.shown]
    have hs := shownAll_sg xs (by simpa only [D.sg] using h)
    unfold listText
    exact (textFrom_sg _ 0 _ (SgS.lit _) hs).app (SgS.lit _)
  | .dct _ _, h => by simp [D.sg] at h
  | .obj _ _ _, h => by simp [D.sg] at h
  | .cls _, h => by simp [D.sg] at h
  | .scr _, h => by simp [D.sg] at h
theorem shownAll_sg : ∀ xs : List D, D.sgs xs = true → ∀ t ∈ PyData.shownAll (pys xs), SgS t
  | [], _, t, ht => by simp only [pys, PyData.shownAll] at ht; cases ht
  | x :: xs, h, t, ht => by
    have h' : D.sg x = true ∧ D.sgs xs = true := by simpa only [D.sgs, Bool.and_eq_true] using h
    simp only [pys, PyData.shownAll] at ht
    rcases List.mem_cons.mp ht with rfl | ht
    · exact shown_sg x h'.1
    · exact shownAll_sg xs h'.2 t ht
end
theorem log_small {i : Int} (h : -999999999999 ≤ i ∧ i ≤ 999999999999) : i.natAbs.log2 < 1920 := by
  have : i.natAbs < 2 ^ 41 := by
    have : (2 : Nat) ^ 41 = 2199023255552 := by decide
    omega
  by_cases h0 : i.natAbs = 0
  · rw [h0]; decide
  · exact Nat.lt_trans ((Nat.log2_lt h0).mpr this) (by decide)
mutual
theorem leaves_sg : ∀ d : D, d.sg = true → (py d).leavesShort 13 = true ∧ (py d).showable = true
  | .non, _ => by simp only [py, PyData.leavesShort, PyData.showable, and_self]
  | .bl b, _ => by simp only [py, PyData.leavesShort, PyData.showable, and_self]
  | .int i, h => by
    simp only [D.sg, decide_eq_true_eq] at h
    simp only [py, PyData.leavesShort, PyData.showable, decide_eq_true_eq]
    exact ⟨PyData.shown_int_le2 h.1 h.2, log_small h⟩
  | .str s, h => by
    simp only [D.sg, List.all_eq_true, decide_eq_true_eq] at h
    simp only [py, PyData.leavesShort, PyData.showable, List.all_eq_true, decide_eq_true_eq, and_true]
    intro c hc
    exact Nat.lt_trans (h c hc) (by decide)
  | .tup xs, h => by
    simp only [py, PyData.leavesShort, PyData.showable]
    exact leavesAll_sg xs (by simpa only [D.sg] using h)
  | .lst xs, h => by
    simp only [py, PyData.leavesShort, PyData.showable]
    exact leavesAll_sg xs (by simpa only [D.sg] using h)
  | .dct _ _, h => by simp [D.sg] at h
  | .obj _ _ _, h => by simp [D.sg] at h
  | .cls _, h => by simp [D.sg] at h
  | .scr _, h => by simp [D.sg] at h
theorem leavesAll_sg : ∀ xs : List D, D.sgs xs = true → PyData.leavesShortAll 13 (pys xs) = true ∧ PyData.showableAll (pys xs) = true
  | [], _ => by simp only [pys, PyData.leavesShortAll, PyData.showableAll, and_self]
  | x :: xs, h => by
    have h' : D.sg x = true ∧ D.sgs xs = true := by simpa only [D.sgs, Bool.and_eq_true] using h
    obtain ⟨a, b⟩ := leaves_sg x h'.1
    obtain ⟨c, d⟩ := leavesAll_sg xs h'.2
    simp only [pys, PyData.leavesShortAll, PyData.showableAll, a, b, c, d, Bool.and_self, and_self]
end
/-- how much a repr is at most, in signs and items -/
def D.bulk (d : D) : Nat := (py d).bulk
theorem bulk_int {i : Int} : (D.int i).bulk = 0 := by simp only [D.bulk, py, PyData.bulk]
theorem bulk_str {s : List Nat} : (D.str s).bulk = s.length := by simp only [D.bulk, py, PyData.bulk, st, List.size_toArray]
theorem bulks_le {B : Nat} : ∀ xs : List D, (∀ x ∈ xs, x.bulk ≤ B) → PyData.bulkAll (pys xs) ≤ xs.length * (B + 1)
  | [], _ => by simp only [pys, PyData.bulkAll]; omega
  | x :: xs, h => by
    have h1 := h x List.mem_cons_self
    have h2 := bulks_le xs fun y hy => h y (List.mem_cons_of_mem _ hy)
    unfold D.bulk at h1
    simp only [pys, PyData.bulkAll, List.length_cons, Nat.succ_mul]
    omega
theorem bulk_tup {B : Nat} {xs : List D} (h : ∀ x ∈ xs, x.bulk ≤ B) : (D.tup xs).bulk ≤ xs.length * (B + 1) := by
  simp only [D.bulk, py, PyData.bulk]; exact bulks_le xs h
theorem bulk_lst {B : Nat} {xs : List D} (h : ∀ x ∈ xs, x.bulk ≤ B) : (D.lst xs).bulk ≤ xs.length * (B + 1) := by
  simp only [D.bulk, py, PyData.bulk]; exact bulks_le xs h
theorem canShow_of {d : D} (h1 : D.okq eqLim d = true) (h2 : d.sg = true) (h3 : d.bulk ≤ 1000000) : d.canShow := by
  obtain ⟨a, b⟩ := leaves_sg d h2
  refine ⟨h1, b, shown_sg d h2, ?_⟩
  have := PyData.shown_le_bulk 13 (by decide) (py d) a
  unfold D.bulk at h3
  show (PyData.shown (py d)).length ≤ 16777216
  omega
theorem bf_repr {d : D} {L : LH} (h : d.canShow) : bfun .repr [.d d] L = .ok (.d (.str d.shown)) L := by
  have e : dv dvLim L (.d d) = some d := rfl
  simp only [bfun, bRepr, e, h, if_true]
theorem sgs_map {α : Type} {f : α → D} : ∀ xs : List α, (∀ x ∈ xs, D.sg (f x) = true) → D.sgs (xs.map f) = true
  | [], _ => rfl
  | x :: xs, h => by
    simp only [List.map_cons, D.sgs, h x List.mem_cons_self, sgs_map xs fun y hy => h y (List.mem_cons_of_mem _ hy), Bool.and_self]
theorem bulk_dT {α : Type} {f : α → D} {B n : Nat} {xs : List α} (hl : xs.length ≤ n) (h : ∀ x ∈ xs, (f x).bulk ≤ B) : (D.tup (xs.map f)).bulk ≤ n * (B + 1) := by
  have := bulk_tup (B := B) (xs := xs.map f) fun y hy => by
    obtain ⟨x, hx, rfl⟩ := List.mem_map.mp hy
    exact h x hx
  rw [List.length_map] at this
  exact Nat.le_trans this (Nat.mul_le_mul_right _ hl)
end L3
end
section
set_option Elab.async false
set_option linter.all false
set_option maxRecDepth 100000
set_option maxHeartbeats 4000000
/-! the table of k64 -/
namespace K64
open PySem L3
def x_law_1 : CE := .lc false [2] (.name 2) (.range1 (.var 9)) none (.call 13 [(.var 1), (.var 17)])
def x_law_2 : CE := .lc false [17] (.name 17) (.of (.var 6)) none (.meth .join (.lit (.str [])) [x_law_1])
def x_law_3 : CS := .forr (.name 8) (.range1 (.lit (.int 5))) [.asg (.name 9) (.call 13 [(.var 1), (.lst false [.one (.lit (.int 0)), .one (.lit (.int 1)), .one (.lit (.int 2)), .one (.lit (.int 3)), .one (.lit (.int 9)), .one (.lit (.int 60))])]), .asg (.name 10) (.callB .tuple [x_law_2]), .asg (.tup [(.name 11), (.name 12)]) (.call 19 [(.var 4), (.var 6), (.var 10)]), .asg (.name 13) (.tup [.one (.var 11), .one (.call 20 [(.var 12), (.var 9)])]), .asg (.name 14) (.lst true [.one (.tup [.one (.call 10 [(.var 4), (.var 6), (.var 10)]), .one (.call 11 [(.var 4), (.var 6), (.var 10)])])]), .asg (.name 15) (.callK 10 [] [2, 1, 0] [(.var 10), (.var 6), (.var 4)]), .expr (.meth .append (.var 14) [(.tup [.one (.var 15), .one (.callK 11 [] [1, 0, 2] [(.var 6), (.var 4), (.var 10)])])]), .ite (.or (.cmp .ne (.callB .repr [(.var 14)]) (.callB .repr [(.lst false [.one (.var 13), .one (.var 13)])])) (.or (.cmp .ne (.idx (.var 13) (.lit (.int 1))) (.umeth 0 (.var 5) [(.var 10)])) (.cmp .ne (.callB .repr [(.var 4)]) (.var 7)))) [.ret (.lit (.bl false))] [], .asg (.name 16) (.tup [.one (.lit (.str [101, 110, 100])), .one (.lit (.int 1)), .one (.tup [.one (.lit (.str [97])), .one (.lit (.str [98])), .one (.lit (.str [99]))])]), .asg (.name 14) (.tup [.one (.call 10 [(.var 16), (.var 6), (.var 10)]), .one (.call 11 [(.var 16), (.var 6), (.var 10)])]), .ite (.cmp .ne (.callB .repr [(.var 14)]) (.callB .repr [(.tup [.one (.tup []), .one (.ite (.cmp .eq (.var 9) (.lit (.int 0))) (.lit (.str [97])) (.ite (.cmp .eq (.bin .mod (.var 9) (.lit (.int 2))) (.lit (.int 1))) (.lit (.str [98])) (.lit (.str [99]))))])])) [.ret (.lit (.bl false))] []]
def x_law_4 : CS := .forr (.name 2) (.range1 (.lit (.int 4))) [.asg (.name 3) (.call 2 [(.var 1)]), .par [4, 5, 6] [(.call 18 [(.var 1), (.var 3)]), (.call 4 [(.call 5 [(.var 3)])]), (.idx (.var 3) (.lit (.str [97, 108, 112, 104, 97, 98, 101, 116, 115])))], .asg (.name 7) (.callB .repr [(.var 4)]), x_law_3]
def b_law : List CS := [.asg (.name 1) (.call 1 [(.var 0)]), x_law_4, .ret (.lit (.bl true))]
def d_law : FDef := ⟨18, 1, b_law, false⟩
def x__law_deck_1 : CS := .forr (.name 2) (.of (.slc false (.var 0) none (some (.lit (.int 63))))) [.asg (.name 1) (.bin .mod (.callB .int [(.bin .add (.bin .add (.bin .mul (.var 1) (.lit (.int 48271))) (.bin .mod (.callB .int [(.var 2)]) (.lit (.int 2147483629)))) (.lit (.int 81)))]) (.lit (.int 2147483587)))]
def b__law_deck : List CS := [.asg (.name 1) (.lit (.int 136264)), x__law_deck_1, .ret (.dict true [(.lit (.str [108, 101, 102, 116])), (.rev true (.callB (.list false) [(.slc false (.var 0) none (some (.lit (.int 63))))])), (.lit (.str [109, 105, 120, 101, 100])), (.var 1), (.lit (.str [100, 114, 97, 119, 115])), (.lit (.int 0))])]
def d__law_deck : FDef := ⟨3, 1, b__law_deck, true⟩
def x__law_little_1 : CE := .lc false [8] (.name 8) (.of (.var 2)) none (.call 13 [(.var 0), (.bin .add (.lst false [.one (.lit (.str [97, 98])), .one (.lit (.str [98, 122])), .one (.lit (.str [107]))]) (.bin .mul (.lst false [.one (.lit (.str [97, 99, 120]))]) (.bin .sub (.lit (.int 3)) (.callB .len [(.var 2)]))))])
def x__law_little_2 : CE := .lc false [14] (.name 14) (.of (.var 7)) none (.call 14 [(.var 0), (.var 8)])
def x__law_little_3 : CE := .lc false [13] (.name 13) (.range1 (.var 8)) none (.callB .tuple [x__law_little_2])
def x__law_little_4 : CE := .lc false [13] (.name 13) (.range1 (.var 8)) none (.call 14 [(.var 0), (.idx (.var 5) (.neg (.lit (.int 1))))])
def x__law_little_5 : CS := .forr (.tup [(.name 7), (.name 8)]) (.zip [(.var 4), (.var 2)]) [.expr (.meth .append (.var 5) [(.bin .add (.lit (.int 1)) (.call 14 [(.var 0), (.var 8)]))]), .asg (.name 9) (.callB .tuple [x__law_little_3]), .expr (.meth .append (.var 6) [(.tup [.one (.var 9), .one (.callB .tuple [x__law_little_4])])])]
def x__law_little_6 : CE := .lc false [15] (.name 15) (.of (.var 5)) none (.lrange false (.var 15))
def x__law_little_7 : CE := .lc false [13] (.name 13) (.range1 (.var 10)) none (.call 13 [(.var 0), (.var 12)])
def x__law_little_8 : CE := .lc false [16] (.name 16) (.range1 (.var 3)) none (.callB .tuple [x__law_little_7])
def b__law_little : List CS := [.asg (.name 1) (.lst false [.one (.tup [.one (.tup [.one (.lit (.int 2)), .one (.lit (.int 2))]), .one (.lit (.int 1))]), .one (.tup [.one (.tup [.one (.lit (.int 2)), .one (.lit (.int 1))]), .one (.lit (.int 2))]), .one (.tup [.one (.tup [.one (.lit (.int 1)), .one (.lit (.int 2))]), .one (.lit (.int 2))]), .one (.tup [.one (.tup [.one (.lit (.int 1)), .one (.lit (.int 1))]), .one (.lit (.int 4))]), .one (.tup [.one (.tup [.one (.lit (.int 4)), .one (.lit (.int 1))]), .one (.lit (.int 1))]), .one (.tup [.one (.tup [.one (.lit (.int 1)), .one (.lit (.int 4))]), .one (.lit (.int 1))])]), .asg (.name 1) (.bin .add (.var 1) (.lst false [.one (.tup [.one (.tup [.one (.lit (.int 2)), .one (.lit (.int 1)), .one (.lit (.int 2))]), .one (.lit (.int 1))]), .one (.tup [.one (.tup [.one (.lit (.int 1)), .one (.lit (.int 2)), .one (.lit (.int 1))]), .one (.lit (.int 2))])])), .asg (.tup [(.name 2), (.name 3)]) (.call 13 [(.var 0), (.var 1)]), .asg (.name 4) (.callB .tuple [x__law_little_1]), .par [5, 6] [(.lst true []), (.lst true [])], x__law_little_5, .asg (.name 10) (.callB .len [(.call 15 [x__law_little_6])]), .asg (.name 11) (.dict true [(.lit (.str [97, 108, 112, 104, 97, 98, 101, 116, 115])), (.var 4), (.lit (.str [115, 105, 122, 101, 115])), (.callB .tuple [(.var 5)]), (.lit (.str [100, 101, 115, 107, 115])), (.callB .tuple [(.var 6)]), (.lit (.str [116, 97, 105, 108])), (.call 14 [(.var 0), (.var 3)])]), .asg (.name 12) (.lst false [.one (.lit (.str [97])), .one (.lit (.str [98, 98])), .one (.lit (.str [121, 101, 115])), .one (.lit (.str [122, 122, 122, 122, 122, 122, 122, 122]))]), .setI (.var 11) (.lit (.str [116, 97, 98, 108, 101])) (.callB .tuple [x__law_little_8]), .ret (.frz (.var 11))]
def d__law_little : FDef := ⟨17, 1, b__law_little, false⟩
def x__law_last_1 : CS := .forr (.tup [(.name 3), (.name 4)]) (.zip [(.idx (.var 0) (.lit (.str [115, 105, 122, 101, 115]))), (.var 1)]) [.asg (.name 2) (.bin .add (.bin .mul (.var 2) (.var 3)) (.var 4))]
def x__law_last_2 : CE := .lc false [5] (.name 5) (.of (.idx (.var 0) (.lit (.str [116, 97, 98, 108, 101])))) none (.idx (.var 5) (.var 2))
def b__law_last : List CS := [.asg (.name 2) (.lit (.int 0)), x__law_last_1, .ret (.tup [.one (.lit (.str [101, 110, 100])), .one (.idx (.var 0) (.lit (.str [116, 97, 105, 108]))), .one (.callB .tuple [x__law_last_2])])]
def d__law_last : FDef := ⟨6, 2, b__law_last, false⟩
def b__law_code : List CS := [.ret (.make 0 [(.idx (.var 0) (.lit (.str [97, 108, 112, 104, 97, 98, 101, 116, 115]))), (.idx (.var 0) (.lit (.str [110, 101, 120, 116, 115]))), (.idx (.var 0) (.lit (.str [101, 110, 100, 115])))])]
def d__law_code : FDef := ⟨1, 1, b__law_code, false⟩
def x__law_world_1 : CS := .forr (.name 6) (.of (.call 15 [(.idx (.var 0) (.lit (.str [97, 108, 112, 104, 97, 98, 101, 116, 115])))])) [.asg (.name 7) (.tup [.one (.call 7 [(.var 0), (.var 3), (.var 6)]), .one (.call 8 [(.var 0), (.var 4)])]), .ite (.cmp .notin (.var 7) (.var 1)) [.expr (.meth .append (.var 1) [(.var 7)])] [], .expr (.meth .append (.var 5) [(.meth .lindex (.var 1) [(.var 7)])])]
def x__law_world_2 : CS := .whil (.cmp .lt (.callB .len [(.var 2)]) (.callB .len [(.var 1)])) [.asg (.tup [(.name 3), (.name 4)]) (.idx (.var 1) (.callB .len [(.var 2)])), .asg (.name 5) (.lst true []), x__law_world_1, .expr (.meth .append (.var 2) [(.callB .tuple [(.var 5)])])]
def x__law_world_3 : CE := .lc false [3, 4] (.tup [(.name 3), (.name 4)]) (.of (.var 1)) none (.call 9 [(.var 0), (.var 3), (.var 4)])
def b__law_world : List CS := [.par [1, 2] [(.lst true [.one (.tup [.one (.bin .mul (.tup [.one (.lit (.int 0))]) (.callB .len [(.idx (.var 0) (.lit (.str [97, 108, 112, 104, 97, 98, 101, 116, 115])))])), .one (.lit (.int 0))])]), (.lst true [])], x__law_world_2, .asg (.name 8) (.callB .tuple [x__law_world_3]), .ret (.dict false [(.lit (.str [97, 108, 112, 104, 97, 98, 101, 116, 115])), (.idx (.var 0) (.lit (.str [97, 108, 112, 104, 97, 98, 101, 116, 115]))), (.lit (.str [110, 101, 120, 116, 115])), (.callB .tuple [(.var 2)]), (.lit (.str [101, 110, 100, 115])), (.var 8)])]
def d__law_world : FDef := ⟨9, 1, b__law_world, false⟩
def x__law_halves_1 : CS := .forr (.name 10) (.range1 (.idx (.idx (.var 1) (.lit (.str [115, 105, 122, 101, 115]))) (.var 4))) [.asg (.name 11) (.cmp .eq (.bin .mod (.var 10) (.lit (.int 2))) (.var 8)), .expr (.meth .append (.var 9) [(.ite (.e (.var 11)) (.call 17 [(.var 0), (.var 1), (.var 2), (.bin .add (.var 3) (.lst false [.one (.tup [.one (.var 4), .one (.var 10)])])), (.lit (.bl false))]) (.tup [.one (.lit (.str [101, 110, 100])), .one (.lit (.int 0)), .one (.tup [.one (.lit (.str [110, 101, 118, 101, 114]))])]))])]
def x__law_halves_2 : CS := .forr (.name 8) (.range1 (.lit (.int 2))) [.asg (.name 9) (.lst true []), x__law_halves_1, .expr (.meth .append (.var 7) [(.tup [.one (.lit (.str [97, 115, 107])), .one (.var 4), .one (.var 5), .one (.var 6), .one (.callB .tuple [(.var 9)])])])]
def x__law_halves_3 : CE := .lc false [10] (.name 10) (.of (.var 6)) none (.bin .mod (.var 10) (.lit (.int 2)))
def b__law_halves : List CS := [.asg (.tup [(.name 5), (.name 6)]) (.idx (.idx (.var 1) (.lit (.str [100, 101, 115, 107, 115]))) (.var 4)), .asg (.name 7) (.lst true []), x__law_halves_2, .ret (.tup [.one (.lit (.str [97, 115, 107])), .one (.var 4), .one (.var 5), .one (.callB .tuple [x__law_halves_3]), .one (.callB .tuple [(.var 7)])])]
def d__law_halves : FDef := ⟨12, 5, b__law_halves, false⟩
def x__law_moved_1 : CS := .forr (.tup [(.name 4), (.name 5), (.name 6), (.name 7)]) (.zip [(.idx (.var 0) (.lit (.str [100, 101, 115, 107, 115]))), (.idx (.var 0) (.lit (.str [97, 108, 112, 104, 97, 98, 101, 116, 115]))), (.var 1), (.var 2)]) [.expr (.meth .append (.var 3) [(.idx (.idx (.idx (.var 4) (.lit (.int 0))) (.var 6)) (.meth .sindex (.var 5) [(.var 7)]))])]
def b__law_moved : List CS := [.asg (.name 3) (.lst true []), x__law_moved_1, .ret (.callB .tuple [(.var 3)])]
def d__law_moved : FDef := ⟨8, 3, b__law_moved, false⟩
def b__law_later : List CS := [.ret (.ite (.cmp .lt (.bin .add (.var 1) (.lit (.int 1))) (.callB .len [(.idx (.var 0) (.lit (.str [116, 97, 98, 108, 101])))])) (.bin .add (.var 1) (.lit (.int 1))) (.idx (.var 0) (.lit (.str [116, 97, 105, 108]))))]
def d__law_later : FDef := ⟨2, 2, b__law_later, false⟩
def x__law_said_1 : CS := .forr (.tup [(.name 4), (.name 5), (.name 6)]) (.zip [(.idx (.var 0) (.lit (.str [115, 105, 122, 101, 115]))), (.idx (.var 0) (.lit (.str [100, 101, 115, 107, 115]))), (.var 1)]) [.asg (.name 3) (.bin .add (.bin .mul (.var 3) (.var 4)) (.idx (.idx (.var 5) (.lit (.int 1))) (.var 6)))]
def b__law_said : List CS := [.asg (.name 3) (.lit (.int 0)), x__law_said_1, .ret (.idx (.idx (.idx (.var 0) (.lit (.str [116, 97, 98, 108, 101]))) (.var 2)) (.var 3))]
def d__law_said : FDef := ⟨7, 3, b__law_said, false⟩
def b_course : List CS := [.ret (.idx (.call 25 [(.var 0), (.var 1), (.var 2)]) (.lit (.int 0)))]
def d_course : FDef := ⟨3, 3, b_course, false⟩
def b_heard : List CS := [.ret (.call 32 [(.idx (.call 25 [(.var 0), (.var 1), (.var 2)]) (.lit (.int 1))), (.callB .len [(.idx (.var 2) (.lit (.int 0)))])])]
def d_heard : FDef := ⟨3, 3, b_heard, false⟩
def b_Rule_outcome : List CS := [.ret (.idx (.attr 1 (.var 0)) (.umeth 2 (.var 0) [(.var 1)]))]
def d_Rule_outcome : FDef := ⟨2, 2, b_Rule_outcome, false⟩
def b__law_pick : List CS := [.ret (.idx (.var 1) (.call 14 [(.var 0), (.callB .len [(.var 1)])]))]
def d__law_pick : FDef := ⟨2, 2, b__law_pick, false⟩
def b__law_draw : List CS := [.setI (.var 0) (.lit (.str [100, 114, 97, 119, 115])) (.bin .add (.idx (.var 0) (.lit (.str [100, 114, 97, 119, 115]))) (.lit (.int 1))), .asg (.name 2) (.bin .add (.idx (.var 0) (.lit (.str [109, 105, 120, 101, 100]))) (.bin .mul (.lit (.int 60149)) (.idx (.var 0) (.lit (.str [100, 114, 97, 119, 115]))))), .ite (.cmp .ne (.idx (.var 0) (.lit (.str [108, 101, 102, 116]))) (.lst false [])) [.asg (.name 3) (.meth .pop (.idx (.var 0) (.lit (.str [108, 101, 102, 116]))) []), .ite (.cmp .ge (.var 3) (.bin .pow (.lit (.int 10)) (.lit (.int 18)))) [.expr (.meth .append (.idx (.var 0) (.lit (.str [108, 101, 102, 116]))) [(.bin .fdiv (.var 3) (.var 1))]), .ret (.callB .int [(.bin .mod (.var 3) (.var 1))])] [], .asg (.name 2) (.bin .add (.var 2) (.bin .mod (.callB .int [(.var 3)]) (.lit (.int 2147483629))))] [], .asg (.name 2) (.bin .mod (.callB .int [(.bin .add (.bin .mul (.var 2) (.lit (.int 39373))) (.lit (.int 29)))]) (.lit (.int 2147483647))), .asg (.name 2) (.bin .mod (.callB .int [(.bin .add (.bin .add (.bin .mul (.var 2) (.var 2)) (.bin .mul (.lit (.int 52711)) (.idx (.var 0) (.lit (.str [100, 114, 97, 119, 115]))))) (.lit (.int 29)))]) (.lit (.int 2147483587))), .ret (.callB .int [(.bin .mod (.bin .fdiv (.bin .mod (.bin .mul (.var 2) (.lit (.int 40692))) (.lit (.int 2147483563))) (.lit (.int 64))) (.var 1))])]
def d__law_draw : FDef := ⟨4, 2, b__law_draw, false⟩
def x__law_tuples_1 : CE := .lc false [5] (.name 5) (.of (.var 2)) none (.bin .add (.var 4) (.tup [.one (.var 5)]))
def x__law_tuples_2 : CS := .forr (.name 4) (.of (.var 1)) [.expr (.meth .extend (.var 3) [x__law_tuples_1])]
def x__law_tuples_3 : CS := .forr (.name 2) (.of (.var 0)) [.asg (.name 3) (.lst true []), x__law_tuples_2, .asg (.name 1) (.frz (.var 3))]
def b__law_tuples : List CS := [.asg (.name 1) (.lst false [.one (.tup [])]), x__law_tuples_3, .ret (.var 1)]
def d__law_tuples : FDef := ⟨6, 1, b__law_tuples, false⟩
def x_RuleU_initU_1 : CE := .dc false [4, 5] (.tup [(.name 4), (.name 5)]) (.enum (.call 23 [(.var 1)]) none) none (.var 5) (.var 4)
def b_RuleU_initU : List CS := [.expr (.call 22 [(.var 1), (.var 2), (.var 3)]), .setA (.var 0) 3 (.var 1), .setA (.var 0) 4 (.var 2), .setA (.var 0) 1 (.var 3), .setA (.var 0) 5 x_RuleU_initU_1]
def d_RuleU_initU : FDef := ⟨6, 4, b_RuleU_initU, false⟩
def x__law_asked_1 : CE := .lc false [6, 12] (.tup [(.name 6), (.name 12)]) (.of (.callB (.sorted false) [(.var 3)])) none (.var 12)
def x__law_asked_2 : CE := .lc false [14] (.name 14) (.of (.idx (.idx (.var 1) (.lit (.str [97, 108, 112, 104, 97, 98, 101, 116, 115]))) (.var 6))) none (.call 14 [(.var 0), (.lit (.int 2))])
def x__law_asked_3 : CE := .lc false [13] (.name 13) (.range1 (.lit (.int 2))) none (.callB .tuple [x__law_asked_2])
def x__law_asked_4 : CS := .forr (.name 12) (.range1 (.idx (.idx (.var 1) (.lit (.str [115, 105, 122, 101, 115]))) (.var 6))) [.expr (.meth .append (.var 11) [(.call 17 [(.var 0), (.var 1), (.var 10), (.bin .add (.var 3) (.lst false [.one (.tup [.one (.var 6), .one (.var 12)])])), (.and (.var 4) (.cmp .eq (.var 12) (.lit (.int 0))))])])]
def b__law_asked : List CS := [.ite (.cmp .eq (.var 2) (.lst false [])) [.ret (.call 3 [(.var 1), x__law_asked_1])] [], .asg (.name 5) (.ite (.e (.var 4)) (.call 14 [(.var 0), (.lit (.int 4))]) (.lit (.int 3))), .ite (.cmp .eq (.var 5) (.lit (.int 0))) [.asg (.name 6) (.call 14 [(.var 0), (.callB .len [(.idx (.var 1) (.lit (.str [115, 105, 122, 101, 115])))])]), .asg (.name 7) (.call 17 [(.var 0), (.var 1), (.var 2), (.var 3), (.lit (.bl false))]), .asg (.name 8) (.callB .tuple [x__law_asked_3]), .ret (.tup [.one (.lit (.str [97, 115, 107])), .one (.var 6), .one (.var 8), .one (.tup [.one (.lit (.int 0)), .one (.lit (.int 1))]), .one (.tup [.one (.var 7), .one (.var 7)])])] [], .asg (.name 9) (.call 14 [(.var 0), (.callB .len [(.var 2)])]), .par [6, 10] [(.idx (.var 2) (.var 9)), (.bin .add (.slc false (.var 2) none (some (.var 9))) (.slc false (.var 2) (some (.bin .add (.var 9) (.lit (.int 1)))) none))], .ite (.cmp .eq (.var 5) (.lit (.int 1))) [.ret (.call 6 [(.var 0), (.var 1), (.var 10), (.var 3), (.var 6)])] [], .asg (.name 11) (.lst true []), x__law_asked_4, .ret (.tup [.one (.lit (.str [97, 115, 107])), .one (.var 6), .one (.idx (.idx (.idx (.var 1) (.lit (.str [100, 101, 115, 107, 115]))) (.var 6)) (.lit (.int 0))), .one (.idx (.idx (.idx (.var 1) (.lit (.str [100, 101, 115, 107, 115]))) (.var 6)) (.lit (.int 1))), .one (.callB .tuple [(.var 11)])])]
def d__law_asked : FDef := ⟨15, 5, b__law_asked, false⟩
def b__law_by_hand : List CS := [.ret (.call 17 [(.var 0), (.var 1), (.lrange false (.callB .len [(.idx (.var 1) (.lit (.str [115, 105, 122, 101, 115])))])), (.lst false []), (.lit (.bl true))])]
def d__law_by_hand : FDef := ⟨2, 2, b__law_by_hand, false⟩
def x__law_answered_1 : CS := .forr (.name 7) (.of (.idx (.var 2) (.idx (.var 4) (.lit (.int 1))))) [.asg (.name 5) (.idx (.idx (.idx (.var 4) (.lit (.int 2))) (.var 5)) (.meth .sindex (.var 6) [(.var 7)]))]
def x__law_answered_2 : CS := .whil (.cmp .eq (.idx (.var 4) (.lit (.int 0))) (.lit (.str [97, 115, 107]))) [.par [5, 6] [(.lit (.int 0)), (.idx (.var 1) (.idx (.var 4) (.lit (.int 1))))], x__law_answered_1, .expr (.meth .append (.var 3) [(.idx (.idx (.var 4) (.lit (.int 3))) (.var 5))]), .asg (.name 4) (.idx (.idx (.var 4) (.lit (.int 4))) (.idx (.var 3) (.neg (.lit (.int 1)))))]
def b__law_answered : List CS := [.par [3, 4] [(.lst true []), (.var 0)], x__law_answered_2, .ret (.tup [.one (.callB .tuple [(.var 3)]), .one (.var 4)])]
def d__law_answered : FDef := ⟨8, 3, b__law_answered, false⟩
def x__law_on_1 : CS := .forr (.name 3) (.range1 (.var 1)) [.asg (.name 2) (.ite (.cmp .lt (.bin .add (.var 2) (.lit (.int 1))) (.callB .len [(.idx (.var 0) (.lit (.int 2)))])) (.bin .add (.var 2) (.lit (.int 1))) (.idx (.var 0) (.lit (.int 1))))]
def b__law_on : List CS := [.asg (.name 2) (.lit (.int 0)), x__law_on_1, .ret (.idx (.idx (.var 0) (.lit (.int 2))) (.var 2))]
def d__law_on : FDef := ⟨4, 2, b__law_on, false⟩
def x_Rule_state_1 : CS := .forr (.name 3) (.of (.call 24 [(.var 1)])) [.asg (.name 2) (.idx (.idx (.attr 4 (.var 0)) (.var 2)) (.idx (.attr 5 (.var 0)) (.var 3)))]
def b_Rule_state : List CS := [.ite (.not (.e (.umeth 6 (.var 0) [(.var 1)]))) [.wall] [], .asg (.name 2) (.lit (.int 0)), x_Rule_state_1, .ret (.var 2)]
def d_Rule_state : FDef := ⟨4, 2, b_Rule_state, false⟩
def x_check_parts_1 : CE := .lc false [5] (.name 5) (.of (.var 0)) none (.call 27 [(.var 5)])
def x_check_parts_2 : CS := .forr (.name 4) (.of (.var 1)) [.ite (.not (.e (.call 28 [(.var 4), (.var 3), (.callB .len [(.var 1)])]))) [.wall] []]
def x_check_parts_3 : CE := .lc false [6] (.name 6) (.of (.var 2)) none (.call 29 [(.var 6)])
def b_check_parts : List CS := [.ite (.or (.not (.e (.isinst .tuple (.var 0)))) (.or (.cmp .notin (.callB .len [(.var 0)]) (.lit (.tup [(.int 2), (.int 3)]))) (.not (.e (.callB .all [x_check_parts_1]))))) [.wall] [], .ite (.or (.not (.e (.isinst .tuple (.var 1)))) (.cmp .eq (.var 1) (.tup []))) [.wall] [], .asg (.name 3) (.callB .len [(.call 23 [(.var 0)])]), x_check_parts_2, .ite (.or (.not (.e (.isinst .tuple (.var 2)))) (.cmp .ne (.callB .len [(.var 2)]) (.callB .len [(.var 1)]))) [.wall] [], .ite (.not (.e (.callB .all [x_check_parts_3]))) [.wall] []]
def d_check_parts : FDef := ⟨7, 3, b_check_parts, false⟩
def x_days_of_1 : CE := .lc2 false [3, 4] (.name 3) (.of (.var 1)) none [4] (.name 4) (.of (.var 2)) none (.tup [.star (.var 3), .one (.var 4)])
def x_days_of_2 : CS := .forr (.name 2) (.of (.var 0)) [.asg (.name 1) x_days_of_1]
def b_days_of : List CS := [.asg (.name 1) (.lst false [.one (.tup [])]), x_days_of_2, .ret (.var 1)]
def d_days_of : FDef := ⟨5, 1, b_days_of, false⟩
def x_columns_1 : CE := .lc false [2] (.name 2) (.of (.var 0)) none (.idx (.var 2) (.var 1))
def x_columns_2 : CE := .lc false [1] (.name 1) (.range1 (.callB .len [(.idx (.var 0) (.lit (.int 0)))])) none (.callB .tuple [x_columns_1])
def b_columns : List CS := [.ret x_columns_2]
def d_columns : FDef := ⟨3, 1, b_columns, false⟩
def x_gone_along_1 : CS := .whil (.cmp .ne (.idx (.var 4) (.lit (.int 0))) (.lit (.str [101, 110, 100]))) [.asg (.tup [(.name 5), (.name 6), (.name 7), (.name 8), (.name 9)]) (.var 4), .expr (.meth .append (.var 3) [(.call 33 [(.var 7), (.var 8), (.idx (.var 1) (.var 6)), (.idx (.var 2) (.var 6))])]), .asg (.name 4) (.idx (.var 9) (.idx (.var 3) (.neg (.lit (.int 1)))))]
def b_gone_along : List CS := [.par [3, 4] [(.lst true []), (.var 0)], x_gone_along_1, .ret (.tup [.one (.callB .tuple [(.var 3)]), .one (.var 4)])]
def d_gone_along : FDef := ⟨10, 3, b_gone_along, false⟩
def x_Rule_is_history_1 : CE := .lc false [2, 3] (.tup [(.name 2), (.name 3)]) (.zip [(.attr 3 (.var 0)), (.var 1)]) none (.call 30 [(.var 2), (.var 3)])
def x_Rule_is_history_2 : CE := .lc false [3] (.name 3) (.of (.var 1)) none (.callB .len [(.var 3)])
def b_Rule_is_history : List CS := [.ite (.or (.not (.e (.isinst .tuple (.var 1)))) (.cmp .ne (.callB .len [(.var 1)]) (.callB .len [(.attr 3 (.var 0))]))) [.ret (.lit (.bl false))] [], .ite (.not (.e (.callB .all [x_Rule_is_history_1]))) [.ret (.lit (.bl false))] [], .ret (.cmp .eq (.lenset x_Rule_is_history_2) (.lit (.int 1)))]
def d_Rule_is_history : FDef := ⟨4, 2, b_Rule_is_history, false⟩
def x_is_letters_1 : CE := .lc false [1, 2] (.tup [(.name 1), (.name 2)]) (.zip [(.var 0), (.slc false (.var 0) (some (.lit (.int 1))) none)]) none (.cmp .lt (.var 1) (.var 2))
def b_is_letters : List CS := [.ite (.or (.not (.e (.call 30 [(.lit (.str [97, 98, 99, 100, 101, 102, 103, 104, 105, 106, 107, 108, 109, 110, 111, 112, 113, 114, 115, 116, 117, 118, 119, 120, 121, 122])), (.var 0)]))) (.not (.chain .le .le (.lit (.int 1)) (.callB .len [(.var 0)]) (.lit (.int 12))))) [.ret (.lit (.bl false))] [], .ret (.callB .all [x_is_letters_1])]
def d_is_letters : FDef := ⟨3, 1, b_is_letters, false⟩
def x_is_row_1 : CE := .lc false [3] (.name 3) (.of (.var 0)) none (.and (.call 31 [(.var 3)]) (.chain .le .lt (.lit (.int 0)) (.var 3) (.var 2)))
def b_is_row : List CS := [.ite (.or (.not (.e (.isinst .tuple (.var 0)))) (.cmp .ne (.callB .len [(.var 0)]) (.var 1))) [.ret (.lit (.bl false))] [], .ret (.callB .all [x_is_row_1])]
def d_is_row : FDef := ⟨4, 3, b_is_row, false⟩
def b_is_outcome : List CS := [.ret (.and (.call 30 [(.lit (.str [97, 98, 99, 100, 101, 102, 103, 104, 105, 106, 107, 108, 109, 110, 111, 112, 113, 114, 115, 116, 117, 118, 119, 120, 121, 122])), (.var 0)]) (.and (.chain .le .le (.lit (.int 1)) (.callB .len [(.var 0)]) (.lit (.int 8))) (.cmp .ne (.var 0) (.lit (.str [115, 101, 108, 102])))))]
def d_is_outcome : FDef := ⟨1, 1, b_is_outcome, false⟩
def x_is_word_1 : CE := .lc false [2] (.name 2) (.of (.var 1)) none (.cmp .isin (.var 2) (.var 0))
def b_is_word : List CS := [.ret (.and (.isinst .str (.var 1)) (.callB .all [x_is_word_1]))]
def d_is_word : FDef := ⟨3, 2, b_is_word, false⟩
def b_is_integer : List CS := [.ret (.and (.isinst .int (.var 0)) (.not (.isinst .bool (.var 0))))]
def d_is_integer : FDef := ⟨1, 1, b_is_integer, false⟩
def b_told_on : List CS := [.asg (.tup [(.name 2), (.name 3), (.name 4)]) (.var 0), .ret (.ite (.cmp .lt (.var 1) (.callB .len [(.var 4)])) (.idx (.var 4) (.var 1)) (.idx (.var 4) (.bin .add (.var 3) (.bin .mod (.bin .sub (.var 1) (.var 3)) (.bin .sub (.callB .len [(.var 4)]) (.var 3))))))]
def d_told_on : FDef := ⟨5, 2, b_told_on, false⟩
def x_answer_to_1 : CS := .forr (.name 5) (.of (.var 3)) [.asg (.name 4) (.idx (.idx (.var 0) (.var 4)) (.meth .sindex (.var 2) [(.var 5)]))]
def b_answer_to : List CS := [.asg (.name 4) (.lit (.int 0)), x_answer_to_1, .ret (.idx (.var 1) (.var 4))]
def d_answer_to : FDef := ⟨6, 4, b_answer_to, false⟩
def c_Rule : CDef := { meths := [(0, 12), (2, 21), (6, 26)], props := [], init := 16, frozen := true, flds := [3, 4, 1, 5] }
def T : Tab := { fns := [d_law, d__law_deck, d__law_little, d__law_last, d__law_code, d__law_world, d__law_halves, d__law_moved, d__law_later, d__law_said, d_course, d_heard, d_Rule_outcome, d__law_pick, d__law_draw, d__law_tuples, d_RuleU_initU, d__law_asked, d__law_by_hand, d__law_answered, d__law_on, d_Rule_state, d_check_parts, d_days_of, d_columns, d_gone_along, d_Rule_is_history, d_is_letters, d_is_row, d_is_outcome, d_is_word, d_is_integer, d_told_on, d_answer_to], clss := [c_Rule], fuel := 1000000 }
end K64
end
section
set_option Elab.async false
set_option linter.all false
set_option maxRecDepth 100000
set_option maxHeartbeats 1000000
namespace K64
open L3
def dN (n : Nat) : D := .int n
/-- the place in a table's row that marks tell -/
def foldAt (sizes marks : List Nat) : Nat := (List.zip sizes marks).foldl (fun a p => a * p.1 + p.2) 0
end K64
end
section
set_option Elab.async false
set_option linter.all false
set_option maxRecDepth 100000
set_option maxHeartbeats 1000000
/-! QC: the deck, draws. -/
namespace K64
open L3
abbrev kL : List Nat := [108, 101, 102, 116]
abbrev kM : List Nat := [109, 105, 120, 101, 100]
abbrev kD : List Nat := [100, 114, 97, 119, 115]
abbrev vI (i : Int) : VL := .d (.int i)
/-- a heap that begins with a deck -/
def dk (xs : List Int) (a b : Int) (R : LH) : LH := .lst (xs.map vI) :: .dct [.str kL, .str kM, .str kD] [.r 0, .d (.int a), .d (.int b)] :: R
section
variable {xs : List Int} {a b : Int} {R : LH}
theorem dk_left : getI (dk xs a b R) (.r 1) (.d (.str [108, 101, 102, 116])) = some (.r 0) := id rfl
theorem dk_mixed : getI (dk xs a b R) (.r 1) (.d (.str [109, 105, 120, 101, 100])) = some (.d (.int a)) := id rfl
theorem dk_draws : getI (dk xs a b R) (.r 1) (.d (.str [100, 114, 97, 119, 115])) = some (.d (.int b)) := id rfl
theorem dk_set {c : Int} : setI (.r 1) (.d (.str [100, 114, 97, 119, 115])) (.d (.int c)) (dk xs a b R) = some (dk xs a c R) := id rfl
theorem dv_ints {L : LH} {k : Nat} : ∀ xs : List Int, mapO (dv k L) (xs.map vI) = some (xs.map D.int)
  | [] => rfl
  | x :: xs => by
    have e : dv k L (vI x) = some (D.int x) := by cases k <;> rfl
    simp only [List.map_cons, mapO, e, dv_ints xs]
theorem okqs_ints {k : Nat} : ∀ xs : List Int, D.okqs k (xs.map D.int) = true
  | [] => by cases k <;> rfl
  | x :: xs => by
    have := okqs_ints (k := k) xs
    cases k <;> simp_all [D.okqs, D.okq]
theorem dk_ne : cmpop .ne (dk xs a b R) (.r 0) (.d (.lst [])) = some (!xs.isEmpty) := by
  have e : dv dvLim (dk xs a b R) (.r 0) = some (.lst (xs.map D.int)) := by
    show ((mapO (dv 3 (dk xs a b R)) (xs.map vI)).map D.lst) = _
    rw [dv_ints]; rfl
  simp only [cmpop, eqD, e]
  have e2 : dv dvLim (dk xs a b R) (.d (.lst [])) = some (.lst []) := rfl
  have e3 : D.okq eqLim (.lst (xs.map D.int)) = true := okqs_ints (k := 59) xs
  have e4 : D.okq eqLim (.lst []) = true := rfl
  simp only [e2, e3, e4, Bool.and_self, if_true, Option.map_some]
  cases xs <;> rfl
theorem dk_pop (h : xs ≠ []) : mfun .pop (.r 0) [] (dk xs a b R) = .ok (vI (xs.getLast h)) (dk xs.dropLast a b R) := by
  show mPop (.r 0) [] (dk xs a b R) = _
  have e : (dk xs a b R)[0]? = some (.lst (xs.map vI)) := rfl
  have e2 : (xs.map vI).getLast? = some (vI (xs.getLast h)) := by rw [List.getLast?_map, List.getLast?_eq_some_getLast h]; rfl
  simp only [mPop, e, e2]
  rw [← List.map_dropLast]
  rfl
theorem dk_push {c : Int} (h : xs.length < lim) : mfun .append (.r 0) [vI c] (dk xs a b R) = .ok (.d .non) (dk (xs ++ [c]) a b R) := by
  show mAppend (.r 0) [vI c] (dk xs a b R) = _
  have e : (dk xs a b R)[0]? = some (.lst (xs.map vI)) := rfl
  simp only [mAppend, e, List.length_map, h, if_true]
  simp only [dk, List.set_cons_zero, List.map_append, List.map_cons, List.map_nil]
theorem leave_dk {xs' : List Int} {a' b' : Int} {X : LH} {x : D} : leave false (dk xs a b R) (.d x) (dk xs' a' b' (R ++ X)) = .ok (.d x) (dk xs' a' b' R) := by
  unfold leave
  have h : CutOk (dk xs a b R) (dk xs' a' b' (R ++ X)) ∧ (VL.d x).below (dk xs a b R).length = true := by
    refine ⟨⟨by simp [dk], fun i hi => ?_⟩, rfl⟩
    match i with
    | 0 =>
      refine .inr ⟨_, rfl, ?_⟩
      show (xs'.map vI).all _ = true
      rw [List.all_eq_true]
      intro v hv
      obtain ⟨j, _, rfl⟩ := List.mem_map.mp hv
      rfl
    | 1 => exact .inr ⟨_, rfl, by simp [LO.below, VL.below, dk]⟩
    | i + 2 =>
      left
      show (R ++ X)[i]? = R[i]?
      exact List.getElem?_append_left (by simpa [dk] using hi)
  have t : (dk xs' a' b' (R ++ X)).take (dk xs a b R).length = dk xs' a' b' R := by
    simp [dk]
  simp only [Bool.false_eq_true, if_false, h, and_self, if_true, t]
theorem leave_dk0 {xs' : List Int} {a' b' : Int} {x : D} : leave false (dk xs a b R) (.d x) (dk xs' a' b' R) = .ok (.d x) (dk xs' a' b' R) := by
  have := leave_dk (xs := xs) (a := a) (b := b) (R := R) (xs' := xs') (a' := a') (b' := b') (X := []) (x := x)
  rwa [List.append_nil] at this
end
end K64
end
section
set_option Elab.async false
set_option linter.all false
set_option maxRecDepth 100000
set_option maxHeartbeats 1000000
/-! QD: draw, pick. -/
namespace K64
open L3
theorem b_pow18 {L : LH} : binop .pow (.d (.int 10)) (.d (.int 18)) L = .ok (.d (.int 1000000000000000000)) L := by
  have h : powOk 10 18 = true := by decide
  simp only [binop, binI, h, if_true, ofOpt_some, Res.bind_ok]
  rfl
theorem c_ge {L : LH} {i j : Int} : cmpop .ge L (.d (.int i)) (.d (.int j)) = some (decide (j ≤ i)) := id rfl
theorem mTy_pop {xs : List Int} {a b : Int} {R : LH} : mTy .pop (dk xs a b R) (.r 0) = true := id rfl
theorem mTy_app {xs : List Int} {a b : Int} {R : LH} : mTy .append (dk xs a b R) (.r 0) = true := id rfl
/-- what a draw's end makes of the told number -/
theorem draw_end {call : Nat → List VL → LH → Res VL} {xs : List Int} {a b m t : Int} {R : LH} {p3 : Option VL} {Q : VL → LH → Prop} (hm : 0 < m) (k : ∀ i, 0 ≤ i → i < m → Q (vI i) (dk xs a b R)) :
    (evSs T call (b__law_draw.drop 3) [some (.r 1), some (vI m), some (vI t), p3] (dk xs a b R)).rt Q := by
  unfold b__law_draw
  simp only [List.drop_succ_cons, List.drop_zero]
  have h1 : mulOk t 39373 = true := mulOk_r (by decide)
  have h2 : ∀ x, mulOk (x % 2147483647) (x % 2147483647) = true := fun x => mulOk_l (by omega)
  have h3 : mulOk 52711 b = true := mulOk_l (by decide)
  have h4 : ∀ x : Int, mulOk x 40692 = true := fun x => mulOk_r (by decide)
  have p1 : (0 : Int) < 2147483647 := by decide
  have p2 : (0 : Int) < 2147483587 := by decide
  have p3 : (0 : Int) < 2147483563 := by decide
  have p4 : (0 : Int) < 64 ∧ (64 : Int) < 1073741824 := by decide
  simp_arith [dk_draws, b_mul h1, b_mul (h2 _), b_mul h3, b_mul (h4 _), b_mod p1, b_mod p2, b_mod p3, b_fdiv p4, b_mod hm]
  exact k _ (Int.emod_nonneg _ (by omega)) (Int.emod_lt_of_pos _ hm)
theorem draw_ok {n : Nat} {xs : List Int} {a b m : Int} {R : LH} (h63 : xs.length ≤ 63) (hm : 0 < m) (hm2 : m < 1073741824) :
    (callN T (n + 1) 14 [.r 1, vI m] (dk xs a b R)).gives fun v L => ∃ k xs' a' b', v = vI k ∧ 0 ≤ k ∧ k < m ∧ xs'.length ≤ 63 ∧ L = dk xs' a' b' R := by
  rw [callN_succ]
  refine run_rt (d := d__law_draw) rfl rfl ?_
  have fin : ∀ (ys : List Int) (i : Int), ys.length ≤ 63 → 0 ≤ i → i < m → (leave d__law_draw.keep (dk xs a b R) (vI i) (dk ys a (b + 1) R)).gives fun v L => ∃ k xs' a' b', v = vI k ∧ 0 ≤ k ∧ k < m ∧ xs'.length ≤ 63 ∧ L = dk xs' a' b' R := by
    intro ys i hy h0 h1
    show (leave false (dk xs a b R) (.d (.int i)) (dk ys a (b + 1) R)).gives _
    rw [leave_dk0]
    exact ⟨i, ys, a, b + 1, rfl, h0, h1, hy, rfl⟩
  have q1 : ∀ x, mulOk 60149 x = true := fun x => mulOk_l (by decide)
  have e0 : evSs T (callN T n) b__law_draw [some (.r 1), some (vI m), none, none] (dk xs a b R) = evSs T (callN T n) (b__law_draw.drop 2) [some (.r 1), some (vI m), some (vI (a + 60149 * (b + 1))), none] (dk xs a (b + 1) R) := by
    conv => lhs; unfold b__law_draw
    simp_arith [dk_draws, dk_set, dk_mixed, b_mul (q1 _)]
    rfl
  show (evSs T (callN T n) b__law_draw [some (.r 1), some (vI m), none, none] (dk xs a b R)).rt _
  rw [e0]
  by_cases hx : xs = []
  · have e1 : evSs T (callN T n) (b__law_draw.drop 2) [some (.r 1), some (vI m), some (vI (a + 60149 * (b + 1))), none] (dk xs a (b + 1) R) = evSs T (callN T n) (b__law_draw.drop 3) [some (.r 1), some (vI m), some (vI (a + 60149 * (b + 1))), none] (dk xs a (b + 1) R) := by
      conv => lhs; unfold b__law_draw
      subst hx
      simp only [List.drop_succ_cons, List.drop_zero]
      rw [qT2]
      simp_arith [dk_left, dk_ne, List.isEmpty_nil, Bool.not_true]
      rfl
    rw [e1]
    exact draw_end hm fun i h0 h1 => fin _ _ h63 h0 h1
  · have hxe : xs.isEmpty = false := by cases xs <;> simp_all
    by_cases hb : 1000000000000000000 ≤ xs.getLast hx
    · have hl : xs.dropLast.length < lim := by show _ < 16777216; simp; omega
      have l2 : (xs.dropLast ++ [xs.getLast hx / m]).length ≤ 63 := by simp; omega
      have hr : evSs T (callN T n) (b__law_draw.drop 2) [some (.r 1), some (vI m), some (vI (a + 60149 * (b + 1))), none] (dk xs a (b + 1) R) = .ret (vI (xs.getLast hx % m)) (dk (xs.dropLast ++ [xs.getLast hx / m]) a (b + 1) R) := by
        unfold b__law_draw
        simp only [List.drop_succ_cons, List.drop_zero]
        rw [qT2]
        simp_arith [dk_left, dk_ne, hxe, Bool.not_false, mTy_pop, dk_pop hx, b_pow18, c_ge, hb, decide_true, mTy_app, b_fdiv ⟨hm, hm2⟩, dk_push hl, b_mod hm]
      rw [hr]
      exact fin _ _ l2 (Int.emod_nonneg _ (by omega)) (Int.emod_lt_of_pos _ hm)
    · have l2 : xs.dropLast.length ≤ 63 := by simp; omega
      have p1 : (0 : Int) < 2147483629 := by decide
      have e1 : evSs T (callN T n) (b__law_draw.drop 2) [some (.r 1), some (vI m), some (vI (a + 60149 * (b + 1))), none] (dk xs a (b + 1) R) = evSs T (callN T n) (b__law_draw.drop 3) [some (.r 1), some (vI m), some (vI (a + 60149 * (b + 1) + xs.getLast hx % 2147483629)), some (vI (xs.getLast hx))] (dk xs.dropLast a (b + 1) R) := by
        conv => lhs; unfold b__law_draw
        simp only [List.drop_succ_cons, List.drop_zero]
        rw [qT2]
        simp_arith [dk_left, dk_ne, hxe, Bool.not_false, mTy_pop, dk_pop hx, b_pow18, c_ge, hb, decide_false, b_mod p1]
        rfl
      rw [e1]
      exact draw_end hm fun i h0 h1 => fin _ _ l2 h0 h1
/-- a pick: an item of a list or a tuple of data -/
theorem pick_ok {n : Nat} {xs : List Int} {a b : Int} {R : LH} {o : VL} {ds : List D} (ho : o = .d (.lst ds) ∨ o = .d (.tup ds)) (h63 : xs.length ≤ 63) (hne : 0 < ds.length) (hz : ds.length < 1000) :
    (callN T (n + 2) 13 [.r 1, o] (dk xs a b R)).gives fun v L => ∃ (i : Nat) (d : D) (xs' : List Int) (a' b' : Int), ds[i]? = some d ∧ v = .d d ∧ xs'.length ≤ 63 ∧ L = dk xs' a' b' R := by
  rw [callN_succ]
  refine run_rt (d := d__law_pick) rfl rfl ?_
  obtain ⟨v, L', e, k, xs', a', b', rfl, k0, k1, h', rfl⟩ := (draw_ok (n := n) (a := a) (b := b) (R := R) (m := (ds.length : Int)) h63 (by omega) (by omega)).ex
  obtain ⟨j, rfl⟩ := Int.eq_ofNat_of_zero_le k0
  have hj : j < ds.length := by omega
  have hd : ds[j]? = some ds[j] := List.getElem?_eq_getElem hj
  show (evSs T (callN T (n + 1)) b__law_pick [some (.r 1), some o] (dk xs a b R)).rt _
  unfold b__law_pick
  rcases ho with rfl | rfl
  · simp_arith [e, hd]
    show (leave false (dk xs a b R) (.d ds[j]) (dk xs' a' b' R)).gives _
    rw [leave_dk0]
    exact ⟨j, _, xs', a', b', hd, rfl, h', rfl⟩
  · simp_arith [e, hd]
    show (leave false (dk xs a b R) (.d ds[j]) (dk xs' a' b' R)).gives _
    rw [leave_dk0]
    exact ⟨j, _, xs', a', b', hd, rfl, h', rfl⟩
end K64
end
section
set_option Elab.async false
set_option linter.all false
set_option maxRecDepth 100000
set_option maxHeartbeats 1000000
/-! QE: offices: a day's step, marks. -/
namespace K64
open L3
abbrev Desk := List (List Nat) × List Nat
structure Hand where
  alph : List (List Nat)
  sizes : List Nat
  desks : List Desk
  table : List (List (List Nat))
  tail : Nat
abbrev dT {α : Type} (f : α → D) (xs : List α) : D := .tup (xs.map f)
def dC (c : Nat) : D := .str [c]
def eDesk (d : Desk) : D := .tup [dT (dT dN) d.1, dT dN d.2]
def hd (h : Hand) : D := .dct [.str [97, 108, 112, 104, 97, 98, 101, 116, 115], .str [115, 105, 122, 101, 115], .str [100, 101, 115, 107, 115], .str [116, 97, 105, 108], .str [116, 97, 98, 108, 101]] [dT D.str h.alph, dT dN h.sizes, dT eDesk h.desks, dN h.tail, dT (dT D.str) h.table]
/-- what a desk's room tells for a sign -/
def cell (d : Desk) (own : List Nat) (room c : Nat) : Nat := (d.1.getD room []).getD (own.idxOf c) 0
def step (h : Hand) (spots day : List Nat) : List Nat := (List.range h.desks.length).map fun i => cell (h.desks.getD i ([], [])) (h.alph.getD i []) (spots.getD i 0) (day.getD i 0)
structure WF (h : Hand) : Prop where
  two : h.desks.length = 2 ∨ h.desks.length = 3
  la : h.alph.length = h.desks.length
  ls : h.sizes.length = h.desks.length
  rows : ∀ (i : Nat) (d : Desk) (a : List Nat), h.desks[i]? = some d → h.alph[i]? = some a → ∀ r ∈ d.1, r.length = a.length ∧ ∀ x ∈ r, x < d.1.length
  marks : ∀ (i : Nat) (d : Desk) (s : Nat), h.desks[i]? = some d → h.sizes[i]? = some s → d.2.length = d.1.length ∧ ∀ x ∈ d.2, x < s
  few : ∀ d ∈ h.desks, 0 < d.1.length ∧ d.1.length ≤ 4
  sz : ∀ s ∈ h.sizes, s ≤ 4
def Spots (h : Hand) (s : List Nat) : Prop := s.length = h.desks.length ∧ ∀ (i : Nat) (d : Desk), h.desks[i]? = some d → s.getD i 0 < d.1.length
def DayOk (h : Hand) (c : List Nat) : Prop := c.length = h.desks.length ∧ ∀ (i : Nat) (a : List Nat), h.alph[i]? = some a → c.getD i 0 ∈ a
section
variable {h : Hand} {spots day : List Nat} {L : LH}
theorem WF.row (w : WF h) (hs : Spots h spots) (hc : DayOk h day) {i : Nat} {d : Desk} {a : List Nat} {s c : Nat} (e1 : h.desks[i]? = some d) (e2 : h.alph[i]? = some a) (e3 : spots[i]? = some s) (e4 : day[i]? = some c) :
    ∃ r, d.1[s]? = some r ∧ r[a.idxOf c]? = some (cell d a s c) ∧ c ∈ a ∧ cell d a s c < d.1.length := by
  have h1 := hs.2 i d e1
  have h2 := hc.2 i a e2
  rw [getD_of e3] at h1
  rw [getD_of e4] at h2
  have er : d.1[s]? = some d.1[s] := List.getElem?_eq_getElem h1
  obtain ⟨r1, r2⟩ := w.rows i d a e1 e2 _ (List.getElem_mem h1)
  have hi : a.idxOf c < (d.1[s]).length := by rw [r1]; exact List.idxOf_lt_length_iff.mpr h2
  have ec : cell d a s c = (d.1[s])[a.idxOf c] := by
    unfold cell
    rw [getD_of er, List.getD_eq_getElem?_getD, List.getElem?_eq_getElem hi]; rfl
  refine ⟨_, er, ?_, h2, ?_⟩
  · rw [List.getElem?_eq_getElem hi, ec]
  · rw [ec]; exact r2 _ (List.getElem_mem hi)
theorem step_ok (w : WF h) (hs : Spots h spots) (hc : DayOk h day) : Spots h (step h spots day) := by
  refine ⟨by simp [step], fun i d e => ?_⟩
  have hi : i < h.desks.length := (List.getElem?_eq_some_iff.mp e).1
  obtain ⟨a, e2⟩ := get_ex (xs := h.alph) (i := i) (by rw [w.la]; exact hi)
  obtain ⟨s, e3⟩ := get_ex (xs := spots) (i := i) (by rw [hs.1]; exact hi)
  obtain ⟨c, e4⟩ := get_ex (xs := day) (i := i) (by rw [hc.1]; exact hi)
  obtain ⟨r, _, _, _, hl⟩ := w.row hs hc e e2 e3 e4
  have e5 : (step h spots day)[i]? = some (cell d a s c) := by
    unfold step
    rw [List.getElem?_map, List.getElem?_range hi]
    show some (cell _ _ _ _) = _
    rw [getD_of e, getD_of e2, getD_of e3, getD_of e4]
  rw [getD_of e5]
  exact hl
/-- the loop of both -/
theorem moves_loop {g : VL → Env → LH → Fl} {mk : Option VL → Option VL → Option VL → Option VL → Option VL → Env} {z : Env} (w : WF h) (hs : Spots h spots) (hc : DayOk h day) (hz : ∃ a b c d e, z = mk a b c d e)
    (hb : ∀ (s : List VL) (d : Desk) (a : List Nat) (r sp c : Nat) (row : List Nat) (x1 x2 x3 x4 x5 : Option VL), s.length < lim → d.1[sp]? = some row → row[a.idxOf c]? = some r → c ∈ a →
      (g (.d (.tup [eDesk d, .str a, dN sp, dC c])) (mk x1 x2 x3 x4 x5) (L ++ [.lst s])).on fun ρ' L' => (∃ a b c d e, ρ' = mk a b c d e) ∧ L' = L ++ [.lst (s ++ [.d (dN r)])]) :
    (forR [] g ((zipD [h.desks.map eDesk, h.alph.map D.str, spots.map dN, day.map dC]).map fun r => VL.d (.tup r)) z (L ++ [.lst []])).nx fun ρ' L' => (∃ a b c d e, ρ' = mk a b c d e) ∧ L' = L ++ [.lst ((step h spots day).map fun x => .d (dN x))] := by
  have hlen : ((zipD [h.desks.map eDesk, h.alph.map D.str, spots.map dN, day.map dC]).map fun r => VL.d (.tup r)).length = h.desks.length := by
    rw [List.length_map]
    refine zipD_lenP (by simp) fun d hd => ?_
    simp only [List.mem_cons, List.not_mem_nil, or_false] at hd
    rcases hd with rfl | rfl | rfl | rfl <;> rw [List.length_map]
    · exact w.la
    · exact hs.1
    · exact hc.1
  refine forI_nx (fun i ρ L' => (∃ a b c d e, ρ = mk a b c d e) ∧ i ≤ h.desks.length ∧ L' = L ++ [.lst ((List.range i).map fun j => .d (dN (cell (h.desks.getD j ([], [])) (h.alph.getD j []) (spots.getD j 0) (day.getD j 0))))]) (fun _ _ _ _ => rfl) ⟨hz, Nat.zero_le _, rfl⟩ ?_ ?_
  · rintro i x ρ L' hx ⟨⟨a1, b1, c1, d1, e1, rfl⟩, hi, rfl⟩
    obtain ⟨p1, p2, p3, p4, q1, q2, q3, q4, rfl⟩ := zip4_item hx
    obtain ⟨d, g1, rfl⟩ := map_get q1
    obtain ⟨a, g2, rfl⟩ := map_get q2
    obtain ⟨s, g3, rfl⟩ := map_get q3
    obtain ⟨c, g4, rfl⟩ := map_get q4
    have hi2 : i < h.desks.length := (List.getElem?_eq_some_iff.mp g1).1
    obtain ⟨row, r1, r2, r3, _⟩ := w.row hs hc g1 g2 g3 g4
    have hl : ((List.range i).map fun j => VL.d (dN (cell (h.desks.getD j ([], [])) (h.alph.getD j []) (spots.getD j 0) (day.getD j 0)))).length < lim := by
      rw [List.length_map, List.length_range]
      have := w.two
      show i < 16777216
      omega
    obtain ⟨ρ', L', e, k1, k2⟩ := (hb _ d a _ s c row a1 b1 c1 d1 e1 hl r1 r2 r3).ex
    rcases e with e | e <;> rw [e] <;> refine ⟨k1, hi2, ?_⟩ <;> rw [k2, range_step, getD_of g1, getD_of g2, getD_of g3, getD_of g4]
  · rintro ρ' L' ⟨k1, _, rfl⟩
    refine ⟨k1, ?_⟩
    rw [hlen]
    unfold step
    rw [List.map_map]
    rfl
end
end K64
end
section
set_option Elab.async false
set_option linter.all false
set_option maxRecDepth 100000
set_option maxHeartbeats 1000000
/-! QF: a day's step, in the law and in the program. -/
namespace K64
open L3
section
variable {h : Hand} {spots day : List Nat} {L : LH}
theorem hd_alph : getI L (.d (hd h)) (.d (.str [97, 108, 112, 104, 97, 98, 101, 116, 115])) = some (.d (dT D.str h.alph)) := id rfl
theorem hd_sizes : getI L (.d (hd h)) (.d (.str [115, 105, 122, 101, 115])) = some (.d (dT dN h.sizes)) := id rfl
theorem hd_desks : getI L (.d (hd h)) (.d (.str [100, 101, 115, 107, 115])) = some (.d (dT eDesk h.desks)) := id rfl
theorem hd_table : getI L (.d (hd h)) (.d (.str [116, 97, 98, 108, 101])) = some (.d (dT (dT D.str) h.table)) := id rfl
theorem hd_tail : getI L (.d (hd h)) (.d (.str [116, 97, 105, 108])) = some (.d (dN h.tail)) := id rfl
theorem lst_m {L : LH} : mkL true [] L = .ok (.r L.length) (L ++ [.lst []]) := id rfl
theorem step_len (w : WF h) : (step h spots day).length ≤ lim := by
  rw [step, List.length_map, List.length_range]
  have := w.two
  show _ ≤ 16777216
  omega
theorem getI_r_dN {xs : List D} {n : Nat} : getI L (.d (.tup xs)) (.d (dN n)) = (xs[n]?).map .d := getI_tup
theorem moved_ok {n : Nat} (w : WF h) (hs : Spots h spots) (hc : DayOk h day) : callN T (n + 1) 7 [.d (hd h), .d (dT dN spots), .d (dT dC day)] L = .ok (.d (dT dN (step h spots day))) L := by
  rw [callN_succ]
  have e0 : evSs T (callN T n) b__law_moved [some (.d (hd h)), some (.d (dT dN spots)), some (.d (dT dC day)), none, none, none, none, none] L = .ret (.d (dT dN (step h spots day))) (L ++ [.lst ((step h spots day).map fun x => .d (dN x))]) := by
    have lp : (evS T (callN T n) x__law_moved_1 [some (.d (hd h)), some (.d (dT dN spots)), some (.d (dT dC day)), some (.r L.length), none, none, none, none] (L ++ [.lst []])).nx fun ρ' L' =>
        (∃ a b c d e, ρ' = (fun a b c d (_ : Option VL) => [some (.d (hd h)), some (.d (dT dN spots)), some (.d (dT dC day)), some (.r L.length), a, b, c, d]) a b c d e) ∧ L' = L ++ [.lst ((step h spots day).map fun x => .d (dN x))] := by
      unfold x__law_moved_1
      rw [evS_forr]
      simp_arith [hd_desks, hd_alph]
      refine moves_loop w hs hc ⟨none, none, none, none, none, rfl⟩ ?_
      intro s d a r sp c row x1 x2 x3 x4 x5 hl e1 e2 e3
      simp_arith [app_ty, eDesk, getI_r_dN, List.getElem?_map, e1, dC, sidx_ty, sidx e3, e2, app_last hl]
      exact ⟨⟨_, _, _, _, none, rfl⟩, trivial⟩
    obtain ⟨ρ', L', e, ⟨a, b, c, d, e', rfl⟩, rfl⟩ := lp.ex
    unfold b__law_moved
    simp_arith [lst_m, e]
    have := tup_last (L := L) (xs := (step h spots day).map dN) (by rw [List.length_map]; exact step_len w)
    rw [List.map_map] at this
    show (((bfun .tuple [.r L.length] (L ++ [.lst ((step h spots day).map (VL.d ∘ dN))])).fl _ _).seq _) = _
    rw [this]
    rfl
  refine (run_ret (d := d__law_moved) rfl rfl e0).trans leave_app
end
end K64
end
section
set_option Elab.async false
set_option linter.all false
set_option maxRecDepth 100000
set_option maxHeartbeats 1000000
/-! QG: days counted, what is said, marks. -/
namespace K64
open L3
theorem c_lt {L : LH} {i j : Int} : cmpop .lt L (.d (.int i)) (.d (.int j)) = some (decide (i < j)) := id rfl
def nextP (h : Hand) (p : Nat) : Nat := if p + 1 < h.table.length then p + 1 else h.tail
def mark (h : Hand) (spots : List Nat) (i : Nat) : Nat := (h.desks.getD i ([], [])).2.getD (spots.getD i 0) 0
def marksL (h : Hand) (spots : List Nat) : List Nat := (List.range h.desks.length).map (mark h spots)
def at_ (h : Hand) (spots : List Nat) : Nat := foldAt h.sizes (marksL h spots)
def out (h : Hand) (spots : List Nat) (p : Nat) : List Nat := (h.table.getD p []).getD (at_ h spots) []
def placeOf (h : Hand) (many : Nat) : Nat := if many < h.table.length then many else h.tail + (many - h.tail) % (h.table.length - h.tail)
structure WT (h : Hand) : Prop where
  tail : h.tail < h.table.length
  wide : ∀ r ∈ h.table, r.length = h.sizes.foldl (· * ·) 1
section
variable {h : Hand} {spots day : List Nat} {L : LH} {p : Nat}
theorem later_ok {n : Nat} : callN T (n + 1) 8 [.d (hd h), .d (dN p)] L = .ok (.d (dN (nextP h p))) L := by
  rw [callN_succ]
  refine (run_ret (d := d__law_later) rfl rfl ?_).trans leave_same
  show evSs T (callN T n) b__law_later [some (.d (hd h)), some (.d (dN p))] L = _
  unfold b__law_later nextP
  by_cases hp : p + 1 < h.table.length
  · have hp' : (p : Int) + 1 < (h.table.length : Int) := by omega
    simp_arith [hd_table, hd_tail, dN, c_lt, List.length_map, hp', decide_true, hp]
    rfl
  · have hp' : ¬ (p : Int) + 1 < (h.table.length : Int) := by omega
    simp_arith [hd_table, hd_tail, dN, c_lt, List.length_map, hp', decide_false, hp]
theorem mark_get (w : WF h) (hs : Spots h spots) {i : Nat} {d : Desk} {s : Nat} (e1 : h.desks[i]? = some d) (e2 : spots[i]? = some s) : d.2[s]? = some (mark h spots i) := by
  have h1 := hs.2 i d e1
  rw [getD_of e2] at h1
  obtain ⟨z, e3⟩ := get_ex (xs := h.sizes) (i := i) (by rw [w.ls]; exact (List.getElem?_eq_some_iff.mp e1).1)
  have hl := (w.marks i d z e1 e3).1
  obtain ⟨m, e4⟩ := get_ex (xs := d.2) (i := s) (by rw [hl]; exact h1)
  rw [e4]
  unfold mark
  rw [getD_of e1, getD_of e2, getD_of e4]
theorem mark_lt (w : WF h) (hs : Spots h spots) {i z : Nat} (e : h.sizes[i]? = some z) : mark h spots i < z := by
  have hi : i < h.desks.length := by rw [← w.ls]; exact (List.getElem?_eq_some_iff.mp e).1
  obtain ⟨d, e1⟩ := get_ex hi
  obtain ⟨s, e2⟩ := get_ex (xs := spots) (i := i) (by rw [hs.1]; exact hi)
  exact (w.marks i d z e1 e).2 _ (List.mem_of_getElem? (mark_get w hs e1 e2))
/-- the fold by places -/
def foldN (h : Hand) (spots : List Nat) (n : Nat) : Nat := (List.range n).foldl (fun a i => a * h.sizes.getD i 0 + mark h spots i) 0
theorem at_eq (w : WF h) : at_ h spots = foldN h spots h.desks.length := by
  have : List.zip h.sizes (marksL h spots) = (List.range h.desks.length).map fun i => (h.sizes.getD i 0, mark h spots i) := by
    apply List.ext_getElem?
    intro i
    by_cases hi : i < h.desks.length
    · obtain ⟨z, e⟩ := get_ex (xs := h.sizes) (i := i) (by rw [w.ls]; exact hi)
      have e2 : (marksL h spots)[i]? = some (mark h spots i) := by
        unfold marksL; rw [List.getElem?_map, List.getElem?_range hi]; rfl
      rw [List.getElem?_zip_eq_some (z := (z, mark h spots i)) |>.mpr ⟨e, e2⟩, List.getElem?_map, List.getElem?_range hi]
      show _ = some (h.sizes.getD i 0, _)
      rw [getD_of e]
    · rw [List.getElem?_eq_none (by simp [marksL, w.ls]; omega), List.getElem?_eq_none (by simp; omega)]
  unfold at_ foldAt foldN
  rw [this, List.foldl_map]
theorem foldN_succ {n : Nat} : foldN h spots (n + 1) = foldN h spots n * h.sizes.getD n 0 + mark h spots n := by
  unfold foldN
  rw [List.range_succ, List.foldl_append]; rfl
theorem foldN_lt (w : WF h) (hs : Spots h spots) : ∀ n, n ≤ h.desks.length → foldN h spots n < (h.sizes.take n).foldl (· * ·) 1
  | 0, _ => by simp [foldN]
  | n + 1, hn => by
    have ih := foldN_lt w hs n (by omega)
    obtain ⟨z, e⟩ := get_ex (xs := h.sizes) (i := n) (by rw [w.ls]; omega)
    have hm := mark_lt w hs e
    rw [foldN_succ, getD_of e]
    have et : h.sizes.take (n + 1) = h.sizes.take n ++ [z] := by rw [List.take_succ, e]; rfl
    rw [et, List.foldl_append]
    show _ < (h.sizes.take n).foldl (· * ·) 1 * z
    have := Nat.mul_le_mul_right z ih
    rw [Nat.succ_mul] at this
    omega
theorem at_lt (w : WF h) (hs : Spots h spots) : at_ h spots < h.sizes.foldl (· * ·) 1 := by
  rw [at_eq w]
  have := foldN_lt w hs h.desks.length (Nat.le_refl _)
  rwa [List.take_of_length_le (by rw [w.ls]; exact Nat.le_refl _)] at this
theorem row_get (w : WF h) (t : WT h) (hs : Spots h spots) {r : List (List Nat)} (e : h.table[p]? = some r) : r[at_ h spots]? = some (out h spots p) := by
  obtain ⟨o, e2⟩ := get_ex (xs := r) (i := at_ h spots) (by rw [t.wide r (List.mem_of_getElem? e)]; exact at_lt w hs)
  rw [e2]
  unfold out
  rw [getD_of e, getD_of e2]
theorem said_ok {n : Nat} (w : WF h) (t : WT h) (hs : Spots h spots) (hp : p < h.table.length) : callN T (n + 1) 9 [.d (hd h), .d (dT dN spots), .d (dN p)] L = .ok (.d (.str (out h spots p))) L := by
  rw [callN_succ]
  refine (run_ret (d := d__law_said) rfl rfl ?_).trans leave_same
  show evSs T (callN T n) b__law_said [some (.d (hd h)), some (.d (dT dN spots)), some (.d (dN p)), none, none, none, none] L = _
  have lp : (evS T (callN T n) x__law_said_1 [some (.d (hd h)), some (.d (dT dN spots)), some (.d (dN p)), some (.d (.int 0)), none, none, none] L).nx fun ρ' L' =>
      L' = L ∧ ∃ a b c, ρ' = [some (.d (hd h)), some (.d (dT dN spots)), some (.d (dN p)), some (.d (.int (at_ h spots : Nat))), a, b, c] := by
    unfold x__law_said_1
    rw [evS_forr]
    simp_arith [hd_sizes, hd_desks]
    have hlen : ((zipD [h.sizes.map dN, h.desks.map eDesk, spots.map dN]).map fun r => VL.d (.tup r)).length = h.desks.length := by
      rw [List.length_map]
      refine zipD_lenP (by simp) fun d hd => ?_
      simp only [List.mem_cons, List.not_mem_nil, or_false] at hd
      rcases hd with rfl | rfl | rfl <;> rw [List.length_map]
      · exact w.ls
      · exact hs.1
    refine forI_nx (fun i ρ L' => L' = L ∧ ∃ a b c, ρ = [some (.d (hd h)), some (.d (dT dN spots)), some (.d (dN p)), some (.d (.int (foldN h spots i : Nat))), a, b, c]) (fun _ _ _ _ => rfl) ⟨rfl, none, none, none, rfl⟩ ?_ ?_
    · rintro i x ρ L' hx ⟨rfl, a, b, c, rfl⟩
      obtain ⟨p1, p2, p3, q1, q2, q3, rfl⟩ := zip3_item hx
      have u2 : ∃ d : Desk, h.desks[i]? = some d ∧ p2 = eDesk d := map_get q2
      have u1 : ∃ d : Nat, h.sizes[i]? = some d ∧ p1 = dN d := map_get q1
      have u3 : ∃ d : Nat, spots[i]? = some d ∧ p3 = dN d := map_get q3
      clear q1 q2 q3 hx
      obtain ⟨d, g2, e2⟩ := u2
      obtain ⟨z, g1, e1⟩ := u1
      obtain ⟨s, g3, e3⟩ := u3
      rw [e1, e2, e3]
      have hm := mark_get w hs g2 g3
      have hz := w.sz z (List.mem_of_getElem? g1)
      have hmul : mulOk (foldN h spots i : Nat) (z : Int) = true := mulOk_r (by omega)
      simp_arith [eDesk, getI_r_dN, List.getElem?_map, hm, dN, b_mul hmul]
      have e5 : ((foldN h spots (i + 1) : Nat) : Int) = (foldN h spots i : Nat) * (z : Int) + (mark h spots i : Nat) := by rw [foldN_succ, getD_of g1, Int.natCast_add, Int.natCast_mul]
      rw [e5]
      exact ⟨_, _, _, rfl⟩
    · rintro ρ' L' ⟨rfl, a, b, c, rfl⟩
      refine ⟨rfl, a, b, c, ?_⟩
      rw [hlen, at_eq w]
  obtain ⟨ρ', L', e, rfl, a, b, c, rfl⟩ := lp.ex
  obtain ⟨r, er⟩ := get_ex hp
  unfold b__law_said
  simp_arith [e, hd_table, getI_r_dN, List.getElem?_map, er, row_get w t hs er]
end
end K64
end
section
set_option Elab.async false
set_option linter.all false
set_option maxRecDepth 100000
set_option maxHeartbeats 1000000
/-! QH: the program's slips and what they tell. -/
namespace K64
open L3
def dayAt (words : List (List Nat)) (a : Nat) : List Nat := words.map fun w => w.getD a 0
structure Story (h : Hand) (words : List (List Nat)) (m : Nat) : Prop where
  ln : words.length = h.desks.length
  ok : ∀ (i : Nat) (w a : List Nat), words[i]? = some w → h.alph[i]? = some a → w.length = m ∧ ∀ c ∈ w, c ∈ a
  few : m ≤ 1000
/-- the rooms behind the first a days -/
def behind (h : Hand) (words : List (List Nat)) (a : Nat) : List Nat := (List.range a).foldl (fun s j => step h s (dayAt words j)) (List.replicate h.desks.length 0)
section
variable {h : Hand} {spots day : List Nat} {words : List (List Nat)} {L : LH} {p m : Nat}
theorem Story.len (w : WF h) (s : Story h words m) {x : List Nat} (e : x ∈ words) : x.length = m := by
  obtain ⟨i, hi⟩ := List.getElem?_of_mem e
  obtain ⟨a, ha⟩ := get_ex (xs := h.alph) (i := i) (by rw [w.la, ← s.ln]; exact (List.getElem?_eq_some_iff.mp hi).1)
  exact (s.ok i x a hi ha).1
theorem Story.dayOk (w : WF h) (s : Story h words m) {j : Nat} (hj : j < m) : DayOk h (dayAt words j) := by
  refine ⟨by rw [dayAt, List.length_map]; exact s.ln, fun i a e => ?_⟩
  obtain ⟨x, hx⟩ := get_ex (xs := words) (i := i) (by rw [s.ln, ← w.la]; exact (List.getElem?_eq_some_iff.mp e).1)
  obtain ⟨l, q⟩ := s.ok i x a hx e
  obtain ⟨c, hc⟩ := get_ex (xs := x) (i := j) (by rw [l]; exact hj)
  have : (dayAt words j)[i]? = some c := by
    unfold dayAt
    rw [List.getElem?_map, hx]
    show some (x.getD j 0) = _
    rw [getD_of hc]
  rw [getD_of this]
  exact q c (List.mem_of_getElem? hc)
theorem Spots.zero (w : WF h) : Spots h (List.replicate h.desks.length 0) := by
  refine ⟨by simp, fun i d e => ?_⟩
  have hi : i < h.desks.length := (List.getElem?_eq_some_iff.mp e).1
  have : (List.replicate h.desks.length 0)[i]? = some 0 := by rw [List.getElem?_replicate, if_pos hi]
  rw [getD_of this]
  exact (w.few d (List.mem_of_getElem? e)).1
theorem behind_ok (w : WF h) (s : Story h words m) : ∀ a, a ≤ m → Spots h (behind h words a)
  | 0, _ => Spots.zero w
  | a + 1, ha => by
    have ih := behind_ok w s a (by omega)
    have : behind h words (a + 1) = step h (behind h words a) (dayAt words a) := by
      unfold behind
      rw [List.range_succ, List.foldl_append]; rfl
    rw [this]
    exact step_ok w ih (s.dayOk w (by omega))
theorem col1 {call : Nat → List VL → LH → Res VL} {a : Nat} {p2 : Option VL} (hw : ∀ x ∈ words, a < x.length) (hl : words.length ≤ lim) : evE T call [some (.d (dT D.str words)), some (.d (.int (a : Int))), p2] x_columns_1 L = .ok (.d (.lst ((dayAt words a).map dC))) L := by
  unfold x_columns_1
  rw [evE_lc]
  simp_arith
  rw [List.map_map]
  rw [map_eq (L := L) (items := words) (enc := VL.d ∘ D.str) (h := fun w => VL.d (dC (w.getD a 0))) rfl fun x hx => ?_]
  · simp_arith
    have : (words.map fun w => VL.d (dC (w.getD a 0))) = ((dayAt words a).map dC).map VL.d := by
      unfold dayAt
      rw [List.map_map, List.map_map]; rfl
    rw [this]
    exact mkL_d (by rw [List.length_map, dayAt, List.length_map]; exact hl)
  · obtain ⟨c, hc⟩ := get_ex (hw x hx)
    simp_arith [Function.comp, hc, getD_of hc, dC]
theorem columns_gen {n : Nat} (hw : ∀ x ∈ words, x.length = m) (two : words.length = 2 ∨ words.length = 3) (few : m ≤ 1000) : callN T (n + 1) 24 [.d (dT D.str words)] L = .ok (.d (.lst ((List.range m).map fun a => dT dC (dayAt words a)))) L := by
  rw [callN_succ]
  refine (run_ret (d := d_columns) rfl rfl ?_).trans leave_same
  show evSs T (callN T n) b_columns [some (.d (dT D.str words)), none, none] L = _
  obtain ⟨x0, h0⟩ := get_ex (xs := words) (i := 0) (by omega)
  have l0 : x0.length = m := hw _ (List.mem_of_getElem? h0)
  have hsm : small (m : Int) = true := decide_eq_true (by omega)
  have e : evE T (callN T n) [some (.d (dT D.str words)), none, none] x_columns_2 L = .ok (.d (.lst ((List.range m).map fun a => dT dC (dayAt words a)))) L := by
    unfold x_columns_2
    rw [evE_lc]
    simp_arith [List.getElem?_map, h0, l0, hsm, Int.toNat_natCast, rangeI, Int.zero_add]
    rw [map_eq (L := L) (items := List.range m) (enc := fun i : Nat => VL.d (.int (i : Int))) (h := fun a => VL.d (dT dC (dayAt words a))) rfl fun a ha => ?_]
    · simp_arith
      have : ((List.range m).map fun a => VL.d (dT dC (dayAt words a))) = ((List.range m).map fun a => dT dC (dayAt words a)).map VL.d := by rw [List.map_map]; rfl
      rw [this]
      exact mkL_d (by rw [List.length_map, List.length_range]; show m ≤ 16777216; omega)
    · have hl : words.length ≤ lim := by show _ ≤ 16777216; omega
      have hc := col1 (call := callN T n) (L := L) (a := a) (p2 := none) (words := words) (fun x hx => by rw [hw x hx]; exact List.mem_range.mp ha) hl
      simp_arith [hc]
      rw [bf_tuple_lst (by rw [List.length_map, dayAt, List.length_map]; exact hl)]
      simp_arith
  unfold b_columns
  simp_arith [e]
theorem columns_ok {n : Nat} (w : WF h) (s : Story h words m) : callN T (n + 1) 24 [.d (dT D.str words)] L = .ok (.d (.lst ((List.range m).map fun a => dT dC (dayAt words a)))) L :=
  columns_gen (fun x hx => s.len w hx) (by rw [s.ln]; exact w.two) s.few
end
end K64
end
section
set_option Elab.async false
set_option linter.all false
set_option maxRecDepth 100000
set_option maxHeartbeats 1000000
/-! QI: slips, told_by. -/
namespace K64
open L3
section
variable {h : Hand} {spots : List Nat} {words : List (List Nat)} {L : LH} {p m : Nat}
theorem zeros {n : Nat} : (List.replicate n [D.int 0]).flatten = (List.replicate n 0).map dN := by
  induction n with
  | zero => rfl
  | succ n ih => rw [List.replicate_succ, List.flatten_cons, ih, List.replicate_succ]; rfl
theorem b_zeros {n : Nat} (hn : n ≤ 1000) : binop .mul (.d (.tup [.int 0])) (.d (.int (n : Int))) L = .ok (.d (dT dN (List.replicate n 0))) L := by
  rw [b_times ⟨by omega, by omega, by simp⟩, Int.toNat_natCast, zeros]
end
end K64
end
section
set_option Elab.async false
set_option linter.all false
set_option maxRecDepth 100000
set_option maxHeartbeats 1000000
/-! QJ: the checks of a rule's parts. -/
namespace K64
open L3
section
variable {L : LH} {s t : List Nat}
theorem is_integer_ok {n : Nat} {i : Int} : callN T (n + 1) 31 [.d (.int i)] L = .ok (.d (.bl true)) L := by
  rw [callN_succ]
  refine (run_ret (d := d_is_integer) rfl rfl ?_).trans leave_same
  show evSs T (callN T n) b_is_integer [some (.d (.int i))] L = _
  unfold b_is_integer
  simp_arith [is_int_int, is_bool_int, Bool.not_false]
theorem is_word_ok {n : Nat} (hl : t.length ≤ lim) : callN T (n + 1) 30 [.d (.str s), .d (.str t)] L = .ok (.d (.bl (t.all fun c => decide (c ∈ s)))) L := by
  rw [callN_succ]
  refine (run_ret (d := d_is_word) rfl rfl ?_).trans leave_same
  show evSs T (callN T n) b_is_word [some (.d (.str s)), some (.d (.str t)), none] L = _
  have e : evE T (callN T n) [some (.d (.str s)), some (.d (.str t)), none] x_is_word_1 L = .ok (.d (.lst (t.map fun c => D.bl (decide (c ∈ s))))) L := by
    unfold x_is_word_1
    rw [evE_lc]
    simp_arith [chars_map]
    rw [map_eq (L := L) (h := fun c => VL.d (.bl (decide (c ∈ s)))) rfl fun c hc => ?_]
    · simp_arith [mkL_map hl]
    · simp_arith [c_in_str]
  unfold b_is_word
  simp_arith [is_str_str, e, bf_all]
def abc : List Nat := [97, 98, 99, 100, 101, 102, 103, 104, 105, 106, 107, 108, 109, 110, 111, 112, 113, 114, 115, 116, 117, 118, 119, 120, 121, 122]
structure OutOk (t : List Nat) : Prop where
  ab : ∀ c ∈ t, c ∈ abc
  pos : 1 ≤ t.length
  le : t.length ≤ 8
  ne : t ≠ [115, 101, 108, 102]
theorem is_outcome_ok {n : Nat} (o : OutOk t) : callN T (n + 2) 29 [.d (.str t)] L = .ok (.d (.bl true)) L := by
  rw [callN_succ]
  refine (run_ret (d := d_is_outcome) rfl rfl ?_).trans leave_same
  show evSs T (callN T (n + 1)) b_is_outcome [some (.d (.str t))] L = _
  have pos := o.pos
  have le := o.le
  have e := is_word_ok (n := n) (L := L) (s := abc) (t := t) (by show _ ≤ 16777216; omega)
  rw [List.all_eq_true.mpr fun c hc => decide_eq_true (o.ab c hc)] at e
  unfold abc at e
  have h1 : (1 : Int) ≤ (t.length : Int) := by omega
  have h2 : (t.length : Int) ≤ 8 := by omega
  have h3 : (t == [115, 101, 108, 102]) = false := beq_false_of_ne o.ne
  unfold b_is_outcome
  simp_arith [e, c_le, h1, decide_true, h2, c_ne_str, h3, Bool.not_false]
/-- a clerk's letters -/
structure Letters (t : List Nat) : Prop where
  ab : ∀ c ∈ t, c ∈ abc
  pos : 1 ≤ t.length
  le : t.length ≤ 12
  asc : ((t.zip (t.drop 1)).all fun p => decide (p.1 < p.2)) = true
theorem is_letters_ok {n : Nat} (o : Letters t) : callN T (n + 2) 27 [.d (.str t)] L = .ok (.d (.bl true)) L := by
  rw [callN_succ]
  refine (run_ret (d := d_is_letters) rfl rfl ?_).trans leave_same
  show evSs T (callN T (n + 1)) b_is_letters [some (.d (.str t)), none, none] L = _
  have pos := o.pos
  have le := o.le
  have e := is_word_ok (n := n) (L := L) (s := abc) (t := t) (by show _ ≤ 16777216; omega)
  rw [List.all_eq_true.mpr fun c hc => decide_eq_true (o.ab c hc)] at e
  unfold abc at e
  have h1 : (1 : Int) ≤ (t.length : Int) := by omega
  have h2 : (t.length : Int) ≤ 12 := by omega
  have e2 : evE T (callN T (n + 1)) [some (.d (.str t)), none, none] x_is_letters_1 L = .ok (.d (.lst ((t.zip (t.drop 1)).map fun p => D.bl (decide (p.1 < p.2))))) L := by
    unfold x_is_letters_1
    rw [evE_lc]
    simp_arith [optI, slc_1, chars, zipD2, allD_mapP, zip2_items]
    rw [map_eq (L := L) (h := fun p => VL.d (.bl (decide (p.1 < p.2)))) rfl fun p hp => ?_]
    · simp_arith [mkL_map (f := fun p : Nat × Nat => D.bl (decide (p.1 < p.2))) (xs := t.zip (t.drop 1)) (show _ ≤ 16777216 by simp; omega)]
    · simp_arith [c_lt_ch]
  unfold b_is_letters
  simp_arith [e, tr_bl, Bool.not_true, c_le, h1, decide_true, h2, e2, bf_all, o.asc]
theorem is_row_ok {n many states : Nat} {row : List Nat} (hl : row.length = many) (hm : many ≤ 1000) (hr : ∀ x ∈ row, x < states) : callN T (n + 2) 28 [.d (dT dN row), .d (dN many), .d (dN states)] L = .ok (.d (.bl true)) L := by
  rw [callN_succ]
  refine (run_ret (d := d_is_row) rfl rfl ?_).trans leave_same
  show evSs T (callN T (n + 1)) b_is_row [some (.d (dT dN row)), some (.d (dN many)), some (.d (dN states)), none] L = _
  have e2 : evE T (callN T (n + 1)) [some (.d (dT dN row)), some (.d (dN many)), some (.d (dN states)), none] x_is_row_1 L = .ok (.d (.lst (row.map fun _ => D.bl true))) L := by
    unfold x_is_row_1
    rw [evE_lc]
    simp_arith
    rw [List.map_map, map_eq (L := L) (items := row) (enc := VL.d ∘ dN) (h := fun _ => VL.d (.bl true)) rfl fun x hx => ?_]
    · simp_arith [mkL_map (f := fun _ : Nat => D.bl true) (xs := row) (show _ ≤ 16777216 by omega)]
    · have h0 : (0 : Int) ≤ (x : Int) := by omega
      have h1 : (x : Int) < (states : Int) := by have := hr x hx; omega
      simp_arith [Function.comp, dN, is_integer_ok, c_le, h0, decide_true, c_lt', h1]
  have hne : ((row.length : Int) == (many : Int)) = true := by rw [hl]; exact beq_self_eq_true _
  have ha : (row.all fun _ => true) = true := by simp
  unfold b_is_row
  simp_arith [is_tup_tup, tr_bl, Bool.not_true, List.length_map, dN, c_ne_int, hne]
  simp only [dN] at e2
  simp_arith [e2, bf_all, ha]
end
end K64
end
section
set_option Elab.async false
set_option linter.all false
set_option maxRecDepth 100000
set_option maxHeartbeats 1000000
/-! QK: all rows of letters, in the program and in the law. -/
namespace K64
open L3
section
variable {L : LH}
theorem dT_expand {α : Type} {f : α → D} {found : List (List α)} {lot : List α} : (found.flatMap fun row => lot.map fun c => VL.d (dT f (row ++ [c]))) = ((expand found lot).map (dT f)).map VL.d := by
  unfold expand
  induction found with
  | nil => rfl
  | cons x xs ih => rw [List.flatMap_cons, List.flatMap_cons, List.map_append, List.map_append, ih]; congr 1; rw [List.map_map, List.map_map]; rfl
theorem days_of_ok {n : Nat} {letters : List (List Nat)} (h3 : letters.length ≤ 3) (h4 : ∀ x ∈ letters, x.length ≤ 4) : callN T (n + 1) 23 [.d (dT D.str letters)] L = .ok (.d (.lst ((prodG letters).map (dT dC)))) L := by
  rw [callN_succ]
  refine (run_ret (d := d_days_of) rfl rfl ?_).trans leave_same
  show evSs T (callN T n) b_days_of [some (.d (dT D.str letters)), none, none, none, none] L = _
  have inner : ∀ (found : List (List Nat)) (lot : List Nat) (p0 p3 p4 : Option VL), found.length * lot.length ≤ 1000 → (∀ r ∈ found, r.length ≤ 3) → evE T (callN T n) [p0, some (.d (.lst (found.map (dT dC)))), some (.d (.str lot)), p3, p4] x_days_of_1 L = .ok (.d (.lst ((expand found lot).map (dT dC)))) L := by
    intro found lot p0 p3 p4 hl hr
    unfold x_days_of_1
    rw [evE_lc2]
    simp_arith
    rw [List.map_map, map_flat (L := L) (items := found) (enc := VL.d ∘ dT dC) (h := fun row => lot.map fun c => VL.d (dT dC (row ++ [c]))) rfl fun row hrow => ?_]
    · simp_arith
      rw [dT_expand]
      exact mkL_d (by rw [List.length_map, expand_len]; show _ ≤ 16777216; omega)
    · simp_arith [Function.comp, chars_map]
      rw [map_eq (L := L) (items := lot) (h := fun c => VL.d (dT dC (row ++ [c]))) rfl fun c hc => ?_]
      · simp_arith
      · have hrl := hr row hrow
        have := mkT_snoc (L := L) (f := dC) (row := row) (c := c) (by show _ < 16777216; omega)
        show (mkT ((row.map dC).map VL.d ++ [VL.d (dC c)]) L).bind _ = _
        rw [this]
        rfl
  have lp : (evS T (callN T n) x_days_of_2 [some (.d (dT D.str letters)), some (.d (.lst [.tup []])), none, none, none] L).nx fun ρ' L' => L' = L ∧ ∃ a b c, ρ' = [some (.d (dT D.str letters)), some (.d (.lst ((prodG letters).map (dT dC)))), a, b, c] := by
    unfold x_days_of_2
    rw [evS_forr]
    simp_arith
    refine forI_nx (fun i ρ L' => L' = L ∧ ∃ a b c, ρ = [some (.d (dT D.str letters)), some (.d (.lst ((prodG (letters.take i)).map (dT dC)))), a, b, c]) (fun _ _ _ _ => rfl) ⟨rfl, none, none, none, rfl⟩ ?_ ?_
    · rintro i x ρ L' hx ⟨rfl, a, b, c, rfl⟩
      rw [List.map_map, List.getElem?_map] at hx
      obtain ⟨lot, e, rfl⟩ := Option.map_eq_some_iff.mp hx
      have hi : i < letters.length := (List.getElem?_eq_some_iff.mp e).1
      obtain ⟨b1, b2⟩ := prodG_take h4 i
      have b3 : (4:Nat) ^ i ≤ 4 ^ 2 := Nat.pow_le_pow_right (by decide) (by omega)
      have b4 := h4 lot (List.mem_of_getElem? e)
      have hin := inner (prodG (letters.take i)) lot (some (.d (dT D.str letters))) b c (Nat.le_trans (Nat.mul_le_mul (Nat.le_trans b1 b3) b4) (by decide)) fun r hr => Nat.le_trans (b2 r hr) (by omega)
      simp_arith [Function.comp, hin]
      have et : letters.take (i + 1) = letters.take i ++ [lot] := by rw [List.take_succ, e]; rfl
      rw [et, prodG_snoc]
      exact ⟨_, _, _, rfl⟩
    · rintro ρ' L' ⟨rfl, a, b, c, rfl⟩
      refine ⟨rfl, a, b, c, ?_⟩
      rw [List.length_map, List.length_map, List.take_length]
  obtain ⟨ρ', L', e, rfl, a, b, c, rfl⟩ := lp.ex
  have m0 : mkL false [VL.d (.tup [])] L' = .ok (.d (.lst [.tup []])) L' := mkL_d (xs := [.tup []]) (by decide)
  have m1 : mkT [] L' = .ok (.d (.tup [])) L' := mkT_d (xs := []) (by decide)
  unfold b_days_of
  simp_arith [m1, m0, e]
theorem tuples_ok {n : Nat} {α : Type} {enc : α → D} {eL : List α → D} {lots : List (List α)} {o : VL} (ho : o = .d (.tup (lots.map eL)) ∨ o = .d (.lst (lots.map eL))) (hw : ∀ (L : LH) (lot : List α), walkOf L (.d (eL lot)) = some ⟨lot.map fun x => VL.d (enc x), []⟩)
    (h3 : lots.length ≤ 3) (h4 : ∀ x ∈ lots, x.length ≤ 4) : callN T (n + 1) 15 [o] L = .ok (.d (.lst ((prodG lots).map (dT enc)))) L := by
  rw [callN_succ]
  have inner : ∀ (row : List α) (lot : List α) (p0 p1 p3 p5 : Option VL) (L : LH), row.length ≤ 3 → lot.length ≤ 4 → evE T (callN T n) [p0, p1, some (.d (eL lot)), p3, some (.d (dT enc row)), p5] x__law_tuples_1 L = .ok (.d (.lst (lot.map fun c => dT enc (row ++ [c])))) L := by
    intro row lot p0 p1 p3 p5 L hr hl
    unfold x__law_tuples_1
    rw [evE_lc]
    simp_arith [hw]
    rw [map_eq (L := L) (items := lot) (enc := fun x => VL.d (enc x)) (h := fun c => VL.d (dT enc (row ++ [c]))) rfl fun c hc => ?_]
    · simp_arith
      exact mkL_map (f := fun c => dT enc (row ++ [c])) (by show _ ≤ 16777216; omega)
    · have t1 : mkT [VL.d (enc c)] L = .ok (.d (.tup [enc c])) L := mkT_d (xs := [enc c]) (show 1 ≤ lim by decide)
      have t2 : binop .add (.d (.tup (row.map enc))) (.d (.tup [enc c])) L = .ok (.d (.tup (row.map enc ++ [enc c]))) L := b_tup (by rw [List.length_map]; show row.length + 1 ≤ 16777216; omega)
      simp_arith [t1, t2]
      rw [show dT enc (row ++ [c]) = .tup (row.map enc ++ [enc c]) from by rw [show dT enc (row ++ [c]) = .tup ((row ++ [c]).map enc) from rfl, List.map_append]; rfl]
  have mid : ∀ (found : List (List α)) (lot : List α) (p0 p4 p5 : Option VL) (L : LH), found.length ≤ 100 → (∀ r ∈ found, r.length ≤ 3) → lot.length ≤ 4 →
      (evS T (callN T n) x__law_tuples_2 [p0, some (.d (.lst (found.map (dT enc)))), some (.d (eL lot)), some (.r L.length), p4, p5] (L ++ [.lst []])).nx fun ρ' L' => (∃ a b, ρ' = [p0, some (.d (.lst (found.map (dT enc)))), some (.d (eL lot)), some (.r L.length), a, b]) ∧ L' = L ++ [.lst (((expand found lot).map (dT enc)).map .d)] := by
    intro found lot p0 p4 p5 L hf hr hl
    unfold x__law_tuples_2
    rw [evS_forr]
    simp_arith
    refine forI_nx (fun i ρ L' => (∃ a b, ρ = [p0, some (.d (.lst (found.map (dT enc)))), some (.d (eL lot)), some (.r L.length), a, b]) ∧ L' = L ++ [.lst (((expand (found.take i) lot).map (dT enc)).map .d)]) (fun _ _ _ _ => rfl) ⟨⟨_, _, rfl⟩, rfl⟩ ?_ ?_
    · rintro i x ρ L' hx ⟨⟨a, b, rfl⟩, rfl⟩
      rw [List.map_map, List.getElem?_map] at hx
      obtain ⟨row, e, rfl⟩ := Option.map_eq_some_iff.mp hx
      have hin := inner row lot p0 (some (.d (.lst (found.map (dT enc))))) (some (.r L.length)) b (L ++ [.lst (((expand (found.take i) lot).map (dT enc)).map .d)]) (hr row (List.mem_of_getElem? e)) hl
      have hlen : (((expand (found.take i) lot).map (dT enc)).map VL.d).length + (lot.map fun c => dT enc (row ++ [c])).length ≤ lim := by
        rw [List.length_map, List.length_map, List.length_map, expand_len, List.length_take]
        have : min i found.length * lot.length ≤ 100 * 4 := Nat.mul_le_mul (by omega) hl
        show _ ≤ 16777216
        omega
      simp_arith [Function.comp, ext_ty, hin, ext_last hlen]
      refine ⟨⟨_, _, rfl⟩, ?_⟩
      have et : found.take (i + 1) = found.take i ++ [row] := by rw [List.take_succ, e]; rfl
      have ee : expand (found.take i ++ [row]) lot = expand (found.take i) lot ++ lot.map fun c => row ++ [c] := by unfold expand; rw [List.flatMap_append]; simp
      rw [et, ee, List.map_append, List.map_append, List.map_map (f := fun c => row ++ [c])]
      rfl
    · rintro ρ' L' ⟨⟨a, b, rfl⟩, rfl⟩
      refine ⟨⟨a, b, rfl⟩, ?_⟩
      rw [List.length_map, List.length_map, List.take_length]
  have lp : (evS T (callN T n) x__law_tuples_3 [some o, some (.d (.lst [.tup []])), none, none, none, none] L).nx fun ρ' L' => (∃ X, L' = L ++ X) ∧ ∃ a b c d, ρ' = [some o, some (.d (.lst ((prodG lots).map (dT enc)))), a, b, c, d] := by
    have core : (forR [] (fun x ρ L => match asgT L (.name 2) x ρ with
        | some ρ' => evSs T (callN T n) [.asg (.name 3) (.lst true []), x__law_tuples_2, .asg (.name 1) (.frz (.var 3))] ρ' L
        | none => .stuck) ((lots.map eL).map VL.d) [some o, some (.d (.lst [.tup []])), none, none, none, none] L).nx fun ρ' L' => (∃ X, L' = L ++ X) ∧ ∃ a b c d, ρ' = [some o, some (.d (.lst ((prodG lots).map (dT enc)))), a, b, c, d] := by
      refine forI_nx (fun i ρ L' => (∃ X, L' = L ++ X) ∧ ∃ a b c d, ρ = [some o, some (.d (.lst ((prodG (lots.take i)).map (dT enc)))), a, b, c, d]) (fun _ _ _ _ => rfl) ⟨⟨[], (List.append_nil L).symm⟩, none, none, none, none, rfl⟩ ?_ ?_
      · rintro i x ρ L' hx ⟨⟨X, rfl⟩, a, b, c, d, rfl⟩
        rw [List.map_map, List.getElem?_map] at hx
        obtain ⟨lot, e, rfl⟩ := Option.map_eq_some_iff.mp hx
        have hi : i < lots.length := (List.getElem?_eq_some_iff.mp e).1
        obtain ⟨b1, b2⟩ := prodG_take h4 i
        have b3 : (4:Nat) ^ i ≤ 4 ^ 2 := Nat.pow_le_pow_right (by decide) (by omega)
        have b4 := h4 lot (List.mem_of_getElem? e)
        obtain ⟨ρ1, L1, e1, ⟨x1, x2, rfl⟩, rfl⟩ := (mid (prodG (lots.take i)) lot (some o) c d (L ++ X) (Nat.le_trans b1 (Nat.le_trans b3 (by decide))) (fun r hr => Nat.le_trans (b2 r hr) (by omega)) b4).ex
        simp_arith [Function.comp, lst_m, e1, frz_last]
        have et : lots.take (i + 1) = lots.take i ++ [lot] := by rw [List.take_succ, e]; rfl
        rw [et, prodG_snoc]
        exact ⟨⟨X ++ [.dead], by rw [List.append_assoc]⟩, _, _, _, _, rfl⟩
      · rintro ρ' L' ⟨hX, a, b, c, d, rfl⟩
        refine ⟨hX, a, b, c, d, ?_⟩
        rw [List.length_map, List.length_map, List.take_length]
    unfold x__law_tuples_3
    rw [evS_forr]
    rcases ho with rfl | rfl
    · rw [qI1, qE1]
      simp_arith
      exact core
    · rw [qI1, qE1]
      simp_arith
      exact core
  obtain ⟨ρ', L', e, ⟨X, rfl⟩, a, b, c, d, rfl⟩ := lp.ex
  have m0 : mkL false [VL.d (.tup [])] L = .ok (.d (.lst [.tup []])) L := mkL_d (xs := [.tup []]) (by decide)
  have m1 : mkT [] L = .ok (.d (.tup [])) L := mkT_d (xs := []) (by decide)
  refine (run_ret (d := d__law_tuples) (v := .d (.lst ((prodG lots).map (dT enc)))) (L' := L ++ X) rfl rfl ?_).trans leave_app
  show evSs T (callN T n) b__law_tuples [some o, none, none, none, none, none] L = _
  unfold b__law_tuples
  simp_arith [m1, m0, e]
end
end K64
end
section
set_option Elab.async false
set_option linter.all false
set_option maxRecDepth 100000
set_option maxHeartbeats 1000000
/-! QL: a rule's parts are checked. -/
namespace K64
open L3
theorem okqs_map {α : Type} {f : α → D} {k : Nat} (h : ∀ x, D.okq k (f x) = true) : ∀ xs : List α, D.okqs k (xs.map f) = true
  | [] => by cases k <;> rfl
  | x :: xs => by
    have e1 := h x
    have e2 := okqs_map h xs
    cases k <;> simp only [List.map_cons, D.okqs, e1, e2, Bool.and_self]
theorem okq_dT {α : Type} {f : α → D} {k : Nat} (h : ∀ x, D.okq k (f x) = true) (xs : List α) : D.okq (k + 1) (dT f xs) = true := okqs_map h xs
theorem c_eq_nil {L : LH} {x : D} {xs : List D} (h : D.okq eqLim (.tup (x :: xs)) = true) : cmpop .eq L (.d (.tup (x :: xs))) (.d (.tup [])) = some false := by
  have e1 : dv dvLim L (.d (.tup (x :: xs))) = some (.tup (x :: xs)) := rfl
  have e2 : dv dvLim L (.d (.tup [])) = some (.tup []) := rfl
  have e3 : D.okq eqLim (.tup []) = true := rfl
  simp only [cmpop, eqD, e1, e2, h, e3, Bool.and_self, if_true]
  rfl
structure Parts (letters : List (List Nat)) (moves : List (List Nat)) (outs : List (List Nat)) : Prop where
  two : letters.length = 2 ∨ letters.length = 3
  lt : ∀ a ∈ letters, Letters a ∧ a.length ≤ 4
  mv : moves ≠ []
  few : moves.length ≤ 1000
  rows : ∀ r ∈ moves, r.length = (prodG letters).length ∧ ∀ x ∈ r, x < moves.length
  lo : outs.length = moves.length
  oo : ∀ o ∈ outs, OutOk o
section
variable {L : LH} {letters moves outs : List (List Nat)}
theorem days_few (p : Parts letters moves outs) : (prodG letters).length ≤ 64 := by
  have h := (prodG_take (lots := letters) (fun x hx => (p.lt x hx).2) letters.length).1
  rw [List.take_length] at h
  have two := p.two
  have : (4:Nat) ^ letters.length ≤ 4 ^ 3 := Nat.pow_le_pow_right (by decide) (by omega)
  exact Nat.le_trans h (Nat.le_trans this (by decide))
theorem check_ok {n : Nat} (p : Parts letters moves outs) : callN T (n + 4) 22 [.d (dT D.str letters), .d (dT (dT dN) moves), .d (dT D.str outs)] L = .ok (.d .non) L := by
  rw [callN_succ]
  have two := p.two
  have few := p.few
  have lo := p.lo
  have df := days_few p
  let ρ (a b c d : Option VL) : Env := [some (.d (dT D.str letters)), some (.d (dT (dT dN) moves)), some (.d (dT D.str outs)), a, b, c, d]
  have x1 : evE T (callN T (n + 3)) (ρ none none none none) x_check_parts_1 L = .ok (.d (.lst (letters.map fun _ => D.bl true))) L := by
    unfold x_check_parts_1
    rw [evE_lc]
    simp_arith [ρ]
    rw [List.map_map, map_eq (L := L) (items := letters) (enc := VL.d ∘ D.str) (h := fun _ => VL.d (.bl true)) rfl fun x hx => ?_]
    · simp_arith [mkL_map (f := fun _ : List Nat => D.bl true) (xs := letters) (show _ ≤ 16777216 by omega)]
    · simp_arith [Function.comp, is_letters_ok (n := n + 1) (L := L) (p.lt x hx).1]
  have x3 : ∀ a b c d, evE T (callN T (n + 3)) (ρ a b c d) x_check_parts_3 L = .ok (.d (.lst (outs.map fun _ => D.bl true))) L := by
    intro a b c d
    unfold x_check_parts_3
    rw [evE_lc]
    simp_arith [ρ]
    rw [List.map_map, map_eq (L := L) (items := outs) (enc := VL.d ∘ D.str) (h := fun _ => VL.d (.bl true)) rfl fun x hx => ?_]
    · simp_arith [mkL_map (f := fun _ : List Nat => D.bl true) (xs := outs) (show _ ≤ 16777216 by omega)]
    · simp_arith [Function.comp, is_outcome_ok (n := n + 1) (L := L) (p.oo x hx)]
  have x2 : (evS T (callN T (n + 3)) x_check_parts_2 (ρ (some (.d (dN (prodG letters).length))) none none none) L).nx fun ρ' L' => L' = L ∧ ∃ b, ρ' = ρ (some (.d (dN (prodG letters).length))) b none none := by
    unfold x_check_parts_2
    rw [evS_forr]
    simp_arith [ρ]
    rw [List.map_map]
    refine for_nx (items := moves) (enc := VL.d ∘ dT dN) (fun (_ : Unit) _ => ()) () (fun _ ρ' => ∃ b, ρ' = ρ (some (.d (dN (prodG letters).length))) b none none) rfl ⟨none, rfl⟩ ?_ ?_
    · rintro _ r ρ' hr ⟨b, rfl⟩
      obtain ⟨r1, r2⟩ := p.rows r hr
      have hrow := is_row_ok (n := n + 1) (L := L) (row := r) (many := (prodG letters).length) (states := moves.length) r1 (by omega) r2
      have hlm : ((moves.map (dT dN)).length : Int) = (moves.length : Int) := by rw [List.length_map]
      have hcall : callN T (n + 3) 28 [.d (dT dN r), .d (dN (prodG letters).length), .d (.int (moves.length : Int))] L = .ok (.d (.bl true)) L := hrow
      simp_arith [ρ, Function.comp, hlm, hcall, tr_bl, Bool.not_true]
      exact ⟨_, rfl⟩
    · rintro ρ' ⟨b, rfl⟩
      exact ⟨rfl, b, rfl⟩
  obtain ⟨ρ2, L2, e2, rfl, b2, rfl⟩ := x2.ex
  obtain ⟨m0, ms, hm⟩ : ∃ a as, moves = a :: as := by
    cases hmv : moves with
    | nil => exact absurd hmv p.mv
    | cons a as => exact ⟨a, as, rfl⟩
  have hq : D.okq eqLim (dT (dT dN) moves) = true := okq_dT (k := 59) (fun x => okq_dT (k := 58) (fun y => rfl) x) moves
  have ceq : cmpop .eq L2 (.d (dT (dT dN) moves)) (.d (.tup [])) = some false := by
    subst hm
    exact c_eq_nil hq
  have cin : cmpop .notin L2 (.d (.int ((letters.map D.str).length : Int))) (.d (.tup [.int 2, .int 3])) = some false := by
    rw [List.length_map]
    rcases two with e | e <;> rw [e] <;> rfl
  have m1 : mkT [] L2 = .ok (.d (.tup [])) L2 := mkT_d (xs := []) (by decide)
  have hd := days_of_ok (n := n + 2) (L := L2) (letters := letters) (by omega) fun x hx => (p.lt x hx).2
  have a1 : (letters.all fun _ => true) = true := by simp
  have a3 : (outs.all fun _ => true) = true := by simp
  have hne : ((((outs.map D.str).length : Nat) : Int) == (((moves.map (dT dN)).length : Nat) : Int)) = true := by
    rw [List.length_map, List.length_map, lo]; exact beq_self_eq_true _
  have hl : (((prodG letters).map (dT dC)).length : Int) = ((prodG letters).length : Int) := by rw [List.length_map]
  have e2' : evS T (callN T (n + 3)) x_check_parts_2 [some (.d (dT D.str letters)), some (.d (dT (dT dN) moves)), some (.d (dT D.str outs)), some (.d (.int ((prodG letters).length : Int))), none, none, none] L2 = .next (ρ (some (.d (dN (prodG letters).length))) b2 none none) L2 := e2
  have x1' : evE T (callN T (n + 3)) [some (.d (dT D.str letters)), some (.d (dT (dT dN) moves)), some (.d (dT D.str outs)), none, none, none, none] x_check_parts_1 L2 = _ := x1
  have x3' := x3 (some (.d (dN (prodG letters).length))) b2 none none
  refine (run_next (d := d_check_parts) (ρ := ρ (some (.d (dN (prodG letters).length))) b2 none none) rfl rfl ?_).trans leave_same
  show evSs T (callN T (n + 3)) b_check_parts [some (.d (dT D.str letters)), some (.d (dT (dT dN) moves)), some (.d (dT D.str outs)), none, none, none, none] L2 = _
  unfold b_check_parts
  simp_arith [is_tup_tup, tr_bl, Bool.not_true, cin, x1', bf_all, a1, m1, ceq, hd, hl, e2', ρ]
  simp only [ρ] at x3'
  simp_arith [is_tup_tup, tr_bl, Bool.not_true, c_ne_int, hne, x3', bf_all, a3]
end
end K64
end
section
set_option Elab.async false
set_option linter.all false
set_option maxRecDepth 100000
set_option maxHeartbeats 300000
/-! QM: a rule is made. -/
namespace K64
open L3
def ruleD (letters moves outs : List (List Nat)) : D := .obj 0 [3, 4, 1, 5] [dT D.str letters, dT (dT dN) moves, dT D.str outs, .dct ((prodG letters).map (dT dC)) (numbers 0 ((prodG letters).map (dT dC)))]
theorem dC_inj {a b : Nat} (h : dC a = dC b) : a = b := by unfold dC at h; injection h with h; injection h
theorem dT_inj {α : Type} {f : α → D} (hf : ∀ a b, f a = f b → a = b) {xs ys : List α} (h : dT f xs = dT f ys) : xs = ys := by
  injection h with h
  exact (List.map_inj_right fun {a b} => hf a b).mp h
theorem keyTs_chars {k : Nat} : ∀ xs : List Nat, D.keyTs (k + 1) (xs.map dC) = true
  | [] => by rfl
  | x :: xs => by simp only [List.map_cons, D.keyTs, dC, D.keyT, Bool.true_and]; exact keyTs_chars xs
theorem map_nd {α β : Type} {f : α → β} (hf : ∀ a b, f a = f b → a = b) {xs : List α} (h : xs.Nodup) : (xs.map f).Nodup := by
  unfold List.Nodup
  rw [List.pairwise_map]
  exact h.imp fun {a b} hab e => hab (hf a b e)
section
variable {L : LH} {letters moves outs : List (List Nat)}
theorem days_key (p : Parts letters moves outs) (nd : ∀ a ∈ letters, a.Nodup) : ((prodG letters).map (dT dC)).Nodup ∧ ∀ d ∈ (prodG letters).map (dT dC), d.isTup = true ∧ keyOk d = true := by
  constructor
  · have := prodG_nd nd letters.length
    rw [List.take_length] at this
    exact map_nd (fun a b e => dT_inj (fun _ _ => dC_inj) e) this
  · intro d hd
    obtain ⟨r, _, rfl⟩ := List.mem_map.mp hd
    exact ⟨rfl, keyTs_chars (k := 6) r⟩
theorem init_run {call : Nat → List VL → LH → Res VL} {A B C E : D} (hc : call 22 [.d A, .d B, .d C] (L ++ [.obj 0 [] []]) = .ok (.d .non) (L ++ [.obj 0 [] []]))
    (e4 : ∀ (L : LH) (p0 p2 p3 : Option VL), evE T call [p0, some (.d A), p2, p3, none, none] x_RuleU_initU_1 L = .ok (.d E) L) :
    runFn T call 16 [.r L.length, .d A, .d B, .d C] (L ++ [.obj 0 [] []]) = .ok (.d .non) (L ++ [.obj 0 [3, 4, 1, 5] ([A, B, C, E].map .d)]) := by
  have hk : T.clss[0]? = some c_Rule := rfl
  have s1 : ∀ v, setAttr T 3 (.r L.length) v (L ++ [.obj 0 [] []]) = some (L ++ [.obj 0 [3] [v]]) := fun v => setA_last hk (by decide) (by decide)
  have s2 : ∀ u v, setAttr T 4 (.r L.length) v (L ++ [.obj 0 [3] [u]]) = some (L ++ [.obj 0 [3, 4] [u, v]]) := fun u v => setA_last hk (by decide) (by decide)
  have s3 : ∀ t u v, setAttr T 1 (.r L.length) v (L ++ [.obj 0 [3, 4] [t, u]]) = some (L ++ [.obj 0 [3, 4, 1] [t, u, v]]) := fun t u v => setA_last hk (by decide) (by decide)
  have s4 : ∀ r t u v, setAttr T 5 (.r L.length) v (L ++ [.obj 0 [3, 4, 1] [r, t, u]]) = some (L ++ [.obj 0 [3, 4, 1, 5] [r, t, u, v]]) := fun r t u v => setA_last hk (by decide) (by decide)
  have e0 : evSs T call b_RuleU_initU [some (.r L.length), some (.d A), some (.d B), some (.d C), none, none] (L ++ [.obj 0 [] []]) = .next [some (.r L.length), some (.d A), some (.d B), some (.d C), none, none] (L ++ [.obj 0 [3, 4, 1, 5] [.d A, .d B, .d C, .d E]]) := by
    unfold b_RuleU_initU
    simp_arith [hc, s1, s2, s3, e4, s4]
  rw [run_next (d := d_RuleU_initU) rfl rfl e0]
  exact leave_obj (ds := [A, B, C, E])
theorem init_ok {n : Nat} (p : Parts letters moves outs) (nd : ∀ a ∈ letters, a.Nodup) : callN T (n + 5) 16 [.r L.length, .d (dT D.str letters), .d (dT (dT dN) moves), .d (dT D.str outs)] (L ++ [.obj 0 [] []]) = .ok (.d .non) (L ++ [.obj 0 [3, 4, 1, 5] ([dT D.str letters, dT (dT dN) moves, dT D.str outs, .dct ((prodG letters).map (dT dC)) (numbers 0 ((prodG letters).map (dT dC)))].map .d)]) := by
  rw [callN_succ]
  have two := p.two
  have hc : ∀ L, callN T (n + 4) 22 [.d (dT D.str letters), .d (dT (dT dN) moves), .d (dT D.str outs)] L = .ok (.d .non) L := fun L => check_ok (n := n) (L := L) p
  have hd : ∀ L, callN T (n + 4) 23 [.d (dT D.str letters)] L = _ := fun L => days_of_ok (n := n + 3) (L := L) (letters := letters) (by omega) fun x hx => (p.lt x hx).2
  obtain ⟨k1, k2⟩ := days_key p nd
  have few : ((prodG letters).map (dT dC)).length ≤ 1000 := by rw [List.length_map]; exact Nat.le_trans (days_few p) (by decide)
  have e4 : ∀ (L : LH) (p0 p2 p3 : Option VL), evE T (callN T (n + 4)) [p0, some (.d (dT D.str letters)), p2, p3, none, none] x_RuleU_initU_1 L = .ok (.d (.dct ((prodG letters).map (dT dC)) (numbers 0 ((prodG letters).map (dT dC))))) L := by
    intro L p0 p2 p3
    unfold x_RuleU_initU_1
    rw [evE_dc]
    simp_arith [hd, optI, Option.getD_none]
    rw [enum_map (L := L) (fun d k => by simp_arith) ((prodG letters).map (dT dC)) 0]
    simp_arith
    exact mkD_new k1 k2 few
  exact init_run (hc _) (fun L p0 p2 p3 => e4 L p0 p2 p3)
def worldD (letters moves outs : List (List Nat)) : D := .dct [.str [97, 108, 112, 104, 97, 98, 101, 116, 115], .str [110, 101, 120, 116, 115], .str [101, 110, 100, 115]] [dT D.str letters, dT (dT dN) moves, dT D.str outs]
theorem code_ok {n : Nat} (p : Parts letters moves outs) (nd : ∀ a ∈ letters, a.Nodup) : callN T (n + 6) 4 [.d (worldD letters moves outs)] L = .ok (.d (ruleD letters moves outs)) L := by
  rw [callN_succ]
  refine (run_ret (d := d__law_code) rfl rfl ?_).trans leave_same
  show evSs T (callN T (n + 5)) b__law_code [some (.d (worldD letters moves outs))] L = _
  have g1 : getI L (.d (worldD letters moves outs)) (.d (.str [97, 108, 112, 104, 97, 98, 101, 116, 115])) = some (.d (dT D.str letters)) := id rfl
  have g2 : getI L (.d (worldD letters moves outs)) (.d (.str [110, 101, 120, 116, 115])) = some (.d (dT (dT dN) moves)) := id rfl
  have g3 : getI L (.d (worldD letters moves outs)) (.d (.str [101, 110, 100, 115])) = some (.d (dT D.str outs)) := id rfl
  have mk := make_frz (T := T) (call := callN T (n + 5)) (c := 0) (k := c_Rule) (L := L) (xs := [.d (dT D.str letters), .d (dT (dT dN) moves), .d (dT D.str outs)]) rfl rfl (init_ok (n := n) p nd)
  unfold b__law_code
  simp_arith [g1, g2, g3, mk]
  rfl
end
end K64
end
section
set_option Elab.async false
set_option linter.all false
set_option maxRecDepth 100000
set_option maxHeartbeats 400000
/-! QN: a rule's state and outcome. -/
namespace K64
open L3
structure Hist (letters words : List (List Nat)) (m : Nat) : Prop where
  ln : words.length = letters.length
  two : letters.length = 2 ∨ letters.length = 3
  few : m ≤ 1000
  ok : ∀ (i : Nat) (w a : List Nat), words[i]? = some w → letters[i]? = some a → w.length = m ∧ ∀ c ∈ w, c ∈ a
section
variable {L : LH} {letters moves outs words : List (List Nat)} {m : Nat} {call : Nat → List VL → LH → Res VL}
theorem Hist.len (s : Hist letters words m) {x : List Nat} (e : x ∈ words) : x.length = m := by
  obtain ⟨i, hi⟩ := List.getElem?_of_mem e
  obtain ⟨a, ha⟩ := get_ex (xs := letters) (i := i) (by rw [← s.ln]; exact (List.getElem?_eq_some_iff.mp hi).1)
  exact (s.ok i x a hi ha).1
theorem ar_letters : attrR T call 3 (.d (ruleD letters moves outs)) L = .ok (.d (dT D.str letters)) L := id rfl
theorem ar_moves : attrR T call 4 (.d (ruleD letters moves outs)) L = .ok (.d (dT (dT dN) moves)) L := id rfl
theorem ar_outs : attrR T call 1 (.d (ruleD letters moves outs)) L = .ok (.d (dT D.str outs)) L := id rfl
theorem ar_days : attrR T call 5 (.d (ruleD letters moves outs)) L = .ok (.d (.dct ((prodG letters).map (dT dC)) (numbers 0 ((prodG letters).map (dT dC))))) L := id rfl
theorem me_hist : methOf T L (.d (ruleD letters moves outs)) 6 = some 26 := id rfl
theorem me_state : methOf T L (.d (ruleD letters moves outs)) 2 = some 21 := id rfl
theorem me_out : methOf T L (.d (ruleD letters moves outs)) 0 = some 12 := id rfl
theorem ofInts_map {α : Type} {f : α → Int} : ∀ xs : List α, ofInts (xs.map fun x => VL.d (.int (f x))) = some (xs.map f)
  | [] => rfl
  | x :: xs => by simp only [List.map_cons, ofInts, ofInts_map xs, Option.map_some]
theorem is_history_ok {n : Nat} (s : Hist letters words m) : callN T (n + 2) 26 [.d (ruleD letters moves outs), .d (dT D.str words)] L = .ok (.d (.bl true)) L := by
  rw [callN_succ]
  have two := s.two
  have ln := s.ln
  have few := s.few
  have x1 : evE T (callN T (n + 1)) [some (.d (ruleD letters moves outs)), some (.d (dT D.str words)), none, none] x_Rule_is_history_1 L = .ok (.d (.lst ((letters.zip words).map fun _ => D.bl true))) L := by
    unfold x_Rule_is_history_1
    rw [evE_lc]
    simp_arith [ar_letters, zipD2, zip2_items]
    rw [map_eq (L := L) (h := fun _ => VL.d (.bl true)) rfl fun p hp => ?_]
    · simp_arith
      exact mkL_map (f := fun _ : List Nat × List Nat => D.bl true) (by rw [List.length_zip]; show _ ≤ 16777216; omega)
    · obtain ⟨i, hi⟩ := List.getElem?_of_mem hp
      obtain ⟨h1, h2⟩ := List.getElem?_zip_eq_some.mp hi
      obtain ⟨l1, l2⟩ := s.ok i p.2 p.1 h2 h1
      have e := is_word_ok (n := n) (L := L) (s := p.1) (t := p.2) (by rw [l1]; show _ ≤ 16777216; omega)
      rw [List.all_eq_true.mpr fun c hc => decide_eq_true (l2 c hc)] at e
      simp_arith [e]
  have x2 : evE T (callN T (n + 1)) [some (.d (ruleD letters moves outs)), some (.d (dT D.str words)), none, none] x_Rule_is_history_2 L = .ok (.d (.lst (words.map fun w => D.int (w.length : Int)))) L := by
    unfold x_Rule_is_history_2
    rw [evE_lc]
    simp_arith
    rw [List.map_map, map_eq (L := L) (items := words) (enc := VL.d ∘ D.str) (h := fun w => VL.d (.int (w.length : Int))) rfl fun x hx => ?_]
    · simp_arith
      exact mkL_map (f := fun w : List Nat => D.int (w.length : Int)) (by show _ ≤ 16777216; omega)
    · simp_arith [Function.comp]
  have lens : bLenset [.d (.lst (words.map fun w => D.int (w.length : Int)))] L = .ok (.d (.int 1)) L := by
    have e1 : ((words.map fun w => D.int (w.length : Int)).map VL.d) = words.map fun w => VL.d (.int (w.length : Int)) := by rw [List.map_map]; rfl
    have e2 : (words.map fun w => (w.length : Int)) = List.replicate words.length (m : Int) := by
      rw [List.eq_replicate_iff]
      refine ⟨by rw [List.length_map], fun b hb => ?_⟩
      obtain ⟨w, hw, rfl⟩ := List.mem_map.mp hb
      rw [s.len hw]
    have e3 : words.length < 64 := by omega
    have e4 : (List.replicate words.length (m : Int)).eraseDups.length = 1 := by
      rcases two with e | e <;> rw [ln, e] <;> simp [List.replicate, List.eraseDups_cons]
    simp only [bLenset, lstOf, isL, seqOf, if_true, Option.bind_some, e1, ofInts_map, e2, List.length_replicate, e3, e4]
    rfl
  have hne : ((((words.map D.str).length : Nat) : Int) == (((letters.map D.str).length : Nat) : Int)) = true := by rw [List.length_map, List.length_map, ln]; exact beq_self_eq_true _
  have ha : ((letters.zip words).all fun _ => true) = true := by simp
  refine (run_ret (d := d_Rule_is_history) (v := .d (.bl true)) (L' := L) rfl rfl ?_).trans leave_same
  show evSs T (callN T (n + 1)) b_Rule_is_history [some (.d (ruleD letters moves outs)), some (.d (dT D.str words)), none, none] L = _
  unfold b_Rule_is_history
  simp_arith [is_tup_tup, tr_bl, Bool.not_true, ar_letters, c_ne_int, hne, x1, bf_all, ha, x2, lens, c_eq_int, beq_self_eq_true]
def placeD (letters : List (List Nat)) (day : List Nat) : Nat := ((prodG letters).map (dT dC)).idxOf (dT dC day)
def runM (letters moves words : List (List Nat)) (a : Nat) : Nat := (List.range a).foldl (fun here j => (moves.getD here []).getD (placeD letters (dayAt words j)) 0) 0
theorem mem_prodG {letters : List (List Nat)} {day : List Nat} (hl : day.length = letters.length) (h : ∀ (i : Nat) (a : List Nat), letters[i]? = some a → day.getD i 0 ∈ a) : ∀ i, i ≤ letters.length → day.take i ∈ prodG (letters.take i)
  | 0, _ => by simp [prodG]
  | i + 1, hi => by
    obtain ⟨a, ha⟩ := get_ex (xs := letters) (i := i) (by omega)
    obtain ⟨c, hc⟩ := get_ex (xs := day) (i := i) (by omega)
    have e1 : letters.take (i + 1) = letters.take i ++ [a] := by rw [List.take_succ, ha]; rfl
    have e2 : day.take (i + 1) = day.take i ++ [c] := by rw [List.take_succ, hc]; rfl
    rw [e1, e2, prodG_snoc]
    have := h i a ha
    rw [getD_of hc] at this
    exact List.mem_flatMap.mpr ⟨_, mem_prodG hl h i (by omega), List.mem_map.mpr ⟨c, this, rfl⟩⟩
theorem Hist.dayIn (s : Hist letters words m) {j : Nat} (hj : j < m) : dayAt words j ∈ prodG letters := by
  have hl : (dayAt words j).length = letters.length := by rw [dayAt, List.length_map, s.ln]
  have := mem_prodG (letters := letters) (day := dayAt words j) hl (fun i a e => by
    obtain ⟨x, hx⟩ := get_ex (xs := words) (i := i) (by rw [s.ln]; exact (List.getElem?_eq_some_iff.mp e).1)
    obtain ⟨l, q⟩ := s.ok i x a hx e
    obtain ⟨c, hc⟩ := get_ex (xs := x) (i := j) (by rw [l]; exact hj)
    have : (dayAt words j)[i]? = some c := by
      unfold dayAt
      rw [List.getElem?_map, hx]
      show some (x.getD j 0) = _
      rw [getD_of hc]
    rw [getD_of this]
    exact q c (List.mem_of_getElem? hc)) letters.length (Nat.le_refl _)
  rwa [List.take_length, ← hl, List.take_length] at this
theorem getI_days {day : List Nat} (h : day ∈ prodG letters) : getI L (.d (.dct ((prodG letters).map (dT dC)) (numbers 0 ((prodG letters).map (dT dC))))) (.d (dT dC day)) = some (.d (.int (placeD letters day : Nat))) := by
  have hk : keysOk ((prodG letters).map (dT dC)) (dT dC day) = true := by
    unfold keysOk
    rw [show keyOk (dT dC day) = true from keyTs_chars (k := 6) day, Bool.true_and, List.all_eq_true]
    intro j hj
    obtain ⟨r, _, rfl⟩ := List.mem_map.mp hj
    rfl
  have hl := dlook_num (b := true) ((prodG letters).map (dT dC)) 0 (List.mem_map.mpr ⟨day, h, rfl⟩)
  simp only [getI, hk, if_true, hl, Option.map_some, Int.zero_add]
  rfl
theorem placeD_lt {day : List Nat} (h : day ∈ prodG letters) : placeD letters day < (prodG letters).length := by
  have := List.idxOf_lt_length_iff.mpr (List.mem_map.mpr ⟨day, h, rfl⟩ : dT dC day ∈ (prodG letters).map (dT dC))
  rwa [List.length_map] at this
theorem move_get (p : Parts letters moves outs) {here : Nat} {day : List Nat} (hh : here < moves.length) (h : day ∈ prodG letters) : ∃ r, moves[here]? = some r ∧ r[placeD letters day]? = some ((moves.getD here []).getD (placeD letters day) 0) ∧ (moves.getD here []).getD (placeD letters day) 0 < moves.length := by
  obtain ⟨r, er⟩ := get_ex hh
  obtain ⟨r1, r2⟩ := p.rows r (List.mem_of_getElem? er)
  obtain ⟨x, ex⟩ := get_ex (xs := r) (i := placeD letters day) (by rw [r1]; exact placeD_lt h)
  refine ⟨r, er, ?_, ?_⟩
  · rw [getD_of er, getD_of ex, ex]
  · rw [getD_of er, getD_of ex]; exact r2 x (List.mem_of_getElem? ex)
theorem runM_lt (p : Parts letters moves outs) (s : Hist letters words m) : ∀ a, a ≤ m → runM letters moves words a < moves.length
  | 0, _ => by
    have := p.mv
    show 0 < _
    exact List.length_pos_iff.mpr this
  | a + 1, ha => by
    have ih := runM_lt p s a (by omega)
    have e : runM letters moves words (a + 1) = (moves.getD (runM letters moves words a) []).getD (placeD letters (dayAt words a)) 0 := by
      unfold runM; rw [List.range_succ, List.foldl_append]; rfl
    rw [e]
    obtain ⟨_, _, _, h⟩ := move_get p ih (s.dayIn (j := a) (by omega))
    exact h
theorem state_ok {n : Nat} (p : Parts letters moves outs) (s : Hist letters words m) : callN T (n + 3) 21 [.d (ruleD letters moves outs), .d (dT D.str words)] L = .ok (.d (dN (runM letters moves words m))) L := by
  rw [callN_succ]
  have lp : (evS T (callN T (n + 2)) x_Rule_state_1 [some (.d (ruleD letters moves outs)), some (.d (dT D.str words)), some (.d (.int 0)), none] L).nx fun ρ' L' => L' = L ∧ ∃ a, ρ' = [some (.d (ruleD letters moves outs)), some (.d (dT D.str words)), some (.d (dN (runM letters moves words m))), a] := by
    unfold x_Rule_state_1
    rw [evS_forr]
    simp_arith [columns_gen (n := n + 1) (L := L) (fun x hx => s.len hx) (by rw [s.ln]; exact s.two) s.few]
    rw [List.map_map]
    refine for_nx (items := List.range m) (enc := VL.d ∘ fun a => dT dC (dayAt words a)) (fun here j => (moves.getD here []).getD (placeD letters (dayAt words j)) 0) 0
      (fun here ρ => here < moves.length ∧ ∃ a, ρ = [some (.d (ruleD letters moves outs)), some (.d (dT D.str words)), some (.d (dN here)), a]) rfl ⟨runM_lt p s 0 (Nat.zero_le _), none, rfl⟩ ?_ ?_
    · rintro here x ρ hx ⟨hh, a, rfl⟩
      have hd := s.dayIn (List.mem_range.mp hx)
      obtain ⟨r, e1, e2, e3⟩ := move_get p hh hd
      simp_arith [Function.comp, ar_moves, ar_days, getI_r_dN, List.getElem?_map, e1, getI_days hd, e2]
      exact ⟨e3, _, rfl⟩
    · rintro ρ' ⟨_, a, rfl⟩
      exact ⟨rfl, a, rfl⟩
  obtain ⟨ρ', L', e, rfl, a, rfl⟩ := lp.ex
  refine (run_ret (d := d_Rule_state) (v := .d (dN (runM letters moves words m))) (L' := L') rfl rfl ?_).trans leave_same
  show evSs T (callN T (n + 2)) b_Rule_state [some (.d (ruleD letters moves outs)), some (.d (dT D.str words)), none, none] L' = _
  unfold b_Rule_state
  simp_arith [me_hist, is_history_ok (n := n) (L := L') s, tr_bl, Bool.not_true, e]
theorem outcome_ok {n : Nat} (p : Parts letters moves outs) (s : Hist letters words m) {o : List Nat} (ho : outs[runM letters moves words m]? = some o) : callN T (n + 4) 12 [.d (ruleD letters moves outs), .d (dT D.str words)] L = .ok (.d (.str o)) L := by
  rw [callN_succ]
  refine (run_ret (d := d_Rule_outcome) (v := .d (.str o)) (L' := L) rfl rfl ?_).trans leave_same
  show evSs T (callN T (n + 3)) b_Rule_outcome [some (.d (ruleD letters moves outs)), some (.d (dT D.str words))] L = _
  unfold b_Rule_outcome
  simp_arith [ar_outs, me_state, state_ok (n := n) (L := L) p s, getI_r_dN, List.getElem?_map, ho]
end
end K64
end
section
set_option Elab.async false
set_option linter.all false
set_option maxRecDepth 100000
set_option maxHeartbeats 400000
/-! QO: states in a list that grows. -/
namespace K64
open L3
abbrev St := List Nat × Nat
def eSt (s : St) : D := .tup [dT dN s.1, dN s.2]
theorem eqvs_N : ∀ xs ys : List Nat, D.eqvs (xs.map dN) (ys.map dN) = decide (xs = ys)
  | [], [] => rfl
  | [], _ :: _ => rfl
  | _ :: _, [] => rfl
  | x :: xs, y :: ys => by
    have e : D.eqv (dN x) (dN y) = decide (x = y) := by
      show ((x : Int) == (y : Int)) = _
      by_cases h : x = y
      · subst h; simp
      · rw [decide_eq_false h]; exact beq_false_of_ne (by omega)
    simp only [List.map_cons, D.eqvs, e, eqvs_N xs ys]
    by_cases h : x = y <;> by_cases k : xs = ys <;> simp [h, k]
theorem eqv_St (a b : St) : D.eqv (eSt a) (eSt b) = decide (a = b) := by
  have e : D.eqv (dN a.2) (dN b.2) = decide (a.2 = b.2) := by
    have := eqvs_N [a.2] [b.2]
    simpa [D.eqvs] using this
  have e0 : D.eqv (eSt a) (eSt b) = (D.eqvs (a.1.map dN) (b.1.map dN) && (D.eqv (dN a.2) (dN b.2) && true)) := by
    simp only [eSt, D.eqv, D.eqvs]
  rw [e0, eqvs_N, e]
  obtain ⟨a1, a2⟩ := a
  obtain ⟨b1, b2⟩ := b
  by_cases h : a1 = b1 <;> by_cases k : a2 = b2 <;> simp [h, k]
theorem okq_St (s : St) : D.okq eqLim (eSt s) = true := by
  have h : D.okq 59 (dT dN s.1) = true := okq_dT (k := 58) (fun _ => rfl) s.1
  show D.okqs 59 [dT dN s.1, dN s.2] = true
  simp only [D.okqs, h, Bool.true_and]
  rfl
theorem okqs_St (xs : List St) : D.okqs eqLim (xs.map eSt) = true := okqs_map okq_St xs
theorem dvs_d {L : LH} {k : Nat} : ∀ xs : List D, mapO (dv k L) (xs.map .d) = some xs
  | [] => rfl
  | x :: xs => by
    have e : dv k L (.d x) = some x := by cases k <;> rfl
    simp only [List.map_cons, mapO, e, dvs_d xs]
theorem any_St (xs : List St) (x : St) : ((xs.map eSt).any fun z => D.eqv z (eSt x)) = decide (x ∈ xs) := by
  rw [List.any_map]
  induction xs with
  | nil => rfl
  | cons y ys ih =>
    rw [List.any_cons, ih]
    show (D.eqv (eSt y) (eSt x) || _) = _
    rw [eqv_St]
    by_cases h : y = x
    · subst h; simp
    · have h2 : ¬ x = y := fun e => h e.symm
      simp [h, h2]
theorem notin_St {L : LH} {n : Nat} {xs : List St} {x : St} (h : L[n]? = some (.lst ((xs.map eSt).map .d))) : cmpop .notin L (.d (eSt x)) (.r n) = some (!decide (x ∈ xs)) := by
  have e : inD L (.d (eSt x)) (.r n) = some (decide (x ∈ xs)) := by
    unfold inD
    simp only [eSt]
    simp only [h, dvs, dvs_d]
    have h1 := okqs_St xs
    have h2 := okq_St x
    have h3 := any_St xs x
    simp only [eSt] at h1 h2 h3
    simp only [h1, h2, Bool.and_self, if_true, h3]
  show (inD L (.d (eSt x)) (.r n)).map (!·) = _
  rw [e]; rfl
theorem firstAt_St : ∀ (xs : List St) (x : St) (k : Nat), x ∈ xs → firstAt (eSt x) (xs.map eSt) k = some (k + xs.idxOf x)
  | [], x, k, h => by simp at h
  | y :: ys, x, k, h => by
    simp only [List.map_cons, firstAt, eqv_St]
    by_cases e : y = x
    · subst e; simp [List.idxOf_cons_self]
    · have h2 : x ∈ ys := by
        rcases List.mem_cons.mp h with h | h
        · exact absurd h.symm e
        · exact h
      simp only [e, decide_false, Bool.false_eq_true, if_false, firstAt_St ys x (k + 1) h2]
      rw [List.idxOf_cons, beq_false_of_ne e]
      simp only [cond_false]
      congr 1
      omega
theorem lidx_St {L : LH} {n : Nat} {xs : List St} {x : St} (h : L[n]? = some (.lst ((xs.map eSt).map .d))) (hx : x ∈ xs) : mfun .lindex (.r n) [.d (eSt x)] L = .ok (.d (dN (xs.idxOf x))) L := by
  have e0 : isL L (.r n) = true := by simp only [isL, h]
  have e1 : lstOf L (.r n) = some ((xs.map eSt).map .d) := by simp only [lstOf, e0, if_true, seqOf, h]
  have e2 := firstAt_St xs x 0 hx
  simp only [mfun, mLindex, e1, Option.bind_some, dvs, dvs_d, okqs_St, okq_St, Bool.and_self, if_true, e2, Nat.zero_add]
  rfl
theorem lidx_ty {L : LH} {n : Nat} {s : List VL} (h : L[n]? = some (.lst s)) : mTy .lindex L (.r n) = true ∧ mTy .append L (.r n) = true ∧ mTy .extend L (.r n) = true := by
  simp only [mTy, isL, h, and_self]
theorem app_at {L : LH} {n : Nat} {s : List VL} {v : VL} (h : L[n]? = some (.lst s)) (hl : s.length < lim) : mfun .append (.r n) [v] L = .ok (.d .non) (L.set n (.lst (s ++ [v]))) := by
  simp only [mfun, mAppend, h, hl, if_true]
/-! the heap: two lists, then others -/
section
variable {L R : LH} {S N o : LO}
theorem w_get0 : (L ++ S :: N :: R)[L.length]? = some S := by simp
theorem w_get1 : (L ++ S :: N :: R)[L.length + 1]? = some N := by
  rw [List.getElem?_append_right (Nat.le_add_right _ _), Nat.add_sub_cancel_left]; rfl
theorem w_getR {k : Nat} : (L ++ S :: N :: R)[L.length + 2 + k]? = R[k]? := by
  rw [List.getElem?_append_right (by omega), show L.length + 2 + k - L.length = k + 2 from by omega]; rfl
theorem w_set0 : (L ++ S :: N :: R).set L.length o = L ++ o :: N :: R := by
  rw [List.set_append_right _ _ (Nat.le_refl _), Nat.sub_self]; rfl
theorem w_set1 : (L ++ S :: N :: R).set (L.length + 1) o = L ++ S :: o :: R := by
  rw [List.set_append_right _ _ (Nat.le_add_right _ _), Nat.add_sub_cancel_left]; rfl
theorem w_setR {k : Nat} : (L ++ S :: N :: R).set (L.length + 2 + k) o = L ++ S :: N :: R.set k o := by
  rw [List.set_append_right _ _ (by omega), show L.length + 2 + k - L.length = k + 2 from by omega]; rfl
theorem w_len : (L ++ S :: N :: R).length = L.length + 2 + R.length := by simp; omega
end
end K64
end
section
set_option Elab.async false
set_option linter.all false
set_option maxRecDepth 100000
set_option maxHeartbeats 400000
/-! QP: all states that are come to: the plain side. -/
namespace K64
open L3
theorem nd_le : ∀ (B : Nat) (xs : List Nat), xs.Nodup → (∀ x ∈ xs, x < B) → xs.length ≤ B
  | 0, [], _, _ => Nat.le_refl _
  | 0, x :: xs, _, h => absurd (h x List.mem_cons_self) (Nat.not_lt_zero _)
  | B + 1, xs, nd, h => by
    have ih := nd_le B (xs.erase B) (nd.erase B) fun x hx => by
      have h1 := h x (List.mem_of_mem_erase hx)
      have h2 : x ≠ B := fun e => by subst e; exact (List.Nodup.not_mem_erase nd) hx
      omega
    have := List.length_erase (a := B) (l := xs)
    split at this <;> omega
theorem idx_get {α : Type} [BEq α] [LawfulBEq α] {x : α} : ∀ {xs : List α}, x ∈ xs → xs[xs.idxOf x]? = some x
  | [], h => by simp at h
  | y :: ys, h => by
    by_cases e : y = x
    · subst e; simp [List.idxOf_cons_self]
    · have h2 : x ∈ ys := by
        rcases List.mem_cons.mp h with h | h
        · exact absurd h.symm e
        · exact h
      rw [List.idxOf_cons, beq_false_of_ne e]
      exact idx_get h2
def succ (h : Hand) (s : St) (day : List Nat) : St := (step h s.1 day, nextP h s.2)
/-- a day's turn -/
def turn (h : Hand) (s : St) (acc : List St × List Nat) (day : List Nat) : List St × List Nat :=
  let sm := if succ h s day ∈ acc.1 then acc.1 else acc.1 ++ [succ h s day]
  (sm, acc.2 ++ [sm.idxOf (succ h s day)])
def ValidS (h : Hand) (s : St) : Prop := Spots h s.1 ∧ s.2 < h.table.length
theorem turn_mem {h : Hand} {s : St} {acc : List St × List Nat} {day : List Nat} : succ h s day ∈ (turn h s acc day).1 := by
  unfold turn
  by_cases e : succ h s day ∈ acc.1
  · simp [e]
  · simp [e]
theorem turn_pre {h : Hand} {s : St} {acc : List St × List Nat} {day : List Nat} : acc.1 <+: (turn h s acc day).1 := by
  unfold turn
  by_cases e : succ h s day ∈ acc.1
  · simp [e]
  · simp [e]
theorem turn_nd {h : Hand} {s : St} {acc : List St × List Nat} {day : List Nat} (nd : acc.1.Nodup) : (turn h s acc day).1.Nodup := by
  unfold turn
  by_cases e : succ h s day ∈ acc.1
  · simp only [e, if_true]; exact nd
  · simp only [e, if_false]
    rw [List.nodup_append]
    exact ⟨nd, by simp, fun a ha b hb => by simp at hb; subst hb; exact fun q => e (q ▸ ha)⟩
/-- all turns of a state -/
structure Turned (h : Hand) (s : St) (sm : List St) (days : List (List Nat)) (acc : List St × List Nat) : Prop where
  pre : sm <+: acc.1
  nd : acc.1.Nodup
  vd : ∀ x ∈ acc.1, ValidS h x
  len : acc.2.length = days.length
  ok : ∀ (j : Nat) (day : List Nat), days[j]? = some day → ∃ t, acc.2[j]? = some t ∧ acc.1[t]? = some (succ h s day)
theorem Turned.start {h : Hand} {s : St} {sm : List St} (nd : sm.Nodup) (vd : ∀ x ∈ sm, ValidS h x) : Turned h s sm [] (sm, []) := ⟨List.prefix_refl _, nd, vd, rfl, fun j day e => by simp at e⟩
theorem Turned.next {h : Hand} {s : St} {sm : List St} {days : List (List Nat)} {acc : List St × List Nat} {day : List Nat} (t : Turned h s sm days acc) (hv : ValidS h (succ h s day)) : Turned h s sm (days ++ [day]) (turn h s acc day) := by
  refine ⟨t.pre.trans turn_pre, turn_nd t.nd, fun x hx => ?_, ?_, fun j d e => ?_⟩
  · unfold turn at hx
    by_cases e : succ h s day ∈ acc.1
    · simp only [e, if_true] at hx; exact t.vd x hx
    · simp only [e, if_false] at hx
      rcases List.mem_append.mp hx with hx | hx
      · exact t.vd x hx
      · simp at hx; subst hx; exact hv
  · unfold turn
    simp [t.len]
  · by_cases hj : j < days.length
    · rw [List.getElem?_append_left hj] at e
      obtain ⟨x, h1, h2⟩ := t.ok j d e
      refine ⟨x, ?_, ?_⟩
      · unfold turn
        show (acc.2 ++ _)[j]? = _
        rw [List.getElem?_append_left (by rw [t.len]; exact hj)]
        exact h1
      · obtain ⟨r, hr⟩ := turn_pre (h := h) (s := s) (acc := acc) (day := day)
        rw [← hr, List.getElem?_append_left (List.getElem?_eq_some_iff.mp h2).1]
        exact h2
    · have hj2 : j = days.length := by
        have := (List.getElem?_eq_some_iff.mp e).1
        rw [List.length_append, List.length_singleton] at this
        omega
      subst hj2
      rw [List.getElem?_append_right (Nat.le_refl _), Nat.sub_self] at e
      simp at e
      subst e
      refine ⟨(turn h s acc day).1.idxOf (succ h s day), ?_, idx_get turn_mem⟩
      show (acc.2 ++ [_])[days.length]? = _
      rw [← t.len, List.getElem?_append_right (Nat.le_refl _), Nat.sub_self]
      rfl
/-- a state's number -/
def codeS (s : St) : Nat := s.2 * 64 + s.1.foldl (fun a x => a * 4 + x) 0
theorem codeS_ok {h : Hand} (w : WF h) (ht : h.table.length ≤ 8) {s : St} (v : ValidS h s) : codeS s < 512 := by
  obtain ⟨⟨hl, hs⟩, hp⟩ := v
  obtain ⟨sp, p⟩ := s
  have lt4 : ∀ i x, sp[i]? = some x → x < 4 := fun i x e => by
    have hi : i < h.desks.length := by rw [← hl]; exact (List.getElem?_eq_some_iff.mp e).1
    obtain ⟨d, hd⟩ := get_ex hi
    have h1 := hs i d hd
    have h1 : sp.getD i 0 < d.1.length := h1
    rw [getD_of e] at h1
    exact Nat.lt_of_lt_of_le h1 (w.few d (List.mem_of_getElem? hd)).2
  have hl : sp.length = h.desks.length := hl
  have hp : p < h.table.length := hp
  rcases w.two with e | e <;> rw [e] at hl
  · obtain ⟨a, b, rfl⟩ : ∃ a b, sp = [a, b] := by
      match sp, hl with
      | [a, b], _ => exact ⟨a, b, rfl⟩
    have := lt4 0 a rfl
    have := lt4 1 b rfl
    simp [codeS]
    omega
  · obtain ⟨a, b, c, rfl⟩ : ∃ a b c, sp = [a, b, c] := by
      match sp, hl with
      | [a, b, c], _ => exact ⟨a, b, c, rfl⟩
    have := lt4 0 a rfl
    have := lt4 1 b rfl
    have := lt4 2 c rfl
    simp [codeS]
    omega
theorem codeS_inj {h : Hand} (w : WF h) (ht : h.table.length ≤ 8) {s t : St} (v : ValidS h s) (u : ValidS h t) (e : codeS s = codeS t) : s = t := by
  obtain ⟨⟨hl, hs⟩, hp⟩ := v
  obtain ⟨⟨hl', hs'⟩, hp'⟩ := u
  obtain ⟨sp, p⟩ := s
  obtain ⟨sp', p'⟩ := t
  have lt4 : ∀ (sp : List Nat), sp.length = h.desks.length → (∀ (i : Nat) (d : Desk), h.desks[i]? = some d → sp.getD i 0 < d.1.length) → ∀ i x, sp[i]? = some x → x < 4 := fun sp hl hs i x e => by
    have hi : i < h.desks.length := by rw [← hl]; exact (List.getElem?_eq_some_iff.mp e).1
    obtain ⟨d, hd⟩ := get_ex hi
    have h1 := hs i d hd
    rw [getD_of e] at h1
    exact Nat.lt_of_lt_of_le h1 (w.few d (List.mem_of_getElem? hd)).2
  have l1 := lt4 sp hl hs
  have l2 := lt4 sp' hl' hs'
  have hl : sp.length = h.desks.length := hl
  have hl' : sp'.length = h.desks.length := hl'
  rcases w.two with e2 | e2 <;> rw [e2] at hl hl'
  · match sp, sp', hl, hl' with
    | [a, b], [a', b'], _, _ =>
      have := l1 0 a rfl
      have := l1 1 b rfl
      have := l2 0 a' rfl
      have := l2 1 b' rfl
      simp [codeS] at e
      have h1 : a = a' := by omega
      have h2 : b = b' := by omega
      have h3 : p = p' := by omega
      rw [h1, h2, h3]
  · match sp, sp', hl, hl' with
    | [a, b, c], [a', b', c'], _, _ =>
      have := l1 0 a rfl
      have := l1 1 b rfl
      have := l1 2 c rfl
      have := l2 0 a' rfl
      have := l2 1 b' rfl
      have := l2 2 c' rfl
      simp [codeS] at e
      have h1 : a = a' := by omega
      have h2 : b = b' := by omega
      have h3 : c = c' := by omega
      have h4 : p = p' := by omega
      rw [h1, h2, h3, h4]
theorem few_states {h : Hand} (w : WF h) (ht : h.table.length ≤ 8) {sm : List St} (nd : sm.Nodup) (vd : ∀ x ∈ sm, ValidS h x) : sm.length ≤ 512 := by
  have h1 : (sm.map codeS).Nodup := by
    unfold List.Nodup
    rw [List.pairwise_map]
    exact (List.pairwise_iff_forall_sublist.mpr fun {a b} hab => by
      have ha := vd a (hab.subset (by simp))
      have hb := vd b (hab.subset (by simp))
      have hne : a ≠ b := List.pairwise_iff_forall_sublist.mp nd hab
      exact fun e => hne (codeS_inj w ht ha hb e))
  have := nd_le 512 (sm.map codeS) h1 fun x hx => by
    obtain ⟨s, hs, rfl⟩ := List.mem_map.mp hx
    exact codeS_ok w ht (vd s hs)
  rwa [List.length_map] at this
end K64
end
section
set_option Elab.async false
set_option linter.all false
set_option maxRecDepth 100000
set_option maxHeartbeats 400000
/-! QQ: all states that are come to: a state's turns in the law. -/
namespace K64
open L3
abbrev lS (sm : List St) : LO := .lst ((sm.map eSt).map .d)
abbrev lN (row : List Nat) : LO := .lst ((row.map dN).map .d)
section
variable {h : Hand} {L R : LH} {N : LO} {s : St} {sm : List St}
theorem w_row {S N o : LO} : (L ++ S :: N :: (R ++ [o]))[L.length + 2 + R.length]? = some o := by rw [w_getR]; simp
theorem w_setrow {S N o p : LO} : (L ++ S :: N :: (R ++ [o])).set (L.length + 2 + R.length) p = L ++ S :: N :: (R ++ [p]) := by rw [w_setR]; simp
theorem mk2 {a b : D} {L : LH} : mkT [VL.d a, VL.d b] L = .ok (.d (.tup [a, b])) L := mkT_d (xs := [a, b]) (show 2 ≤ lim by decide)
theorem turns_ok {n : Nat} {p2 p6 p7 p8 : Option VL} (w : WF h) (ht : h.table.length ≤ 8) (hs : Spots h s.1) (hp : s.2 < h.table.length) (tl : h.tail < h.table.length) (alph4 : ∀ x ∈ h.alph, x.length ≤ 4)
    (hmem : ∀ day ∈ prodG h.alph, DayOk h day) (nd : sm.Nodup) (vd : ∀ x ∈ sm, ValidS h x) :
    (evS T (callN T (n + 1)) x__law_world_1 [some (.d (hd h)), some (.r L.length), p2, some (.d (dT dN s.1)), some (.d (dN s.2)), some (.r (L.length + 2 + R.length)), p6, p7, p8] (L ++ lS sm :: N :: (R ++ [lN []]))).nx fun ρ' L' =>
      ∃ acc, Turned h s sm (prodG h.alph) acc ∧ L' = L ++ lS acc.1 :: N :: (R ++ [lN acc.2]) ∧ ∃ a b, ρ' = [some (.d (hd h)), some (.r L.length), p2, some (.d (dT dN s.1)), some (.d (dN s.2)), some (.r (L.length + 2 + R.length)), a, b, p8] := by
  unfold x__law_world_1
  rw [evS_forr]
  have two := w.two
  have la := w.la
  have hd2 : ∀ L : LH, callN T (n + 1) 15 [.d (dT D.str h.alph)] L = .ok (.d (.lst ((prodG h.alph).map (dT dC)))) L := fun L =>
    tuples_ok (n := n) (L := L) (enc := dC) (eL := D.str) (lots := h.alph) (.inl rfl) (fun L lot => by rw [walkOf_str, chars_map]; rfl) (by omega) alph4
  simp_arith [hd_alph, hd2]
  have dlen : (prodG h.alph).length ≤ 64 := by
    have := (prodG_take (lots := h.alph) alph4 h.alph.length).1
    rw [List.take_length] at this
    have h4 : (4:Nat) ^ h.alph.length ≤ 4 ^ 3 := Nat.pow_le_pow_right (by decide) (by omega)
    exact Nat.le_trans this (Nat.le_trans h4 (by decide))
  refine forI_nx (fun i ρ L' => ∃ acc, Turned h s sm ((prodG h.alph).take i) acc ∧ L' = L ++ lS acc.1 :: N :: (R ++ [lN acc.2]) ∧ ∃ a b, ρ = [some (.d (hd h)), some (.r L.length), p2, some (.d (dT dN s.1)), some (.d (dN s.2)), some (.r (L.length + 2 + R.length)), a, b, p8]) (fun _ _ _ _ => rfl)
    ⟨(sm, []), Turned.start nd vd, rfl, _, _, rfl⟩ ?_ ?_
  · rintro i x ρ L' hx ⟨acc, tn, rfl, a, b, rfl⟩
    rw [List.map_map, List.getElem?_map] at hx
    obtain ⟨day, e, rfl⟩ := Option.map_eq_some_iff.mp hx
    have hday := hmem day (List.mem_of_getElem? e)
    have hi : i < (prodG h.alph).length := (List.getElem?_eq_some_iff.mp e).1
    have hv : ValidS h (succ h s day) := ⟨step_ok w hs hday, by
      show nextP h s.2 < _
      unfold nextP
      split <;> omega⟩
    have nt := tn.next hv
    have few := few_states w ht nt.nd nt.vd
    have fewr : acc.2.length ≤ 64 := by rw [tn.len, List.length_take]; omega
    have et : (prodG h.alph).take (i + 1) = (prodG h.alph).take i ++ [day] := by rw [List.take_succ, e]; rfl
    rw [et]
    have mv : ∀ L, callN T (n + 1) 7 [.d (hd h), .d (dT dN s.1), .d (dT dC day)] L = .ok (.d (dT dN (step h s.1 day))) L := fun L => moved_ok (n := n) (L := L) w hs hday
    have lt : ∀ L, callN T (n + 1) 8 [.d (hd h), .d (dN s.2)] L = .ok (.d (dN (nextP h s.2))) L := fun L => later_ok (n := n) (L := L)
    have there : (D.tup [dT dN (step h s.1 day), dN (nextP h s.2)]) = eSt (succ h s day) := rfl
    have ni := notin_St (L := L ++ lS acc.1 :: N :: (R ++ [lN acc.2])) (n := L.length) (xs := acc.1) (x := succ h s day) w_get0
    -- the list of states behind the test
    by_cases hm : succ h s day ∈ acc.1
    · have hsm : (turn h s acc day).1 = acc.1 := by unfold turn; simp [hm]
      have hrow : (turn h s acc day).2 = acc.2 ++ [acc.1.idxOf (succ h s day)] := by unfold turn; simp [hm]
      have g0 : (L ++ lS acc.1 :: N :: (R ++ [lN acc.2]))[L.length]? = some (lS acc.1) := w_get0
      have gr : (L ++ lS acc.1 :: N :: (R ++ [lN acc.2]))[L.length + 2 + R.length]? = some (lN acc.2) := w_row
      have li := lidx_St g0 hm
      have ty0 := lidx_ty g0
      have tyr := lidx_ty gr
      have ap := app_at (v := .d (dN (acc.1.idxOf (succ h s day)))) gr (by rw [List.length_map, List.length_map]; show _ < 16777216; omega)
      rw [w_setrow] at ap
      simp_arith [Function.comp, mv, lt, mk2, there, ni, hm, decide_true, Bool.not_true, tyr.2.1, ty0.1, li, ap]
      refine ⟨turn h s acc day, nt, ?_, _, _, rfl⟩
      rw [hsm, hrow]
      simp [lN]
    · have hsm : (turn h s acc day).1 = acc.1 ++ [succ h s day] := by unfold turn; simp [hm]
      have hrow : (turn h s acc day).2 = acc.2 ++ [(acc.1 ++ [succ h s day]).idxOf (succ h s day)] := by unfold turn; simp [hm]
      rw [hsm] at few
      have g0 : (L ++ lS acc.1 :: N :: (R ++ [lN acc.2]))[L.length]? = some (lS acc.1) := w_get0
      have ty00 := lidx_ty g0
      have ap0 := app_at (v := .d (eSt (succ h s day))) g0 (by rw [List.length_map, List.length_map]; rw [List.length_append] at few; show _ < 16777216; omega)
      rw [w_set0] at ap0
      have eS : LO.lst ((acc.1.map eSt).map VL.d ++ [VL.d (eSt (succ h s day))]) = lS (acc.1 ++ [succ h s day]) := by simp [lS]
      rw [eS] at ap0
      have g1 : (L ++ lS (acc.1 ++ [succ h s day]) :: N :: (R ++ [lN acc.2]))[L.length]? = some (lS (acc.1 ++ [succ h s day])) := w_get0
      have gr : (L ++ lS (acc.1 ++ [succ h s day]) :: N :: (R ++ [lN acc.2]))[L.length + 2 + R.length]? = some (lN acc.2) := w_row
      have li := lidx_St g1 (x := succ h s day) (by simp)
      have ty0 := lidx_ty g1
      have tyr := lidx_ty gr
      have ap := app_at (v := .d (dN ((acc.1 ++ [succ h s day]).idxOf (succ h s day)))) gr (by rw [List.length_map, List.length_map]; show _ < 16777216; omega)
      rw [w_setrow] at ap
      simp_arith [Function.comp, mv, lt, mk2, there, ni, hm, decide_false, Bool.not_false, ty00.2.1, ap0, tyr.2.1, ty0.1, li, ap]
      refine ⟨turn h s acc day, nt, ?_, _, _, rfl⟩
      rw [hsm, hrow]
      simp [lN]
  · rintro ρ' L' ⟨acc, tn, e, r⟩
    rw [List.length_map, List.length_map, List.take_length] at tn
    exact ⟨acc, tn, e, r⟩
end
end K64
end
section
set_option Elab.async false
set_option linter.all false
set_option maxRecDepth 100000
set_option maxHeartbeats 400000
/-! QR: the machine that an office tells. -/
namespace K64
open L3
theorem while_nx {c : Env → LH → Res Bool} {f : Env → LH → Fl} {Q : Env → LH → Prop} (I : Nat → Env → LH → Prop) (step : ∀ k ρ L, I k ρ L → ∃ b, c ρ L = .ok b L ∧ (b = true → (f ρ L).on fun ρ' L' => ∃ j, j < k ∧ I j ρ' L') ∧ (b = false → Q ρ L)) :
    ∀ (n k : Nat) (ρ : Env) (L : LH), I k ρ L → k < n → (whileR c f n ρ L).nx Q
  | 0, k, ρ, L, _, hk => absurd hk (Nat.not_lt_zero _)
  | n + 1, k, ρ, L, hI, hk => by
    obtain ⟨b, e, h1, h2⟩ := step k ρ L hI
    show (((c ρ L).fl ρ fun b L => _).nx Q)
    rw [e]
    show ((if b = true then _ else Fl.next ρ L).nx Q)
    cases b with
    | false => exact h2 rfl
    | true =>
      obtain ⟨ρ', L', e2, j, hj, hI'⟩ := (h1 rfl).ex
      have ih := while_nx I step n j ρ' L' hI' (by omega)
      simp only [if_true]
      rcases e2 with e2 | e2 <;> rw [e2] <;> exact ih
abbrev lT (nexts : List (List Nat)) : LO := .lst ((nexts.map (dT dN)).map .d)
def s0 (h : Hand) : St := (List.replicate h.desks.length 0, 0)
structure Built (h : Hand) (sm : List St) (nexts : List (List Nat)) : Prop where
  nd : sm.Nodup
  vd : ∀ x ∈ sm, ValidS h x
  first : sm[0]? = some (s0 h)
  le : nexts.length ≤ sm.length
  ok : ∀ (i : Nat) (r : List Nat) (s : St), nexts[i]? = some r → sm[i]? = some s → r.length = (prodG h.alph).length ∧ ∀ (j : Nat) (day : List Nat), (prodG h.alph)[j]? = some day → ∃ t, r[j]? = some t ∧ sm[t]? = some (succ h s day)
theorem pre_get {α : Type} {xs ys : List α} {i : Nat} {x : α} (p : xs <+: ys) (e : xs[i]? = some x) : ys[i]? = some x := by
  obtain ⟨t, rfl⟩ := p
  rw [List.getElem?_append_left (List.getElem?_eq_some_iff.mp e).1]
  exact e
theorem Built.next {h : Hand} {sm : List St} {nexts : List (List Nat)} {s : St} {acc : List St × List Nat} (b : Built h sm nexts) (e : sm[nexts.length]? = some s) (t : Turned h s sm (prodG h.alph) acc) : Built h acc.1 (nexts ++ [acc.2]) := by
  have hlt := (List.getElem?_eq_some_iff.mp e).1
  have hle : sm.length ≤ acc.1.length := t.pre.length_le
  refine ⟨t.nd, t.vd, pre_get t.pre b.first, by simp; omega, fun i r x hr hx => ?_⟩
  by_cases hi : i < nexts.length
  · rw [List.getElem?_append_left hi] at hr
    obtain ⟨y, hy⟩ := get_ex (xs := sm) (i := i) (by omega)
    have : y = x := by
      have := pre_get t.pre hy
      rw [hx] at this
      exact (Option.some.inj this).symm
    subst this
    obtain ⟨k1, k2⟩ := b.ok i r y hr hy
    refine ⟨k1, fun j day hd => ?_⟩
    obtain ⟨z, q1, q2⟩ := k2 j day hd
    exact ⟨z, q1, pre_get t.pre q2⟩
  · have hi2 : i = nexts.length := by
      have := (List.getElem?_eq_some_iff.mp hr).1
      rw [List.length_append, List.length_singleton] at this
      omega
    subst hi2
    rw [List.getElem?_append_right (Nat.le_refl _), Nat.sub_self] at hr
    simp at hr
    subst hr
    have : s = x := by
      have := pre_get t.pre e
      rw [hx] at this
      exact (Option.some.inj this).symm
    subst this
    exact ⟨t.len, t.ok⟩
theorem bf_len_r {L : LH} {n : Nat} {s : List VL} (h : L[n]? = some (.lst s)) : bfun .len [.r n] L = .ok (.d (.int s.length)) L := by
  simp only [bfun, bLen, h]
section
variable {h : Hand} {L : LH}
theorem while_ok {n : Nat} {p8 : Option VL} (w : WF h) (ht : h.table.length ≤ 8) (hp : 0 < h.table.length) (tl : h.tail < h.table.length) (alph4 : ∀ x ∈ h.alph, x.length ≤ 4) (hmem : ∀ day ∈ prodG h.alph, DayOk h day) :
    (evS T (callN T (n + 1)) x__law_world_2 [some (.d (hd h)), some (.r L.length), some (.r (L.length + 1)), none, none, none, none, none, p8] (L ++ lS [s0 h] :: lT [] :: [])).nx fun ρ' L' =>
      ∃ sm nexts R, Built h sm nexts ∧ nexts.length = sm.length ∧ L' = L ++ lS sm :: lT nexts :: R ∧ ∃ a b c d e, ρ' = [some (.d (hd h)), some (.r L.length), some (.r (L.length + 1)), a, b, c, d, e, p8] := by
  unfold x__law_world_2
  rw [evS_whil]
  refine while_nx (fun k ρ L' => ∃ sm nexts R, k = 512 - nexts.length ∧ Built h sm nexts ∧ L' = L ++ lS sm :: lT nexts :: R ∧ ∃ a b c d e, ρ = [some (.d (hd h)), some (.r L.length), some (.r (L.length + 1)), a, b, c, d, e, p8]) ?_ _ 512 _ _
    ⟨[s0 h], [], [], rfl, ⟨by simp, fun x hx => by simp at hx; subst hx; exact ⟨Spots.zero w, hp⟩, rfl, by simp, fun i r s hr => by simp at hr⟩, rfl, none, none, none, none, none, rfl⟩ (by show 512 < 1000000; decide)
  rintro k ρ L' ⟨sm, nexts, R, rfl, bt, rfl, a, b, c, d, e, rfl⟩
  have few := few_states w ht bt.nd bt.vd
  have g0 : (L ++ lS sm :: lT nexts :: R)[L.length]? = some (lS sm) := w_get0
  have g1 : (L ++ lS sm :: lT nexts :: R)[L.length + 1]? = some (lT nexts) := w_get1
  have l0 := bf_len_r g0
  have l1 := bf_len_r g1
  rw [List.length_map, List.length_map] at l0 l1
  by_cases hlt : nexts.length < sm.length
  · refine ⟨true, ?_, fun _ => ?_, (fun q => by cases q)⟩
    · have h1 : ((nexts.length : Int) < (sm.length : Int)) := by omega
      simp_arith [l0, l1, c_lt', h1, decide_true]
    · obtain ⟨s, es⟩ := get_ex hlt
      have gi : getI (L ++ lS sm :: lT nexts :: R) (.r L.length) (.d (.int (nexts.length : Int))) = some (.d (eSt s)) := by
        rw [getI_r g0, List.getElem?_map, List.getElem?_map, es]; rfl
      have vs := bt.vd s (List.mem_of_getElem? es)
      have m0 : mkL true [] (L ++ lS sm :: lT nexts :: R) = .ok (.r (L.length + 2 + R.length)) (L ++ lS sm :: lT nexts :: (R ++ [lN []])) := by
        rw [mkL_m (by decide), w_len]; simp [lN]
      obtain ⟨ρ2, L2, e2, acc, tn, rfl, x1, x2, rfl⟩ := (turns_ok (n := n) (L := L) (R := R) (N := lT nexts) (p2 := some (.r (L.length + 1))) (p6 := d) (p7 := e) (p8 := p8) w ht vs.1 vs.2 tl alph4 hmem bt.nd bt.vd).ex
      have gr : (L ++ lS acc.1 :: lT nexts :: (R ++ [lN acc.2]))[L.length + 2 + R.length]? = some (lN acc.2) := w_row
      have gn : (L ++ lS acc.1 :: lT nexts :: (R ++ [lN acc.2]))[L.length + 1]? = some (lT nexts) := w_get1
      have tu : bfun .tuple [.r (L.length + 2 + R.length)] (L ++ lS acc.1 :: lT nexts :: (R ++ [lN acc.2])) = .ok (.d (dT dN acc.2)) (L ++ lS acc.1 :: lT nexts :: (R ++ [lN acc.2])) := by
        simp only [bfun, bTuple, seqOf, gr]
        refine mkT_d ?_
        rw [List.length_map, tn.len]
        have := (prodG_take (lots := h.alph) alph4 h.alph.length).1
        rw [List.take_length] at this
        have two := w.two
        have la := w.la
        have h4 : (4:Nat) ^ h.alph.length ≤ 4 ^ 3 := Nat.pow_le_pow_right (by decide) (by omega)
        exact Nat.le_trans this (Nat.le_trans h4 (by decide))
      have tyn := lidx_ty gn
      have ap := app_at (v := .d (dT dN acc.2)) gn (by rw [List.length_map, List.length_map]; show _ < 16777216; omega)
      rw [w_set1] at ap
      have b2 := bt.next es tn
      simp_arith [l1, gi, eSt, m0, e2, tyn.2.1, tu, ap]
      refine ⟨512 - (nexts ++ [acc.2]).length, ?_, acc.1, nexts ++ [acc.2], R ++ [lN acc.2], rfl, b2, ?_, _, _, _, _, _, rfl⟩
      · rw [List.length_append, List.length_singleton]; omega
      · simp [lT]
  · refine ⟨false, ?_, (fun q => by cases q), fun _ => ⟨sm, nexts, R, bt, by have := bt.le; omega, rfl, a, b, c, d, e, rfl⟩⟩
    have h1 : ¬ ((nexts.length : Int) < (sm.length : Int)) := by omega
    simp_arith [l0, l1, c_lt', h1, decide_false]
end
end K64
end
section
set_option Elab.async false
set_option linter.all false
set_option maxRecDepth 100000
set_option maxHeartbeats 400000
/-! QS: the machine as the law gives it. -/
namespace K64
open L3
section
variable {h : Hand} {L : LH}
theorem bf_tuple_r {L : LH} {n : Nat} {xs : List D} (h : L[n]? = some (.lst (xs.map .d))) (hl : xs.length ≤ lim) : bfun .tuple [.r n] L = .ok (.d (.tup xs)) L := by
  simp only [bfun, bTuple, seqOf, h]
  exact mkT_d hl
def endsOf (h : Hand) (sm : List St) : List (List Nat) := sm.map fun s => out h s.1 s.2
theorem mkD_world {L : LH} {A B C : D} : mkD false [.d (.str [97, 108, 112, 104, 97, 98, 101, 116, 115]), .d A, .d (.str [110, 101, 120, 116, 115]), .d B, .d (.str [101, 110, 100, 115]), .d C] L = .ok (.d (.dct [.str [97, 108, 112, 104, 97, 98, 101, 116, 115], .str [110, 101, 120, 116, 115], .str [101, 110, 100, 115]] [A, B, C])) L := id rfl
theorem world_ok {n : Nat} (w : WF h) (t : WT h) (ht : h.table.length ≤ 8) (alph4 : ∀ x ∈ h.alph, x.length ≤ 4) (hmem : ∀ day ∈ prodG h.alph, DayOk h day) :
    ∃ sm nexts, Built h sm nexts ∧ nexts.length = sm.length ∧ callN T (n + 2) 5 [.d (hd h)] L = .ok (.d (worldD h.alph nexts (endsOf h sm))) L := by
  have tl := t.tail
  obtain ⟨ρ', L', e, sm, nexts, R, bt, hlen, rfl, a, b, c, d, z, rfl⟩ := (while_ok (n := n) (L := L) (p8 := none) w ht (by omega) tl alph4 hmem).ex
  refine ⟨sm, nexts, bt, hlen, ?_⟩
  rw [callN_succ]
  have two := w.two
  have la := w.la
  have few := few_states w ht bt.nd bt.vd
  have g0 : (L ++ lS sm :: lT nexts :: R)[L.length]? = some (lS sm) := w_get0
  have g1 : (L ++ lS sm :: lT nexts :: R)[L.length + 1]? = some (lT nexts) := w_get1
  have wk : walkOf (L ++ lS sm :: lT nexts :: R) (.r L.length) = some ⟨(sm.map eSt).map .d, [(L.length, lS sm)]⟩ := by
    simp only [walkOf, g0]
  have hst : stands [(L.length, lS sm)] (L ++ lS sm :: lT nexts :: R) = true := by
    simp only [stands, List.all_cons, List.all_nil, Bool.and_true]
    exact decide_eq_true g0
  have x3 : evE T (callN T (n + 1)) [some (.d (hd h)), some (.r L.length), some (.r (L.length + 1)), a, b, c, d, z, none] x__law_world_3 (L ++ lS sm :: lT nexts :: R) = .ok (.d (.lst ((endsOf h sm).map D.str))) (L ++ lS sm :: lT nexts :: R) := by
    unfold x__law_world_3
    rw [evE_lc]
    simp_arith [wk]
    rw [List.map_map, map_eq (items := sm) (enc := VL.d ∘ eSt) (h := fun s => VL.d (.str (out h s.1 s.2))) hst fun s hs => ?_]
    · simp_arith
      have := mkL_map (L := L ++ lS sm :: lT nexts :: R) (f := fun s : St => D.str (out h s.1 s.2)) (xs := sm) (by show _ ≤ 16777216; omega)
      rw [this]
      unfold endsOf
      rw [List.map_map]; rfl
    · have v := bt.vd s hs
      have sd := said_ok (n := n) (L := L ++ lS sm :: lT nexts :: R) w t v.1 v.2
      simp_arith [Function.comp, eSt, sd]
  have z0 := b_zeros (L := L) (n := h.alph.length) (by omega)
  rw [la] at z0
  have hl : ((h.alph.map D.str).length : Int) = (h.desks.length : Nat) := by rw [List.length_map, la]
  have m1 : mkT [VL.d (.int 0)] L = .ok (.d (.tup [.int 0])) L := mkT_d (xs := [.int 0]) (by decide)
  have m2 : mkL true [VL.d (.tup [dT dN (List.replicate h.desks.length 0), .int 0])] L = .ok (.r L.length) (L ++ [lS [s0 h]]) := mkL_m (show 1 ≤ lim by decide)
  have m3 : mkL true [] (L ++ [lS [s0 h]]) = .ok (.r (L.length + 1)) (L ++ lS [s0 h] :: lT [] :: []) := by
    rw [mkL_m (by decide)]; simp [lT]
  have tN := bf_tuple_r (xs := nexts.map (dT dN)) g1 (by rw [List.length_map]; show _ ≤ 16777216; omega)
  have tE : ∀ L, bfun .tuple [.d (.lst ((endsOf h sm).map D.str))] L = .ok (.d (dT D.str (endsOf h sm))) L := fun L => bf_tuple_lst (by rw [List.length_map, endsOf, List.length_map]; show _ ≤ 16777216; omega)
  refine (run_ret (d := d__law_world) (v := .d (worldD h.alph nexts (endsOf h sm))) (L' := L ++ lS sm :: lT nexts :: R) rfl rfl ?_).trans leave_app
  show evSs T (callN T (n + 1)) b__law_world [some (.d (hd h)), none, none, none, none, none, none, none, none] L = _
  unfold b__law_world
  simp_arith [hd_alph, m1, hl, z0, mk2, m2, m3, e, x3, tE, tN, mkD_world]
  rfl
/-- behind m days the machine stands where the office does -/
theorem run_state {words : List (List Nat)} {m : Nat} {sm : List St} {nexts : List (List Nat)} (bt : Built h sm nexts) (hlen : nexts.length = sm.length) (hs : Hist h.alph words m) (a : Nat) (ha : a ≤ m) :
    sm[runM h.alph nexts words a]? = some ((List.range a).foldl (fun s j => succ h s (dayAt words j)) (s0 h)) := by
  induction a with
  | zero => exact bt.first
  | succ a ih =>
    have ih := ih (by omega)
    have e : runM h.alph nexts words (a + 1) = (nexts.getD (runM h.alph nexts words a) []).getD (placeD h.alph (dayAt words a)) 0 := by
      unfold runM; rw [List.range_succ, List.foldl_append]; rfl
    have e2 : (List.range (a + 1)).foldl (fun s j => succ h s (dayAt words j)) (s0 h) = succ h ((List.range a).foldl (fun s j => succ h s (dayAt words j)) (s0 h)) (dayAt words a) := by
      rw [List.range_succ, List.foldl_append]; rfl
    rw [e, e2]
    obtain ⟨r, er⟩ := get_ex (xs := nexts) (i := runM h.alph nexts words a) (by rw [hlen]; exact (List.getElem?_eq_some_iff.mp ih).1)
    obtain ⟨k1, k2⟩ := bt.ok _ r _ er ih
    have hin := hs.dayIn (j := a) (by omega)
    have hd : (prodG h.alph)[placeD h.alph (dayAt words a)]? = some (dayAt words a) := by
      have := idx_get (List.mem_map.mpr ⟨dayAt words a, hin, rfl⟩ : dT dC (dayAt words a) ∈ (prodG h.alph).map (dT dC))
      rw [List.getElem?_map] at this
      obtain ⟨y, hy, ey⟩ := Option.map_eq_some_iff.mp this
      have : y = dayAt words a := dT_inj (fun _ _ => dC_inj) ey
      rw [← this]
      rw [this] at hy
      rw [this]
      exact hy
    obtain ⟨t, t1, t2⟩ := k2 _ _ hd
    rw [getD_of er, getD_of t1]
    exact t2
end
end K64
end
section
set_option Elab.async false
set_option linter.all false
set_option maxRecDepth 100000
set_option maxHeartbeats 400000
/-! QT: the walk and what is told of it. -/
namespace K64
open L3
theorem mod_step {a d : Nat} (hd : 0 < d) : (a + 1) % d = if a % d + 1 < d then a % d + 1 else 0 := by
  have h := Nat.div_add_mod a d
  have hr := Nat.mod_lt a hd
  split
  · rename_i h1
    have : a + 1 = (a % d + 1) + d * (a / d) := by omega
    rw [this, Nat.add_mul_mod_self_left, Nat.mod_eq_of_lt h1]
  · rename_i h1
    have h2 : a % d + 1 = d := by omega
    have : a + 1 = d * (a / d + 1) := by rw [Nat.mul_succ]; omega
    rw [this, Nat.mul_mod_right]
section
variable {h : Hand} {words : List (List Nat)} {m : Nat} {L : LH}
theorem placeOf_succ (t : WT h) (m : Nat) : placeOf h (m + 1) = nextP h (placeOf h m) := by
  have tl := t.tail
  unfold placeOf nextP
  by_cases h1 : m + 1 < h.table.length
  · have h2 : m < h.table.length := by omega
    simp only [h1, h2, if_true]
  · by_cases h2 : m < h.table.length
    · have h3 : m + 1 - h.tail = h.table.length - h.tail := by omega
      simp only [h1, h2, if_true, if_false, h3, Nat.mod_self]
      rfl
    · have hd : 0 < h.table.length - h.tail := by omega
      have h3 : m + 1 - h.tail = (m - h.tail) + 1 := by omega
      have ms := mod_step (a := m - h.tail) hd
      simp only [h1, h2, if_false, h3, ms]
      have hr := Nat.mod_lt (m - h.tail) hd
      by_cases h4 : (m - h.tail) % (h.table.length - h.tail) + 1 < h.table.length - h.tail
      · have h5 : h.tail + (m - h.tail) % (h.table.length - h.tail) + 1 < h.table.length := by omega
        simp only [h4, h5, if_true]; omega
      · have h5 : ¬ h.tail + (m - h.tail) % (h.table.length - h.tail) + 1 < h.table.length := by omega
        simp only [h4, h5, if_false]; omega
theorem placeOf_lt (t : WT h) (m : Nat) : placeOf h m < h.table.length := by
  have tl := t.tail
  unfold placeOf
  split
  · assumption
  · have := Nat.mod_lt (m - h.tail) (show 0 < h.table.length - h.tail by omega)
    omega
theorem walk_eq (t : WT h) : ∀ a, (List.range a).foldl (fun s j => succ h s (dayAt words j)) (s0 h) = (behind h words a, placeOf h a)
  | 0 => by
    have tl := t.tail
    have : placeOf h 0 = 0 := by unfold placeOf; rw [if_pos (by omega)]
    rw [this]; rfl
  | a + 1 => by
    rw [List.range_succ, List.foldl_append, walk_eq t a, placeOf_succ t]
    have : behind h words (a + 1) = step h (behind h words a) (dayAt words a) := by
      unfold behind; rw [List.range_succ, List.foldl_append]; rfl
    rw [this]; rfl
/-- days of the letters are days -/
theorem prod_days {α : Type} {lots : List (List α)} : ∀ i, i ≤ lots.length → ∀ r ∈ prodG (lots.take i), r.length = i ∧ ∀ (j : Nat) (lot : List α), j < i → lots[j]? = some lot → ∃ x, r[j]? = some x ∧ x ∈ lot
  | 0, _, r, hr => by
    simp [prodG] at hr
    subst hr
    exact ⟨rfl, fun j lot hj => absurd hj (Nat.not_lt_zero _)⟩
  | i + 1, hi, r, hr => by
    obtain ⟨a, ha⟩ := get_ex (xs := lots) (i := i) (by omega)
    rw [List.take_succ, ha, Option.toList_some, prodG_snoc] at hr
    unfold expand at hr
    obtain ⟨q, h1, h2⟩ := List.mem_flatMap.mp hr
    obtain ⟨c, hc, rfl⟩ := List.mem_map.mp h2
    obtain ⟨k1, k2⟩ := prod_days i (by omega) q h1
    refine ⟨by rw [List.length_append, k1]; rfl, fun j lot hj hl => ?_⟩
    by_cases h3 : j < i
    · obtain ⟨x, e1, e2⟩ := k2 j lot h3 hl
      exact ⟨x, by rw [List.getElem?_append_left (by omega)]; exact e1, e2⟩
    · have : j = i := by omega
      subst this
      rw [ha] at hl
      cases hl
      exact ⟨c, by rw [← k1, List.getElem?_append_right (Nat.le_refl _), Nat.sub_self]; rfl, hc⟩
theorem dayOk_of (w : WF h) {day : List Nat} (hd : day ∈ prodG h.alph) : DayOk h day := by
  have := prod_days (lots := h.alph) h.alph.length (Nat.le_refl _) day (by rw [List.take_length]; exact hd)
  refine ⟨by rw [this.1]; exact w.la, fun i a e => ?_⟩
  obtain ⟨x, e1, e2⟩ := this.2 i a (List.getElem?_eq_some_iff.mp e).1 e
  rw [getD_of e1]
  exact e2
theorem hist_of (w : WF h) (s : Story h words m) : Hist h.alph words m := ⟨by rw [s.ln, w.la], by rw [w.la]; exact w.two, s.few, s.ok⟩
/-- the machine's outcome is the office's -/
theorem code_outcome {n : Nat} {sm : List St} {nexts : List (List Nat)} (w : WF h) (t : WT h) (s : Story h words m) (bt : Built h sm nexts) (hlen : nexts.length = sm.length) (p : Parts h.alph nexts (endsOf h sm)) :
    callN T (n + 4) 12 [.d (ruleD h.alph nexts (endsOf h sm)), .d (dT D.str words)] L = .ok (.d (.str (out h (behind h words m) (placeOf h m)))) L := by
  refine outcome_ok p (hist_of w s) ?_
  have := run_state bt hlen (hist_of w s) m (Nat.le_refl _)
  rw [walk_eq t] at this
  unfold endsOf
  rw [List.getElem?_map, this]
  rfl
theorem parts_of (w : WF h) (t : WT h) {sm : List St} {nexts : List (List Nat)} (ht : h.table.length ≤ 8) (bt : Built h sm nexts) (hlen : nexts.length = sm.length) (lt : ∀ a ∈ h.alph, Letters a ∧ a.length ≤ 4) (oo : ∀ r ∈ h.table, ∀ o ∈ r, OutOk o) : Parts h.alph nexts (endsOf h sm) := by
  have few := few_states w ht bt.nd bt.vd
  have h0 : 0 < sm.length := (List.getElem?_eq_some_iff.mp bt.first).1
  refine ⟨by rw [w.la]; exact w.two, lt, fun e => by rw [e] at hlen; simp at hlen; omega, by omega, fun r hr => ?_, by rw [endsOf, List.length_map, hlen], fun o ho => ?_⟩
  · obtain ⟨i, hi⟩ := List.getElem?_of_mem hr
    obtain ⟨s, es⟩ := get_ex (xs := sm) (i := i) (by rw [← hlen]; exact (List.getElem?_eq_some_iff.mp hi).1)
    obtain ⟨k1, k2⟩ := bt.ok i r s hi es
    refine ⟨k1, fun x hx => ?_⟩
    obtain ⟨j, hj⟩ := List.getElem?_of_mem hx
    obtain ⟨day, hd⟩ := get_ex (xs := prodG h.alph) (i := j) (by rw [← k1]; exact (List.getElem?_eq_some_iff.mp hj).1)
    obtain ⟨q, q1, q2⟩ := k2 j day hd
    rw [hj] at q1
    cases q1
    rw [hlen]
    exact (List.getElem?_eq_some_iff.mp q2).1
  · obtain ⟨s, hs, rfl⟩ := List.mem_map.mp ho
    have v := bt.vd s hs
    obtain ⟨r, er⟩ := get_ex v.2
    exact oo r (List.mem_of_getElem? er) _ (List.mem_of_getElem? (row_get w t v.1 er))
end
end K64
end
section
set_option Elab.async false
set_option linter.all false
set_option maxRecDepth 100000
set_option maxHeartbeats 400000
/-! QU: the deck is made; a pick of a text. -/
namespace K64
open L3
theorem pick_str {n : Nat} {xs : List Int} {a b : Int} {R : LH} {s : List Nat} (h63 : xs.length ≤ 63) (hne : 0 < s.length) (hz : s.length < 1000) :
    (callN T (n + 2) 13 [.r 1, .d (.str s)] (dk xs a b R)).gives fun v L => ∃ (c : Nat) (xs' : List Int) (a' b' : Int), c ∈ s ∧ v = .d (.str [c]) ∧ xs'.length ≤ 63 ∧ L = dk xs' a' b' R := by
  rw [callN_succ]
  refine run_rt (d := d__law_pick) rfl rfl ?_
  obtain ⟨v, L', e, k, xs', a', b', rfl, k0, k1, h', rfl⟩ := (draw_ok (n := n) (a := a) (b := b) (R := R) (m := (s.length : Int)) h63 (by omega) (by omega)).ex
  obtain ⟨j, rfl⟩ := Int.eq_ofNat_of_zero_le k0
  have hj : j < s.length := by omega
  have hd : s[j]? = some s[j] := List.getElem?_eq_getElem hj
  show (evSs T (callN T (n + 1)) b__law_pick [some (.r 1), some (.d (.str s))] (dk xs a b R)).rt _
  unfold b__law_pick
  simp_arith [e, hd]
  show (leave false (dk xs a b R) (.d (.str [s[j]])) (dk xs' a' b' R)).gives _
  rw [leave_dk0]
  exact ⟨_, xs', a', b', List.getElem_mem hj, rfl, h', rfl⟩
theorem cut63 {s : List D} : cut s none (some 63) = s.take 63 := by
  unfold cut bound
  simp only [show ¬ ((63 : Int) < 0) by decide, if_false, List.drop_zero, Nat.sub_zero]
  show s.take (min 63 s.length) = _
  by_cases h : s.length ≤ 63
  · rw [Nat.min_eq_right h, List.take_of_length_le (Nat.le_refl _), List.take_of_length_le h]
  · rw [Nat.min_eq_left (by omega)]
theorem slc63 {ns : List Int} {L : LH} : slice false (.d (.scr (ns.map .int))) none (some 63) L = .ok (.d (.lst ((ns.take 63).map .int))) L := by
  show mkL false ((cut (ns.map D.int) none (some 63)).map .d) L = _
  rw [cut63, ← List.map_take]
  exact mkL_d (by rw [List.length_map, List.length_take]; show _ ≤ 16777216; omega)
theorem deck_ok {n : Nat} {ns : List Int} : (callN T (n + 1) 1 [.d (.scr (ns.map .int))] []).gives fun v L => ∃ xs a b, v = .r 1 ∧ xs.length ≤ 63 ∧ L = dk xs a b [] := by
  rw [callN_succ]
  refine run_rt (d := d__law_deck) rfl rfl ?_
  show (evSs T (callN T n) b__law_deck [some (.d (.scr (ns.map .int))), none, none] []).rt _
  have lp : (evS T (callN T n) x__law_deck_1 [some (.d (.scr (ns.map .int))), some (.d (.int 136264)), none] []).nx fun ρ' L' => L' = [] ∧ ∃ a c, ρ' = [some (.d (.scr (ns.map .int))), some (.d (.int a)), c] := by
    unfold x__law_deck_1
    rw [evS_forr]
    simp_arith [optI, slc63]
    refine forI_nx (fun i ρ L' => L' = [] ∧ ∃ a c, ρ = [some (.d (.scr (ns.map .int))), some (.d (.int a)), c]) (fun _ _ _ _ => rfl) ⟨rfl, _, _, rfl⟩ ?_ ?_
    · rintro i x ρ L' hx ⟨rfl, a, c, rfl⟩
      rw [List.map_map, List.getElem?_map] at hx
      obtain ⟨z, _, rfl⟩ := Option.map_eq_some_iff.mp hx
      have h1 : mulOk a 48271 = true := mulOk_r (by decide)
      have p1 : (0 : Int) < 2147483629 := by decide
      have p2 : (0 : Int) < 2147483587 := by decide
      simp_arith [Function.comp, b_mul h1, b_mod p1, b_mod p2]
      exact ⟨_, _, rfl⟩
    · rintro ρ' L' h
      exact h
  obtain ⟨ρ', L', e, rfl, a, c, rfl⟩ := lp.ex
  have l1 : bfun (.list false) [.d (.lst ((ns.take 63).map .int))] [] = .ok (.d (.lst ((ns.take 63).map .int))) [] := by
    show mkL false (((ns.take 63).map D.int).map .d) [] = _
    exact mkL_d (by rw [List.length_map, List.length_take]; show _ ≤ 16777216; omega)
  have l2 : revOp true (.d (.lst ((ns.take 63).map .int))) [] = .ok (.r 0) [.lst ((ns.take 63).reverse.map vI)] := by
    show mkL true (((ns.take 63).map D.int).map VL.d).reverse [] = _
    rw [mkL_m (by rw [List.length_reverse, List.length_map, List.length_map, List.length_take]; show _ ≤ 16777216; omega), List.map_map, ← List.map_reverse]
    rfl
  have l3 : ∀ x, mkD true [.d (.str kL), .r 0, .d (.str kM), .d (.int x), .d (.str kD), .d (.int 0)] [.lst ((ns.take 63).reverse.map vI)] = .ok (.r 1) (dk (ns.take 63).reverse x 0 []) := fun x => rfl
  unfold b__law_deck
  simp_arith [e, optI, slc63, l1, l2, l3]
  exact ⟨_, a, 0, rfl, by rw [List.length_reverse, List.length_take]; omega, rfl⟩
end K64
end
section
set_option Elab.async false
set_option linter.all false
set_option maxRecDepth 100000
set_option maxHeartbeats 400000
/-! QV: a drawn word. -/
namespace K64
open L3
theorem chars_of {own : List Nat} : ∀ (ys : List VL), (∀ y ∈ ys, ∃ c ∈ own, y = VL.d (dC c)) → ∃ cs : List Nat, ys = (cs.map dC).map .d ∧ cs.length = ys.length ∧ ∀ c ∈ cs, c ∈ own
  | [], _ => ⟨[], rfl, rfl, fun c h => by cases h⟩
  | y :: ys, h => by
    obtain ⟨c, hc, rfl⟩ := h y List.mem_cons_self
    obtain ⟨cs, rfl, e, k⟩ := chars_of ys fun z hz => h z (List.mem_cons_of_mem _ hz)
    refine ⟨c :: cs, rfl, by simp only [List.length_cons, List.length_map], fun x hx => ?_⟩
    rcases List.mem_cons.mp hx with rfl | hx
    · exact hc
    · exact k x hx
theorem ofStrs_c : ∀ cs : List Nat, ofStrs ((cs.map dC).map .d) = some (cs.map fun c => [c])
  | [] => rfl
  | c :: cs => by
    have := ofStrs_c cs
    simp only [List.map_cons, dC, ofStrs, Option.map_some] at this ⊢
    rw [this]; rfl
theorem joinS_c : ∀ cs : List Nat, joinS [] (cs.map fun c => [c]) = cs
  | [] => rfl
  | [c] => rfl
  | c :: d :: cs => by
    have := joinS_c (d :: cs)
    simp only [List.map_cons] at this ⊢
    simp only [joinS, List.append_nil]
    rw [this]; rfl
theorem join_c {L : LH} {cs : List Nat} (h : cs.length ≤ 1000) : mfun .join (.d (.str [])) [.d (.lst (cs.map dC))] L = .ok (.d (.str cs)) L := by
  have e1 : seqOf L (.d (.lst (cs.map dC))) = some ((cs.map dC).map .d) := rfl
  have e2 : (((cs.map fun c => [c]).map fun t => t.length + ([] : List Nat).length).sum) ≤ lim := by
    have : ∀ cs : List Nat, ((cs.map fun c => [c]).map fun t => t.length + ([] : List Nat).length).sum = cs.length := fun cs => by
      induction cs with
      | nil => rfl
      | cons c cs ih => rw [List.map_cons, List.map_cons, List.sum_cons, ih]; simp only [List.length_cons, List.length_nil]; omega
    rw [this]
    show _ ≤ 16777216
    omega
  simp only [mfun, mJoin, e1, Option.bind_some, ofStrs_c, e2, if_true, joinS_c]
theorem gives_bind {α β : Type} {r : Res α} {f : α → LH → Res β} {Q : β → LH → Prop} (h : r.gives fun a L => (f a L).gives Q) : (r.bind f).gives Q := by
  obtain ⟨a, L, e, q⟩ := h.ex
  rw [e]; exact q
theorem mapR_gives {g : List (Nat × LO)} {f : VL → LH → Res (List VL)} {items : List VL} {L : LH} {Q : List VL → LH → Prop} (I : LH → Prop) (P : VL → VL → Prop) (hs : ∀ L, I L → stands g L = true) (h0 : I L)
    (step : ∀ x ∈ items, ∀ L, I L → (f x L).gives fun ys L' => ∃ y, ys = [y] ∧ P x y ∧ I L') (k : ∀ ys L', I L' → ys.length = items.length → (∀ (i : Nat) (x y : VL), items[i]? = some x → ys[i]? = some y → P x y) → Q ys L') : (mapR g f items L).gives Q := by
  obtain ⟨ys, L', e, h1, h2, h3⟩ := mapR_inv I P hs items L h0 fun x hx L hI => by
    obtain ⟨ys, L', e, y, rfl, p, q⟩ := (step x hx L hI).ex
    exact ⟨y, L', e, p, q⟩
  rw [e]
  exact k ys L' h1 h2 h3
end K64
end
section
set_option Elab.async false
set_option linter.all false
set_option maxRecDepth 100000
set_option maxHeartbeats 400000
/-! QW: a drawn story. -/
namespace K64
open L3
section
variable {xs : List Int} {a b : Int} {R : LH} {s : List VL} {v : VL}
theorem dkl_get {o : LO} : (dk xs a b (R ++ [o]))[R.length + 2]? = some o := by
  show (R ++ [o])[R.length]? = _
  simp
theorem dkl_set {o p : LO} : (dk xs a b (R ++ [o])).set (R.length + 2) p = dk xs a b (R ++ [p]) := by
  show LO.lst _ :: LO.dct _ _ :: (R ++ [o]).set R.length p = _
  simp [dk]
theorem dkl_app (h : s.length < lim) : mfun .append (.r (R.length + 2)) [v] (dk xs a b (R ++ [.lst s])) = .ok (.d .non) (dk xs a b (R ++ [.lst (s ++ [v])])) := by
  rw [app_at dkl_get h, dkl_set]
theorem dkl_ty : mTy .append (dk xs a b (R ++ [.lst s])) (.r (R.length + 2)) = true := (lidx_ty dkl_get).2.1
theorem dkl_new : mkL true [] (dk xs a b R) = .ok (.r (R.length + 2)) (dk xs a b (R ++ [.lst []])) := by
  rw [mkL_m (by decide)]
  rfl
end
end K64
end
section
set_option Elab.async false
set_option linter.all false
set_option maxRecDepth 100000
set_option maxHeartbeats 400000
/-! YA: a little office: lots, words. -/
namespace K64
open L3
abbrev Shape := List Nat × Nat
abbrev dL {α : Type} (f : α → D) (xs : List α) : D := .lst (xs.map f)
def eShape (s : Shape) : D := .tup [dT dN s.1, dN s.2]
def shapes : List Shape := [([2, 2], 1), ([2, 1], 2), ([1, 2], 2), ([1, 1], 4), ([4, 1], 1), ([1, 4], 1), ([2, 1, 2], 1), ([1, 2, 1], 2)]
structure ShapeOk (s : Shape) : Prop where
  two : s.1.length = 2 ∨ s.1.length = 3
  lt : ∀ k ∈ s.1, 1 ≤ k ∧ k ≤ 4
  ck : 1 ≤ s.2 ∧ s.2 ≤ 4
theorem shape_ok {s : Shape} (h : s ∈ shapes) : ShapeOk s := by
  have : ∀ s ∈ shapes, (s.1.length = 2 ∨ s.1.length = 3) ∧ (∀ k ∈ s.1, 1 ≤ k ∧ k ≤ 4) ∧ 1 ≤ s.2 ∧ s.2 ≤ 4 := by decide
  obtain ⟨a, b, c⟩ := this s h
  exact ⟨a, b, c⟩
def poolW (n : Nat) : List (List Nat) := [[97, 98], [98, 122], [107]] ++ (List.replicate ((3 : Int) - (n : Int)).toNat [[97, 99, 120]]).flatten
section
variable {T : Tab} {call : Nat → List VL → LH → Res VL} {L : LH}
theorem t1 {a : D} : mkT [VL.d a] L = .ok (.d (.tup [a])) L := mkT_d (xs := [a]) (show 1 ≤ lim by decide)
theorem t2 {a b : D} : mkT [VL.d a, VL.d b] L = .ok (.d (.tup [a, b])) L := mkT_d (xs := [a, b]) (show 2 ≤ lim by decide)
theorem t3 {a b c : D} : mkT [VL.d a, VL.d b, VL.d c] L = .ok (.d (.tup [a, b, c])) L := mkT_d (xs := [a, b, c]) (show 3 ≤ lim by decide)
theorem l1 {a : D} : mkL false [VL.d a] L = .ok (.d (.lst [a])) L := mkL_d (xs := [a]) (show 1 ≤ lim by decide)
theorem l2 {a b : D} : mkL false [VL.d a, VL.d b] L = .ok (.d (.lst [a, b])) L := mkL_d (xs := [a, b]) (show 2 ≤ lim by decide)
theorem l3 {a b c : D} : mkL false [VL.d a, VL.d b, VL.d c] L = .ok (.d (.lst [a, b, c])) L := mkL_d (xs := [a, b, c]) (show 3 ≤ lim by decide)
theorem l4 {a b c d : D} : mkL false [VL.d a, VL.d b, VL.d c, VL.d d] L = .ok (.d (.lst [a, b, c, d])) L := mkL_d (xs := [a, b, c, d]) (show 4 ≤ lim by decide)
theorem l5 {a b c d e : D} : mkL false [VL.d a, VL.d b, VL.d c, VL.d d, VL.d e] L = .ok (.d (.lst [a, b, c, d, e])) L := mkL_d (xs := [a, b, c, d, e]) (show 5 ≤ lim by decide)
theorem l6 {a b c d e f : D} : mkL false [VL.d a, VL.d b, VL.d c, VL.d d, VL.d e, VL.d f] L = .ok (.d (.lst [a, b, c, d, e, f])) L := mkL_d (xs := [a, b, c, d, e, f]) (show 6 ≤ lim by decide)
theorem b_lmul {s : List D} {k : Int} (h : -1000 ≤ k ∧ k ≤ 1000 ∧ s.length ≤ 1000) (h2 : (List.replicate k.toNat s).flatten.length ≤ lim) : binop .mul (.d (.lst s)) (.d (.int k)) L = .ok (.d (.lst (List.replicate k.toNat s).flatten)) L := by
  have e : binop .mul (.d (.lst s)) (.d (.int k)) L = mkL false (List.replicate k.toNat (s.map .d)).flatten L := by
    simp only [binop, h, and_self, if_true]
  rw [e]
  have := mkL_d (L := L) h2
  rw [List.map_flatten, List.map_replicate] at this
  exact this
theorem b_lst {s t : List D} (h : (s ++ t).length ≤ lim) : binop .add (.d (.lst s)) (.d (.lst t)) L = .ok (.d (.lst (s ++ t))) L := by
  show mkL false (s.map VL.d ++ t.map VL.d) L = _
  rw [← List.map_append]
  exact mkL_d h
end
theorem shapes_run {call : Nat → List VL → LH → Res VL} {L : LH} {r : List CS} {z : Env} {p : Option VL} :
    evSs T call (b__law_little.take 2 ++ r) (some (.r 1) :: p :: z) L = evSs T call r (some (.r 1) :: some (.d (dL eShape shapes)) :: z) L := by
  unfold b__law_little
  simp only [List.take]
  have e1 : ∀ (a b c d e f a1 b1 : D) (L : LH), binop .add (.d (.lst [a, b, c, d, e, f])) (.d (.lst [a1, b1])) L = .ok (.d (.lst [a, b, c, d, e, f, a1, b1])) L := fun a b c d e f a1 b1 L => b_lst (show 8 ≤ lim by decide)
  simp_arith [t1, t2, t3, l6, l2, e1]
  rfl
def DK (R L : LH) : Prop := ∃ (xs : List Int) (a b : Int), xs.length ≤ 63 ∧ L = dk xs a b R
theorem lcD {β : Type} {g : List (Nat × LO)} {f : VL → LH → Res (List VL)} {items : List VL} {L : LH} {enc : β → D} (I : LH → Prop) (P : β → Prop) (N : Nat) (hl : items.length = N) (hN : N ≤ lim) (hs : ∀ L, I L → stands g L = true) (h0 : I L)
    (step : ∀ x ∈ items, ∀ L, I L → ∃ L' y, f x L = .ok [.d (enc y)] L' ∧ P y ∧ I L') :
    ∃ v L', ((mapR g f items L).bind fun xs L => mkL false xs L) = .ok v L' ∧ ∃ ys : List β, v = .d (.lst (ys.map enc)) ∧ ys.length = N ∧ (∀ y ∈ ys, P y) ∧ I L' := by
  have key : ∀ (items : List VL) (L : LH), I L → (∀ x ∈ items, ∀ L, I L → ∃ L' y, f x L = .ok [.d (enc y)] L' ∧ P y ∧ I L') → ∃ (ys : List β) (L' : LH), mapR g f items L = .ok ((ys.map enc).map .d) L' ∧ ys.length = items.length ∧ (∀ y ∈ ys, P y) ∧ I L' := by
    intro items
    induction items with
    | nil => exact fun L h _ => ⟨[], L, by simp only [mapR, hs L h, if_true, List.map_nil], rfl, (fun y hy => by cases hy), h⟩
    | cons x xs ih =>
      intro L h st
      obtain ⟨L1, y, e1, p1, h1⟩ := st x List.mem_cons_self L h
      obtain ⟨ys, L2, e2, l2, p2, h2⟩ := ih L1 h1 fun z hz => st z (List.mem_cons_of_mem _ hz)
      refine ⟨y :: ys, L2, by simp only [mapR, hs L h, if_true, e1, Res.bind_ok, e2, List.cons_append, List.nil_append, List.map_cons], by simp [l2], fun z hz => ?_, h2⟩
      rcases List.mem_cons.mp hz with rfl | hz
      · exact p1
      · exact p2 z hz
  obtain ⟨ys, L', e, l, p, h⟩ := key items L h0 step
  refine ⟨.d (.lst (ys.map enc)), L', ?_, ys, rfl, by rw [l, hl], p, h⟩
  rw [e, Res.bind_ok]
  exact mkL_d (by rw [List.length_map, l, hl]; exact hN)
structure WordOk (w : List Nat) : Prop where
  lt : Letters w
  nd : w.Nodup
  le : w.length ≤ 4
theorem pool_ok {n : Nat} (h : n = 2 ∨ n = 3) : (0 < (poolW n).length ∧ (poolW n).length < 1000) ∧ ∀ w ∈ poolW n, WordOk w := by
  have f : ∀ n ∈ [2, 3], (0 < (poolW n).length ∧ (poolW n).length < 1000) ∧ ∀ w ∈ poolW n, ((∀ c ∈ w, c ∈ abc) ∧ 1 ≤ w.length ∧ w.length ≤ 12 ∧ ((w.zip (w.drop 1)).all fun p => decide (p.1 < p.2)) = true) ∧ w.Nodup ∧ w.length ≤ 4 := by decide
  obtain ⟨a, b⟩ := f n (by rcases h with rfl | rfl <;> simp)
  refine ⟨a, fun w h => ?_⟩
  obtain ⟨⟨c1, c2, c3, c4⟩, c5, c6⟩ := b w h
  exact ⟨⟨c1, c2, c3, c4⟩, c5, c6⟩
section
variable {n : Nat} {R L : LH} {p1 p3 p4 p5 p6 p7 p8 p9 p10 p11 p12 p13 p14 p15 p16 : Option VL}
theorem alph_ok {lots : List Nat} (h23 : lots.length = 2 ∨ lots.length = 3) (hL : DK R L) :
    ∃ v L', evE T (callN T (n + 2)) [some (.r 1), p1, some (.d (dT dN lots)), p3, p4, p5, p6, p7, p8, p9, p10, p11, p12, p13, p14, p15, p16] x__law_little_1 L = .ok v L' ∧ ∃ ys : List (List Nat), v = .d (.lst (ys.map D.str)) ∧ ys.length = lots.length ∧ (∀ y ∈ ys, WordOk y) ∧ DK R L' := by
  unfold x__law_little_1
  rw [evE_lc]
  simp_arith
  refine lcD (g := []) (items := (lots.map dN).map .d) (enc := D.str) (DK R) WordOk _ (by rw [List.length_map, List.length_map]) (by show _ ≤ 16777216; omega) (fun _ _ => rfl) hL ?_
  rintro x hx L ⟨ys, c, d, hy, rfl⟩
  obtain ⟨q1, q2⟩ := pool_ok h23
  obtain ⟨v1, L1, e1, i, d1, zs, c', d', hi, rfl, hz, rfl⟩ := (pick_ok (n := n) (o := .d (dL D.str (poolW lots.length))) (ds := (poolW lots.length).map D.str) (xs := ys) (a := c) (b := d) (R := R) (.inl rfl) hy (by rw [List.length_map]; exact q1.1) (by rw [List.length_map]; exact q1.2)).ex
  obtain ⟨w, hw, rfl⟩ := map_get hi
  refine ⟨dk zs c' d' R, w, ?_, q2 w (List.mem_of_getElem? hw), zs, c', d', hz, rfl⟩
  have m1 : binop .mul (.d (.lst [.str [97, 99, 120]])) (.d (.int (3 - (lots.length : Int)))) (dk ys c d R) = .ok (.d (.lst (List.replicate ((3 : Int) - (lots.length : Int)).toNat [D.str [97, 99, 120]]).flatten)) (dk ys c d R) := b_lmul (by refine ⟨by omega, by omega, ?_⟩; show 1 ≤ 1000; decide) (by rcases h23 with h | h <;> rw [h] <;> decide)
  have m2 : binop .add (.d (.lst [.str [97, 98], .str [98, 122], .str [107]])) (.d (.lst (List.replicate ((3 : Int) - (lots.length : Int)).toNat [D.str [97, 99, 120]]).flatten)) (dk ys c d R) = .ok (.d (dL D.str (poolW lots.length))) (dk ys c d R) := by
    rw [b_lst (by rcases h23 with h | h <;> rw [h] <;> decide)]
    rcases h23 with h | h <;> rw [h] <;> rfl
  simp_arith [l3, l1, List.length_map, m1, m2, e1]
/-- draws below many, one for each of some items -/
theorem draw_step {n : Nat} {m : Nat} (hm : 0 < m) (hm2 : m ≤ 1000) (hL : DK R L) : ∃ L' k, callN T (n + 1) 14 [.r 1, .d (.int (m : Int))] L = .ok (.d (dN k)) L' ∧ k < m ∧ DK R L' := by
  obtain ⟨xs, a, b, h63, rfl⟩ := hL
  obtain ⟨v, L', e, k, xs', a', b', rfl, k0, k1, h', rfl⟩ := (draw_ok (n := n) (a := a) (b := b) (R := R) (m := (m : Int)) h63 (by omega) (by omega)).ex
  obtain ⟨j, rfl⟩ := Int.eq_ofNat_of_zero_le k0
  exact ⟨_, j, e, by omega, xs', a', b', h', rfl⟩
end
end K64
end
section
set_option Elab.async false
set_option linter.all false
set_option maxRecDepth 100000
set_option maxHeartbeats 400000
/-! YB: a little office: its comprehensions. -/
namespace K64
open L3
section
variable {n : Nat} {R L : LH} {p0 p1 p2 p3 p4 p5 p6 p7 p8 p9 p10 p11 p12 p13 p14 p15 p16 : Option VL}
theorem x2_ok {own : List Nat} {m : Nat} (hm : 0 < m) (hm2 : m ≤ 1000) (ho : own.length ≤ 1000) (hL : DK R L) :
    ∃ v L', evE T (callN T (n + 2)) [some (.r 1), p1, p2, p3, p4, p5, p6, some (.d (.str own)), some (.d (.int (m : Int))), p9, p10, p11, p12, p13, p14, p15, p16] x__law_little_2 L = .ok v L' ∧ ∃ ys : List Nat, v = .d (.lst (ys.map dN)) ∧ ys.length = own.length ∧ (∀ y ∈ ys, y < m) ∧ DK R L' := by
  unfold x__law_little_2
  rw [evE_lc]
  simp_arith
  refine lcD (g := []) (items := (chars own).map .d) (enc := dN) (DK R) (fun (y : Nat) => y < m) _ (by rw [List.length_map, chars, List.length_map]) (by show _ ≤ 16777216; omega) (fun _ _ => rfl) hL ?_
  intro x hx L hL
  obtain ⟨L', k, e, hk, hL'⟩ := draw_step (n := n + 1) hm hm2 hL
  refine ⟨L', k, ?_, hk, hL'⟩
  simp_arith [e]
theorem x3_ok {own : List Nat} {m : Nat} (hm : 0 < m) (hm2 : m ≤ 1000) (ho : own.length ≤ 1000) (hL : DK R L) :
    ∃ v L', evE T (callN T (n + 2)) [some (.r 1), p1, p2, p3, p4, p5, p6, some (.d (.str own)), some (.d (.int (m : Int))), p9, p10, p11, p12, p13, p14, p15, p16] x__law_little_3 L = .ok v L' ∧ ∃ ys : List (List Nat), v = .d (.lst (ys.map (dT dN))) ∧ ys.length = m ∧ (∀ y ∈ ys, y.length = own.length ∧ ∀ x ∈ y, x < m) ∧ DK R L' := by
  unfold x__law_little_3
  rw [evE_lc]
  have hsm : small (m : Int) = true := decide_eq_true (by omega)
  simp_arith [hsm]
  refine lcD (g := []) (items := rangeI 0 ((m : Int)).toNat) (enc := dT dN) (DK R) (fun (y : List Nat) => y.length = own.length ∧ ∀ x ∈ y, x < m) m (by simp [rangeI]) (by show _ ≤ 16777216; omega) (fun _ _ => rfl) hL ?_
  intro x hx L hL
  obtain ⟨v, L', e, ys, rfl, h1, h2, hL'⟩ := x2_ok (n := n) (p1 := p1) (p2 := p2) (p3 := p3) (p4 := p4) (p5 := p5) (p6 := p6) (p9 := p9) (p10 := p10) (p11 := p11) (p12 := p12) (p13 := some x) (p14 := p14) (p15 := p15) (p16 := p16) hm hm2 ho hL
  have tt : bfun .tuple [.d (.lst (ys.map dN))] L' = .ok (.d (dT dN ys)) L' := bf_tuple_lst (by rw [List.length_map, h1]; show _ ≤ 16777216; omega)
  refine ⟨L', ys, ?_, ⟨h1, h2⟩, hL'⟩
  simp_arith [e, tt]
end
theorem getI_rlast {L : LH} {n : Nat} {xs : List VL} {v : VL} (h : L[n]? = some (.lst (xs ++ [v]))) : getI L (.r n) (.d (.int (-1))) = some v := by
  have e : ixAt (xs ++ [v]).length (-1) = some xs.length := by
    rw [ixAt_last (by simp), List.length_append]; rfl
  simp only [getI, h, e, Option.bind_some]
  simp
section
variable {xs : List Int} {a b : Int} {R : LH} {A B o : LO} {s : List VL} {v : VL}
theorem d2_get0 : (dk xs a b (R ++ [A, B]))[R.length + 2]? = some A := by
  show (R ++ [A, B])[R.length]? = _
  simp
theorem d2_get1 : (dk xs a b (R ++ [A, B]))[R.length + 3]? = some B := by
  show (R ++ [A, B])[R.length + 1]? = _
  rw [List.getElem?_append_right (by omega)]
  simp
theorem d2_set0 : (dk xs a b (R ++ [A, B])).set (R.length + 2) o = dk xs a b (R ++ [o, B]) := by
  show LO.lst _ :: LO.dct _ _ :: (R ++ [A, B]).set R.length o = _
  simp [dk]
theorem d2_set1 : (dk xs a b (R ++ [A, B])).set (R.length + 3) o = dk xs a b (R ++ [A, o]) := by
  show LO.lst _ :: LO.dct _ _ :: (R ++ [A, B]).set (R.length + 1) o = _
  rw [List.set_append, if_neg (by omega), Nat.add_sub_cancel_left]
  rfl
theorem d2_app0 (h : s.length < lim) : mfun .append (.r (R.length + 2)) [v] (dk xs a b (R ++ [.lst s, B])) = .ok (.d .non) (dk xs a b (R ++ [.lst (s ++ [v]), B])) := by
  rw [app_at d2_get0 h, d2_set0]
theorem d2_app1 (h : s.length < lim) : mfun .append (.r (R.length + 3)) [v] (dk xs a b (R ++ [A, .lst s])) = .ok (.d .non) (dk xs a b (R ++ [A, .lst (s ++ [v])])) := by
  rw [app_at d2_get1 h, d2_set1]
theorem d2_ty0 : mTy .append (dk xs a b (R ++ [.lst s, B])) (.r (R.length + 2)) = true := (lidx_ty d2_get0).2.1
theorem d2_ty1 : mTy .append (dk xs a b (R ++ [A, .lst s])) (.r (R.length + 3)) = true := (lidx_ty d2_get1).2.1
theorem d2_new : mkL true [] (dk xs a b (R ++ [A])) = .ok (.r (R.length + 3)) (dk xs a b (R ++ [A, .lst []])) := by
  rw [mkL_m (by decide)]
  simp [dk]
end
section
variable {n : Nat} {R L : LH} {p0 p1 p2 p3 p4 p5 p6 p7 p8 p9 p10 p11 p12 p13 p14 p15 p16 : Option VL}
theorem x4_ok {B : LO} {s : List VL} {k m : Nat} (hk : 0 < k) (hk2 : k ≤ 1000) (hm2 : m ≤ 1000) (hL : DK (R ++ [.lst (s ++ [.d (dN k)]), B]) L) :
    ∃ v L', evE T (callN T (n + 2)) [some (.r 1), p1, p2, p3, p4, some (.r (R.length + 2)), p6, p7, some (.d (.int (m : Int))), p9, p10, p11, p12, p13, p14, p15, p16] x__law_little_4 L = .ok v L' ∧ ∃ ys : List Nat, v = .d (.lst (ys.map dN)) ∧ ys.length = m ∧ (∀ y ∈ ys, y < k) ∧ DK (R ++ [.lst (s ++ [.d (dN k)]), B]) L' := by
  unfold x__law_little_4
  rw [evE_lc]
  have hsm : small (m : Int) = true := decide_eq_true (by omega)
  simp_arith [hsm]
  refine lcD (g := []) (items := rangeI 0 ((m : Int)).toNat) (enc := dN) (DK (R ++ [.lst (s ++ [.d (dN k)]), B])) (fun (y : Nat) => y < k) m (by simp [rangeI]) (by show _ ≤ 16777216; omega) (fun _ _ => rfl) hL ?_
  intro x hx L hL
  obtain ⟨ys, c, d, hy, rfl⟩ := hL
  have g := getI_rlast (v := .d (dN k)) (d2_get0 (xs := ys) (a := c) (b := d) (R := R) (A := .lst (s ++ [.d (dN k)])) (B := B))
  obtain ⟨L', j, e, hj, hL'⟩ := draw_step (n := n + 1) hk hk2 (⟨ys, c, d, hy, rfl⟩ : DK (R ++ [.lst (s ++ [.d (dN k)]), B]) _)
  refine ⟨L', j, ?_, hj, hL'⟩
  have e' : callN T (n + 2) 14 [.r 1, .d (dN k)] (dk ys c d (R ++ [.lst (s ++ [.d (dN k)]), B])) = .ok (.d (dN j)) L' := e
  simp_arith [g, e']
end
end K64
end
section
set_option Elab.async false
set_option linter.all false
set_option maxRecDepth 100000
set_option maxHeartbeats 400000
/-! YC: a little office: the loop over the clerks. -/
namespace K64
open L3
/-- what a clerk's part is -/
structure DeskOk (a : List Nat) (m s : Nat) (d : Desk) : Prop where
  s1 : 1 ≤ s
  s2 : s ≤ m
  l1 : d.1.length = m
  rows : ∀ r ∈ d.1, r.length = a.length ∧ ∀ x ∈ r, x < m
  l2 : d.2.length = m
  marks : ∀ x ∈ d.2, x < s
section
variable {n : Nat} {R L : LH} {p0 p1 p2 p3 p4 p5 p6 p7 p8 p9 p10 p11 p12 p13 p14 p15 p16 : Option VL}
abbrev lsN (ss : List Nat) : LO := .lst ((ss.map dN).map .d)
abbrev lsD (ds : List Desk) : LO := .lst ((ds.map eDesk).map .d)
theorem x5_ok {alph : List (List Nat)} {lots : List Nat} (ha : ∀ w ∈ alph, w.length ≤ 4) (hl : ∀ k ∈ lots, 1 ≤ k ∧ k ≤ 4) (hn : lots.length = alph.length) (h3 : alph.length ≤ 3) (hL : DK (R ++ [.lst [], .lst []]) L) :
    ∃ ρ' L', evS T (callN T (n + 2)) x__law_little_5 [some (.r 1), p1, some (.d (dT dN lots)), p3, some (.d (dT D.str alph)), some (.r (R.length + 2)), some (.r (R.length + 3)), p7, p8, p9, p10, p11, p12, p13, p14, p15, p16] L = .next ρ' L' ∧
      ∃ (ss : List Nat) (ds : List Desk) (q9 q10 q11 : Option VL), ss.length = alph.length ∧ ds.length = alph.length ∧ (∀ (j : Nat) (a : List Nat) (m s : Nat) (d : Desk), alph[j]? = some a → lots[j]? = some m → ss[j]? = some s → ds[j]? = some d → DeskOk a m s d) ∧ DK (R ++ [lsN ss, lsD ds]) L' ∧
        ρ' = [some (.r 1), p1, some (.d (dT dN lots)), p3, some (.d (dT D.str alph)), some (.r (R.length + 2)), some (.r (R.length + 3)), q9, q10, q11, p10, p11, p12, p13, p14, p15, p16] := by
  refine Fl.nx.ex (Q := fun (ρ' : Env) (L' : LH) => ∃ (ss : List Nat) (ds : List Desk) (q9 q10 q11 : Option VL), ss.length = alph.length ∧ ds.length = alph.length ∧ (∀ (j : Nat) (a : List Nat) (m s : Nat) (d : Desk), alph[j]? = some a → lots[j]? = some m → ss[j]? = some s → ds[j]? = some d → DeskOk a m s d) ∧ DK (R ++ [lsN ss, lsD ds]) L' ∧
        ρ' = [some (.r 1), p1, some (.d (dT dN lots)), p3, some (.d (dT D.str alph)), some (.r (R.length + 2)), some (.r (R.length + 3)), q9, q10, q11, p10, p11, p12, p13, p14, p15, p16]) ?_
  unfold x__law_little_5
  rw [evS_forr]
  simp_arith
  refine forI_nx (fun i ρ L' => ∃ (ss : List Nat) (ds : List Desk) (q9 q10 q11 : Option VL), ss.length = i ∧ ds.length = i ∧ i ≤ alph.length ∧ (∀ (j : Nat) (a : List Nat) (m s : Nat) (d : Desk), alph[j]? = some a → lots[j]? = some m → ss[j]? = some s → ds[j]? = some d → DeskOk a m s d) ∧ DK (R ++ [lsN ss, lsD ds]) L' ∧
        ρ = [some (.r 1), p1, some (.d (dT dN lots)), p3, some (.d (dT D.str alph)), some (.r (R.length + 2)), some (.r (R.length + 3)), q9, q10, q11, p10, p11, p12, p13, p14, p15, p16]) (fun _ _ _ _ => rfl)
    ⟨[], [], p7, p8, p9, rfl, rfl, Nat.zero_le _, fun j a m s d _ _ e => by simp at e, hL, rfl⟩ ?_ ?_
  · rintro i x ρ L' hx ⟨ss, ds, q9, q10, q11, hs, hd, hi, hok, hL', rfl⟩
    obtain ⟨u, v, q1, q2, rfl⟩ := zip2_item hx
    obtain ⟨own, g1, rfl⟩ := map_get q1
    obtain ⟨m, g2, rfl⟩ := map_get q2
    clear q1 q2 hx
    have hi2 : i < alph.length := (List.getElem?_eq_some_iff.mp g1).1
    obtain ⟨m1, m4⟩ := hl m (List.mem_of_getElem? g2)
    have ho := ha own (List.mem_of_getElem? g1)
    obtain ⟨L1, k, e1, hk, hL1⟩ := draw_step (n := n + 1) (m := m) (by omega) (by omega) hL'
    obtain ⟨xs1, a1, b1, hx1, rfl⟩ := hL1
    have hs1 : (1 : Int) + (k : Int) = ((k + 1 : Nat) : Int) := by omega
    have lim1 : ((ss.map dN).map VL.d).length < lim := by rw [List.length_map, List.length_map]; show _ < 16777216; omega
    have lim2 : ((ds.map eDesk).map VL.d).length < lim := by rw [List.length_map, List.length_map]; show _ < 16777216; omega
    have ap1 := d2_app0 (xs := xs1) (a := a1) (b := b1) (R := R) (B := lsD ds) (v := .d (dN (k + 1))) lim1
    obtain ⟨v3, L3, e3, rows, rfl, r1, r2, hL3⟩ := x3_ok (n := n) (own := own) (m := m) (p1 := p1) (p2 := some (.d (dT dN lots))) (p3 := p3) (p4 := some (.d (dT D.str alph))) (p5 := some (.r (R.length + 2))) (p6 := some (.r (R.length + 3))) (p9 := q11) (p10 := p10) (p11 := p11) (p12 := p12) (p13 := p13) (p14 := p14) (p15 := p15) (p16 := p16) (R := R ++ [.lst ((ss.map dN).map .d ++ [.d (dN (k + 1))]), lsD ds]) (by omega) (by omega) (by omega) ⟨xs1, a1, b1, hx1, rfl⟩
    have tt3 : bfun .tuple [.d (.lst (rows.map (dT dN)))] L3 = .ok (.d (dT (dT dN) rows)) L3 := bf_tuple_lst (by rw [List.length_map, r1]; show _ ≤ 16777216; omega)
    obtain ⟨v4, L4, e4, marks, rfl, k1, k2, hL4⟩ := x4_ok (n := n) (R := R) (B := lsD ds) (s := (ss.map dN).map .d) (k := k + 1) (m := m) (p1 := p1) (p2 := some (.d (dT dN lots))) (p3 := p3) (p4 := some (.d (dT D.str alph))) (p6 := some (.r (R.length + 3))) (p7 := some (.d (.str own))) (p9 := some (.d (dT (dT dN) rows))) (p10 := p10) (p11 := p11) (p12 := p12) (p13 := p13) (p14 := p14) (p15 := p15) (p16 := p16) (by omega) (by omega) (by omega) hL3
    have tt4 : bfun .tuple [.d (.lst (marks.map dN))] L4 = .ok (.d (dT dN marks)) L4 := bf_tuple_lst (by rw [List.length_map, k1]; show _ ≤ 16777216; omega)
    obtain ⟨xs4, a4, b4, hx4, rfl⟩ := hL4
    have ap2 := d2_app1 (xs := xs4) (a := a4) (b := b4) (R := R) (A := .lst ((ss.map dN).map .d ++ [.d (dN (k + 1))])) (v := .d (.tup [dT (dT dN) rows, dT dN marks])) lim2
    have e1' : callN T (n + 2) 14 [.r 1, .d (dN m)] L' = .ok (.d (.int (k : Int))) (dk xs1 a1 b1 (R ++ [lsN ss, lsD ds])) := e1
    have hty0 : mTy .append L' (.r (R.length + 2)) = true := by
      obtain ⟨ys, c, d, _, rfl⟩ := hL'
      exact d2_ty0
    have hty1 : mTy .append L3 (.r (R.length + 3)) = true := by
      obtain ⟨ys, c, d, _, rfl⟩ := hL3
      exact d2_ty1
    simp_arith [hty0, e1']
    rw [hs1]
    simp_arith [show VL.d (.int ((k + 1 : Nat) : Int)) = .d (dN (k + 1)) from rfl, ap1, show dN m = .int (m : Int) from rfl, e3, tt3, e4, tt4, hty1, t2, ap2]
    refine ⟨ss ++ [k + 1], ds ++ [(rows, marks)], _, _, _, by simp [hs], by simp [hd], hi2, fun j a' m' s' d' ea em es ed => ?_, ⟨xs4, a4, b4, hx4, ?_⟩, rfl⟩
    · by_cases hj : j < i
      · rw [List.getElem?_append_left (by omega)] at es ed
        exact hok j a' m' s' d' ea em es ed
      · have hj2 : j = i := by
          have := (List.getElem?_eq_some_iff.mp es).1
          rw [List.length_append, List.length_singleton] at this
          omega
        subst hj2
        rw [List.getElem?_append_right (by omega), hs, Nat.sub_self] at es
        rw [List.getElem?_append_right (by omega), hd, Nat.sub_self] at ed
        simp only [List.getElem?_cons_zero, Option.some.injEq] at es ed
        subst es
        subst ed
        rw [g1] at ea
        rw [g2] at em
        cases ea
        cases em
        exact ⟨by omega, by omega, r1, r2, k1, k2⟩
    · unfold lsN lsD
      simp only [List.map_append, List.map_cons, List.map_nil]
      rfl
  · rintro ρ' L' ⟨ss, ds, q9, q10, q11, hs, hd, hi, hok, hL', rfl⟩
    have hz : ((zipD [alph.map D.str, lots.map dN]).map fun r => VL.d (.tup r)).length = alph.length := by
      rw [List.length_map]
      refine zipD_lenP (by simp) fun d hd => ?_
      simp only [List.mem_cons, List.not_mem_nil, or_false] at hd
      rcases hd with rfl | rfl <;> rw [List.length_map]
      exact hn
    rw [hz] at hs hd
    exact ⟨ss, ds, q9, q10, q11, hs, hd, hok, hL', rfl⟩
end
end K64
end
section
set_option Elab.async false
set_option linter.all false
set_option maxRecDepth 100000
set_option maxHeartbeats 400000
/-! YD: a little office: its table. -/
namespace K64
open L3
theorem prodG_len {α : Type} {lots : List (List α)} : ∀ i, (prodG (lots.take i)).length = ((lots.take i).map List.length).foldl (· * ·) 1
  | 0 => by simp [prodG]
  | i + 1 => by
    rw [List.take_succ]
    cases e : lots[i]? with
    | none => rw [Option.toList_none, List.append_nil]; exact prodG_len i
    | some x => rw [Option.toList_some, prodG_snoc, expand_len, prodG_len i, List.map_append, List.foldl_append]; rfl
theorem prodG_range {ss : List Nat} : (prodG (ss.map List.range)).length = ss.foldl (· * ·) 1 := by
  have := prodG_len (lots := ss.map List.range) ss.length
  rw [List.take_of_length_le (by rw [List.length_map]; exact Nat.le_refl _)] at this
  rw [this, List.map_map]
  congr 1
  have : (List.length ∘ List.range) = (id : Nat → Nat) := by funext x; simp
  rw [this, List.map_id]
theorem rangeI_N {s : Nat} : rangeI 0 ((s : Int)).toNat = (List.range s).map fun x => VL.d (dN x) := by
  unfold rangeI
  rw [Int.toNat_natCast]
  apply List.map_congr_left
  intro x _
  show VL.d _ = VL.d _
  simp [dN]
section
variable {n : Nat} {R L : LH} {p0 p1 p2 p3 p4 p5 p6 p7 p8 p9 p10 p11 p12 p13 p14 p15 p16 : Option VL}
theorem x6_ok {call : Nat → List VL → LH → Res VL} {k : Nat} {ss : List Nat} (h4 : ∀ s ∈ ss, s ≤ 4) (h3 : ss.length ≤ 3) (hL : L[k]? = some (lsN ss)) :
    evE T call [p0, p1, p2, p3, p4, some (.r k), p6, p7, p8, p9, p10, p11, p12, p13, p14, p15, p16] x__law_little_6 L = .ok (.d (.lst ((ss.map List.range).map (dL dN)))) L := by
  have wk : walkOf L (.r k) = some ⟨(ss.map dN).map .d, [(k, lsN ss)]⟩ := by
    simp only [walkOf, hL]
  have hst : stands [(k, lsN ss)] L = true := by
    simp only [stands, List.all_cons, List.all_nil, Bool.and_true]
    exact decide_eq_true hL
  unfold x__law_little_6
  rw [evE_lc]
  simp_arith [wk]
  rw [List.map_map, map_eq (items := ss) (enc := VL.d ∘ dN) (h := fun s => VL.d (dL dN (List.range s))) hst fun s hs => ?_]
  · simp_arith
    have := mkL_map (L := L) (f := fun s : Nat => dL dN (List.range s)) (xs := ss) (by show _ ≤ 16777216; omega)
    rw [this, List.map_map]
    rfl
  · have hs4 := h4 s hs
    have hsm : small (s : Int) = true := decide_eq_true (by omega)
    have r1 : mkL false (rangeI 0 ((s : Int)).toNat) L = .ok (.d (dL dN (List.range s))) L := by
      rw [rangeI_N]
      exact mkL_map (f := dN) (by rw [List.length_range]; show _ ≤ 16777216; omega)
    simp_arith [Function.comp, dN, hsm]
    rw [r1]
    simp_arith
theorem x7_ok {ends : List (List Nat)} {P : List Nat → Prop} {m : Nat} (he : ∀ t ∈ ends, P t) (e0 : 0 < ends.length) (e1 : ends.length < 1000) (hm2 : m ≤ 1000) (hL : DK R L) :
    ∃ v L', evE T (callN T (n + 2)) [some (.r 1), p1, p2, p3, p4, p5, p6, p7, p8, p9, some (.d (.int (m : Int))), p11, some (.d (dL D.str ends)), p13, p14, p15, p16] x__law_little_7 L = .ok v L' ∧ ∃ ys : List (List Nat), v = .d (.lst (ys.map D.str)) ∧ ys.length = m ∧ (∀ y ∈ ys, P y) ∧ DK R L' := by
  unfold x__law_little_7
  rw [evE_lc]
  have hsm : small (m : Int) = true := decide_eq_true (by omega)
  simp_arith [hsm]
  refine lcD (g := []) (items := rangeI 0 ((m : Int)).toNat) (enc := D.str) (DK R) P m (by simp [rangeI]) (by show _ ≤ 16777216; omega) (fun _ _ => rfl) hL ?_
  rintro x hx L ⟨ys, c, d, hy, rfl⟩
  obtain ⟨v1, L1, e1, i, d1, zs, c', d', hi, rfl, hz, rfl⟩ := (pick_ok (n := n) (o := .d (dL D.str ends)) (ds := ends.map D.str) (xs := ys) (a := c) (b := d) (R := R) (.inl rfl) hy (by rw [List.length_map]; exact e0) (by rw [List.length_map]; exact e1)).ex
  obtain ⟨w, hw, rfl⟩ := map_get hi
  refine ⟨dk zs c' d' R, w, ?_, he w (List.mem_of_getElem? hw), zs, c', d', hz, rfl⟩
  simp_arith [e1]
theorem x8_ok {ends : List (List Nat)} {P : List Nat → Prop} {m k : Nat} (he : ∀ t ∈ ends, P t) (e0 : 0 < ends.length) (e1 : ends.length < 1000) (hm2 : m ≤ 1000) (hk2 : k ≤ 1000) (hL : DK R L) :
    ∃ v L', evE T (callN T (n + 2)) [some (.r 1), p1, p2, some (.d (.int (k : Int))), p4, p5, p6, p7, p8, p9, some (.d (.int (m : Int))), p11, some (.d (dL D.str ends)), p13, p14, p15, p16] x__law_little_8 L = .ok v L' ∧ ∃ ys : List (List (List Nat)), v = .d (.lst (ys.map (dT D.str))) ∧ ys.length = k ∧ (∀ y ∈ ys, y.length = m ∧ ∀ t ∈ y, P t) ∧ DK R L' := by
  unfold x__law_little_8
  rw [evE_lc]
  have hsm : small (k : Int) = true := decide_eq_true (by omega)
  simp_arith [hsm]
  refine lcD (g := []) (items := rangeI 0 ((k : Int)).toNat) (enc := dT D.str) (DK R) (fun (y : List (List Nat)) => y.length = m ∧ ∀ t ∈ y, P t) k (by simp [rangeI]) (by show _ ≤ 16777216; omega) (fun _ _ => rfl) hL ?_
  intro x hx L hL
  obtain ⟨v, L', e, ys, rfl, h1, h2, hL'⟩ := x7_ok (n := n) (R := R) (P := P) (ends := ends) (m := m) (p1 := p1) (p2 := p2) (p3 := some (.d (.int (k : Int)))) (p4 := p4) (p5 := p5) (p6 := p6) (p7 := p7) (p8 := p8) (p9 := p9) (p11 := p11) (p13 := p13) (p14 := p14) (p15 := p15) (p16 := some x) he e0 e1 hm2 hL
  have tt : bfun .tuple [.d (.lst (ys.map D.str))] L' = .ok (.d (dT D.str ys)) L' := bf_tuple_lst (by rw [List.length_map, h1]; show _ ≤ 16777216; omega)
  refine ⟨L', ys, ?_, ⟨h1, h2⟩, hL'⟩
  simp_arith [e, tt]
end
end K64
end
section
set_option Elab.async false
set_option linter.all false
set_option maxRecDepth 100000
set_option maxHeartbeats 400000
/-! YE: a little office, whole. -/
namespace K64
open L3
def endsW : List (List Nat) := [[97], [98, 98], [121, 101, 115], [122, 122, 122, 122, 122, 122, 122, 122]]
theorem ends_ok : ∀ t ∈ endsW, OutOk t := by
  have : ∀ t ∈ endsW, (∀ c ∈ t, c ∈ abc) ∧ 1 ≤ t.length ∧ t.length ≤ 8 ∧ t ≠ [115, 101, 108, 102] := by decide
  intro t ht
  obtain ⟨c1, c2, c3, c4⟩ := this t ht
  exact ⟨c1, c2, c3, c4⟩
structure HandOk (h : Hand) : Prop where
  wf : WF h
  wt : WT h
  t8 : h.table.length ≤ 4
  words : ∀ w ∈ h.alph, WordOk w
  outs : ∀ r ∈ h.table, ∀ o ∈ r, OutOk o
  s1 : ∀ s ∈ h.sizes, 1 ≤ s
abbrev hk4 : List D := [.str [97, 108, 112, 104, 97, 98, 101, 116, 115], .str [115, 105, 122, 101, 115], .str [100, 101, 115, 107, 115], .str [116, 97, 105, 108]]
def hk5 : List D := [.str [97, 108, 112, 104, 97, 98, 101, 116, 115], .str [115, 105, 122, 101, 115], .str [100, 101, 115, 107, 115], .str [116, 97, 105, 108], .str [116, 97, 98, 108, 101]]
section
variable {xs : List Int} {a b : Int} {R : LH}
theorem mkD_hand {L : LH} {A B C E : VL} : mkD true [.d (.str [97, 108, 112, 104, 97, 98, 101, 116, 115]), A, .d (.str [115, 105, 122, 101, 115]), B, .d (.str [100, 101, 115, 107, 115]), C, .d (.str [116, 97, 105, 108]), E] L = .ok (.r L.length) (L ++ [.dct hk4 [A, B, C, E]]) := id rfl
theorem set_hand {A B C E F : VL} : setI (.r (R.length + 2)) (.d (.str [116, 97, 98, 108, 101])) F (dk xs a b (R ++ [.dct hk4 [A, B, C, E]])) = some (dk xs a b (R ++ [.dct hk5 [A, B, C, E, F]])) := by
  have g := dkl_get (xs := xs) (a := a) (b := b) (R := R) (o := .dct hk4 [A, B, C, E])
  have k : keysOk hk4 (.str [116, 97, 98, 108, 101]) = true ∧ hk4.length < lim := ⟨by decide, by decide⟩
  simp only [setI, g, k, and_self, if_true, dkl_set]
  rfl
theorem frz_hand {ks vs : List D} : frz frzLim (dk xs a b (R ++ [.dct ks (vs.map .d)])) (.r (R.length + 2)) = some (.dct ks vs, dk xs a b (R ++ [.dead])) := by
  have g := dkl_get (xs := xs) (a := a) (b := b) (R := R) (o := .dct ks (vs.map .d))
  show (match (dk xs a b (R ++ [.dct ks (vs.map .d)]))[R.length + 2]? with | some (.lst xs) => _ | some (.dct ks vs) => _ | some (.obj c ns vs) => _ | _ => none) = _
  simp only [g, dkl_set, mapF_d, Option.map_some]
end
theorem ends_lit : VL.d (.lst [.str [97], .str [98, 98], .str [121, 101, 115], .str [122, 122, 122, 122, 122, 122, 122, 122]]) = .d (dL D.str endsW) := id rfl
theorem little_ok {n : Nat} {R L : LH} (hL : DK R L) : ∃ v L', callN T (n + 3) 2 [.r 1] L = .ok v L' ∧ ∃ h, v = .d (hd h) ∧ HandOk h ∧ DK R L' := by
  obtain ⟨xs, a, b, h63, rfl⟩ := hL
  -- the shape
  obtain ⟨v1, L1, e1, i, d1, ys, c, d, hi, rfl, hy, rfl⟩ := (pick_ok (n := n) (o := .d (dL eShape shapes)) (ds := shapes.map eShape) (xs := xs) (a := a) (b := b) (R := R) (.inl rfl) h63 (by decide) (by decide)).ex
  obtain ⟨s, hs, rfl⟩ := map_get hi
  have so := shape_ok (List.mem_of_getElem? hs)
  clear hi hs
  obtain ⟨lots, clock⟩ := s
  obtain ⟨so1, so4, so5⟩ := so
  dsimp only at so1 so4 so5
  -- the words
  obtain ⟨v2, L2, e2, alph, rfl, al, aw, hL2⟩ := alph_ok (n := n) (R := R) (lots := lots) (p1 := some (.d (dL eShape shapes))) (p3 := some (.d (.int (clock : Int)))) (p4 := none) (p5 := none) (p6 := none) (p7 := none) (p8 := none) (p9 := none) (p10 := none) (p11 := none) (p12 := none) (p13 := none) (p14 := none) (p15 := none) (p16 := none) so1 ⟨ys, c, d, hy, rfl⟩
  obtain ⟨xs2, a2, b2, hx2, rfl⟩ := hL2
  have tt2 : ∀ L, bfun .tuple [.d (.lst (alph.map D.str))] L = .ok (.d (dT D.str alph)) L := fun L => bf_tuple_lst (by rw [List.length_map, al]; show _ ≤ 16777216; omega)
  -- the desks
  obtain ⟨ρ3, L3, e3, ss, ds, q9, q10, q11, sl, dl, dok, hL3, rfl⟩ := x5_ok (n := n) (R := R) (alph := alph) (lots := lots) (L := dk xs2 a2 b2 (R ++ [.lst [], .lst []])) (p1 := some (.d (dL eShape shapes))) (p3 := some (.d (.int (clock : Int)))) (p7 := none) (p8 := none) (p9 := none) (p10 := none) (p11 := none) (p12 := none) (p13 := none) (p14 := none) (p15 := none) (p16 := none) (fun w hw => (aw w hw).le) so4 (by omega) (by omega) ⟨xs2, a2, b2, hx2, rfl⟩
  obtain ⟨zs, c4, f4, hz, rfl⟩ := hL3
  have h3 : ss.length ≤ 3 := by omega
  have desk : ∀ (j : Nat) (dd : Desk), ds[j]? = some dd → ∃ (aa : List Nat) (m s : Nat), alph[j]? = some aa ∧ lots[j]? = some m ∧ ss[j]? = some s ∧ m ≤ 4 ∧ 1 ≤ m ∧ DeskOk aa m s dd := by
    intro j dd e
    have hj := (List.getElem?_eq_some_iff.mp e).1
    obtain ⟨aa, g1⟩ := get_ex (xs := alph) (i := j) (by omega)
    obtain ⟨m, g2⟩ := get_ex (xs := lots) (i := j) (by omega)
    obtain ⟨s, g3⟩ := get_ex (xs := ss) (i := j) (by omega)
    have := so4 m (List.mem_of_getElem? g2)
    exact ⟨aa, m, s, g1, g2, g3, this.2, this.1, dok j aa m s dd g1 g2 g3 e⟩
  have s41 : ∀ s ∈ ss, 1 ≤ s ∧ s ≤ 4 := by
    intro s hs
    obtain ⟨j, g3⟩ := List.getElem?_of_mem hs
    have hj := (List.getElem?_eq_some_iff.mp g3).1
    obtain ⟨dd, g4⟩ := get_ex (xs := ds) (i := j) (by omega)
    obtain ⟨aa, m, s', g1, g2, g3', k1, k2, k3⟩ := desk j dd g4
    rw [g3] at g3'
    cases g3'
    have := k3.s2
    have := k3.s1
    omega
  have s4 : ∀ s ∈ ss, s ≤ 4 := fun s hs => (s41 s hs).2
  -- the width
  have e5 := x6_ok (call := callN T (n + 2)) (k := R.length + 2) (ss := ss) (L := dk zs c4 f4 (R ++ [lsN ss, lsD ds])) (p0 := some (.r 1)) (p1 := some (.d (dL eShape shapes))) (p2 := some (.d (dT dN lots))) (p3 := some (.d (.int (clock : Int)))) (p4 := some (.d (dT D.str alph))) (p6 := some (.r (R.length + 3))) (p7 := q9) (p8 := q10) (p9 := q11) (p10 := none) (p11 := none) (p12 := none) (p13 := none) (p14 := none) (p15 := none) (p16 := none) s4 h3 d2_get0
  have e6 := tuples_ok (n := n + 1) (α := Nat) (enc := dN) (eL := dL dN) (lots := ss.map List.range) (L := dk zs c4 f4 (R ++ [lsN ss, lsD ds])) (.inr rfl) (fun L lot => by rw [walkOf_lst, List.map_map]; rfl) (by rw [List.length_map]; exact h3) (fun x hx => by
    obtain ⟨s, hs, rfl⟩ := List.mem_map.mp hx
    rw [List.length_range]
    exact s4 s hs)
  have wide : (prodG (ss.map List.range)).length ≤ 64 := by
    have := (prodG_take (lots := ss.map List.range) (fun x hx => by
      obtain ⟨s, hs, rfl⟩ := List.mem_map.mp hx
      rw [List.length_range]
      exact s4 s hs) ss.length).1
    rw [List.take_of_length_le (by rw [List.length_map]; exact Nat.le_refl _)] at this
    have : (4 : Nat) ^ ss.length ≤ 4 ^ 3 := Nat.pow_le_pow_right (by decide) h3
    omega
  have tts : bfun .tuple [.r (R.length + 2)] (dk zs c4 f4 (R ++ [lsN ss, lsD ds])) = .ok (.d (dT dN ss)) (dk zs c4 f4 (R ++ [lsN ss, lsD ds])) := bf_tuple_r (xs := ss.map dN) d2_get0 (by rw [List.length_map]; show _ ≤ 16777216; omega)
  have ttd : bfun .tuple [.r (R.length + 3)] (dk zs c4 f4 (R ++ [lsN ss, lsD ds])) = .ok (.d (dT eDesk ds)) (dk zs c4 f4 (R ++ [lsN ss, lsD ds])) := bf_tuple_r (xs := ds.map eDesk) d2_get1 (by rw [List.length_map]; show _ ≤ 16777216; omega)
  -- the tail
  obtain ⟨L6, t, e8, ht, hL6⟩ := draw_step (n := n + 1) (m := clock) (R := R ++ [lsN ss, lsD ds]) (by omega) (by omega) ⟨zs, c4, f4, hz, rfl⟩
  obtain ⟨xs6, a6, b6, hx6, rfl⟩ := hL6
  -- the dict
  have md : mkD true [.d (.str [97, 108, 112, 104, 97, 98, 101, 116, 115]), .d (dT D.str alph), .d (.str [115, 105, 122, 101, 115]), .d (dT dN ss), .d (.str [100, 101, 115, 107, 115]), .d (dT eDesk ds), .d (.str [116, 97, 105, 108]), .d (dN t)] (dk xs6 a6 b6 (R ++ [lsN ss, lsD ds])) = .ok (.r ((R ++ [lsN ss, lsD ds]).length + 2)) (dk xs6 a6 b6 ((R ++ [lsN ss, lsD ds]) ++ [.dct hk4 [.d (dT D.str alph), .d (dT dN ss), .d (dT eDesk ds), .d (dN t)]])) := mkD_hand
  -- the table
  obtain ⟨v7, L7, e7, tb, rfl, tb1, tb2, hL7⟩ := x8_ok (n := n) (R := (R ++ [lsN ss, lsD ds]) ++ [.dct hk4 [.d (dT D.str alph), .d (dT dN ss), .d (dT eDesk ds), .d (dN t)]]) (P := OutOk) (ends := endsW) (m := (prodG (ss.map List.range)).length) (k := clock) (L := dk xs6 a6 b6 ((R ++ [lsN ss, lsD ds]) ++ [.dct hk4 [.d (dT D.str alph), .d (dT dN ss), .d (dT eDesk ds), .d (dN t)]])) (p1 := some (.d (dL eShape shapes))) (p2 := some (.d (dT dN lots))) (p4 := some (.d (dT D.str alph))) (p5 := some (.r (R.length + 2))) (p6 := some (.r (R.length + 3))) (p7 := q9) (p8 := q10) (p9 := q11) (p11 := some (.r ((R ++ [lsN ss, lsD ds]).length + 2))) (p13 := none) (p14 := none) (p15 := none) (p16 := none) ends_ok (by decide) (by decide) (by omega) (by omega) ⟨xs6, a6, b6, hx6, rfl⟩
  obtain ⟨xs8, a8, b8, hx8, rfl⟩ := hL7
  have tt7 : ∀ L, bfun .tuple [.d (.lst (tb.map (dT D.str)))] L = .ok (.d (dT (dT D.str) tb)) L := fun L => bf_tuple_lst (by rw [List.length_map, tb1]; show _ ≤ 16777216; omega)
  have st := set_hand (xs := xs8) (a := a8) (b := b8) (R := R ++ [lsN ss, lsD ds]) (A := .d (dT D.str alph)) (B := .d (dT dN ss)) (C := .d (dT eDesk ds)) (E := .d (dN t)) (F := .d (dT (dT D.str) tb))
  have fz : frz frzLim (dk xs8 a8 b8 ((R ++ [lsN ss, lsD ds]) ++ [.dct hk5 [.d (dT D.str alph), .d (dT dN ss), .d (dT eDesk ds), .d (dN t), .d (dT (dT D.str) tb)]])) (.r ((R ++ [lsN ss, lsD ds]).length + 2)) = some (.dct hk5 [dT D.str alph, dT dN ss, dT eDesk ds, dN t, dT (dT D.str) tb], dk xs8 a8 b8 ((R ++ [lsN ss, lsD ds]) ++ [.dead])) := frz_hand (R := R ++ [lsN ss, lsD ds]) (vs := [dT D.str alph, dT dN ss, dT eDesk ds, dN t, dT (dT D.str) tb])
  have run : evSs T (callN T (n + 2)) b__law_little (some (.r 1) :: none :: List.replicate 15 none) (dk xs a b R) = .ret (.d (hd ⟨alph, ss, ds, tb, t⟩)) (dk xs8 a8 b8 ((R ++ [lsN ss, lsD ds]) ++ [.dead])) := by
    refine (shapes_run (r := b__law_little.drop 2)).trans ?_
    unfold b__law_little
    simp only [List.drop, List.replicate]
    have sq : ∀ L, seqOf L (.d (eShape (lots, clock))) = some [.d (dT dN lots), .d (.int (clock : Int))] := fun L => rfl
    have dn := d2_new (xs := xs2) (a := a2) (b := b2) (R := R) (A := .lst [])
    simp_arith [e1, sq, l4, e2, tt2, dkl_new, dn, e3, e5, e6, List.length_map, tts, ttd, e8, md, ends_lit, e7, tt7, st, fz]
    rfl
  refine ⟨.d (hd ⟨alph, ss, ds, tb, t⟩), dk xs8 a8 b8 R, ?_, ⟨alph, ss, ds, tb, t⟩, rfl, ⟨⟨?_, ?_, ?_, ?_, ?_, ?_, ?_⟩, ⟨?_, ?_⟩, ?_, aw, ?_, ?_⟩, xs8, a8, b8, hx8, rfl⟩
  · rw [callN_succ]
    refine (run_ret (d := d__law_little) rfl rfl run).trans ?_
    rw [List.append_assoc]
    exact leave_dk
  · show ds.length = 2 ∨ ds.length = 3
    omega
  · show alph.length = ds.length
    omega
  · show ss.length = ds.length
    omega
  · intro j dd aa e1' e2' r hr
    obtain ⟨aa', m, s, g1, g2, g3, _, _, k⟩ := desk j dd e1'
    have e2'' : alph[j]? = some aa := e2'
    rw [g1] at e2''
    cases e2''
    have := k.rows r hr
    rw [k.l1]
    exact this
  · intro j dd s' e1' e2'
    obtain ⟨aa', m, s, g1, g2, g3, _, _, k⟩ := desk j dd e1'
    have e2'' : ss[j]? = some s' := e2'
    rw [g3] at e2''
    cases e2''
    exact ⟨by rw [k.l1, k.l2], k.marks⟩
  · intro dd hd
    obtain ⟨j, hj⟩ := List.getElem?_of_mem hd
    obtain ⟨aa', m, s, g1, g2, g3, _, _, k⟩ := desk j dd hj
    rw [k.l1]
    omega
  · exact s4
  · show t < tb.length
    omega
  · intro r hr
    show r.length = ss.foldl (· * ·) 1
    rw [← prodG_range]
    exact (tb2 r hr).1
  · show tb.length ≤ 4
    omega
  · exact fun r hr => (tb2 r hr).2
  · exact fun s hs => (s41 s hs).1
end K64
end
section
set_option Elab.async false
set_option linter.all false
set_option maxRecDepth 100000
set_option maxHeartbeats 400000
/-! YF: talks: the way of a story. -/
namespace K64
open L3
def roomOf (mv : List (List Nat)) (own w : List Nat) : Nat := w.foldl (fun r c => (mv.getD r []).getD (own.idxOf c) 0) 0
structure MvOk (own : List Nat) (mv : List (List Nat)) : Prop where
  pos : 0 < mv.length
  rows : ∀ r ∈ mv, r.length = own.length ∧ ∀ x ∈ r, x < mv.length
def endD (t : Nat) (row : List (List Nat)) : D := .tup [.str [101, 110, 100], dN t, dT D.str row]
def askD (seat : Nat) (mv : List (List Nat)) (mk : List Nat) (further : List D) : D := .tup [.str [97, 115, 107], dN seat, dT (dT dN) mv, dT dN mk, .tup further]
inductive Walk (alph words : List (List Nat)) : D → List Nat → Nat → List (List Nat) → Prop
  | fin (t : Nat) (row : List (List Nat)) : Walk alph words (endD t row) [] t row
  | ask {seat : Nat} {own w : List Nat} {mv : List (List Nat)} {mk : List Nat} {further : List D} {d : D} {as : List Nat} {t : Nat} {row : List (List Nat)} : alph[seat]? = some own → words[seat]? = some w → MvOk own mv → mk.length = mv.length →
      further[mk.getD (roomOf mv own w) 0]? = some d → Walk alph words d as t row → Walk alph words (askD seat mv mk further) (mk.getD (roomOf mv own w) 0 :: as) t row
theorem MvOk.cell {own : List Nat} {mv : List (List Nat)} (o : MvOk own mv) {r c : Nat} (hr : r < mv.length) (hc : c ∈ own) : ∃ row, mv[r]? = some row ∧ row[own.idxOf c]? = some ((mv.getD r []).getD (own.idxOf c) 0) ∧ (mv.getD r []).getD (own.idxOf c) 0 < mv.length := by
  obtain ⟨row, er⟩ := get_ex hr
  obtain ⟨h1, h2⟩ := o.rows row (List.mem_of_getElem? er)
  obtain ⟨x, ex⟩ := get_ex (xs := row) (i := own.idxOf c) (by rw [h1]; exact List.idxOf_lt_length_iff.mpr hc)
  rw [getD_of er, getD_of ex]
  exact ⟨row, er, ex, h2 x (List.mem_of_getElem? ex)⟩
theorem roomOf_lt {own : List Nat} {mv : List (List Nat)} (o : MvOk own mv) {w : List Nat} (hw : ∀ c ∈ w, c ∈ own) : roomOf mv own w < mv.length := by
  have : ∀ (w : List Nat) (r : Nat), (∀ c ∈ w, c ∈ own) → r < mv.length → w.foldl (fun r c => (mv.getD r []).getD (own.idxOf c) 0) r < mv.length := by
    intro w
    induction w with
    | nil => exact fun r _ hr => hr
    | cons c cs ih =>
      intro r hw hr
      obtain ⟨_, _, _, h⟩ := o.cell hr (hw c List.mem_cons_self)
      exact ih _ (fun d hd => hw d (List.mem_cons_of_mem _ hd)) h
  exact this w 0 hw o.pos
section
variable {n : Nat} {L : LH} {own w : List Nat} {mv : List (List Nat)} {mk : List Nat}
theorem answer_to_ok (o : MvOk own mv) (hm : mk.length = mv.length) (hw : ∀ c ∈ w, c ∈ own) :
    callN T (n + 1) 33 [.d (dT (dT dN) mv), .d (dT dN mk), .d (.str own), .d (.str w)] L = .ok (.d (dN (mk.getD (roomOf mv own w) 0))) L := by
  rw [callN_succ]
  refine (run_ret (d := d_answer_to) rfl rfl ?_).trans leave_same
  show evSs T (callN T n) b_answer_to [some (.d (dT (dT dN) mv)), some (.d (dT dN mk)), some (.d (.str own)), some (.d (.str w)), none, none] L = _
  have lp : (evS T (callN T n) x_answer_to_1 [some (.d (dT (dT dN) mv)), some (.d (dT dN mk)), some (.d (.str own)), some (.d (.str w)), some (.d (.int 0)), none] L).nx fun ρ' L' => L' = L ∧ ∃ p5, ρ' = [some (.d (dT (dT dN) mv)), some (.d (dT dN mk)), some (.d (.str own)), some (.d (.str w)), some (.d (dN (roomOf mv own w))), p5] := by
    unfold x_answer_to_1
    rw [evS_forr]
    simp_arith [chars_map]
    refine for_nx (fun r c => (mv.getD r []).getD (own.idxOf c) 0) 0 (fun (r : Nat) ρ => r < mv.length ∧ ∃ p5, ρ = [some (.d (dT (dT dN) mv)), some (.d (dT dN mk)), some (.d (.str own)), some (.d (.str w)), some (.d (dN r)), p5]) rfl ⟨o.pos, none, rfl⟩ ?_ ?_
    · rintro r c ρ hc ⟨hr, p5, rfl⟩
      obtain ⟨row, e1, e2, e3⟩ := o.cell hr (hw c hc)
      simp_arith [getI_r_dN, List.getElem?_map, e1, sidx_ty, sidx (hw c hc), e2]
      exact ⟨e3, _, rfl⟩
    · rintro ρ' ⟨_, p5, rfl⟩
      exact ⟨rfl, p5, rfl⟩
  obtain ⟨ρ', L', e, rfl, p5, rfl⟩ := lp.ex
  have hr := roomOf_lt o hw
  obtain ⟨x, ex⟩ := get_ex (xs := mk) (i := roomOf mv own w) (by rw [hm]; exact hr)
  unfold b_answer_to
  simp_arith [e, getI_r_dN, List.getElem?_map, ex]
  rw [getD_of ex]
theorem x_answered {call : Nat → List VL → LH → Res VL} {p0 p1 p3 p7 : Option VL} {words : List (List Nat)} {seat : Nat} {further : List D} (o : MvOk own mv) (hw : ∀ c ∈ w, c ∈ own) (e0 : words[seat]? = some w) :
    ∃ ρ' L', evS T call x__law_answered_1 [p0, p1, some (.d (dT D.str words)), p3, some (.d (askD seat mv mk further)), some (.d (.int 0)), some (.d (.str own)), p7] L = .next ρ' L' ∧ L' = L ∧ ∃ p7, ρ' = [p0, p1, some (.d (dT D.str words)), p3, some (.d (askD seat mv mk further)), some (.d (dN (roomOf mv own w))), some (.d (.str own)), p7] := by
  refine Fl.nx.ex (Q := fun (ρ' : Env) (L' : LH) => L' = L ∧ ∃ p7, ρ' = [p0, p1, some (.d (dT D.str words)), p3, some (.d (askD seat mv mk further)), some (.d (dN (roomOf mv own w))), some (.d (.str own)), p7]) ?_
  unfold x__law_answered_1
  rw [evS_forr]
  simp_arith [askD, getI_r_dN, List.getElem?_map, e0, chars_map]
  refine for_nx (fun r c => (mv.getD r []).getD (own.idxOf c) 0) 0 (fun (r : Nat) ρ => r < mv.length ∧ ∃ p7, ρ = [p0, p1, some (.d (dT D.str words)), p3, some (.d (askD seat mv mk further)), some (.d (dN r)), some (.d (.str own)), p7]) rfl ⟨o.pos, p7, rfl⟩ ?_ ?_
  · rintro r c ρ hc ⟨hr, p7, rfl⟩
    obtain ⟨row, e1, e2, e3⟩ := o.cell hr (hw c hc)
    simp_arith [askD, getI_r_dN, List.getElem?_map, e1, sidx_ty, sidx (hw c hc), e2]
    exact ⟨e3, _, rfl⟩
  · rintro ρ' ⟨_, p7, rfl⟩
    exact ⟨rfl, p7, rfl⟩
end
end K64
end
section
set_option Elab.async false
set_option linter.all false
set_option maxRecDepth 100000
set_option maxHeartbeats 400000
/-! YG: talks: gone along. -/
namespace K64
open L3
theorem c_eq_s {L : LH} {s t : List Nat} : cmpop .eq L (.d (.str s)) (.d (.str t)) = some (s == t) := id rfl
theorem c_ne_s {L : LH} {s t : List Nat} : cmpop .ne L (.d (.str s)) (.d (.str t)) = some (!(s == t)) := id rfl
def StC (alph words : List (List Nat)) : Prop := ∀ (i : Nat) (w own : List Nat), words[i]? = some w → alph[i]? = some own → ∀ c ∈ w, c ∈ own
abbrev lsA (as : List Nat) : LO := .lst ((as.map dN).map .d)
theorem getI_end0 {L : LH} {t : Nat} {row : List (List Nat)} : getI L (.d (endD t row)) (.d (.int 0)) = some (.d (.str [101, 110, 100])) := id rfl
theorem getI_end1 {L : LH} {t : Nat} {row : List (List Nat)} : getI L (.d (endD t row)) (.d (.int 1)) = some (.d (dN t)) := id rfl
theorem getI_end2 {L : LH} {t : Nat} {row : List (List Nat)} : getI L (.d (endD t row)) (.d (.int 2)) = some (.d (dT D.str row)) := id rfl
theorem last_at {as : List Nat} {L : LH} {a : Nat} : getI (L ++ [lsA (as ++ [a])]) (.r L.length) (.d (.int (-1))) = some (.d (dN a)) := by
  have e : ((as ++ [a]).map dN).map VL.d = (as.map dN).map VL.d ++ [.d (dN a)] := by simp
  have g : (L ++ [lsA (as ++ [a])])[L.length]? = some (.lst ((as.map dN).map VL.d ++ [.d (dN a)])) := by rw [← e]; simp
  exact getI_rlast g
theorem app_at2 {as : List Nat} {L : LH} {a : Nat} (h : as.length ≤ 1000) : mfun .append (.r L.length) [.d (dN a)] (L ++ [lsA as]) = .ok (.d .non) (L ++ [lsA (as ++ [a])]) := by
  rw [app_last (by rw [List.length_map, List.length_map]; show _ < 16777216; omega)]
  simp [lsA]
section
variable {n : Nat} {L : LH} {alph words : List (List Nat)} {d : D} {as : List Nat} {t : Nat} {row : List (List Nat)}
theorem answered_ok (hc : StC alph words) (hw : Walk alph words d as t row) (hl : as.length ≤ 1000) :
    callN T (n + 1) 19 [.d d, .d (dT D.str alph), .d (dT D.str words)] L = .ok (.d (.tup [dT dN as, endD t row])) L := by
  rw [callN_succ]
  have lp : (evS T (callN T n) x__law_answered_2 [some (.d d), some (.d (dT D.str alph)), some (.d (dT D.str words)), some (.r L.length), some (.d d), none, none, none] (L ++ [LO.lst []])).nx fun ρ' L' => L' = L ++ [lsA as] ∧ ∃ p5 p6 p7, ρ' = [some (.d d), some (.d (dT D.str alph)), some (.d (dT D.str words)), some (.r L.length), some (.d (endD t row)), p5, p6, p7] := by
    unfold x__law_answered_2
    rw [evS_whil]
    refine while_nx (fun k ρ L' => ∃ (done rest : List Nat) (e : D) (p5 p6 p7 : Option VL), as = done ++ rest ∧ rest.length = k ∧ Walk alph words e rest t row ∧ L' = L ++ [lsA done] ∧ ρ = [some (.d d), some (.d (dT D.str alph)), some (.d (dT D.str words)), some (.r L.length), some (.d e), p5, p6, p7]) ?_ 1000000 as.length _ _ ⟨[], as, d, none, none, none, rfl, rfl, hw, rfl, rfl⟩ (by omega)
    rintro k ρ L' ⟨done, rest, e, p5, p6, p7, hd, hk, we, rfl, rfl⟩
    cases we with
    | fin =>
      refine ⟨false, ?_, (fun h => by cases h), fun _ => ⟨?_, p5, p6, p7, rfl⟩⟩
      · have : (([101, 110, 100] : List Nat) == [97, 115, 107]) = false := by decide
        simp_arith [getI_end0, c_eq_s, this]
      · rw [List.append_nil] at hd
        rw [hd]
    | @ask seat own w mv mk further e2 rest2 _ _ g1 g2 mo ml gf we2 =>
      have hwc := hc seat w own g2 g1
      refine ⟨true, ?_, fun _ => ?_, fun h => by cases h⟩
      · have : (([97, 115, 107] : List Nat) == [97, 115, 107]) = true := by decide
        simp_arith [askD, c_eq_s, this]
      · have hr := roomOf_lt mo hwc
        obtain ⟨x, ex⟩ := get_ex (xs := mk) (i := roomOf mv own w) (by rw [ml]; exact hr)
        have ex2 := getD_of (d := 0) ex
        rw [ex2] at gf hd
        obtain ⟨ρ1, L1, e1, rfl, q7, rfl⟩ := x_answered (call := callN T n) (L := L ++ [lsA done]) (p0 := some (.d d)) (p1 := some (.d (dT D.str alph))) (p3 := some (.r L.length)) (p7 := p7) (further := further) (mk := mk) mo hwc g2
        have dl : done.length ≤ 1000 := by
          have := congrArg List.length hd
          rw [List.length_append] at this
          omega
        have h1 : ∀ L, getI L (.d (askD seat mv mk further)) (.d (.int 1)) = some (.d (dN seat)) := fun L => rfl
        have h3 : ∀ L, getI L (.d (askD seat mv mk further)) (.d (.int 3)) = some (.d (dT dN mk)) := fun L => rfl
        have h4 : ∀ L, getI L (.d (askD seat mv mk further)) (.d (.int 4)) = some (.d (.tup further)) := fun L => rfl
        simp_arith [h1, h3, h4, getI_r_dN, List.getElem?_map, g1, e1, app_ty, ex, app_at2 dl, last_at, gf]
        refine ⟨rest2.length, by rw [← hk]; simp, done ++ [x], rest2, e2, _, _, _, by rw [hd]; simp, rfl, we2, rfl, rfl⟩
  obtain ⟨ρ', L', e, rfl, p5, p6, p7, rfl⟩ := lp.ex
  refine (run_ret (d := d__law_answered) (v := .d (.tup [dT dN as, endD t row])) (L' := L ++ [lsA as]) rfl rfl ?_).trans leave_app
  show evSs T (callN T n) b__law_answered [some (.d d), some (.d (dT D.str alph)), some (.d (dT D.str words)), none, none, none, none, none] L = _
  have tl := tup_last (L := L) (xs := as.map dN) (by rw [List.length_map]; show _ ≤ 16777216; omega)
  unfold b__law_answered
  simp_arith [lst_m, e, tl, t2]
theorem gone_ok (hc : StC alph words) (hw : Walk alph words d as t row) (hl : as.length ≤ 1000) :
    callN T (n + 2) 25 [.d d, .d (dT D.str alph), .d (dT D.str words)] L = .ok (.d (.tup [dT dN as, endD t row])) L := by
  rw [callN_succ]
  have lp : (evS T (callN T (n + 1)) x_gone_along_1 [some (.d d), some (.d (dT D.str alph)), some (.d (dT D.str words)), some (.r L.length), some (.d d), none, none, none, none, none] (L ++ [LO.lst []])).nx fun ρ' L' => L' = L ++ [lsA as] ∧ ∃ p5 p6 p7 p8 p9, ρ' = [some (.d d), some (.d (dT D.str alph)), some (.d (dT D.str words)), some (.r L.length), some (.d (endD t row)), p5, p6, p7, p8, p9] := by
    unfold x_gone_along_1
    rw [evS_whil]
    refine while_nx (fun k ρ L' => ∃ (done rest : List Nat) (e : D) (p5 p6 p7 p8 p9 : Option VL), as = done ++ rest ∧ rest.length = k ∧ Walk alph words e rest t row ∧ L' = L ++ [lsA done] ∧ ρ = [some (.d d), some (.d (dT D.str alph)), some (.d (dT D.str words)), some (.r L.length), some (.d e), p5, p6, p7, p8, p9]) ?_ 1000000 as.length _ _ ⟨[], as, d, none, none, none, none, none, rfl, rfl, hw, rfl, rfl⟩ (by omega)
    rintro k ρ L' ⟨done, rest, e, p5, p6, p7, p8, p9, hd, hk, we, rfl, rfl⟩
    cases we with
    | fin =>
      refine ⟨false, ?_, (fun h => by cases h), fun _ => ⟨?_, p5, p6, p7, p8, p9, rfl⟩⟩
      · have : (!(([101, 110, 100] : List Nat) == [101, 110, 100])) = false := by decide
        simp_arith [getI_end0, c_ne_s, this]
      · rw [List.append_nil] at hd
        rw [hd]
    | @ask seat own w mv mk further e2 rest2 _ _ g1 g2 mo ml gf we2 =>
      have hwc := hc seat w own g2 g1
      refine ⟨true, ?_, fun _ => ?_, fun h => by cases h⟩
      · have : (!(([97, 115, 107] : List Nat) == [101, 110, 100])) = true := by decide
        simp_arith [askD, c_ne_s, this]
      · have hr := roomOf_lt mo hwc
        obtain ⟨x, ex⟩ := get_ex (xs := mk) (i := roomOf mv own w) (by rw [ml]; exact hr)
        have ex2 := getD_of (d := 0) ex
        have an := answer_to_ok (n := n) (L := L ++ [lsA done]) mo ml hwc
        rw [ex2] at gf hd an
        have dl : done.length ≤ 1000 := by
          have := congrArg List.length hd
          rw [List.length_append] at this
          omega
        have sq : ∀ L, seqOf L (.d (askD seat mv mk further)) = some [.d (.str [97, 115, 107]), .d (dN seat), .d (dT (dT dN) mv), .d (dT dN mk), .d (.tup further)] := fun L => rfl
        simp_arith [sq, getI_r_dN, List.getElem?_map, g1, g2, app_ty, an, app_at2 dl, last_at, gf]
        refine ⟨rest2.length, by rw [← hk]; simp, done ++ [x], rest2, e2, _, _, _, _, _, by rw [hd]; simp, rfl, we2, rfl, rfl⟩
  obtain ⟨ρ', L', e, rfl, p5, p6, p7, p8, p9, rfl⟩ := lp.ex
  refine (run_ret (d := d_gone_along) (v := .d (.tup [dT dN as, endD t row])) (L' := L ++ [lsA as]) rfl rfl ?_).trans leave_app
  show evSs T (callN T (n + 1)) b_gone_along [some (.d d), some (.d (dT D.str alph)), some (.d (dT D.str words)), none, none, none, none, none, none, none] L = _
  have tl := tup_last (L := L) (xs := as.map dN) (by rw [List.length_map]; show _ ≤ 16777216; omega)
  unfold b_gone_along
  simp_arith [lst_m, e, tl, t2]
end
end K64
end
section
set_option Elab.async false
set_option linter.all false
set_option maxRecDepth 100000
set_option maxHeartbeats 400000
/-! YH: ends: what they tell; course, heard. -/
namespace K64
open L3
def dh (t : Nat) (row : List (List Nat)) : Hand := ⟨[], [], [], row.map fun x => [x], t⟩
def plc (t : Nat) (row : List (List Nat)) (m : Nat) : Nat := placeOf (dh t row) m
theorem dh_len {t : Nat} {row : List (List Nat)} : (dh t row).table.length = row.length := by
  show (row.map fun x => [x]).length = _
  rw [List.length_map]
theorem dh_wt {t : Nat} {row : List (List Nat)} (h : t < row.length) : WT (dh t row) := ⟨by rw [dh_len]; exact h, fun r hr => by
  obtain ⟨x, _, rfl⟩ := List.mem_map.mp hr
  rfl⟩
section
variable {n : Nat} {L : LH} {t m : Nat} {row : List (List Nat)}
theorem plc_lt (h : t < row.length) : plc t row m < row.length := by
  have := placeOf_lt (dh_wt h) m
  rwa [dh_len] at this
theorem plc_succ (h : t < row.length) : plc t row (m + 1) = if plc t row m + 1 < row.length then plc t row m + 1 else t := by
  have := placeOf_succ (dh_wt h) m
  unfold nextP at this
  rw [dh_len] at this
  exact this
theorem plc_eq : plc t row m = if m < row.length then m else t + (m - t) % (row.length - t) := by
  unfold plc placeOf
  rw [dh_len]
  rfl
theorem on_ok (h : t < row.length) (hm : m ≤ 1000) : callN T (n + 1) 20 [.d (endD t row), .d (.int (m : Int))] L = .ok (.d (.str (row.getD (plc t row m) []))) L := by
  rw [callN_succ]
  refine (run_ret (d := d__law_on) rfl rfl ?_).trans leave_same
  show evSs T (callN T n) b__law_on [some (.d (endD t row)), some (.d (.int (m : Int))), none, none] L = _
  have p0 : plc t row 0 = 0 := by rw [plc_eq, if_pos (by omega)]
  have lp : (evS T (callN T n) x__law_on_1 [some (.d (endD t row)), some (.d (.int (m : Int))), some (.d (.int 0)), none] L).nx fun ρ' L' => L' = L ∧ ∃ q, ρ' = [some (.d (endD t row)), some (.d (.int (m : Int))), some (.d (dN (plc t row m))), q] := by
    unfold x__law_on_1
    have hsm : small (m : Int) = true := decide_eq_true (by omega)
    rw [evS_forr]
    simp_arith [hsm]
    refine forI_nx (fun i ρ L' => L' = L ∧ i ≤ m ∧ ∃ q, ρ = [some (.d (endD t row)), some (.d (.int (m : Int))), some (.d (dN (plc t row i))), q]) (fun _ _ _ _ => rfl) ⟨rfl, Nat.zero_le _, none, ?_⟩ ?_ ?_
    · rw [p0]; rfl
    · rintro i x ρ L' hx ⟨rfl, hi, q, rfl⟩
      have hi2 : i < m := by
        have := (List.getElem?_eq_some_iff.mp hx).1
        simpa [rangeI] using this
      have ps := plc_succ (m := i) h
      by_cases hp : plc t row i + 1 < row.length
      · rw [if_pos hp] at ps
        have hp' : (plc t row i : Int) + 1 < (row.length : Int) := by omega
        simp_arith [getI_end2, getI_end1, dN, c_lt, List.length_map, hp', decide_true]
        refine ⟨hi2, some x, ?_⟩
        rw [ps]; rfl
      · rw [if_neg hp] at ps
        have hp' : ¬ (plc t row i : Int) + 1 < (row.length : Int) := by omega
        simp_arith [getI_end2, getI_end1, dN, c_lt, List.length_map, hp', decide_false]
        refine ⟨hi2, some x, ?_⟩
        rw [ps]
    · rintro ρ' L' ⟨rfl, _, q, rfl⟩
      have : (rangeI 0 ((m : Int)).toNat).length = m := by simp [rangeI]
      rw [this]
      exact ⟨rfl, q, rfl⟩
  obtain ⟨ρ', L', e, rfl, q, rfl⟩ := lp.ex
  obtain ⟨o, eo⟩ := get_ex (plc_lt (m := m) h)
  unfold b__law_on
  simp_arith [e, getI_end2, getI_r_dN, List.getElem?_map, eo]
  rw [getD_of eo]
theorem told_on_ok (h : t < row.length) : callN T (n + 1) 32 [.d (endD t row), .d (.int (m : Int))] L = .ok (.d (.str (row.getD (plc t row m) []))) L := by
  rw [callN_succ]
  refine (run_ret (d := d_told_on) rfl rfl ?_).trans leave_same
  show evSs T (callN T n) b_told_on [some (.d (endD t row)), some (.d (.int (m : Int))), none, none, none] L = _
  obtain ⟨o, eo⟩ := get_ex (plc_lt (m := m) h)
  rw [getD_of eo]
  rw [plc_eq] at eo
  have sq : ∀ L, seqOf L (.d (endD t row)) = some [.d (.str [101, 110, 100]), .d (.int (t : Int)), .d (dT D.str row)] := fun L => rfl
  unfold b_told_on
  by_cases hm : m < row.length
  · rw [if_pos hm] at eo
    have hm' : (m : Int) < (row.length : Int) := by omega
    simp_arith [sq, c_lt, List.length_map, hm', decide_true, List.getElem?_map, eo]
  · rw [if_neg hm] at eo
    have hm' : ¬ (m : Int) < (row.length : Int) := by omega
    have e1 : (row.length : Int) - (t : Int) = ((row.length - t : Nat) : Int) := by omega
    have e2 : (m : Int) - (t : Int) = ((m - t : Nat) : Int) := by omega
    have e3 : ((t : Int) + ((m - t : Nat) : Int) % ((row.length - t : Nat) : Int)) = ((t + (m - t) % (row.length - t) : Nat) : Int) := by
      rw [Int.natCast_add, Int.natCast_emod]
    have hp : (0 : Int) < ((row.length - t : Nat) : Int) := by omega
    simp_arith [sq, c_lt, List.length_map, hm', decide_false, e1, e2, b_mod hp, e3, List.getElem?_map, eo]
variable {alph words : List (List Nat)} {d : D} {as : List Nat}
theorem course_ok (hc : StC alph words) (hw : Walk alph words d as t row) (hl : as.length ≤ 1000) : callN T (n + 3) 10 [.d d, .d (dT D.str alph), .d (dT D.str words)] L = .ok (.d (dT dN as)) L := by
  rw [callN_succ]
  refine (run_ret (d := d_course) rfl rfl ?_).trans leave_same
  show evSs T (callN T (n + 2)) b_course [some (.d d), some (.d (dT D.str alph)), some (.d (dT D.str words))] L = _
  unfold b_course
  simp_arith [gone_ok (n := n) hc hw hl]
theorem heard_ok {w0 : List Nat} (hc : StC alph words) (hw : Walk alph words d as t row) (hl : as.length ≤ 1000) (h : t < row.length) (h0 : words[0]? = some w0) (hm : w0.length = m) : callN T (n + 3) 11 [.d d, .d (dT D.str alph), .d (dT D.str words)] L = .ok (.d (.str (row.getD (plc t row m) []))) L := by
  rw [callN_succ]
  refine (run_ret (d := d_heard) rfl rfl ?_).trans leave_same
  show evSs T (callN T (n + 2)) b_heard [some (.d d), some (.d (dT D.str alph)), some (.d (dT D.str words))] L = _
  have g := told_on_ok (n := n + 1) (L := L) (m := m) h
  unfold b_heard
  simp_arith [gone_ok (n := n) hc hw hl, List.getElem?_map, h0, hm, g]
end
end K64
end
section
set_option Elab.async false
set_option linter.all false
set_option maxRecDepth 100000
set_option maxHeartbeats 400000
/-! YI: known marks sorted; the end of a talk. -/
namespace K64
open L3
def eP (p : Nat × Nat) : D := .tup [dN p.1, dN p.2]
def leP (p q : Nat × Nat) : Bool := decide (p.1 < q.1 ∨ (p.1 = q.1 ∧ p.2 ≤ q.2))
theorem le_eP (a b : Nat × Nat) : leP a b = PySem.W.dataLe false py (eP a) (eP b) := by
  have h : PySem.W.dataLe false py (eP a) (eP b) = decide ((a.1 : Int) < (b.1 : Int) ∨ ((a.1 : Int) = (b.1 : Int) ∧ (a.2 : Int) ≤ (b.2 : Int))) :=
    congrFun (congrFun (PySem.W.dataLe_ii (fun p : Nat × Nat => (p.1 : Int)) (fun p => (p.2 : Int))) a) b
  rw [h]
  unfold leP
  apply decide_eq_decide.mpr
  omega
theorem sort_eP (kn : List (Nat × Nat)) : (kn.map eP).mergeSort (PySem.W.dataLe false py) = (kn.mergeSort leP).map eP :=
  (PySem.W.sort_maps eP (r := leP) (s := PySem.W.dataLe false py) fun a _ b _ => le_eP a b).symm
theorem bf_sorted {L : LH} {kn : List (Nat × Nat)} (h : kn.length ≤ 1000) : bfun (.sorted false) [.d (.lst (kn.map eP))] L = .ok (.d (.lst ((kn.mergeSort leP).map eP))) L := by
  have e1 : lstOf L (.d (.lst (kn.map eP))) = some ((kn.map eP).map .d) := rfl
  have e2 : D.okqs eqLim (kn.map eP) = true := okqs_map (fun p => by rfl) kn
  have e3 : sortB (kn.map eP) = true := by
    unfold sortB
    simp only [Bool.and_eq_true, Bool.or_eq_true, List.all_eq_true]
    refine ⟨fun a ha b hb => ?_, .inl fun a ha => ?_⟩
    · obtain ⟨p, _, rfl⟩ := List.mem_map.mp ha
      obtain ⟨q, _, rfl⟩ := List.mem_map.mp hb
      rfl
    · obtain ⟨p, _, rfl⟩ := List.mem_map.mp ha
      rfl
  simp only [bfun, bSorted, e1, allD_d, e2, e3, Bool.and_self, if_true, sort_eP]
  exact mkL_d (by rw [List.length_map, (List.mergeSort_perm kn leP).length_eq]; show _ ≤ 16777216; omega)
theorem leP_trans (a b c : Nat × Nat) (h1 : leP a b = true) (h2 : leP b c = true) : leP a c = true := by
  unfold leP at *
  simp only [decide_eq_true_eq] at *
  omega
theorem leP_total (a b : Nat × Nat) : (leP a b || leP b a) = true := by
  unfold leP
  simp only [Bool.or_eq_true, decide_eq_true_eq]
  omega
theorem seats_sorted {kn : List (Nat × Nat)} {n : Nat} (h : (kn.map (·.1)).Perm (List.range n)) : (kn.mergeSort leP).map (·.1) = List.range n := by
  refine List.Perm.eq_of_pairwise (le := fun a b => a ≤ b) (fun a b _ _ h1 h2 => Nat.le_antisymm h1 h2) ?_ ?_ (((List.mergeSort_perm kn leP).map _).trans h)
  · refine List.pairwise_map.mpr ((List.pairwise_mergeSort leP_trans leP_total kn).imp fun {a b} hab => ?_)
    unfold leP at hab
    simp only [decide_eq_true_eq] at hab
    omega
  · exact List.pairwise_lt_range.imp fun h => Nat.le_of_lt h
/-- clerks still to be asked, and the marks that are known -/
structure KnOk (h : Hand) (left : List Nat) (kn : List (Nat × Nat)) : Prop where
  perm : (left ++ kn.map (·.1)).Perm (List.range h.desks.length)
  lt : ∀ p ∈ kn, ∃ z, h.sizes[p.1]? = some z ∧ p.2 < z
def msOf (kn : List (Nat × Nat)) : List Nat := (kn.mergeSort leP).map (·.2)
def lastRow (h : Hand) (ms : List Nat) : List (List Nat) := h.table.map fun r => r.getD (foldAt h.sizes ms) []
def agree (h : Hand) (words : List (List Nat)) (m : Nat) (kn : List (Nat × Nat)) : Prop := ∀ p ∈ kn, p.2 = mark h (behind h words m) p.1
section
variable {h : Hand} {kn : List (Nat × Nat)} {words : List (List Nat)} {m : Nat}
theorem KnOk.seats (k : KnOk h [] kn) : (kn.mergeSort leP).map (·.1) = List.range h.desks.length := seats_sorted k.perm
theorem KnOk.len (k : KnOk h [] kn) : (msOf kn).length = h.desks.length := by
  have := congrArg List.length k.seats
  rw [List.length_map, List.length_range] at this
  rw [msOf, List.length_map, this]
theorem KnOk.klen (k : KnOk h left kn) : kn.length ≤ h.desks.length := by
  have := k.perm.length_eq
  rw [List.length_append, List.length_map, List.length_range] at this
  omega
theorem KnOk.get (k : KnOk h [] kn) {i a : Nat} (e : (msOf kn)[i]? = some a) : (i, a) ∈ kn := by
  unfold msOf at e
  rw [List.getElem?_map] at e
  obtain ⟨p, ep, rfl⟩ := Option.map_eq_some_iff.mp e
  have hi : i < (kn.mergeSort leP).length := (List.getElem?_eq_some_iff.mp ep).1
  have e2 : ((kn.mergeSort leP).map (·.1))[i]? = some p.1 := by rw [List.getElem?_map, ep]; rfl
  rw [k.seats] at e2
  have hl : (kn.mergeSort leP).length = h.desks.length := by
    have := congrArg List.length k.seats
    rwa [List.length_map, List.length_range] at this
  rw [List.getElem?_range (by omega)] at e2
  have : i = p.1 := Option.some.inj e2
  subst this
  exact (List.mergeSort_perm kn leP).mem_iff.mp (List.mem_of_getElem? ep)
theorem KnOk.agreed (k : KnOk h [] kn) (a : agree h words m kn) : msOf kn = marksL h (behind h words m) := by
  apply List.ext_getElem?
  intro i
  unfold marksL
  by_cases hi : i < h.desks.length
  · obtain ⟨x, ex⟩ := get_ex (xs := msOf kn) (i := i) (by rw [k.len]; exact hi)
    rw [ex, List.getElem?_map, List.getElem?_range hi]
    have : x = mark h (behind h words m) i := a _ (k.get ex)
    show some x = some _
    rw [this]
  · rw [List.getElem?_eq_none (by rw [k.len]; omega), List.getElem?_eq_none (by rw [List.length_map, List.length_range]; omega)]
theorem foldAt_lt : ∀ (ss ms : List Nat), ms.length = ss.length → (∀ (i a s : Nat), ms[i]? = some a → ss[i]? = some s → a < s) → foldAt ss ms < ss.foldl (· * ·) 1 := by
  have key : ∀ (ss ms : List Nat) (a b : Nat), a < b → ms.length = ss.length → (∀ (i a s : Nat), ms[i]? = some a → ss[i]? = some s → a < s) → (List.zip ss ms).foldl (fun a p => a * p.1 + p.2) a < ss.foldl (· * ·) b := by
    intro ss
    induction ss with
    | nil => intro ms a b h _ _; cases ms <;> exact h
    | cons s ss ih =>
      intro ms a b h hl hm
      cases ms with
      | nil => simp at hl
      | cons x ms =>
        rw [List.zip_cons_cons, List.foldl_cons, List.foldl_cons]
        refine ih ms _ _ ?_ (by simpa using hl) fun i a s e1 e2 => hm (i + 1) a s (by simpa using e1) (by simpa using e2)
        have h0 := hm 0 x s rfl rfl
        have : (a + 1) * s ≤ b * s := Nat.mul_le_mul_right s h
        rw [Nat.succ_mul] at this
        show a * s + x < b * s
        omega
  exact fun ss ms hl hm => key ss ms 0 1 (by decide) hl hm
theorem KnOk.at_lt (k : KnOk h [] kn) (w : WF h) : foldAt h.sizes (msOf kn) < h.sizes.foldl (· * ·) 1 := by
  refine foldAt_lt _ _ (by rw [k.len, w.ls]) fun i a s e1 e2 => ?_
  obtain ⟨z, ez, hz⟩ := k.lt _ (k.get e1)
  rw [e2] at ez
  cases ez
  exact hz
theorem last_ok {n : Nat} {L : LH} {ms : List Nat} (w : WF h) (t : WT h) (t4 : h.table.length ≤ 1000) (hm : foldAt h.sizes ms < h.sizes.foldl (· * ·) 1) :
    callN T (n + 1) 3 [.d (hd h), .d (.lst (ms.map dN))] L = .ok (.d (endD h.tail (lastRow h ms))) L := by
  rw [callN_succ]
  refine (run_ret (d := d__law_last) rfl rfl ?_).trans leave_same
  show evSs T (callN T n) b__law_last [some (.d (hd h)), some (.d (.lst (ms.map dN))), none, none, none, none] L = _
  have lp : (evS T (callN T n) x__law_last_1 [some (.d (hd h)), some (.d (.lst (ms.map dN))), some (.d (.int 0)), none, none, none] L).nx fun ρ' L' => L' = L ∧ ∃ a b, ρ' = [some (.d (hd h)), some (.d (.lst (ms.map dN))), some (.d (dN (foldAt h.sizes ms))), a, b, none] := by
    unfold x__law_last_1
    rw [evS_forr]
    simp_arith [hd_sizes, zipD2, zip2_items]
    refine for_nx (fun (s : Nat) p => s * p.1 + p.2) 0 (fun (s : Nat) ρ => ∃ a b, ρ = [some (.d (hd h)), some (.d (.lst (ms.map dN))), some (.d (.int s)), a, b, none]) rfl ⟨none, none, rfl⟩ ?_ ?_
    · rintro s ⟨x, y⟩ ρ hx ⟨a, b, rfl⟩
      have hs := w.sz x (List.of_mem_zip hx).1
      simp_arith [dN, b_mul (mulOk_r (j := (x : Int)) (by omega))]
      exact ⟨_, _, by rw [Int.natCast_add, Int.natCast_mul]⟩
    · rintro ρ' ⟨a, b, rfl⟩
      exact ⟨rfl, a, b, rfl⟩
  obtain ⟨ρ', L', e, rfl, a, b, rfl⟩ := lp.ex
  have x2 : evE T (callN T n) [some (.d (hd h)), some (.d (.lst (ms.map dN))), some (.d (dN (foldAt h.sizes ms))), a, b, none] x__law_last_2 L' = .ok (.d (.lst ((lastRow h ms).map D.str))) L' := by
    unfold x__law_last_2
    rw [evE_lc]
    simp_arith [hd_table]
    rw [List.map_map, map_eq (items := h.table) (enc := VL.d ∘ dT D.str) (h := fun r => VL.d (.str (r.getD (foldAt h.sizes ms) []))) rfl fun r hr => ?_]
    · simp_arith
      have := mkL_map (L := L') (f := fun r : List (List Nat) => D.str (r.getD (foldAt h.sizes ms) [])) (xs := h.table) (by show _ ≤ 16777216; omega)
      rw [this]
      unfold lastRow
      rw [List.map_map]; rfl
    · obtain ⟨o, eo⟩ := get_ex (xs := r) (i := foldAt h.sizes ms) (by rw [t.wide r hr]; exact hm)
      simp_arith [Function.comp, getI_r_dN, List.getElem?_map, eo]
      rw [getD_of eo]
  have tt : bfun .tuple [.d (.lst ((lastRow h ms).map D.str))] L' = .ok (.d (dT D.str (lastRow h ms))) L' := bf_tuple_lst (by rw [List.length_map, lastRow, List.length_map]; show _ ≤ 16777216; omega)
  unfold b__law_last
  simp_arith [e, hd_tail, x2, tt, t3]
  rfl
end
end K64
end
section
set_option Elab.async false
set_option linter.all false
set_option maxRecDepth 100000
set_option maxHeartbeats 400000
/-! YJ: what a talk is, by its parts. -/
namespace K64
open L3
mutual
theorem okq_mono : ∀ (d : D) (k : Nat), D.okq k d = true → D.okq (k + 1) d = true
  | .non, k, _ => by cases k <;> rfl
  | .bl _, k, _ => by cases k <;> rfl
  | .int _, k, _ => by cases k <;> rfl
  | .str _, k, _ => by cases k <;> rfl
  | .tup xs, 0, h => by simp [D.okq] at h
  | .lst xs, 0, h => by simp [D.okq] at h
  | .tup xs, k + 1, h => okqs_mono xs k h
  | .lst xs, k + 1, h => okqs_mono xs k h
  | .dct _ _, k, h => by cases k <;> simp [D.okq] at h
  | .obj _ _ _, k, h => by cases k <;> simp [D.okq] at h
  | .cls _, k, h => by cases k <;> simp [D.okq] at h
  | .scr _, k, h => by cases k <;> simp [D.okq] at h
theorem okqs_mono : ∀ (xs : List D) (k : Nat), D.okqs k xs = true → D.okqs (k + 1) xs = true
  | [], _, _ => rfl
  | x :: xs, k, h => by
    have h' : D.okq k x = true ∧ D.okqs k xs = true := by simpa [D.okqs] using h
    simp only [D.okqs, okq_mono x k h'.1, okqs_mono xs k h'.2, Bool.and_self]
end
theorem okq_le {d : D} {k k' : Nat} (h : k ≤ k') (o : D.okq k d = true) : D.okq k' d = true := by
  obtain ⟨j, rfl⟩ := Nat.exists_eq_add_of_le h
  clear h
  induction j with
  | zero => exact o
  | succ j ih => exact okq_mono _ _ ih
theorem sg_N {n : Nat} (h : n ≤ 999999999999) : D.sg (dN n) = true := decide_eq_true (by omega)
theorem okq_N {k : Nat} (n : Nat) : D.okq k (dN n) = true := by cases k <;> rfl
theorem okq_S {k : Nat} (s : List Nat) : D.okq k (D.str s) = true := by cases k <;> rfl
theorem sg_T {α : Type} {f : α → D} {xs : List α} (h : ∀ x ∈ xs, D.sg (f x) = true) : D.sg (dT f xs) = true := by
  simp only [dT, D.sg]; exact sgs_map xs h
theorem abc_lt : ∀ c ∈ abc, c < 1114112 := by decide
theorem sg_out {t : List Nat} (o : OutOk t) : D.sg (D.str t) = true := by
  simp only [D.sg, List.all_eq_true, decide_eq_true_eq]
  exact fun c hc => abc_lt c (o.ab c hc)
theorem bulk_N {n : Nat} : (dN n).bulk = 0 := bulk_int
theorem okqs_all {k : Nat} : ∀ {xs : List D}, (∀ x ∈ xs, D.okq k x = true) → D.okqs k xs = true
  | [], _ => rfl
  | x :: xs, h => by simp only [D.okqs, h x List.mem_cons_self, okqs_all fun y hy => h y (List.mem_cons_of_mem _ hy), Bool.and_self]
theorem sgs_all : ∀ {xs : List D}, (∀ x ∈ xs, D.sg x = true) → D.sgs xs = true
  | [], _ => rfl
  | x :: xs, h => by simp only [D.sgs, h x List.mem_cons_self, sgs_all fun y hy => h y (List.mem_cons_of_mem _ hy), Bool.and_self]
theorem bulk_3 {a b c : D} : (D.tup [a, b, c]).bulk = a.bulk + b.bulk + c.bulk + 3 := by
  simp only [D.bulk, py, pys, PySem.PyData.bulk, PySem.PyData.bulkAll]; omega
theorem bulk_5 {a b c d e : D} : (D.tup [a, b, c, d, e]).bulk = a.bulk + b.bulk + c.bulk + d.bulk + e.bulk + 5 := by
  simp only [D.bulk, py, pys, PySem.PyData.bulk, PySem.PyData.bulkAll]; omega
/-- what can be shown, so deep and so large -/
structure Shw (k B : Nat) (d : D) : Prop where
  ok : D.okq (2 * k + 3) d = true
  sg : d.sg = true
  bulk : d.bulk ≤ B
theorem Shw.le {k B k' B' : Nat} {d : D} (s : Shw k B d) (h1 : k ≤ k') (h2 : B ≤ B') : Shw k' B' d := ⟨okq_le (by omega) s.ok, s.sg, Nat.le_trans s.bulk h2⟩
theorem shw_end {t : Nat} {row : List (List Nat)} (ht : t ≤ 1000) (h4 : row.length ≤ 4) (ho : ∀ o ∈ row, OutOk o) : Shw 0 120 (endD t row) := by
  refine ⟨?_, ?_, ?_⟩
  · show (D.okq 2 (.str [101, 110, 100]) && (D.okq 2 (dN t) && (D.okq 2 (dT D.str row) && true))) = true
    rw [okq_S, okq_N, okq_dT (fun s => okq_S s)]
    rfl
  · show (D.sg (.str [101, 110, 100]) && (D.sg (dN t) && (D.sg (dT D.str row) && true))) = true
    rw [sg_N (by omega), sg_T (f := D.str) (fun s hs => sg_out (ho s hs))]
    rfl
  · have b : (dT D.str row).bulk ≤ 4 * (8 + 1) := bulk_dT h4 fun o h => by rw [bulk_str]; exact (ho o h).le
    unfold endD
    rw [bulk_3, bulk_N, bulk_str]
    show 3 + 0 + _ + 3 ≤ 120
    omega
theorem shw_ask {seat : Nat} {mv : List (List Nat)} {mk : List Nat} {further : List D} {k B : Nat} (hs : seat ≤ 1000) (h1 : mv.length ≤ 4) (h2 : ∀ r ∈ mv, r.length ≤ 4 ∧ ∀ x ∈ r, x ≤ 1000) (h3 : mk.length ≤ 4) (h4 : ∀ x ∈ mk, x ≤ 1000) (h5 : further.length ≤ 4) (hf : ∀ d ∈ further, Shw k B d) : Shw (k + 1) (4 * B + 40) (askD seat mv mk further) := by
  refine ⟨?_, ?_, ?_⟩
  · show (D.okq (2 * (k + 1) + 2) (.str [97, 115, 107]) && (D.okq (2 * (k + 1) + 2) (dN seat) && (D.okq (2 * (k + 1) + 2) (dT (dT dN) mv) && (D.okq (2 * (k + 1) + 2) (dT dN mk) && (D.okqs (2 * k + 3) further && true))))) = true
    rw [okq_S, okq_N, okq_dT (fun r => okq_dT (fun n => okq_N n) r), okq_dT (fun n => okq_N n), okqs_all fun d hd => (hf d hd).ok]
    rfl
  · show (D.sg (.str [97, 115, 107]) && (D.sg (dN seat) && (D.sg (dT (dT dN) mv) && (D.sg (dT dN mk) && (D.sgs further && true))))) = true
    rw [sg_N (by omega), sg_T (f := dT dN) (fun r hr => sg_T fun x hx => sg_N (by have := (h2 r hr).2 x hx; omega)), sg_T (fun x hx => sg_N (by have := h4 x hx; omega)), sgs_all fun d hd => (hf d hd).sg]
    rfl
  · have b1 : (dT (dT dN) mv).bulk ≤ 4 * (4 * (0 + 1) + 1) := bulk_dT h1 fun r hr => bulk_dT (h2 r hr).1 fun x _ => Nat.le_of_eq bulk_N
    have b2 : (dT dN mk).bulk ≤ 4 * (0 + 1) := bulk_dT h3 fun x _ => Nat.le_of_eq bulk_N
    have b3 : (D.tup further).bulk ≤ further.length * (B + 1) := bulk_tup fun d hd => (hf d hd).bulk
    have b4 : further.length * (B + 1) ≤ 4 * (B + 1) := Nat.mul_le_mul_right _ h5
    unfold askD
    rw [bulk_5, bulk_N, bulk_str]
    show 3 + 0 + _ + _ + _ + 5 ≤ 4 * B + 40
    omega
structure Talk (h : Hand) (kn : List (Nat × Nat)) (k B : Nat) (d : D) : Prop where
  shw : Shw k B d
  walk : ∀ words m, Story h words m → agree h words m kn → ∃ as : List Nat, as.length ≤ k ∧ (∀ a ∈ as, a ≤ 1000) ∧ Walk h.alph words d as h.tail (lastRow h (marksL h (behind h words m)))
theorem Talk.le {h : Hand} {kn : List (Nat × Nat)} {k B k' B' : Nat} {d : D} (s : Talk h kn k B d) (h1 : k ≤ k') (h2 : B ≤ B') : Talk h kn k' B' d :=
  ⟨s.shw.le h1 h2, fun words m st ag => by
    obtain ⟨as, a1, a2, a3⟩ := s.walk words m st ag
    exact ⟨as, Nat.le_trans a1 h1, a2, a3⟩⟩
section
variable {h : Hand} {kn : List (Nat × Nat)} {words : List (List Nat)} {m : Nat}
theorem lastRow_ok (o : HandOk h) {ms : List Nat} (hm : foldAt h.sizes ms < h.sizes.foldl (· * ·) 1) : ∀ x ∈ lastRow h ms, OutOk x := by
  intro x hx
  obtain ⟨r, hr, rfl⟩ := List.mem_map.mp hx
  obtain ⟨y, ey⟩ := get_ex (xs := r) (i := foldAt h.sizes ms) (by rw [o.wt.wide r hr]; exact hm)
  rw [getD_of ey]
  exact o.outs r hr y (List.mem_of_getElem? ey)
theorem talk_last (o : HandOk h) (k : KnOk h [] kn) : Talk h kn 0 120 (endD h.tail (lastRow h (msOf kn))) := by
  have t8 := o.t8
  have tl := o.wt.tail
  refine ⟨shw_end (by omega) (by rw [lastRow, List.length_map]; exact t8) (lastRow_ok o (k.at_lt o.wf)), fun words m st ag => ⟨[], Nat.le_refl _, (fun a ha => by cases ha), ?_⟩⟩
  rw [← k.agreed ag]
  exact .fin _ _
theorem room_behind (w : WF h) (s : Story h words m) {seat : Nat} {dd : Desk} {own wd : List Nat} (e1 : h.desks[seat]? = some dd) (e2 : h.alph[seat]? = some own) (e3 : words[seat]? = some wd) : ∀ a, a ≤ m → (behind h words a).getD seat 0 = roomOf dd.1 own (wd.take a)
  | 0, _ => by
    have hi : seat < h.desks.length := (List.getElem?_eq_some_iff.mp e1).1
    have : (List.replicate h.desks.length 0)[seat]? = some 0 := by rw [List.getElem?_replicate, if_pos hi]
    show (List.replicate h.desks.length 0).getD seat 0 = _
    rw [getD_of this]; rfl
  | a + 1, ha => by
    have ih := room_behind w s e1 e2 e3 a (by omega)
    have hi : seat < h.desks.length := (List.getElem?_eq_some_iff.mp e1).1
    have hl : wd.length = m := (s.ok seat wd own e3 e2).1
    obtain ⟨c, ec⟩ := get_ex (xs := wd) (i := a) (by omega)
    have bs : behind h words (a + 1) = step h (behind h words a) (dayAt words a) := by
      unfold behind
      rw [List.range_succ, List.foldl_append]; rfl
    have dy : (dayAt words a).getD seat 0 = c := by
      have : (dayAt words a)[seat]? = some c := by
        unfold dayAt
        rw [List.getElem?_map, e3]
        show some (wd.getD a 0) = _
        rw [getD_of ec]
      rw [getD_of this]
    have st : (step h (behind h words a) (dayAt words a))[seat]? = some (cell dd own ((behind h words a).getD seat 0) c) := by
      unfold step
      rw [List.getElem?_map, List.getElem?_range hi]
      show some (cell _ _ _ _) = _
      rw [getD_of e1, getD_of e2, dy]
    rw [bs, getD_of st, ih, List.take_succ, ec]
    unfold roomOf cell
    rw [Option.toList_some, List.foldl_append]
    rfl
theorem mark_room (w : WF h) (s : Story h words m) {seat : Nat} {dd : Desk} {own wd : List Nat} (e1 : h.desks[seat]? = some dd) (e2 : h.alph[seat]? = some own) (e3 : words[seat]? = some wd) : mark h (behind h words m) seat = dd.2.getD (roomOf dd.1 own wd) 0 := by
  have hl : wd.length = m := (s.ok seat wd own e3 e2).1
  unfold mark
  rw [getD_of e1, room_behind w s e1 e2 e3 m (Nat.le_refl _), List.take_of_length_le (by omega)]
theorem desk_mv (w : WF h) {seat : Nat} {dd : Desk} {own : List Nat} (e1 : h.desks[seat]? = some dd) (e2 : h.alph[seat]? = some own) : MvOk own dd.1 := ⟨(w.few dd (List.mem_of_getElem? e1)).1, w.rows seat dd own e1 e2⟩
/-- what a desk is for a talk -/
structure SeatOk (h : Hand) (seat : Nat) (dd : Desk) (own : List Nat) (z : Nat) : Prop where
  d : h.desks[seat]? = some dd
  a : h.alph[seat]? = some own
  s : h.sizes[seat]? = some z
theorem seat_ex (w : WF h) {seat : Nat} (hs : seat < h.desks.length) : ∃ dd own z, SeatOk h seat dd own z := by
  obtain ⟨dd, e1⟩ := get_ex hs
  obtain ⟨own, e2⟩ := get_ex (xs := h.alph) (i := seat) (by rw [w.la]; exact hs)
  obtain ⟨z, e3⟩ := get_ex (xs := h.sizes) (i := seat) (by rw [w.ls]; exact hs)
  exact ⟨dd, own, z, e1, e2, e3⟩
theorem shw_desk (o : HandOk h) {seat : Nat} {dd : Desk} {own : List Nat} {z k B : Nat} {mk : List Nat} {further : List D} (so : SeatOk h seat dd own z) (hm : mk.length = dd.2.length) (h4 : ∀ x ∈ mk, x ≤ 1000) (h5 : further.length ≤ 4) (hf : ∀ d ∈ further, Shw k B d) : Shw (k + 1) (4 * B + 40) (askD seat dd.1 mk further) := by
  have w := o.wf
  have two := w.two
  have hs := (List.getElem?_eq_some_iff.mp so.d).1
  have fw := w.few dd (List.mem_of_getElem? so.d)
  have ml := (w.marks seat dd z so.d so.s).1
  have a4 := (o.words own (List.mem_of_getElem? so.a)).le
  exact shw_ask (by omega) fw.2 (fun r hr => by
    obtain ⟨r1, r2⟩ := w.rows seat dd own so.d so.a r hr
    exact ⟨by omega, fun x hx => by have := r2 x hx; omega⟩) (by omega) h4 h5 hf
theorem talk_ask (o : HandOk h) {seat : Nat} {dd : Desk} {own : List Nat} {z k B : Nat} {further : List D} (so : SeatOk h seat dd own z) (hl : further.length = z) (hf : ∀ (i : Nat) (d : D), further[i]? = some d → Talk h (kn ++ [(seat, i)]) k B d) : Talk h kn (k + 1) (4 * B + 40) (askD seat dd.1 dd.2 further) := by
  have w := o.wf
  have z4 := w.sz z (List.mem_of_getElem? so.s)
  obtain ⟨m1, m2⟩ := w.marks seat dd z so.d so.s
  refine ⟨shw_desk o so rfl (fun x hx => by have := m2 x hx; omega) (by omega) fun d hd => ?_, fun words m st ag => ?_⟩
  · obtain ⟨i, hi⟩ := List.getElem?_of_mem hd
    exact (hf i d hi).shw
  · obtain ⟨wd, e3⟩ := get_ex (xs := words) (i := seat) (by rw [st.ln]; exact (List.getElem?_eq_some_iff.mp so.d).1)
    have mr := mark_room w st so.d so.a e3
    have mz := mark_lt w (behind_ok w st m (Nat.le_refl _)) so.s
    obtain ⟨d, ed⟩ := get_ex (xs := further) (i := mark h (behind h words m) seat) (by rw [hl]; exact mz)
    obtain ⟨as, a1, a2, a3⟩ := (hf _ d ed).walk words m st fun p hp => by
      rcases List.mem_append.mp hp with hp | hp
      · exact ag p hp
      · rw [List.mem_singleton.mp hp]
    rw [mr] at ed mz
    refine ⟨_ :: as, by simp; omega, fun a ha => ?_, .ask so.a e3 (desk_mv w so.d so.a) m1 ed a3⟩
    rcases List.mem_cons.mp ha with rfl | ha
    · omega
    · exact a2 a ha
theorem talk_none (o : HandOk h) {seat : Nat} {dd : Desk} {own : List Nat} {z k B : Nat} {mv : List (List Nat)} {d : D} (so : SeatOk h seat dd own z) (hl : mv.length = 2) (hr : ∀ r ∈ mv, r.length = own.length ∧ ∀ x ∈ r, x < 2) (t : Talk h kn k B d) : Talk h kn (k + 1) (4 * B + 40) (askD seat mv [0, 1] [d, d]) := by
  have w := o.wf
  have two := w.two
  have hs := (List.getElem?_eq_some_iff.mp so.d).1
  have a4 := (o.words own (List.mem_of_getElem? so.a)).le
  have mo : MvOk own mv := ⟨by omega, fun r h => by rw [hl]; exact hr r h⟩
  refine ⟨shw_ask (by omega) (by omega) (fun r h => ?_) (by decide) (by decide) (show 2 ≤ 4 by decide) fun e he => ?_, fun words m st ag => ?_⟩
  · obtain ⟨r1, r2⟩ := hr r h
    exact ⟨by omega, fun x hx => by have := r2 x hx; omega⟩
  · simp only [List.mem_cons, List.not_mem_nil, or_false, or_self] at he
    rw [he]; exact t.shw
  · obtain ⟨wd, e3⟩ := get_ex (xs := words) (i := seat) (by rw [st.ln]; exact hs)
    obtain ⟨as, a1, a2, a3⟩ := t.walk words m st ag
    have lt := roomOf_lt mo (st.ok seat wd own e3 so.a).2
    rw [hl] at lt
    have h2 : ∀ r, r < 2 → ([0, 1] : List Nat).getD r 0 ≤ 1000 ∧ ([d, d] : List D)[([0, 1] : List Nat).getD r 0]? = some d := by
      intro r hr
      match r, hr with
      | 0, _ => exact ⟨by decide, rfl⟩
      | 1, _ => exact ⟨by decide, rfl⟩
    obtain ⟨g1, g2⟩ := h2 _ lt
    refine ⟨_ :: as, by simp; omega, fun a ha => ?_, .ask so.a e3 mo (by rw [hl]; rfl) g2 a3⟩
    rcases List.mem_cons.mp ha with rfl | ha
    · exact g1
    · exact a2 a ha
abbrev never : D := endD 0 [[110, 101, 118, 101, 114]]
theorem shw_never : Shw 0 120 never := shw_end (by decide) (by decide) fun o ho => by
  rw [List.mem_singleton.mp ho]
  exact ⟨by decide, by decide, by decide, by decide⟩
theorem talk_halves (o : HandOk h) {seat : Nat} {dd : Desk} {own : List Nat} {z k B : Nat} {F : Nat → List D} (so : SeatOk h seat dd own z) (hB : 120 ≤ B) (hl : ∀ j, j < 2 → (F j).length = z)
    (hf : ∀ (j i : Nat) (d : D), j < 2 → (F j)[i]? = some d → (i % 2 = j → Talk h (kn ++ [(seat, i)]) k B d) ∧ (i % 2 ≠ j → d = never)) :
    Talk h kn (k + 2) (4 * (4 * B + 40) + 40) (askD seat dd.1 (dd.2.map (· % 2)) [askD seat dd.1 dd.2 (F 0), askD seat dd.1 dd.2 (F 1)]) := by
  have w := o.wf
  have z4 := w.sz z (List.mem_of_getElem? so.s)
  obtain ⟨m1, m2⟩ := w.marks seat dd z so.d so.s
  have sf : ∀ j, j < 2 → ∀ d ∈ F j, Shw k B d := by
    intro j hj d hd
    obtain ⟨i, hi⟩ := List.getElem?_of_mem hd
    obtain ⟨f1, f2⟩ := hf j i d hj hi
    by_cases e : i % 2 = j
    · exact (f1 e).shw
    · rw [f2 e]; exact shw_never.le (Nat.zero_le _) hB
  have si : ∀ j, j < 2 → Shw (k + 1) (4 * B + 40) (askD seat dd.1 dd.2 (F j)) := fun j hj => shw_desk o so rfl (fun x hx => by have := m2 x hx; omega) (by rw [hl j hj]; exact z4) (sf j hj)
  refine ⟨shw_desk o so (by rw [List.length_map]) (fun x hx => ?_) (show 2 ≤ 4 by decide) fun d hd => ?_, fun words m st ag => ?_⟩
  · obtain ⟨y, _, rfl⟩ := List.mem_map.mp hx
    have := Nat.mod_lt y (show 2 > 0 by decide)
    omega
  · simp only [List.mem_cons, List.not_mem_nil, or_false] at hd
    rcases hd with rfl | rfl
    · exact si 0 (by decide)
    · exact si 1 (by decide)
  · obtain ⟨wd, e3⟩ := get_ex (xs := words) (i := seat) (by rw [st.ln]; exact (List.getElem?_eq_some_iff.mp so.d).1)
    have mr := mark_room w st so.d so.a e3
    have mz := mark_lt w (behind_ok w st m (Nat.le_refl _)) so.s
    have rl := roomOf_lt (desk_mv w so.d so.a) (st.ok seat wd own e3 so.a).2
    have hj : mark h (behind h words m) seat % 2 < 2 := Nat.mod_lt _ (by decide)
    obtain ⟨d, ed⟩ := get_ex (xs := F (mark h (behind h words m) seat % 2)) (i := mark h (behind h words m) seat) (by rw [hl _ hj]; exact mz)
    obtain ⟨as, a1, a2, a3⟩ := ((hf _ _ d hj ed).1 rfl).walk words m st fun p hp => by
      rcases List.mem_append.mp hp with hp | hp
      · exact ag p hp
      · rw [List.mem_singleton.mp hp]
    rw [mr] at ed mz hj
    have inner : Walk h.alph words (askD seat dd.1 dd.2 (F (dd.2.getD (roomOf dd.1 own wd) 0 % 2))) (dd.2.getD (roomOf dd.1 own wd) 0 :: as) h.tail (lastRow h (marksL h (behind h words m))) := .ask so.a e3 (desk_mv w so.d so.a) m1 ed a3
    obtain ⟨x, ex⟩ := get_ex (xs := dd.2) (i := roomOf dd.1 own wd) (by rw [m1]; exact rl)
    have e2 : (dd.2.map (· % 2)).getD (roomOf dd.1 own wd) 0 = x % 2 := getD_of (by rw [List.getElem?_map, ex]; rfl)
    rw [getD_of ex] at inner mz
    have gf : ([askD seat dd.1 dd.2 (F 0), askD seat dd.1 dd.2 (F 1)] : List D)[(dd.2.map (· % 2)).getD (roomOf dd.1 own wd) 0]? = some (askD seat dd.1 dd.2 (F (x % 2))) := by
      rw [e2]
      have : x % 2 = 0 ∨ x % 2 = 1 := by omega
      rcases this with h | h <;> rw [h] <;> rfl
    refine ⟨_ :: x :: as, by simp; omega, fun a ha => ?_, .ask so.a e3 (desk_mv w so.d so.a) (by rw [List.length_map]; exact m1) gf inner⟩
    rcases List.mem_cons.mp ha with rfl | ha
    · rw [e2]; omega
    · rcases List.mem_cons.mp ha with rfl | ha
      · omega
      · exact a2 a ha
end
end K64
end
section
set_option Elab.async false
set_option linter.all false
set_option maxRecDepth 100000
set_option maxHeartbeats 400000
/-! YK: a talk by hand is made: the parts of the walk. -/
namespace K64
open L3
theorem c_eqi {L : LH} {i j : Int} : cmpop .eq L (.d (.int i)) (.d (.int j)) = some (i == j) := id rfl
theorem c_eq_nilL {L : LH} {xs : List Nat} : cmpop .eq L (.d (.lst (xs.map dN))) (.d (.lst [])) = some xs.isEmpty := by
  have e1 : D.okq eqLim (.lst (xs.map dN)) = true := okqs_map (fun n => okq_N n) xs
  have d1 : dv dvLim L (.d (.lst (xs.map dN))) = some (.lst (xs.map dN)) := rfl
  have d2 : dv dvLim L (.d (.lst [])) = some (.lst []) := rfl
  have e2 : D.okq eqLim (.lst []) = true := rfl
  simp only [cmpop, eqD, d1, d2, e1, e2, Bool.and_self, if_true]
  cases xs <;> rfl
theorem cut_to {α : Type} {s : List α} {n : Nat} : cut s none (some (n : Int)) = s.take n := by
  unfold cut bound
  simp only [show ¬ ((n : Int) < 0) by omega, if_false, List.drop_zero, Nat.sub_zero, Int.toNat_natCast]
  by_cases h : n ≤ s.length
  · rw [Nat.min_eq_left h]
  · rw [Nat.min_eq_right (by omega), List.take_of_length_le (Nat.le_refl _), List.take_of_length_le (by omega)]
theorem cut_from {α : Type} {s : List α} {n : Nat} : cut s (some (n : Int)) none = s.drop n := by
  unfold cut bound
  simp only [show ¬ ((n : Int) < 0) by omega, if_false, Int.toNat_natCast]
  by_cases h : n ≤ s.length
  · rw [Nat.min_eq_left h, List.take_of_length_le (by rw [List.length_drop]; exact Nat.le_refl _)]
  · rw [Nat.min_eq_right (by omega), List.drop_eq_nil_of_le (Nat.le_refl _), List.drop_eq_nil_of_le (by omega)]
    simp
theorem slc_to {L : LH} {xs : List Nat} {n : Nat} (h : xs.length ≤ 1000) : slice false (.d (.lst (xs.map dN))) none (some (n : Int)) L = .ok (.d (.lst ((xs.take n).map dN))) L := by
  show mkL false (cut ((xs.map dN).map VL.d) none (some (n : Int))) L = _
  rw [cut_to, ← List.map_take, ← List.map_take]
  exact mkL_d (by rw [List.length_map, List.length_take]; show _ ≤ 16777216; omega)
theorem slc_from {L : LH} {xs : List Nat} {n : Nat} (h : xs.length ≤ 1000) : slice false (.d (.lst (xs.map dN))) (some (n : Int)) none L = .ok (.d (.lst ((xs.drop n).map dN))) L := by
  show mkL false (cut ((xs.map dN).map VL.d) (some (n : Int)) none) L = _
  rw [cut_from, ← List.map_drop, ← List.map_drop]
  exact mkL_d (by rw [List.length_map, List.length_drop]; show _ ≤ 16777216; omega)
theorem getI_l_dN {L : LH} {xs : List D} {n : Nat} : getI L (.d (.lst xs)) (.d (dN n)) = (xs[n]?).map .d := getI_lst
theorem sq_eP {L : LH} {p : Nat × Nat} : seqOf L (.d (eP p)) = some [.d (dN p.1), .d (dN p.2)] := id rfl
theorem KnOk.step {h : Hand} {left : List Nat} {kn : List (Nat × Nat)} {i at_ seat z : Nat} (k : KnOk h left kn) (e : left[at_]? = some seat) (ez : h.sizes[seat]? = some z) (hi : i < z) : KnOk h (left.take at_ ++ left.drop (at_ + 1)) (kn ++ [(seat, i)]) := by
  refine ⟨?_, fun p hp => ?_⟩
  · refine List.Perm.trans ?_ k.perm
    have hl : at_ < left.length := (List.getElem?_eq_some_iff.mp e).1
    have e2 : left = left.take at_ ++ seat :: left.drop (at_ + 1) := by
      have := List.take_append_drop at_ left
      rw [List.drop_eq_getElem_cons hl] at this
      rw [(List.getElem?_eq_some_iff.mp e).2] at this
      exact this.symm
    conv => rhs; rw [e2]
    rw [List.map_append]
    show (left.take at_ ++ left.drop (at_ + 1) ++ (kn.map (·.1) ++ [seat])).Perm _
    rw [← List.append_assoc]
    refine (List.perm_append_singleton _ _).trans ?_
    rw [List.append_assoc, List.append_assoc]
    exact List.perm_middle.symm
  · rcases List.mem_append.mp hp with hp | hp
    · exact k.lt p hp
    · rw [List.mem_singleton.mp hp]
      exact ⟨z, ez, hi⟩
theorem KnOk.mem {h : Hand} {left : List Nat} {kn : List (Nat × Nat)} (k : KnOk h left kn) {s : Nat} (hs : s ∈ left) : s < h.desks.length := by
  have := k.perm.mem_iff.mp (List.mem_append.mpr (.inl hs))
  exact List.mem_range.mp this
theorem KnOk.llen {h : Hand} {left : List Nat} {kn : List (Nat × Nat)} (k : KnOk h left kn) : left.length ≤ h.desks.length := by
  have := k.perm.length_eq
  rw [List.length_append, List.length_range] at this
  omega
section
variable {N : Nat} {R L : LH} {h : Hand} {p2 p5 p6 p7 p8 p9 p10 p11 p12 p13 p14 : Option VL}
/-- the marks that are known, in the clerks' order -/
theorem asked1_ok {call : Nat → List VL → LH → Res VL} {kn : List (Nat × Nat)} {p4 : Option VL} (hk : kn.length ≤ 1000) :
    evE T call [some (.r 1), some (.d (hd h)), p2, some (.d (.lst (kn.map eP))), p4, p5, p6, p7, p8, p9, p10, p11, p12, p13, p14] x__law_asked_1 L = .ok (.d (.lst ((msOf kn).map dN))) L := by
  have hl : (kn.mergeSort leP).length ≤ 16777216 := by rw [(List.mergeSort_perm kn leP).length_eq]; omega
  unfold x__law_asked_1
  rw [evE_lc]
  simp_arith [bf_sorted hk]
  rw [List.map_map, map_eq (items := kn.mergeSort leP) (enc := VL.d ∘ eP) (h := fun p => VL.d (dN p.2)) rfl fun p hp => ?_]
  · simp_arith
    have := mkL_map (L := L) (f := fun p : Nat × Nat => dN p.2) (xs := kn.mergeSort leP) hl
    rw [this]
    unfold msOf
    rw [List.map_map]; rfl
  · simp_arith [Function.comp, sq_eP]
/-- a talk for each mark of a clerk -/
theorem asked4_ok {seat z : Nat} {more : List Nat} {kn : List (Nat × Nat)} {b4 : Bool} {P : Nat → D → Prop} (ez : h.sizes[seat]? = some z) (z4 : z ≤ 4) (hk : kn.length ≤ 1000)
    (F : ∀ i, i < z → ∀ R' L', DK R' L' → ∃ v L'', callN T N 17 [.r 1, .d (hd h), .d (.lst (more.map dN)), .d (.lst ((kn ++ [(seat, i)]).map eP)), .d (.bl (b4 && i == 0))] L' = .ok v L'' ∧ ∃ d, v = .d d ∧ P i d ∧ DK R' L'')
    (hL : DK (R ++ [.lst []]) L) :
    ∃ ρ' L', evS T (callN T N) x__law_asked_4 [some (.r 1), some (.d (hd h)), p2, some (.d (.lst (kn.map eP))), some (.d (.bl b4)), p5, some (.d (dN seat)), p7, p8, p9, some (.d (.lst (more.map dN))), some (.r (R.length + 2)), p12, p13, p14] L = .next ρ' L' ∧
      ∃ (ds : List D) (q12 : Option VL), ds.length = z ∧ (∀ (i : Nat) (d : D), ds[i]? = some d → P i d) ∧ DK (R ++ [.lst (ds.map .d)]) L' ∧ ρ' = [some (.r 1), some (.d (hd h)), p2, some (.d (.lst (kn.map eP))), some (.d (.bl b4)), p5, some (.d (dN seat)), p7, p8, p9, some (.d (.lst (more.map dN))), some (.r (R.length + 2)), q12, p13, p14] := by
  refine Fl.nx.ex (Q := fun (ρ' : Env) (L' : LH) => ∃ (ds : List D) (q12 : Option VL), ds.length = z ∧ (∀ (i : Nat) (d : D), ds[i]? = some d → P i d) ∧ DK (R ++ [.lst (ds.map .d)]) L' ∧ ρ' = [some (.r 1), some (.d (hd h)), p2, some (.d (.lst (kn.map eP))), some (.d (.bl b4)), p5, some (.d (dN seat)), p7, p8, p9, some (.d (.lst (more.map dN))), some (.r (R.length + 2)), q12, p13, p14]) ?_
  unfold x__law_asked_4
  rw [evS_forr]
  have hsm : small (z : Int) = true := decide_eq_true (by omega)
  have g0 : ∀ L, getI L (.d (dT dN h.sizes)) (.d (dN seat)) = some (.d (.int (z : Int))) := fun L => by
    rw [getI_r_dN, List.getElem?_map, ez]; rfl
  simp_arith [hd_sizes, g0, hsm, rangeI_N]
  refine forI_nx (fun i ρ L' => ∃ (ds : List D) (q12 : Option VL), i ≤ z ∧ ds.length = i ∧ (∀ (i : Nat) (d : D), ds[i]? = some d → P i d) ∧ DK (R ++ [.lst (ds.map .d)]) L' ∧ ρ = [some (.r 1), some (.d (hd h)), p2, some (.d (.lst (kn.map eP))), some (.d (.bl b4)), p5, some (.d (dN seat)), p7, p8, p9, some (.d (.lst (more.map dN))), some (.r (R.length + 2)), q12, p13, p14]) (fun _ _ _ _ => rfl)
    ⟨[], p12, Nat.zero_le _, rfl, fun i d e => by simp at e, hL, rfl⟩ ?_ ?_
  · rintro i x ρ L' hx ⟨ds, q12, hi, hl, hP, hL', rfl⟩
    rw [List.getElem?_map] at hx
    obtain ⟨j, ej, rfl⟩ := Option.map_eq_some_iff.mp hx
    have hi2 : i < z := by
      have := (List.getElem?_eq_some_iff.mp ej).1
      rwa [List.length_range] at this
    rw [List.getElem?_range hi2] at ej
    cases ej
    obtain ⟨v, L2, e2, d, rfl, hd2, hL2⟩ := F i hi2 _ _ hL'
    have cat : binop .add (.d (.lst (kn.map eP))) (.d (.lst [.tup [dN seat, dN i]])) L' = .ok (.d (.lst ((kn ++ [(seat, i)]).map eP))) L' := by
      rw [b_lst (by rw [List.length_append, List.length_map]; show kn.length + 1 ≤ 16777216; omega), List.map_append]
      rfl
    have c0 : cmpop .eq L' (.d (dN i)) (.d (.int 0)) = some (i == 0) := by
      have e0 : ((i : Int) == 0) = (i == 0) := by
        rw [Bool.eq_iff_iff, beq_iff_eq, beq_iff_eq]
        omega
      rw [← e0]
      rfl
    have hty : mTy .append L' (.r (R.length + 2)) = true := by
      obtain ⟨ys, c, d, _, rfl⟩ := hL'
      exact dkl_ty
    obtain ⟨ys, c, e, hy, rfl⟩ := hL2
    have ap := dkl_app (xs := ys) (a := c) (b := e) (R := R) (s := ds.map .d) (v := .d d) (by rw [List.length_map, hl]; show _ < 16777216; omega)
    have fin : ∃ (ds_1 : List D) (q12 : Option VL), i + 1 ≤ z ∧ ds_1.length = i + 1 ∧ (∀ (i : Nat) (d : D), ds_1[i]? = some d → P i d) ∧ DK (R ++ [.lst (ds_1.map .d)]) (dk ys c e (R ++ [.lst (ds.map .d ++ [.d d])])) ∧ [some (.r 1), some (.d (hd h)), p2, some (.d (.lst (kn.map eP))), some (.d (.bl b4)), p5, some (.d (dN seat)), p7, p8, p9, some (.d (.lst (more.map dN))), some (.r (R.length + 2)), some (.d (dN i)), p13, p14] = [some (.r 1), some (.d (hd h)), p2, some (.d (.lst (kn.map eP))), some (.d (.bl b4)), p5, some (.d (dN seat)), p7, p8, p9, some (.d (.lst (more.map dN))), some (.r (R.length + 2)), q12, p13, p14] := by
      refine ⟨ds ++ [d], some (.d (dN i)), hi2, by simp [hl], fun j d' ej => ?_, ⟨ys, c, e, hy, by simp⟩, rfl⟩
      by_cases hj : j < ds.length
      · rw [List.getElem?_append_left hj] at ej
        exact hP j d' ej
      · have hj2 : j = i := by
          have := (List.getElem?_eq_some_iff.mp ej).1
          rw [List.length_append, List.length_singleton] at this
          omega
        subst hj2
        rw [List.getElem?_append_right (by omega), hl, Nat.sub_self] at ej
        simp only [List.getElem?_cons_zero, Option.some.injEq] at ej
        subst ej
        exact hd2
    cases b4 with
    | false =>
      rw [Bool.false_and] at e2
      simp_arith [hty, t2, l1, cat, tr_bl, e2, ap]
      exact fin
    | true =>
      rw [Bool.true_and] at e2
      simp_arith [hty, t2, l1, cat, tr_bl, c0, e2, ap]
      exact fin
  · rintro ρ' L' ⟨ds, q12, hi, hl, hP, hL', rfl⟩
    rw [List.length_map, List.length_range] at hl
    exact ⟨ds, q12, hl, hP, hL', rfl⟩
end
end K64
end
section
set_option Elab.async false
set_option linter.all false
set_option maxRecDepth 100000
set_option maxHeartbeats 400000
/-! YL: a talk by hand: clerks asked for their marks. -/
namespace K64
open L3
section
variable {n : Nat} {R L : LH} {h : Hand} {kn : List (Nat × Nat)} {left : List Nat} {p6 p7 p8 p9 p10 p11 p12 p13 p14 : Option VL}
theorem desk_0 {L : LH} {dd : Desk} : getI L (.d (eDesk dd)) (.d (.int 0)) = some (.d (dT (dT dN) dd.1)) := id rfl
theorem desk_1 {L : LH} {dd : Desk} : getI L (.d (eDesk dd)) (.d (.int 1)) = some (.d (dT dN dd.2)) := id rfl
theorem t5 {a b c d e : D} {L : LH} : mkT [VL.d a, VL.d b, VL.d c, VL.d d, VL.d e] L = .ok (.d (.tup [a, b, c, d, e])) L := mkT_d (xs := [a, b, c, d, e]) (show 5 ≤ lim by decide)
theorem asked_rest {way : Int} {b4 : Bool} {k B : Nat} (o : HandOk h) (hw : (way == 1) = false) (hne : 0 < left.length) (kk : KnOk h left kn)
    (F : ∀ (more : List Nat) (seat i : Nat), KnOk h more (kn ++ [(seat, i)]) → more.length + 1 = left.length → ∀ R' L', DK R' L' → ∃ v L'', callN T (n + 1) 17 [.r 1, .d (hd h), .d (.lst (more.map dN)), .d (.lst ((kn ++ [(seat, i)]).map eP)), .d (.bl (b4 && i == 0))] L' = .ok v L'' ∧ ∃ d, v = .d d ∧ Talk h (kn ++ [(seat, i)]) k B d ∧ DK R' L'')
    (hL : DK R L) :
    ∃ v L', evSs T (callN T (n + 1)) (b__law_asked.drop 3) [some (.r 1), some (.d (hd h)), some (.d (.lst (left.map dN))), some (.d (.lst (kn.map eP))), some (.d (.bl b4)), some (.d (.int way)), p6, p7, p8, p9, p10, p11, p12, p13, p14] L = .ret v L' ∧ ∃ d, v = .d d ∧ Talk h kn (k + 1) (4 * B + 40) d ∧ ∃ G, DK (R ++ G) L' := by
  have w := o.wf
  have two := w.two
  have ll := kk.llen
  have kl := kk.klen
  obtain ⟨L1, at_, e1, hat, hL1⟩ := draw_step (n := n) (m := left.length) hne (by omega) hL
  obtain ⟨seat, es⟩ := get_ex hat
  obtain ⟨dd, own, z, so⟩ := seat_ex w (kk.mem (List.mem_of_getElem? es))
  have z4 := w.sz z (List.mem_of_getElem? so.s)
  have hle : left.length ≤ 1000 := by omega
  have s1 : ∀ L, slice false (.d (.lst (left.map dN))) none (some (at_ : Int)) L = .ok (.d (.lst ((left.take at_).map dN))) L := fun L => slc_to hle
  have s2 : ∀ L, slice false (.d (.lst (left.map dN))) (some ((at_ : Int) + 1)) none L = .ok (.d (.lst ((left.drop (at_ + 1)).map dN))) L := fun L => slc_from hle
  have cat : ∀ L, binop .add (.d (.lst ((left.take at_).map dN))) (.d (.lst ((left.drop (at_ + 1)).map dN))) L = .ok (.d (.lst ((left.take at_ ++ left.drop (at_ + 1)).map dN))) L := fun L => by
    rw [b_lst (by rw [List.length_append, List.length_map, List.length_map, List.length_take, List.length_drop]; show _ ≤ 16777216; omega), List.map_append]
  have e1' : callN T (n + 1) 14 [.r 1, .d (.int (left.length : Int))] L = .ok (.d (.int (at_ : Int))) L1 := e1
  obtain ⟨xs1, a1, b1, hx1, rfl⟩ := hL1
  obtain ⟨ρ3, L3, e3, ds, q12, hdl, hds, hL3, rfl⟩ := asked4_ok (N := n + 1) (R := R) (h := h) (more := left.take at_ ++ left.drop (at_ + 1)) (kn := kn) (b4 := b4) (P := fun i d => Talk h (kn ++ [(seat, i)]) k B d) (p2 := some (.d (.lst (left.map dN)))) (p5 := some (.d (.int way))) (p7 := p7) (p8 := p8) (p9 := some (.d (.int (at_ : Int)))) (p12 := p12) (p13 := p13) (p14 := p14) so.s z4 (by omega)
    (fun i hi R' L' hL' => F _ _ _ (kk.step es so.s hi) (by rw [List.length_append, List.length_take, List.length_drop]; omega) R' L' hL') (L := dk xs1 a1 b1 (R ++ [.lst []])) ⟨xs1, a1, b1, hx1, rfl⟩
  obtain ⟨xs3, a3, b3, hx3, rfl⟩ := hL3
  have tn := bf_tuple_r (xs := ds) (dkl_get (xs := xs3) (a := a3) (b := b3) (R := R) (o := .lst (ds.map .d))) (by show _ ≤ 16777216; omega)
  refine ⟨.d (askD seat dd.1 dd.2 ds), dk xs3 a3 b3 (R ++ [.lst (ds.map .d)]), ?_, _, rfl, talk_ask o so hdl hds, _, xs3, a3, b3, hx3, rfl⟩
  unfold b__law_asked
  simp only [List.drop]
  have hdk : ∀ L, getI L (.d (dT eDesk h.desks)) (.d (dN seat)) = some (.d (eDesk dd)) := fun L => by
    rw [getI_r_dN, List.getElem?_map, so.d]; rfl
  simp_arith [List.length_map, e1', List.getElem?_map, es, optI, s1, s2, cat, c_eqi, hw, dkl_new, e3, hd_desks, hdk, desk_0, desk_1, tn, t5]
  rfl
theorem asked_non (o : HandOk h) : ∀ (k n : Nat) (left : List Nat) (kn : List (Nat × Nat)), left.length = k → KnOk h left kn → ∀ (R L : LH), DK R L →
    ∃ v L', callN T (n + k + 3) 17 [.r 1, .d (hd h), .d (.lst (left.map dN)), .d (.lst (kn.map eP)), .d (.bl false)] L = .ok v L' ∧ ∃ d, v = .d d ∧ Talk h kn k (120 * 5 ^ k) d ∧ DK R L'
  | 0, n, left, kn, hl, kk, R, L, hL => by
    have hn : left = [] := List.eq_nil_of_length_eq_zero hl
    subst hn
    have w := o.wf
    have two := w.two
    have kl := kk.klen
    have t8 := o.t8
    refine ⟨.d (endD h.tail (lastRow h (msOf kn))), L, ?_, _, rfl, talk_last o kk, hL⟩
    show callN T ((n + 2) + 1) 17 _ L = _
    rw [callN_succ]
    refine (run_ret (d := d__law_asked) (v := .d (endD h.tail (lastRow h (msOf kn)))) (L' := L) rfl rfl ?_).trans leave_same
    show evSs T (callN T (n + 2)) b__law_asked [some (.r 1), some (.d (hd h)), some (.d (.lst [])), some (.d (.lst (kn.map eP))), some (.d (.bl false)), none, none, none, none, none, none, none, none, none, none] L = _
    have e0 : cmpop .eq L (.d (.lst [])) (.d (.lst [])) = some true := c_eq_nilL (xs := [])
    have e1 := asked1_ok (call := callN T (n + 2)) (L := L) (h := h) (kn := kn) (p2 := some (.d (.lst []))) (p4 := some (.d (.bl false))) (p5 := none) (p6 := none) (p7 := none) (p8 := none) (p9 := none) (p10 := none) (p11 := none) (p12 := none) (p13 := none) (p14 := none) (by omega)
    have e2 : callN T (n + 2) 3 [.d (hd h), .d (.lst ((msOf kn).map dN))] L = .ok (.d (endD h.tail (lastRow h (msOf kn)))) L := last_ok (n := n + 1) w o.wt (by omega) (kk.at_lt w)
    unfold b__law_asked
    simp_arith [e0, e1, e2]
  | k + 1, n, left, kn, hl, kk, R, L, hL => by
    obtain ⟨xs, a, b, h63, rfl⟩ := hL
    have hne : 0 < left.length := by omega
    obtain ⟨v, L', e, d, rfl, td, G, hL'⟩ := asked_rest (n := n + k + 2) (R := R) (h := h) (kn := kn) (left := left) (way := 3) (b4 := false) (k := k) (B := 120 * 5 ^ k) (p6 := none) (p7 := none) (p8 := none) (p9 := none) (p10 := none) (p11 := none) (p12 := none) (p13 := none) (p14 := none) o rfl hne kk
      (fun more seat i km hml R' L' hL' => asked_non o k n more (kn ++ [(seat, i)]) (by omega) km R' L' hL') ⟨xs, a, b, h63, rfl⟩
    obtain ⟨xs', a', b', h63', rfl⟩ := hL'
    refine ⟨.d d, dk xs' a' b' R, ?_, d, rfl, td.le (Nat.le_refl _) ?_, xs', a', b', h63', rfl⟩
    · show callN T ((n + k + 3) + 1) 17 _ (dk xs a b R) = _
      rw [callN_succ]
      refine (run_ret (d := d__law_asked) (v := .d d) (L' := dk xs' a' b' (R ++ G)) rfl rfl ?_).trans leave_dk
      show evSs T (callN T (n + k + 3)) b__law_asked [some (.r 1), some (.d (hd h)), some (.d (.lst (left.map dN))), some (.d (.lst (kn.map eP))), some (.d (.bl false)), none, none, none, none, none, none, none, none, none, none] (dk xs a b R) = _
      have hem : left.isEmpty = false := by cases left <;> simp_all
      have e0 : cmpop .eq (dk xs a b R) (.d (.lst (left.map dN))) (.d (.lst [])) = some false := by rw [c_eq_nilL, hem]
      have e3 : ((3 : Int) == 0) = false := rfl
      have key : ∀ B, evSs T (callN T (n + k + 3)) (b__law_asked.take 3 ++ B) [some (.r 1), some (.d (hd h)), some (.d (.lst (left.map dN))), some (.d (.lst (kn.map eP))), some (.d (.bl false)), none, none, none, none, none, none, none, none, none, none] (dk xs a b R) = evSs T (callN T (n + k + 3)) B [some (.r 1), some (.d (hd h)), some (.d (.lst (left.map dN))), some (.d (.lst (kn.map eP))), some (.d (.bl false)), some (.d (.int 3)), none, none, none, none, none, none, none, none, none] (dk xs a b R) := by
        intro B
        unfold b__law_asked
        simp only [List.take]
        simp_arith [e0, tr_bl, c_eqi, e3]
      exact (key (b__law_asked.drop 3)).trans e
    · rw [Nat.pow_succ]
      have : 0 < 5 ^ k := Nat.pow_pos (by decide)
      omega
end
end K64
end
section
set_option Elab.async false
set_option linter.all false
set_option maxRecDepth 100000
set_option maxHeartbeats 400000
/-! YM: a talk by hand: a clerk asked in two halves. -/
namespace K64
open L3
section
variable {xs : List Int} {a b : Int} {R G : LH} {o p : LO} {s : List VL} {v : VL}
theorem dm_get : (dk xs a b (R ++ o :: G))[R.length + 2]? = some o := by
  show (R ++ o :: G)[R.length]? = _
  simp
theorem dm_set : (dk xs a b (R ++ o :: G)).set (R.length + 2) p = dk xs a b (R ++ p :: G) := by
  show LO.lst _ :: LO.dct _ _ :: (R ++ o :: G).set R.length p = _
  simp [dk]
theorem dm_app (h : s.length < lim) : mfun .append (.r (R.length + 2)) [v] (dk xs a b (R ++ .lst s :: G)) = .ok (.d .non) (dk xs a b (R ++ .lst (s ++ [v]) :: G)) := by
  rw [app_at dm_get h, dm_set]
theorem dm_ty : mTy .append (dk xs a b (R ++ .lst s :: G)) (.r (R.length + 2)) = true := (lidx_ty dm_get).2.1
end
def Half (h : Hand) (kn : List (Nat × Nat)) (seat k B z j : Nat) (ds : List D) : Prop := ds.length = z ∧ ∀ (i : Nat) (d : D), ds[i]? = some d → (i % 2 = j → Talk h (kn ++ [(seat, i)]) k B d) ∧ (i % 2 ≠ j → d = never)
section
variable {N : Nat} {R L : LH} {h : Hand} {kn : List (Nat × Nat)} {more : List Nat} {p5 p6 p7 p8 p9 p10 p11 : Option VL}
theorem halves1_ok {seat z k B j : Nat} (ez : h.sizes[seat]? = some z) (z4 : z ≤ 4) (hk : kn.length ≤ 1000)
    (F : ∀ i, i < z → ∀ R' L', DK R' L' → ∃ v L'', callN T N 17 [.r 1, .d (hd h), .d (.lst (more.map dN)), .d (.lst ((kn ++ [(seat, i)]).map eP)), .d (.bl false)] L' = .ok v L'' ∧ ∃ d, v = .d d ∧ Talk h (kn ++ [(seat, i)]) k B d ∧ DK R' L'')
    (hL : DK (R ++ [.lst []]) L) :
    ∃ ρ' L', evS T (callN T N) x__law_halves_1 [some (.r 1), some (.d (hd h)), some (.d (.lst (more.map dN))), some (.d (.lst (kn.map eP))), some (.d (dN seat)), p5, p6, p7, some (.d (dN j)), some (.r (R.length + 2)), p10, p11] L = .next ρ' L' ∧
      ∃ (ds : List D) (q10 q11 : Option VL), Half h kn seat k B z j ds ∧ DK (R ++ [.lst (ds.map .d)]) L' ∧ ρ' = [some (.r 1), some (.d (hd h)), some (.d (.lst (more.map dN))), some (.d (.lst (kn.map eP))), some (.d (dN seat)), p5, p6, p7, some (.d (dN j)), some (.r (R.length + 2)), q10, q11] := by
  refine Fl.nx.ex (Q := fun (ρ' : Env) (L' : LH) => ∃ (ds : List D) (q10 q11 : Option VL), Half h kn seat k B z j ds ∧ DK (R ++ [.lst (ds.map .d)]) L' ∧ ρ' = [some (.r 1), some (.d (hd h)), some (.d (.lst (more.map dN))), some (.d (.lst (kn.map eP))), some (.d (dN seat)), p5, p6, p7, some (.d (dN j)), some (.r (R.length + 2)), q10, q11]) ?_
  unfold x__law_halves_1
  rw [evS_forr]
  have hsm : small (z : Int) = true := decide_eq_true (by omega)
  have g0 : ∀ L, getI L (.d (dT dN h.sizes)) (.d (dN seat)) = some (.d (.int (z : Int))) := fun L => by
    rw [getI_r_dN, List.getElem?_map, ez]; rfl
  simp_arith [hd_sizes, g0, hsm, rangeI_N]
  refine forI_nx (fun i ρ L' => ∃ (ds : List D) (q10 q11 : Option VL), i ≤ z ∧ Half h kn seat k B i j ds ∧ DK (R ++ [.lst (ds.map .d)]) L' ∧ ρ = [some (.r 1), some (.d (hd h)), some (.d (.lst (more.map dN))), some (.d (.lst (kn.map eP))), some (.d (dN seat)), p5, p6, p7, some (.d (dN j)), some (.r (R.length + 2)), q10, q11]) (fun _ _ _ _ => rfl)
    ⟨[], p10, p11, Nat.zero_le _, ⟨rfl, fun i d e => by simp at e⟩, hL, rfl⟩ ?_ ?_
  · rintro i x ρ L' hx ⟨ds, q10, q11, hi, ⟨hl, hP⟩, hL', rfl⟩
    rw [List.getElem?_map] at hx
    obtain ⟨i', ej, rfl⟩ := Option.map_eq_some_iff.mp hx
    have hi2 : i < z := by
      have := (List.getElem?_eq_some_iff.mp ej).1
      rwa [List.length_range] at this
    rw [List.getElem?_range hi2] at ej
    cases ej
    have hm2 : ∀ L, binop .mod (.d (dN i)) (.d (.int 2)) L = .ok (.d (dN (i % 2))) L := fun L => by
      have := b_mod (L := L) (i := (i : Int)) (j := 2) (by decide)
      rw [show VL.d (.int ((i : Int) % 2)) = .d (dN (i % 2)) from by unfold dN; rw [Int.natCast_emod]; rfl] at this
      exact this
    have hce : ∀ L, cmpop .eq L (.d (dN (i % 2))) (.d (dN j)) = some (decide (i % 2 = j)) := fun L => by
      show some (((i % 2 : Nat) : Int) == (j : Int)) = _
      have e0 : ((((i % 2 : Nat) : Int)) == (j : Int)) = decide (i % 2 = j) := by
        rw [Bool.eq_iff_iff, beq_iff_eq, decide_eq_true_eq]
        omega
      rw [e0]
    have hty : mTy .append L' (.r (R.length + 2)) = true := by
      obtain ⟨ys, c, d, _, rfl⟩ := hL'
      exact dkl_ty
    have fin : ∀ (d : D) (L2 : LH), ((i % 2 = j → Talk h (kn ++ [(seat, i)]) k B d) ∧ (i % 2 ≠ j → d = never)) → DK (R ++ [.lst (ds.map .d ++ [.d d])]) L2 → ∃ (ds_1 : List D) (r10 r11 : Option VL), i + 1 ≤ z ∧ Half h kn seat k B (i + 1) j ds_1 ∧ DK (R ++ [.lst (ds_1.map .d)]) L2 ∧ [some (.r 1), some (.d (hd h)), some (.d (.lst (more.map dN))), some (.d (.lst (kn.map eP))), some (.d (dN seat)), p5, p6, p7, some (.d (dN j)), some (.r (R.length + 2)), some (.d (dN i)), some (.d (.bl (decide (i % 2 = j))))] = [some (.r 1), some (.d (hd h)), some (.d (.lst (more.map dN))), some (.d (.lst (kn.map eP))), some (.d (dN seat)), p5, p6, p7, some (.d (dN j)), some (.r (R.length + 2)), r10, r11] := by
      intro d L2 hd2 hL2
      refine ⟨ds ++ [d], some (.d (dN i)), some (.d (.bl (decide (i % 2 = j)))), hi2, ⟨by simp [hl], fun i' d' ej => ?_⟩, by rw [List.map_append]; exact hL2, rfl⟩
      by_cases hj : i' < ds.length
      · rw [List.getElem?_append_left hj] at ej
        exact hP i' d' ej
      · have hj2 : i' = i := by
          have := (List.getElem?_eq_some_iff.mp ej).1
          rw [List.length_append, List.length_singleton] at this
          omega
        subst hj2
        rw [List.getElem?_append_right (by omega), hl, Nat.sub_self] at ej
        simp only [List.getElem?_cons_zero, Option.some.injEq] at ej
        subst ej
        exact hd2
    by_cases hij : i % 2 = j
    · obtain ⟨v, L2, e2, d, rfl, hd2, hL2⟩ := F i hi2 _ _ hL'
      have cat : ∀ L, binop .add (.d (.lst (kn.map eP))) (.d (.lst [.tup [dN seat, dN i]])) L = .ok (.d (.lst ((kn ++ [(seat, i)]).map eP))) L := fun L => by
        rw [b_lst (by rw [List.length_append, List.length_map]; show kn.length + 1 ≤ 16777216; omega), List.map_append]
        rfl
      obtain ⟨ys, c, e, hy, rfl⟩ := hL2
      have ap := dkl_app (xs := ys) (a := c) (b := e) (R := R) (s := ds.map .d) (v := .d d) (by rw [List.length_map, hl]; show _ < 16777216; omega)
      have fin2 := fin d _ ⟨fun _ => hd2, fun hn => absurd hij hn⟩ ⟨ys, c, e, hy, rfl⟩
      rw [decide_eq_true hij] at hce fin2
      simp_arith [hm2, hce, hty, tr_bl, t2, l1, cat, e2, ap]
      exact fin2
    · obtain ⟨ys, c, e, hy, rfl⟩ := hL'
      have ap := dkl_app (xs := ys) (a := c) (b := e) (R := R) (s := ds.map .d) (v := .d never) (by rw [List.length_map, hl]; show _ < 16777216; omega)
      have fin2 := fin never _ ⟨fun hn => absurd hn hij, fun _ => rfl⟩ ⟨ys, c, e, hy, rfl⟩
      rw [decide_eq_false hij] at hce fin2
      have nv : ∀ L, mkT [VL.d (.str [101, 110, 100]), .d (.int 0), .d (.tup [.str [110, 101, 118, 101, 114]])] L = .ok (.d never) L := fun L => t3
      simp_arith [hm2, hce, hty, tr_bl, t1, nv, ap]
      exact fin2
  · rintro ρ' L' ⟨ds, q10, q11, hi, hP, hL', rfl⟩
    rw [List.length_map, List.length_range] at hP
    exact ⟨ds, q10, q11, hP, hL', rfl⟩
theorem halves2_ok {seat z k B : Nat} {dd : Desk} (ez : h.sizes[seat]? = some z) (z4 : z ≤ 4) (hk : kn.length ≤ 1000)
    (F : ∀ i, i < z → ∀ R' L', DK R' L' → ∃ v L'', callN T N 17 [.r 1, .d (hd h), .d (.lst (more.map dN)), .d (.lst ((kn ++ [(seat, i)]).map eP)), .d (.bl false)] L' = .ok v L'' ∧ ∃ d, v = .d d ∧ Talk h (kn ++ [(seat, i)]) k B d ∧ DK R' L'')
    (hL : DK (R ++ [.lst []]) L) :
    ∃ ρ' L', evS T (callN T N) x__law_halves_2 [some (.r 1), some (.d (hd h)), some (.d (.lst (more.map dN))), some (.d (.lst (kn.map eP))), some (.d (dN seat)), some (.d (dT (dT dN) dd.1)), some (.d (dT dN dd.2)), some (.r (R.length + 2)), p8, p9, p10, p11] L = .next ρ' L' ∧
      ∃ (Ls : List (List D)) (G : LH) (q8 q9 q10 q11 : Option VL), Ls.length = 2 ∧ (∀ (j : Nat) (l : List D), Ls[j]? = some l → Half h kn seat k B z j l) ∧ DK (R ++ .lst ((Ls.map (askD seat dd.1 dd.2)).map .d) :: G) L' ∧ ρ' = [some (.r 1), some (.d (hd h)), some (.d (.lst (more.map dN))), some (.d (.lst (kn.map eP))), some (.d (dN seat)), some (.d (dT (dT dN) dd.1)), some (.d (dT dN dd.2)), some (.r (R.length + 2)), q8, q9, q10, q11] := by
  refine Fl.nx.ex (Q := fun (ρ' : Env) (L' : LH) => ∃ (Ls : List (List D)) (G : LH) (q8 q9 q10 q11 : Option VL), Ls.length = 2 ∧ (∀ (j : Nat) (l : List D), Ls[j]? = some l → Half h kn seat k B z j l) ∧ DK (R ++ .lst ((Ls.map (askD seat dd.1 dd.2)).map .d) :: G) L' ∧ ρ' = [some (.r 1), some (.d (hd h)), some (.d (.lst (more.map dN))), some (.d (.lst (kn.map eP))), some (.d (dN seat)), some (.d (dT (dT dN) dd.1)), some (.d (dT dN dd.2)), some (.r (R.length + 2)), q8, q9, q10, q11]) ?_
  unfold x__law_halves_2
  rw [evS_forr]
  have hsm : small 2 = true := by decide
  have r2 : rangeI 0 (2 : Int).toNat = (List.range 2).map fun x => VL.d (dN x) := rangeI_N (s := 2)
  simp_arith [hsm]
  rw [r2]
  refine forI_nx (fun i ρ L' => ∃ (Ls : List (List D)) (G : LH) (q8 q9 q10 q11 : Option VL), i ≤ 2 ∧ Ls.length = i ∧ (∀ (j : Nat) (l : List D), Ls[j]? = some l → Half h kn seat k B z j l) ∧ DK (R ++ .lst ((Ls.map (askD seat dd.1 dd.2)).map .d) :: G) L' ∧ ρ = [some (.r 1), some (.d (hd h)), some (.d (.lst (more.map dN))), some (.d (.lst (kn.map eP))), some (.d (dN seat)), some (.d (dT (dT dN) dd.1)), some (.d (dT dN dd.2)), some (.r (R.length + 2)), q8, q9, q10, q11]) (fun _ _ _ _ => rfl)
    ⟨[], [], p8, p9, p10, p11, Nat.zero_le _, rfl, fun j l e => by simp at e, hL, rfl⟩ ?_ ?_
  · rintro i x ρ L' hx ⟨Ls, G, q8, q9, q10, q11, hi, hl, hP, ⟨xs, a, b, h63, rfl⟩, rfl⟩
    rw [List.getElem?_map] at hx
    obtain ⟨i', ej, rfl⟩ := Option.map_eq_some_iff.mp hx
    have hi2 : i < 2 := by
      have := (List.getElem?_eq_some_iff.mp ej).1
      rwa [List.length_range] at this
    rw [List.getElem?_range hi2] at ej
    cases ej
    obtain ⟨ρ1, L1, e1, ds, r10, r11, hH, hL1, rfl⟩ := halves1_ok (N := N) (R := R ++ .lst ((Ls.map (askD seat dd.1 dd.2)).map .d) :: G) (h := h) (kn := kn) (more := more) (seat := seat) (z := z) (k := k) (B := B) (j := i) (p5 := some (.d (dT (dT dN) dd.1))) (p6 := some (.d (dT dN dd.2))) (p7 := some (.r (R.length + 2))) (p10 := q10) (p11 := q11) ez z4 hk F (L := dk xs a b ((R ++ .lst ((Ls.map (askD seat dd.1 dd.2)).map .d) :: G) ++ [.lst []])) ⟨xs, a, b, h63, rfl⟩
    obtain ⟨xs1, a1, b1, hx1, rfl⟩ := hL1
    have tn := bf_tuple_r (xs := ds) (dkl_get (xs := xs1) (a := a1) (b := b1) (R := R ++ .lst ((Ls.map (askD seat dd.1 dd.2)).map .d) :: G) (o := .lst (ds.map .d))) (by rw [hH.1]; show _ ≤ 16777216; omega)
    have hre : (R ++ .lst ((Ls.map (askD seat dd.1 dd.2)).map .d) :: G) ++ [.lst (ds.map .d)] = R ++ .lst ((Ls.map (askD seat dd.1 dd.2)).map .d) :: (G ++ [.lst (ds.map .d)]) := by simp
    have ty := dm_ty (xs := xs1) (a := a1) (b := b1) (R := R) (G := G ++ [.lst (ds.map .d)]) (s := (Ls.map (askD seat dd.1 dd.2)).map .d)
    have ap := dm_app (xs := xs1) (a := a1) (b := b1) (R := R) (G := G ++ [.lst (ds.map .d)]) (s := (Ls.map (askD seat dd.1 dd.2)).map .d) (v := .d (askD seat dd.1 dd.2 ds)) (by rw [List.length_map, List.length_map]; show _ < 16777216; omega)
    have tk : ∀ L, mkT [VL.d (.str [97, 115, 107]), .d (dN seat), .d (dT (dT dN) dd.1), .d (dT dN dd.2), .d (.tup ds)] L = .ok (.d (askD seat dd.1 dd.2 ds)) L := fun L => t5
    rw [← hre] at ty ap
    simp_arith [dkl_new, e1, ty, tn, tk, ap]
    refine ⟨Ls ++ [ds], G ++ [.lst (ds.map .d)], some (.d (dN i)), _, _, _, hi2, by simp [hl], fun j l ej => ?_, ⟨xs1, a1, b1, hx1, by simp⟩, rfl⟩
    by_cases hj : j < Ls.length
    · rw [List.getElem?_append_left hj] at ej
      exact hP j l ej
    · have hj2 : j = i := by
        have := (List.getElem?_eq_some_iff.mp ej).1
        rw [List.length_append, List.length_singleton] at this
        omega
      subst hj2
      rw [List.getElem?_append_right (by omega), hl, Nat.sub_self] at ej
      simp only [List.getElem?_cons_zero, Option.some.injEq] at ej
      subst ej
      exact hH
  · rintro ρ' L' ⟨Ls, G, q8, q9, q10, q11, hi, hl, hP, hL', rfl⟩
    rw [List.length_map, List.length_range] at hl
    exact ⟨Ls, G, q8, q9, q10, q11, hl, hP, hL', rfl⟩
theorem halves_ok {seat z k B : Nat} {dd : Desk} {own : List Nat} (o : HandOk h) (so : SeatOk h seat dd own z) (hB : 120 ≤ B) (hk : kn.length ≤ 1000)
    (F : ∀ i, i < z → ∀ R' L', DK R' L' → ∃ v L'', callN T N 17 [.r 1, .d (hd h), .d (.lst (more.map dN)), .d (.lst ((kn ++ [(seat, i)]).map eP)), .d (.bl false)] L' = .ok v L'' ∧ ∃ d, v = .d d ∧ Talk h (kn ++ [(seat, i)]) k B d ∧ DK R' L'')
    (hL : DK R L) :
    ∃ v L', callN T (N + 1) 6 [.r 1, .d (hd h), .d (.lst (more.map dN)), .d (.lst (kn.map eP)), .d (dN seat)] L = .ok v L' ∧ ∃ d, v = .d d ∧ Talk h kn (k + 2) (4 * (4 * B + 40) + 40) d ∧ DK R L' := by
  obtain ⟨xs, a, b, h63, rfl⟩ := hL
  have w := o.wf
  have z4 := w.sz z (List.mem_of_getElem? so.s)
  have fw := w.few dd (List.mem_of_getElem? so.d)
  have ml := (w.marks seat dd z so.d so.s).1
  obtain ⟨ρ2, L2, e2, Ls, G, q8, q9, q10, q11, hl, hP, hL2, rfl⟩ := halves2_ok (N := N) (R := R) (h := h) (kn := kn) (more := more) (k := k) (B := B) (dd := dd) (p8 := none) (p9 := none) (p10 := none) (p11 := none) so.s z4 hk F (L := dk xs a b (R ++ [.lst []])) ⟨xs, a, b, h63, rfl⟩
  obtain ⟨xs2, a2, b2, hx2, rfl⟩ := hL2
  match Ls, hl with
  | [l0, l1], _ =>
  have hdk : ∀ L, getI L (.d (dT eDesk h.desks)) (.d (dN seat)) = some (.d (eDesk dd)) := fun L => by
    rw [getI_r_dN, List.getElem?_map, so.d]; rfl
  have sq : ∀ L, seqOf L (.d (eDesk dd)) = some [.d (dT (dT dN) dd.1), .d (dT dN dd.2)] := fun L => rfl
  have tn := bf_tuple_r (xs := [l0, l1].map (askD seat dd.1 dd.2)) (dm_get (xs := xs2) (a := a2) (b := b2) (R := R) (G := G) (o := .lst (([l0, l1].map (askD seat dd.1 dd.2)).map .d))) (by show 2 ≤ 16777216; decide)
  have x3 : ∀ L, evE T (callN T N) [some (.r 1), some (.d (hd h)), some (.d (.lst (more.map dN))), some (.d (.lst (kn.map eP))), some (.d (dN seat)), some (.d (dT (dT dN) dd.1)), some (.d (dT dN dd.2)), some (.r (R.length + 2)), q8, q9, q10, q11] x__law_halves_3 L = .ok (.d (.lst ((dd.2.map (· % 2)).map dN))) L := by
    intro L
    unfold x__law_halves_3
    rw [evE_lc]
    simp_arith
    rw [List.map_map, map_eq (items := dd.2) (enc := VL.d ∘ dN) (h := fun m => VL.d (dN (m % 2))) rfl fun m hm => ?_]
    · simp_arith
      have := mkL_map (L := L) (f := fun m : Nat => dN (m % 2)) (xs := dd.2) (by show _ ≤ 16777216; omega)
      rw [this, List.map_map]
      rfl
    · have hm2 : ∀ L, binop .mod (.d (dN m)) (.d (.int 2)) L = .ok (.d (dN (m % 2))) L := fun L => by
        have := b_mod (L := L) (i := (m : Int)) (j := 2) (by decide)
        rw [show VL.d (.int ((m : Int) % 2)) = .d (dN (m % 2)) from by unfold dN; rw [Int.natCast_emod]; rfl] at this
        exact this
      simp_arith [Function.comp, hm2]
  have tt : ∀ L, bfun .tuple [.d (.lst ((dd.2.map (· % 2)).map dN))] L = .ok (.d (dT dN (dd.2.map (· % 2)))) L := fun L => bf_tuple_lst (by rw [List.length_map, List.length_map]; show _ ≤ 16777216; omega)
  refine ⟨.d (askD seat dd.1 (dd.2.map (· % 2)) [askD seat dd.1 dd.2 l0, askD seat dd.1 dd.2 l1]), dk xs2 a2 b2 R, ?_, _, rfl, ?_, xs2, a2, b2, hx2, rfl⟩
  · rw [callN_succ]
    refine (run_ret (d := d__law_halves) (v := .d (askD seat dd.1 (dd.2.map (· % 2)) [askD seat dd.1 dd.2 l0, askD seat dd.1 dd.2 l1])) (L' := dk xs2 a2 b2 (R ++ .lst (([l0, l1].map (askD seat dd.1 dd.2)).map .d) :: G)) rfl rfl ?_).trans leave_dk
    show evSs T (callN T N) b__law_halves [some (.r 1), some (.d (hd h)), some (.d (.lst (more.map dN))), some (.d (.lst (kn.map eP))), some (.d (dN seat)), none, none, none, none, none, none, none] (dk xs a b R) = _
    unfold b__law_halves
    simp_arith [hd_desks, hdk, sq, dkl_new, e2, x3, tt]
    have tn' : bfun .tuple [.r (R.length + 2)] (dk xs2 a2 b2 (R ++ .lst [.d (askD seat dd.1 dd.2 l0), .d (askD seat dd.1 dd.2 l1)] :: G)) = .ok (.d (.tup [askD seat dd.1 dd.2 l0, askD seat dd.1 dd.2 l1])) (dk xs2 a2 b2 (R ++ .lst [.d (askD seat dd.1 dd.2 l0), .d (askD seat dd.1 dd.2 l1)] :: G)) := tn
    simp_arith [tn', t5]
    rfl
  · exact talk_halves (F := fun j => if j = 0 then l0 else l1) o so hB (fun j hj => by
      match j, hj with
      | 0, _ => exact (hP 0 l0 rfl).1
      | 1, _ => exact (hP 1 l1 rfl).1) (fun j i d hj e => by
      match j, hj with
      | 0, _ => exact (hP 0 l0 rfl).2 i d e
      | 1, _ => exact (hP 1 l1 rfl).2 i d e)
end
end K64
end
section
set_option Elab.async false
set_option linter.all false
set_option maxRecDepth 100000
set_option maxHeartbeats 400000
/-! YN: a talk by hand, whole. -/
namespace K64
open L3
section
variable {n : Nat} {R L : LH} {h : Hand} {kn : List (Nat × Nat)} {left : List Nat} {p2 p3 p4 p5 p7 p8 p9 p10 p11 p12 p13 p14 : Option VL}
theorem asked2_ok {seat : Nat} {own : List Nat} (ea : h.alph[seat]? = some own) (ho : own.length ≤ 1000) (hL : DK R L) :
    ∃ v L', evE T (callN T (n + 2)) [some (.r 1), some (.d (hd h)), p2, p3, p4, p5, some (.d (dN seat)), p7, p8, p9, p10, p11, p12, p13, p14] x__law_asked_2 L = .ok v L' ∧ ∃ ys : List Nat, v = .d (.lst (ys.map dN)) ∧ ys.length = own.length ∧ (∀ y ∈ ys, y < 2) ∧ DK R L' := by
  have g : ∀ L, getI L (.d (dT D.str h.alph)) (.d (dN seat)) = some (.d (.str own)) := fun L => by
    rw [getI_r_dN, List.getElem?_map, ea]; rfl
  unfold x__law_asked_2
  rw [evE_lc]
  simp_arith [hd_alph, g]
  refine lcD (g := []) (items := (chars own).map .d) (enc := dN) (DK R) (fun (y : Nat) => y < 2) _ (by rw [List.length_map, chars, List.length_map]) (by show _ ≤ 16777216; omega) (fun _ _ => rfl) hL ?_
  intro x hx L hL
  obtain ⟨L', k, e, hk, hL'⟩ := draw_step (n := n + 1) (m := 2) (by decide) (by decide) hL
  have e' : callN T (n + 2) 14 [.r 1, .d (.int 2)] L = .ok (.d (dN k)) L' := e
  refine ⟨L', k, ?_, hk, hL'⟩
  simp_arith [e']
theorem asked3_ok {seat : Nat} {own : List Nat} (ea : h.alph[seat]? = some own) (ho : own.length ≤ 1000) (hL : DK R L) :
    ∃ v L', evE T (callN T (n + 2)) [some (.r 1), some (.d (hd h)), p2, p3, p4, p5, some (.d (dN seat)), p7, p8, p9, p10, p11, p12, p13, p14] x__law_asked_3 L = .ok v L' ∧ ∃ ys : List (List Nat), v = .d (.lst (ys.map (dT dN))) ∧ ys.length = 2 ∧ (∀ y ∈ ys, y.length = own.length ∧ ∀ x ∈ y, x < 2) ∧ DK R L' := by
  unfold x__law_asked_3
  rw [evE_lc]
  have hsm : small 2 = true := by decide
  simp_arith [hsm]
  refine lcD (g := []) (items := rangeI 0 (2 : Int).toNat) (enc := dT dN) (DK R) (fun (y : List Nat) => y.length = own.length ∧ ∀ x ∈ y, x < 2) 2 (by simp [rangeI]) (by decide) (fun _ _ => rfl) hL ?_
  intro x hx L hL
  obtain ⟨v, L', e, ys, rfl, h1, h2, hL'⟩ := asked2_ok (n := n) (h := h) (seat := seat) (p2 := p2) (p3 := p3) (p4 := p4) (p5 := p5) (p7 := p7) (p8 := p8) (p9 := p9) (p10 := p10) (p11 := p11) (p12 := p12) (p13 := some x) (p14 := p14) ea ho hL
  have tt : bfun .tuple [.d (.lst (ys.map dN))] L' = .ok (.d (dT dN ys)) L' := bf_tuple_lst (by rw [List.length_map, h1]; show _ ≤ 16777216; omega)
  refine ⟨L', ys, ?_, ⟨h1, h2⟩, hL'⟩
  simp_arith [e, tt]
end
theorem asked_free {h : Hand} (o : HandOk h) : ∀ (k n : Nat) (left : List Nat) (kn : List (Nat × Nat)), left.length = k → KnOk h left kn → ∀ (R L : LH), DK R L →
    ∃ v L', callN T (n + k + 6) 17 [.r 1, .d (hd h), .d (.lst (left.map dN)), .d (.lst (kn.map eP)), .d (.bl true)] L = .ok v L' ∧ ∃ d, v = .d d ∧ Talk h kn (k + 2) (1000 * 5 ^ k) d ∧ DK R L'
  | 0, n, left, kn, hl, kk, R, L, hL => by
    have hn : left = [] := List.eq_nil_of_length_eq_zero hl
    subst hn
    have w := o.wf
    have two := w.two
    have kl := kk.klen
    have t8 := o.t8
    refine ⟨.d (endD h.tail (lastRow h (msOf kn))), L, ?_, _, rfl, (talk_last o kk).le (by omega) (by decide), hL⟩
    show callN T ((n + 5) + 1) 17 _ L = _
    rw [callN_succ]
    refine (run_ret (d := d__law_asked) (v := .d (endD h.tail (lastRow h (msOf kn)))) (L' := L) rfl rfl ?_).trans leave_same
    show evSs T (callN T (n + 5)) b__law_asked [some (.r 1), some (.d (hd h)), some (.d (.lst [])), some (.d (.lst (kn.map eP))), some (.d (.bl true)), none, none, none, none, none, none, none, none, none, none] L = _
    have e0 : cmpop .eq L (.d (.lst [])) (.d (.lst [])) = some true := c_eq_nilL (xs := [])
    have e1 := asked1_ok (call := callN T (n + 5)) (L := L) (h := h) (kn := kn) (p2 := some (.d (.lst []))) (p4 := some (.d (.bl true))) (p5 := none) (p6 := none) (p7 := none) (p8 := none) (p9 := none) (p10 := none) (p11 := none) (p12 := none) (p13 := none) (p14 := none) (by omega)
    have e2 : callN T (n + 5) 3 [.d (hd h), .d (.lst ((msOf kn).map dN))] L = .ok (.d (endD h.tail (lastRow h (msOf kn)))) L := last_ok (n := n + 4) w o.wt (by omega) (kk.at_lt w)
    unfold b__law_asked
    simp_arith [e0, e1, e2]
  | k + 1, n, left, kn, hl, kk, R, L, hL => by
    have w := o.wf
    have two := w.two
    have kl := kk.klen
    have ll := kk.llen
    have p5 : 0 < 5 ^ k := Nat.pow_pos (by decide)
    have p5s : 5 ^ (k + 1) = 5 ^ k * 5 := Nat.pow_succ ..
    obtain ⟨L1, way, e1, hway, hL1⟩ := draw_step (n := n + k + 5) (m := 4) (by decide) (by decide) hL
    have e1' : callN T (n + k + 6) 14 [.r 1, .d (.int 4)] L = .ok (.d (.int (way : Int))) L1 := e1
    obtain ⟨xs, a, b, h63, rfl⟩ := hL
    have hem : left.isEmpty = false := by cases left <;> simp_all
    have e0 : cmpop .eq (dk xs a b R) (.d (.lst (left.map dN))) (.d (.lst [])) = some false := by rw [c_eq_nilL, hem]
    have key : ∀ B, evSs T (callN T (n + k + 6)) (b__law_asked.take 2 ++ B) [some (.r 1), some (.d (hd h)), some (.d (.lst (left.map dN))), some (.d (.lst (kn.map eP))), some (.d (.bl true)), none, none, none, none, none, none, none, none, none, none] (dk xs a b R) = evSs T (callN T (n + k + 6)) B [some (.r 1), some (.d (hd h)), some (.d (.lst (left.map dN))), some (.d (.lst (kn.map eP))), some (.d (.bl true)), some (.d (.int (way : Int))), none, none, none, none, none, none, none, none, none] L1 := by
      intro B
      unfold b__law_asked
      simp only [List.take]
      simp_arith [e0, tr_bl, e1']
    -- what is left: the run from the third statement on
    suffices run : ∃ v L', evSs T (callN T (n + k + 6)) (b__law_asked.drop 2) [some (.r 1), some (.d (hd h)), some (.d (.lst (left.map dN))), some (.d (.lst (kn.map eP))), some (.d (.bl true)), some (.d (.int (way : Int))), none, none, none, none, none, none, none, none, none] L1 = .ret v L' ∧ ∃ d, v = .d d ∧ Talk h kn (k + 1 + 2) (1000 * 5 ^ (k + 1)) d ∧ ∃ G, DK (R ++ G) L' by
      obtain ⟨v, L', e, d, rfl, td, G, xs', a', b', h63', rfl⟩ := run
      refine ⟨.d d, dk xs' a' b' R, ?_, d, rfl, td, xs', a', b', h63', rfl⟩
      show callN T ((n + k + 6) + 1) 17 _ (dk xs a b R) = _
      rw [callN_succ]
      refine (run_ret (d := d__law_asked) (v := .d d) (L' := dk xs' a' b' (R ++ G)) rfl rfl ?_).trans leave_dk
      show evSs T (callN T (n + k + 6)) b__law_asked [some (.r 1), some (.d (hd h)), some (.d (.lst (left.map dN))), some (.d (.lst (kn.map eP))), some (.d (.bl true)), none, none, none, none, none, none, none, none, none, none] (dk xs a b R) = _
      exact (key (b__law_asked.drop 2)).trans e
    match way, hway, e1', hL1 with
    | 0, _, _, hL1 =>
      obtain ⟨L2, seat, e2, hseat, hL2⟩ := draw_step (n := n + k + 5) (m := h.sizes.length) (by rw [w.ls]; omega) (by rw [w.ls]; omega) hL1
      have e2' : callN T (n + k + 6) 14 [.r 1, .d (.int (h.sizes.length : Int))] L1 = .ok (.d (dN seat)) L2 := e2
      rw [w.ls] at hseat
      obtain ⟨dd, own, z, so⟩ := seat_ex w hseat
      have a4 := (o.words own (List.mem_of_getElem? so.a)).le
      have non := asked_non o (k + 1) (n + 2) left kn hl kk R L2 hL2
      rw [show n + 2 + (k + 1) + 3 = n + k + 6 from by omega] at non
      obtain ⟨v3, L3, e3, d, rfl, td, hL3⟩ := non
      obtain ⟨v4, L4, e4, mv, rfl, m1, m2, hL4⟩ := asked3_ok (n := n + k + 4) (h := h) (seat := seat) (own := own) (R := R) (p2 := some (.d (.lst (left.map dN)))) (p3 := some (.d (.lst (kn.map eP)))) (p4 := some (.d (.bl true))) (p5 := some (.d (.int 0))) (p7 := some (.d d)) (p8 := none) (p9 := none) (p10 := none) (p11 := none) (p12 := none) (p13 := none) (p14 := none) so.a (by omega) hL3
      have tt : ∀ L, bfun .tuple [.d (.lst (mv.map (dT dN)))] L = .ok (.d (dT (dT dN) mv)) L := fun L => bf_tuple_lst (by rw [List.length_map, m1]; decide)
      have td2 := talk_none o so m1 m2 td
      refine ⟨.d (askD seat mv [0, 1] [d, d]), L4, ?_, _, rfl, td2.le (by omega) (by omega), [], by rw [List.append_nil]; exact hL4⟩
      have c00 : ((0 : Int) == 0) = true := rfl
      have e4' : evE T (callN T (n + k + 6)) [some (.r 1), some (.d (hd h)), some (.d (.lst (left.map dN))), some (.d (.lst (kn.map eP))), some (.d (.bl true)), some (.d (.int 0)), some (.d (dN seat)), some (.d d), none, none, none, none, none, none, none] x__law_asked_3 L3 = .ok (.d (.lst (mv.map (dT dN)))) L4 := e4
      unfold b__law_asked
      simp only [List.drop]
      simp_arith [c_eqi, Int.natCast_zero, c00, hd_sizes, List.length_map, e2', e3, e4', tt, t2, t5]
      rfl
    | 1, _, _, hL1 =>
      have hle : left.length ≤ 1000 := by omega
      obtain ⟨L2, at_, e2, hat, hL2⟩ := draw_step (n := n + k + 5) (m := left.length) (by omega) (by omega) hL1
      obtain ⟨seat, es⟩ := get_ex hat
      obtain ⟨dd, own, z, so⟩ := seat_ex w (kk.mem (List.mem_of_getElem? es))
      have s1 : ∀ L, slice false (.d (.lst (left.map dN))) none (some (at_ : Int)) L = .ok (.d (.lst ((left.take at_).map dN))) L := fun L => slc_to hle
      have s2 : ∀ L, slice false (.d (.lst (left.map dN))) (some ((at_ : Int) + 1)) none L = .ok (.d (.lst ((left.drop (at_ + 1)).map dN))) L := fun L => slc_from hle
      have cat : ∀ L, binop .add (.d (.lst ((left.take at_).map dN))) (.d (.lst ((left.drop (at_ + 1)).map dN))) L = .ok (.d (.lst ((left.take at_ ++ left.drop (at_ + 1)).map dN))) L := fun L => by
        rw [b_lst (by rw [List.length_append, List.length_map, List.length_map, List.length_take, List.length_drop]; show _ ≤ 16777216; omega), List.map_append]
      have e2' : callN T (n + k + 6) 14 [.r 1, .d (.int (left.length : Int))] L1 = .ok (.d (.int (at_ : Int))) L2 := e2
      have hv : ∃ v L', callN T (n + k + 6) 6 [.r 1, .d (hd h), .d (.lst ((left.take at_ ++ left.drop (at_ + 1)).map dN)), .d (.lst (kn.map eP)), .d (dN seat)] L2 = .ok v L' ∧ ∃ d, v = .d d ∧ Talk h kn (k + 2) (4 * (4 * (120 * 5 ^ k) + 40) + 40) d ∧ DK R L' :=
        halves_ok (N := n + k + 5) o so (by omega) (by omega) (fun i hi R' L' hL' => by
          have := asked_non o k (n + 2) (left.take at_ ++ left.drop (at_ + 1)) (kn ++ [(seat, i)]) (by rw [List.length_append, List.length_take, List.length_drop]; omega) (kk.step es so.s hi) R' L' hL'
          rw [show n + 2 + k + 3 = n + k + 5 from by omega] at this
          exact this) hL2
      obtain ⟨v, L3, e3, d, rfl, td, hL3⟩ := hv
      refine ⟨.d d, L3, ?_, d, rfl, td.le (by omega) (by omega), [], by rw [List.append_nil]; exact hL3⟩
      have c10 : ((1 : Int) == 0) = false := rfl
      have c11 : ((1 : Int) == 1) = true := rfl
      have cast1 : ((1 : Nat) : Int) = 1 := rfl
      unfold b__law_asked
      simp only [List.drop]
      simp_arith [c_eqi, cast1, c10, c11, List.length_map, e2', List.getElem?_map, es, optI, s1, s2, cat, e3]
    | way + 2, hw, _, hL1 =>
      have c0 : (((way + 2 : Nat) : Int) == 0) = false := by
        rw [beq_eq_false_iff_ne]; omega
      have c1 : (((way + 2 : Nat) : Int) == 1) = false := by
        rw [beq_eq_false_iff_ne]; omega
      obtain ⟨v, L', e, d, rfl, td, G, hL'⟩ := asked_rest (n := n + k + 5) (R := R) (h := h) (kn := kn) (left := left) (way := ((way + 2 : Nat) : Int)) (b4 := true) (k := k + 2) (B := 1000 * 5 ^ k) (p6 := none) (p7 := none) (p8 := none) (p9 := none) (p10 := none) (p11 := none) (p12 := none) (p13 := none) (p14 := none) o c1 (by omega) kk
        (fun more seat i km hml R' L' hL' => by
          by_cases hi : i = 0
          · subst hi
            exact asked_free o k n more (kn ++ [(seat, 0)]) (by omega) km R' L' hL'
          · have hb : (true && i == 0) = false := by simp [hi]
            have := asked_non o k (n + 3) more (kn ++ [(seat, i)]) (by omega) km R' L' hL'
            rw [show n + 3 + k + 3 = n + k + 6 from by omega] at this
            obtain ⟨v, L2, e, d, rfl, td, hL2⟩ := this
            refine ⟨.d d, L2, ?_, d, rfl, td.le (by omega) (by omega), hL2⟩
            rw [hb]; exact e) hL1
      refine ⟨.d d, L', ?_, d, rfl, td.le (Nat.le_refl _) (by omega), G, hL'⟩
      have key3 : ∀ B, evSs T (callN T (n + k + 6)) ((b__law_asked.drop 2).take 1 ++ B) [some (.r 1), some (.d (hd h)), some (.d (.lst (left.map dN))), some (.d (.lst (kn.map eP))), some (.d (.bl true)), some (.d (.int ((way + 2 : Nat) : Int))), none, none, none, none, none, none, none, none, none] L1 = evSs T (callN T (n + k + 6)) B [some (.r 1), some (.d (hd h)), some (.d (.lst (left.map dN))), some (.d (.lst (kn.map eP))), some (.d (.bl true)), some (.d (.int ((way + 2 : Nat) : Int))), none, none, none, none, none, none, none, none, none] L1 := by
        intro B
        unfold b__law_asked
        simp only [List.take, List.drop]
        simp_arith [c_eqi, c0]
      exact (key3 (b__law_asked.drop 3)).trans e
theorem by_hand_ok {h : Hand} {n : Nat} {R L : LH} (o : HandOk h) (hL : DK R L) : ∃ v L', callN T (n + 10) 18 [.r 1, .d (hd h)] L = .ok v L' ∧ ∃ d, v = .d d ∧ Talk h [] 5 125000 d ∧ DK R L' := by
  have w := o.wf
  have two := w.two
  have kk : KnOk h (List.range h.desks.length) [] := ⟨by rw [List.map_nil, List.append_nil], fun p hp => by cases hp⟩
  have fr : ∃ v L', callN T (n + 9) 17 [.r 1, .d (hd h), .d (.lst ((List.range h.desks.length).map dN)), .d (.lst []), .d (.bl true)] L = .ok v L' ∧ ∃ d, v = .d d ∧ Talk h [] 5 125000 d ∧ DK R L' := by
    rcases two with h2 | h3
    · have := asked_free o 2 (n + 1) (List.range h.desks.length) [] (by rw [List.length_range]; exact h2) kk R L hL
      obtain ⟨v, L', e, d, rfl, td, hL'⟩ := this
      exact ⟨_, L', e, d, rfl, td.le (by decide) (by decide), hL'⟩
    · have := asked_free o 3 n (List.range h.desks.length) [] (by rw [List.length_range]; exact h3) kk R L hL
      obtain ⟨v, L', e, d, rfl, td, hL'⟩ := this
      exact ⟨_, L', e, d, rfl, td, hL'⟩
  obtain ⟨xs, a, b, h63, rfl⟩ := hL
  obtain ⟨v, L', e, d, rfl, td, xs', a', b', h63', rfl⟩ := fr
  refine ⟨.d d, dk xs' a' b' R, ?_, d, rfl, td, xs', a', b', h63', rfl⟩
  rw [callN_succ]
  refine (run_ret (d := d__law_by_hand) (v := .d d) (L' := dk xs' a' b' R) rfl rfl ?_).trans leave_dk0
  show evSs T (callN T (n + 9)) b__law_by_hand [some (.r 1), some (.d (hd h))] (dk xs a b R) = _
  have hsm : small (h.sizes.length : Int) = true := decide_eq_true (by rw [w.ls]; omega)
  have r1 : mkL false (rangeI 0 ((h.sizes.length : Int)).toNat) (dk xs a b R) = .ok (.d (.lst ((List.range h.desks.length).map dN))) (dk xs a b R) := by
    rw [rangeI_N, w.ls]
    exact mkL_map (f := dN) (by rw [List.length_range]; show _ ≤ 16777216; omega)
  unfold b__law_by_hand
  simp_arith [hd_sizes, List.length_map, hsm]
  rw [r1]
  simp_arith [e]
end K64
end
section
set_option Elab.async false
set_option linter.all false
set_option maxRecDepth 100000
set_option maxHeartbeats 400000
/-! YO: a story is drawn; what is due. -/
namespace K64
open L3
theorem lcI {β : Type} {g : List (Nat × LO)} {f : VL → LH → Res (List VL)} {items : List VL} {L : LH} {enc : β → D} (I : LH → Prop) (P : VL → β → Prop) (hN : items.length ≤ lim) (hs : ∀ L, I L → stands g L = true) (h0 : I L)
    (step : ∀ x ∈ items, ∀ L, I L → ∃ L' y, f x L = .ok [.d (enc y)] L' ∧ P x y ∧ I L') :
    ∃ v L', ((mapR g f items L).bind fun xs L => mkL false xs L) = .ok v L' ∧ ∃ ys : List β, v = .d (.lst (ys.map enc)) ∧ ys.length = items.length ∧ (∀ (i : Nat) (x : VL) (y : β), items[i]? = some x → ys[i]? = some y → P x y) ∧ I L' := by
  have key : ∀ (items : List VL) (L : LH), I L → (∀ x ∈ items, ∀ L, I L → ∃ L' y, f x L = .ok [.d (enc y)] L' ∧ P x y ∧ I L') → ∃ (ys : List β) (L' : LH), mapR g f items L = .ok ((ys.map enc).map .d) L' ∧ ys.length = items.length ∧ (∀ (i : Nat) (x : VL) (y : β), items[i]? = some x → ys[i]? = some y → P x y) ∧ I L' := by
    intro items
    induction items with
    | nil => exact fun L h _ => ⟨[], L, by simp only [mapR, hs L h, if_true, List.map_nil], rfl, (fun i x y e => by simp at e), h⟩
    | cons x xs ih =>
      intro L h st
      obtain ⟨L1, y, e1, p1, h1⟩ := st x List.mem_cons_self L h
      obtain ⟨ys, L2, e2, l2, p2, h2⟩ := ih L1 h1 fun z hz => st z (List.mem_cons_of_mem _ hz)
      refine ⟨y :: ys, L2, by simp only [mapR, hs L h, if_true, e1, Res.bind_ok, e2, List.cons_append, List.nil_append, List.map_cons], by simp [l2], fun i a b ea eb => ?_, h2⟩
      cases i with
      | zero =>
        simp only [List.getElem?_cons_zero, Option.some.injEq] at ea eb
        subst ea; subst eb; exact p1
      | succ i => exact p2 i a b (by simpa using ea) (by simpa using eb)
  obtain ⟨ys, L', e, l, p, h⟩ := key items L h0 step
  refine ⟨.d (.lst (ys.map enc)), L', ?_, ys, rfl, l, p, h⟩
  rw [e, Res.bind_ok]
  exact mkL_d (by rw [List.length_map, l]; exact hN)
section
variable {n : Nat} {R L : LH} {h : Hand} {p0 p2 p3 p4 p5 p7 p8 p10 p11 p12 p13 p14 p15 p16 p17 : Option VL}
theorem word1_ok {own : List Nat} {m : Nat} {p6 : Option VL} (h0 : 0 < own.length) (h1 : own.length < 1000) (hm : m ≤ 1000) (hL : DK R L) :
    ∃ v L', evE T (callN T (n + 2)) [p0, some (.r 1), p2, p3, p4, p5, p6, p7, p8, some (.d (.int (m : Int))), p10, p11, p12, p13, p14, p15, p16, some (.d (.str own))] x_law_1 L = .ok v L' ∧ ∃ cs : List Nat, v = .d (.lst (cs.map dC)) ∧ cs.length = m ∧ (∀ c ∈ cs, c ∈ own) ∧ DK R L' := by
  unfold x_law_1
  rw [evE_lc]
  have hsm : small (m : Int) = true := decide_eq_true (by omega)
  simp_arith [hsm]
  refine lcD (g := []) (items := rangeI 0 ((m : Int)).toNat) (enc := dC) (DK R) (fun (c : Nat) => c ∈ own) m (by simp [rangeI]) (by show _ ≤ 16777216; omega) (fun _ _ => rfl) hL ?_
  rintro x hx L ⟨ys, c, d, hy, rfl⟩
  obtain ⟨v, L', e, ch, xs', a', b', hc, rfl, h', rfl⟩ := (pick_str (n := n) (xs := ys) (a := c) (b := d) (R := R) hy h0 h1).ex
  refine ⟨dk xs' a' b' R, ch, ?_, hc, xs', a', b', h', rfl⟩
  simp_arith [e]
  rfl
theorem words_ok {m : Nat} (hal : ∀ w ∈ h.alph, 0 < w.length ∧ w.length < 1000) (hn : h.alph.length ≤ 1000) (hm : m ≤ 1000) (hL : DK R L) :
    ∃ v L', evE T (callN T (n + 2)) [p0, some (.r 1), p2, p3, p4, p5, some (.d (dT D.str h.alph)), p7, p8, some (.d (.int (m : Int))), p10, p11, p12, p13, p14, p15, p16, p17] x_law_2 L = .ok v L' ∧ ∃ words : List (List Nat), v = .d (.lst (words.map D.str)) ∧ words.length = h.alph.length ∧ (∀ (i : Nat) (w o : List Nat), words[i]? = some w → h.alph[i]? = some o → w.length = m ∧ ∀ c ∈ w, c ∈ o) ∧ DK R L' := by
  have main : ∃ v L', evE T (callN T (n + 2)) [p0, some (.r 1), p2, p3, p4, p5, some (.d (dT D.str h.alph)), p7, p8, some (.d (.int (m : Int))), p10, p11, p12, p13, p14, p15, p16, p17] x_law_2 L = .ok v L' ∧ ∃ words : List (List Nat), v = .d (.lst (words.map D.str)) ∧ words.length = ((h.alph.map D.str).map VL.d).length ∧ (∀ (i : Nat) (x : VL) (y : List Nat), ((h.alph.map D.str).map VL.d)[i]? = some x → words[i]? = some y → ∀ o, x = .d (.str o) → y.length = m ∧ ∀ c ∈ y, c ∈ o) ∧ DK R L' := by
    unfold x_law_2
    rw [evE_lc]
    simp_arith
    refine lcI (g := []) (items := (h.alph.map D.str).map .d) (enc := D.str) (DK R) (fun x y => ∀ o, x = VL.d (.str o) → y.length = m ∧ ∀ c ∈ y, c ∈ o) (by rw [List.length_map, List.length_map]; show _ ≤ 16777216; omega) (fun _ _ => rfl) hL ?_
    intro x hx L hL
    rw [List.map_map] at hx
    obtain ⟨own, ho, rfl⟩ := List.mem_map.mp hx
    obtain ⟨g0, g1⟩ := hal own ho
    obtain ⟨v, L', e, cs, rfl, k1, k2, hL'⟩ := word1_ok (n := n) (own := own) (m := m) (R := R) (p0 := p0) (p2 := p2) (p3 := p3) (p4 := p4) (p5 := p5) (p6 := some (.d (dT D.str h.alph))) (p7 := p7) (p8 := p8) (p10 := p10) (p11 := p11) (p12 := p12) (p13 := p13) (p14 := p14) (p15 := p15) (p16 := p16) g0 g1 hm hL
    refine ⟨L', cs, ?_, fun o eo => ?_, hL'⟩
    · have jn := join_c (L := L') (cs := cs) (by omega)
      have jt : ∀ L, mTy (.join) L (.d (.str [])) = true := fun L => rfl
      simp_arith [Function.comp, jt, e, jn]
    · have : own = o := by
        have := VL.d.inj eo
        exact D.str.inj this
      subst this
      exact ⟨k1, k2⟩
  obtain ⟨v, L', e, words, hv, hl, hp, hL'⟩ := main
  refine ⟨v, L', e, words, hv, by rw [hl, List.length_map, List.length_map], fun i w o ew eo => ?_, hL'⟩
  exact hp i (.d (.str o)) w (by rw [List.getElem?_map, List.getElem?_map, eo]; rfl) ew o rfl
end
/-- what the talk's end tells is what the office tells -/
theorem end_out {h : Hand} {words : List (List Nat)} {m : Nat} (o : HandOk h) (sp : Spots h (behind h words m)) : (lastRow h (marksL h (behind h words m))).getD (plc h.tail (lastRow h (marksL h (behind h words m))) m) [] = out h (behind h words m) (placeOf h m) ∧ OutOk (out h (behind h words m) (placeOf h m)) := by
  have hl : (lastRow h (marksL h (behind h words m))).length = h.table.length := by rw [lastRow, List.length_map]
  have hp : plc h.tail (lastRow h (marksL h (behind h words m))) m = placeOf h m := by rw [plc_eq, hl]; rfl
  have lt := placeOf_lt o.wt m
  obtain ⟨r, er⟩ := get_ex lt
  have rg := row_get o.wf o.wt sp er
  have e : (lastRow h (marksL h (behind h words m)))[placeOf h m]? = some (r.getD (foldAt h.sizes (marksL h (behind h words m))) []) := by
    rw [lastRow, List.getElem?_map, er]; rfl
  rw [hp, getD_of e]
  refine ⟨?_, o.outs r (List.mem_of_getElem? er) _ (List.mem_of_getElem? rg)⟩
  have : r[foldAt h.sizes (marksL h (behind h words m))]? = some (out h (behind h words m) (placeOf h m)) := rg
  rw [getD_of this]
theorem talk_show {h : Hand} {d : D} (t : Talk h [] 5 125000 d) : d.canShow := canShow_of (okq_le (show 2 * 5 + 3 ≤ eqLim by decide) t.shw.ok) t.shw.sg (by have := t.shw.bulk; omega)
/-- what is due -/
def dueD (as o : List Nat) : D := .tup [dT dN as, .str o]
theorem bulk_2 {a b : D} : (D.tup [a, b]).bulk = a.bulk + b.bulk + 2 := by
  simp only [D.bulk, py, pys, PySem.PyData.bulk, PySem.PyData.bulkAll]; omega
theorem due_sg {as o : List Nat} (h2 : ∀ m ∈ as, m ≤ 1000) (h3 : OutOk o) : D.sg (dueD as o) = true := by
  show (D.sg (dT dN as) && (D.sg (.str o) && true)) = true
  rw [sg_T (fun s hs => sg_N (by have := h2 s hs; omega)), sg_out h3]
  rfl
theorem due_bulk {as o : List Nat} (h1 : as.length ≤ 10) (h3 : OutOk o) : (dueD as o).bulk ≤ 20 := by
  have b : (dT dN as).bulk ≤ 10 * (0 + 1) := bulk_dT h1 fun x _ => Nat.le_of_eq bulk_N
  have := h3.le
  unfold dueD
  rw [bulk_2, bulk_str]
  omega
theorem due_okq {k : Nat} {as o : List Nat} : D.okq (k + 2) (dueD as o) = true := by
  show (D.okq (k + 1) (dT dN as) && (D.okq (k + 1) (.str o) && true)) = true
  rw [okq_dT (fun n => okq_N n), okq_S]
  rfl
theorem due_show {as o : List Nat} (h1 : as.length ≤ 10) (h2 : ∀ m ∈ as, m ≤ 1000) (h3 : OutOk o) : (D.lst [dueD as o, dueD as o]).canShow := by
  refine canShow_of ?_ ?_ ?_
  · show (D.okq 59 (dueD as o) && (D.okq 59 (dueD as o) && true)) = true
    rw [due_okq (k := 57)]; rfl
  · show (D.sg (dueD as o) && (D.sg (dueD as o) && true)) = true
    rw [due_sg h2 h3]; rfl
  · have := bulk_lst (B := 20) (xs := [dueD as o, dueD as o]) fun x hx => by
      simp only [List.mem_cons, List.not_mem_nil, or_false, or_self] at hx
      rw [hx]; exact due_bulk h1 h3
    exact Nat.le_trans this (show 2 * (20 + 1) ≤ 1000000 by decide)
theorem due1_show {as o : List Nat} (h1 : as.length ≤ 10) (h2 : ∀ m ∈ as, m ≤ 1000) (h3 : OutOk o) : (dueD as o).canShow := canShow_of (due_okq (k := 58)) (due_sg h2 h3) (by have := due_bulk h1 h3; omega)
def rowA : List (List Nat) := [[97], [98], [99]]
theorem rowA_ok : ∀ t ∈ rowA, OutOk t := by
  have : ∀ t ∈ rowA, (∀ c ∈ t, c ∈ abc) ∧ 1 ≤ t.length ∧ t.length ≤ 8 ∧ t ≠ [115, 101, 108, 102] := by decide
  intro t ht
  obtain ⟨c1, c2, c3, c4⟩ := this t ht
  exact ⟨c1, c2, c3, c4⟩
theorem rowA_at (m : Nat) : rowA.getD (plc 1 rowA m) [] = if m = 0 then [97] else if m % 2 = 1 then [98] else [99] := by
  rw [plc_eq]
  show rowA.getD (if m < 3 then m else 1 + (m - 1) % 2) [] = _
  by_cases h : m < 3
  · rw [if_pos h]
    have : m = 0 ∨ m = 1 ∨ m = 2 := by omega
    rcases this with rfl | rfl | rfl <;> rfl
  · rw [if_neg h, if_neg (by omega)]
    by_cases h2 : m % 2 = 1
    · rw [if_pos h2, show (m - 1) % 2 = 0 from by omega]; rfl
    · rw [if_neg h2, show (m - 1) % 2 = 1 from by omega]; rfl
end K64
end
section
set_option Elab.async false
set_option linter.all false
set_option maxRecDepth 100000
set_option maxHeartbeats 400000
/-! YP: the law. -/
namespace K64
open L3
theorem bf_repr_r {L : LH} {k : Nat} {ds : List D} (h : L[k]? = some (.lst (ds.map .d))) (c : (D.lst ds).canShow) : bfun .repr [.r k] L = .ok (.d (.str (D.lst ds).shown)) L := by
  have e : dv dvLim L (.r k) = some (.lst ds) := by
    show (match L[k]? with | some (.lst xs) => (mapO (dv 3 L) xs).map D.lst | some (.dct ks vs) => _ | _ => none) = _
    simp only [h, dvs_d, Option.map_some]
  simp only [bfun, bRepr, e, c, if_true]
theorem pg1 {a b c : VL} : placeG (.d .non) (([] : List VL).length + [a, b, c].length) [] [2, 1, 0] [a, b, c] = [c, b, a] := id rfl
theorem pg2 {a b c : VL} : placeG (.d .non) (([] : List VL).length + [a, b, c].length) [] [1, 0, 2] [a, b, c] = [b, a, c] := id rfl
def b_x3 : List CS := match x_law_3 with
  | .forr _ _ b => b
  | _ => []
section
variable {n : Nat} {L : LH} {h : Hand} {d : D} {p0 p1 p2 p3 p4 p5 p6 p7 p8 p9 p10 p11 p12 p13 p14 p15 p16 p17 : Option VL}
theorem turn_ok {R : LH} {sm : List St} {nexts : List (List Nat)} (o : HandOk h) (td : Talk h [] 5 125000 d) (bt : Built h sm nexts) (hlen : nexts.length = sm.length) (p : Parts h.alph nexts (endsOf h sm)) (hL : DK R L) :
    (evSs T (callN T (n + 6)) b_x3 [p0, some (.r 1), p2, some (.d (hd h)), some (.d d), some (.d (ruleD h.alph nexts (endsOf h sm))), some (.d (dT D.str h.alph)), some (.d (.str d.shown)), p8, p9, p10, p11, p12, p13, p14, p15, p16, p17] L).on fun ρ' L' =>
      (∃ R', DK R' L') ∧ ∃ q9 q10 q11 q12 q13 q14 q15 q16 q17, ρ' = [p0, some (.r 1), p2, some (.d (hd h)), some (.d d), some (.d (ruleD h.alph nexts (endsOf h sm))), some (.d (dT D.str h.alph)), some (.d (.str d.shown)), p8, q9, q10, q11, q12, q13, q14, q15, q16, q17] := by
  have w := o.wf
  have t := o.wt
  have two := w.two
  have la := w.la
  obtain ⟨xs, a, b, h63, rfl⟩ := hL
  have hal : ∀ x ∈ h.alph, 0 < x.length ∧ x.length < 1000 := fun x hx => by
    have h1 := (o.words x hx).lt.pos
    have h2 := (o.words x hx).le
    omega
  -- how many days
  obtain ⟨v1, L1, e1, i, d1, ys, c, e, hi, rfl, hy, rfl⟩ := (pick_ok (n := n + 4) (o := .d (.lst ([0, 1, 2, 3, 9, 60].map dN))) (ds := [0, 1, 2, 3, 9, 60].map dN) (xs := xs) (a := a) (b := b) (R := R) (.inl rfl) h63 (by decide) (by decide)).ex
  obtain ⟨m, hmany, rfl⟩ := map_get hi
  have m60 : m ≤ 60 := by
    have := List.mem_of_getElem? hmany
    simp only [List.mem_cons, List.not_mem_nil, or_false] at this
    omega
  have e1' : callN T (n + 6) 13 [.r 1, .d (.lst [.int 0, .int 1, .int 2, .int 3, .int 9, .int 60])] (dk xs a b R) = .ok (.d (.int (m : Int))) (dk ys c e R) := e1
  -- the story
  obtain ⟨v2, L2, e2, words, rfl, hwl, hwo, hL2⟩ := words_ok (n := n + 4) (h := h) (R := R) (m := m) (p0 := p0) (p2 := p2) (p3 := some (.d (hd h))) (p4 := some (.d d)) (p5 := some (.d (ruleD h.alph nexts (endsOf h sm)))) (p7 := some (.d (.str d.shown))) (p8 := p8) (p10 := p10) (p11 := p11) (p12 := p12) (p13 := p13) (p14 := p14) (p15 := p15) (p16 := p16) (p17 := p17) hal (by omega) (by omega) ⟨ys, c, e, hy, rfl⟩
  obtain ⟨zs, f, g, hz, rfl⟩ := hL2
  have e2' : evE T (callN T (n + 6)) [p0, some (.r 1), p2, some (.d (hd h)), some (.d d), some (.d (ruleD h.alph nexts (endsOf h sm))), some (.d (dT D.str h.alph)), some (.d (.str d.shown)), p8, some (.d (.int (m : Int))), p10, p11, p12, p13, p14, p15, p16, p17] x_law_2 (dk ys c e R) = .ok (.d (.lst (words.map D.str))) (dk zs f g R) := e2
  have tw : ∀ L, bfun .tuple [.d (.lst (words.map D.str))] L = .ok (.d (dT D.str words)) L := fun L => bf_tuple_lst (by rw [List.length_map, hwl]; show _ ≤ 16777216; omega)
  have s : Story h words m := ⟨by rw [hwl, la], hwo, by omega⟩
  have hc : StC h.alph words := fun i w own ew eo => (hwo i w own ew eo).2
  have sp := behind_ok w s m (Nat.le_refl _)
  obtain ⟨as, a1, a2, wk⟩ := td.walk words m s fun p hp => by cases hp
  obtain ⟨eo, oo⟩ := end_out o sp
  have tl : h.tail < (lastRow h (marksL h (behind h words m))).length := by rw [lastRow, List.length_map]; exact t.tail
  obtain ⟨w0, hw0⟩ := get_ex (xs := words) (i := 0) (by rw [s.ln]; omega)
  have l0 : w0.length = m := s.len w (List.mem_of_getElem? hw0)
  have e3 : ∀ L, callN T (n + 6) 19 [.d d, .d (dT D.str h.alph), .d (dT D.str words)] L = .ok (.d (.tup [dT dN as, endD h.tail (lastRow h (marksL h (behind h words m)))])) L := fun L => answered_ok (n := n + 5) hc wk (by omega)
  have e4 : ∀ L, callN T (n + 6) 20 [.d (endD h.tail (lastRow h (marksL h (behind h words m)))), .d (.int (m : Int))] L = .ok (.d (.str (out h (behind h words m) (placeOf h m)))) L := fun L => by rw [← eo]; exact on_ok (n := n + 5) tl (by omega)
  have e5 : ∀ L, callN T (n + 6) 10 [.d d, .d (dT D.str h.alph), .d (dT D.str words)] L = .ok (.d (dT dN as)) L := fun L => course_ok (n := n + 3) hc wk (by omega)
  have e6 : ∀ L, callN T (n + 6) 11 [.d d, .d (dT D.str h.alph), .d (dT D.str words)] L = .ok (.d (.str (out h (behind h words m) (placeOf h m)))) L := fun L => by rw [← eo]; exact heard_ok (n := n + 3) hc wk (by omega) tl hw0 l0
  have e7 : ∀ L, callN T (n + 6) 12 [.d (ruleD h.alph nexts (endsOf h sm)), .d (dT D.str words)] L = .ok (.d (.str (out h (behind h words m) (placeOf h m)))) L := fun L => code_outcome (n := n + 2) w t s bt hlen p
  have e8 : ∀ L, callN T (n + 6) 10 [.d (endD 1 rowA), .d (dT D.str h.alph), .d (dT D.str words)] L = .ok (.d (.tup [])) L := fun L => course_ok (n := n + 3) hc (.fin 1 rowA) (by decide)
  have e9 : ∀ L, callN T (n + 6) 11 [.d (endD 1 rowA), .d (dT D.str h.alph), .d (dT D.str words)] L = .ok (.d (.str (rowA.getD (plc 1 rowA m) []))) L := fun L => heard_ok (n := n + 3) hc (.fin 1 rowA) (by decide) (by decide) hw0 l0
  have ds := due_show (as := as) (by omega) a2 oo
  have oA : OutOk (rowA.getD (plc 1 rowA m) []) := by
    obtain ⟨x, ex⟩ := get_ex (plc_lt (t := 1) (m := m) (row := rowA) (by decide))
    rw [getD_of ex]
    exact rowA_ok x (List.mem_of_getElem? ex)
  have dA := due1_show (as := []) (by decide) (fun x hx => by cases hx) oA
  have rA : ∀ L, bfun .repr [.d (.tup [.tup [], .str (rowA.getD (plc 1 rowA m) [])])] L = .ok (.d (.str (dueD [] (rowA.getD (plc 1 rowA m) [])).shown)) L := fun L => bf_repr dA
  have rA2 := rowA_at m
  generalize hoo : out h (behind h words m) (placeOf h m) = o' at *
  generalize hrr : lastRow h (marksL h (behind h words m)) = row at *
  generalize hxx : rowA.getD (plc 1 rowA m) [] = xA at *
  have m0 : ∀ L, mkL false [VL.d (.int 0), .d (.int 1), .d (.int 2), .d (.int 3), .d (.int 9), .d (.int 60)] L = .ok (.d (.lst [.int 0, .int 1, .int 2, .int 3, .int 9, .int 60])) L := fun L => l6
  have m1 : mkL true [.d (.tup [dT dN as, .str o'])] (dk zs f g R) = .ok (.r (R.length + 2)) (dk zs f g (R ++ [.lst [.d (.tup [dT dN as, .str o'])]])) := mkL_m (show 1 ≤ lim by decide)
  have ap : mfun .append (.r (R.length + 2)) [.d (.tup [dT dN as, .str o'])] (dk zs f g (R ++ [.lst [.d (.tup [dT dN as, .str o'])]])) = .ok (.d .non) (dk zs f g (R ++ [.lst ([.d (.tup [dT dN as, .str o'])] ++ [.d (.tup [dT dN as, .str o'])])])) := dkl_app (show 1 < lim by decide)
  have rp : bfun .repr [.r (R.length + 2)] (dk zs f g (R ++ [.lst [.d (.tup [dT dN as, .str o']), .d (.tup [dT dN as, .str o'])]])) = .ok (.d (.str (D.lst [dueD as o', dueD as o']).shown)) (dk zs f g (R ++ [.lst [.d (.tup [dT dN as, .str o']), .d (.tup [dT dN as, .str o'])]])) := bf_repr_r (ds := [dueD as o', dueD as o']) dkl_get ds
  have rd : ∀ L, bfun .repr [.d (.lst [.tup [dT dN as, .str o'], .tup [dT dN as, .str o']])] L = .ok (.d (.str (D.lst [dueD as o', dueD as o']).shown)) L := fun L => bf_repr ds
  have rs : ∀ L, bfun .repr [.d d] L = .ok (.d (.str d.shown)) L := fun L => bf_repr (talk_show td)
  have sq : ∀ L, seqOf L (.d (.tup [dT dN as, endD h.tail row])) = some [.d (dT dN as), .d (endD h.tail row)] := fun L => rfl
  have tE : ∀ L, mkT [VL.d (.str [101, 110, 100]), .d (.int 1), .d (.tup [.str [97], .str [98], .str [99]])] L = .ok (.d (endD 1 rowA)) L := fun L => t3
  have t0 : ∀ L, mkT [] L = .ok (.d (.tup [])) L := fun L => mkT_d (xs := []) (by decide)
  have m2 : ∀ L, binop .mod (.d (.int (m : Int))) (.d (.int 2)) L = .ok (.d (.int ((m : Int) % 2))) L := fun L => b_mod (by decide)
  have fin : (∃ R', DK R' (dk zs f g (R ++ [.lst [.d (.tup [dT dN as, .str o']), .d (.tup [dT dN as, .str o'])]]))) := ⟨_, zs, f, g, hz, rfl⟩
  unfold b_x3 x_law_3
  by_cases c0 : m = 0
  · have k0 : ((m : Int) == 0) = true := by rw [beq_iff_eq]; omega
    rw [if_pos c0] at rA2
    rw [rA2] at rA e9
    simp_arith [m0, e1', e2', tw, e3, sq, e4, t2, e5, e6, m1, pg1, pg2, dkl_ty, ap, rp, l2, rd, c_ne_s, beq_self_eq_true, Bool.not_true, me_out, e7, rs, t3, tE, e8, e9, t0, c_eqi, k0, rA]
    exact ⟨fin, _, _, _, _, _, _, _, _, _, rfl⟩
  · have k0 : ((m : Int) == 0) = false := by rw [beq_eq_false_iff_ne]; omega
    rw [if_neg c0] at rA2
    by_cases c1 : m % 2 = 1
    · have k1 : ((m : Int) % 2 == 1) = true := by rw [beq_iff_eq]; omega
      rw [if_pos c1] at rA2
      rw [rA2] at rA e9
      simp_arith [m0, e1', e2', tw, e3, sq, e4, t2, e5, e6, m1, pg1, pg2, dkl_ty, ap, rp, l2, rd, c_ne_s, beq_self_eq_true, Bool.not_true, me_out, e7, rs, t3, tE, e8, e9, t0, c_eqi, k0, m2, k1, rA]
      exact ⟨fin, _, _, _, _, _, _, _, _, _, rfl⟩
    · have k1 : ((m : Int) % 2 == 1) = false := by rw [beq_eq_false_iff_ne]; omega
      rw [if_neg c1] at rA2
      rw [rA2] at rA e9
      simp_arith [m0, e1', e2', tw, e3, sq, e4, t2, e5, e6, m1, pg1, pg2, dkl_ty, ap, rp, l2, rd, c_ne_s, beq_self_eq_true, Bool.not_true, me_out, e7, rs, t3, tE, e8, e9, t0, c_eqi, k0, m2, k1, rA]
      exact ⟨fin, _, _, _, _, _, _, _, _, _, rfl⟩
end
end K64
end
section
set_option Elab.async false
set_option linter.all false
set_option maxRecDepth 100000
set_option maxHeartbeats 400000
/-! YQ: the law's loops. -/
namespace K64
open L3
section
variable {n : Nat} {L : LH} {h : Hand} {d : D} {p0 p1 p2 p3 p4 p5 p6 p7 p8 p9 p10 p11 p12 p13 p14 p15 p16 p17 : Option VL}
theorem x3_turns {R : LH} {sm : List St} {nexts : List (List Nat)} (o : HandOk h) (td : Talk h [] 5 125000 d) (bt : Built h sm nexts) (hlen : nexts.length = sm.length) (p : Parts h.alph nexts (endsOf h sm)) (hL : DK R L) :
    ∃ ρ' L', evS T (callN T (n + 6)) x_law_3 [p0, some (.r 1), p2, some (.d (hd h)), some (.d d), some (.d (ruleD h.alph nexts (endsOf h sm))), some (.d (dT D.str h.alph)), some (.d (.str d.shown)), p8, p9, p10, p11, p12, p13, p14, p15, p16, p17] L = .next ρ' L' ∧
      (∃ R', DK R' L') ∧ ∃ q2 q3 q4 q5 q6 q7 q8 q9 q10 q11 q12 q13 q14 q15 q16 q17, ρ' = [p0, some (.r 1), q2, q3, q4, q5, q6, q7, q8, q9, q10, q11, q12, q13, q14, q15, q16, q17] := by
  refine Fl.nx.ex (Q := fun (ρ' : Env) (L' : LH) => (∃ R', DK R' L') ∧ ∃ q2 q3 q4 q5 q6 q7 q8 q9 q10 q11 q12 q13 q14 q15 q16 q17, ρ' = [p0, some (.r 1), q2, q3, q4, q5, q6, q7, q8, q9, q10, q11, q12, q13, q14, q15, q16, q17]) ?_
  have ei : ∀ ρ, evI T (callN T (n + 6)) ρ (.range1 (.lit (.int 5))) L = .ok ⟨rangeI 0 5, []⟩ L := by
    intro ρ
    have hsm : small 5 = true := by decide
    simp_arith [hsm]
    rfl
  have hb : x_law_3 = .forr (.name 8) (.range1 (.lit (.int 5))) b_x3 := by unfold b_x3 x_law_3; rfl
  rw [hb, evS_forr, ei, fl_ok]
  refine forI_nx (fun i ρ L' => (∃ R', DK R' L') ∧ ∃ q8 q9 q10 q11 q12 q13 q14 q15 q16 q17, ρ = [p0, some (.r 1), p2, some (.d (hd h)), some (.d d), some (.d (ruleD h.alph nexts (endsOf h sm))), some (.d (dT D.str h.alph)), some (.d (.str d.shown)), q8, q9, q10, q11, q12, q13, q14, q15, q16, q17]) (fun _ _ _ _ => rfl) ⟨⟨R, hL⟩, p8, p9, p10, p11, p12, p13, p14, p15, p16, p17, rfl⟩ ?_ ?_
  · rintro i x ρ L' hx ⟨⟨R', hL'⟩, q8, q9, q10, q11, q12, q13, q14, q15, q16, q17, rfl⟩
    obtain ⟨ρ2, L2, e2, hL2, r9, r10, r11, r12, r13, r14, r15, r16, r17, rfl⟩ := (turn_ok (n := n) (p0 := p0) (p2 := p2) (p8 := some x) (p9 := q9) (p10 := q10) (p11 := q11) (p12 := q12) (p13 := q13) (p14 := q14) (p15 := q15) (p16 := q16) (p17 := q17) o td bt hlen p hL').ex
    have ea : asgT L' (.name 8) x [p0, some (.r 1), p2, some (.d (hd h)), some (.d d), some (.d (ruleD h.alph nexts (endsOf h sm))), some (.d (dT D.str h.alph)), some (.d (.str d.shown)), q8, q9, q10, q11, q12, q13, q14, q15, q16, q17] = some [p0, some (.r 1), p2, some (.d (hd h)), some (.d d), some (.d (ruleD h.alph nexts (endsOf h sm))), some (.d (dT D.str h.alph)), some (.d (.str d.shown)), some x, q9, q10, q11, q12, q13, q14, q15, q16, q17] := rfl
    rw [ea]
    dsimp only
    rcases e2 with e2 | e2 <;> rw [e2] <;> exact ⟨hL2, some x, r9, r10, r11, r12, r13, r14, r15, r16, r17, rfl⟩
  · rintro ρ' L' ⟨hL', q8, q9, q10, q11, q12, q13, q14, q15, q16, q17, rfl⟩
    exact ⟨hL', _, _, _, _, _, _, q8, q9, q10, q11, q12, q13, q14, q15, q16, q17, rfl⟩
theorem x4_turns {R : LH} (hL : DK R L) :
    ∃ ρ' L', evS T (callN T 11) x_law_4 [p0, some (.r 1), p2, p3, p4, p5, p6, p7, p8, p9, p10, p11, p12, p13, p14, p15, p16, p17] L = .next ρ' L' ∧ True := by
  refine Fl.nx.ex (Q := fun (ρ' : Env) (L' : LH) => True) ?_
  unfold x_law_4
  have hsm : small 4 = true := by decide
  rw [evS_forr]
  simp_arith [hsm]
  refine forI_nx (fun i ρ L' => (∃ R', DK R' L') ∧ ∃ q2 q3 q4 q5 q6 q7 q8 q9 q10 q11 q12 q13 q14 q15 q16 q17, ρ = [p0, some (.r 1), q2, q3, q4, q5, q6, q7, q8, q9, q10, q11, q12, q13, q14, q15, q16, q17]) (fun _ _ _ _ => rfl) ⟨⟨R, hL⟩, p2, p3, p4, p5, p6, p7, p8, p9, p10, p11, p12, p13, p14, p15, p16, p17, rfl⟩ ?_ fun _ _ _ => trivial
  rintro i x ρ L' hx ⟨⟨R', hL'⟩, q2, q3, q4, q5, q6, q7, q8, q9, q10, q11, q12, q13, q14, q15, q16, q17, rfl⟩
  obtain ⟨v1, L1, e1, h, rfl, o, hL1⟩ : ∃ v L2, callN T 11 2 [.r 1] L' = .ok v L2 ∧ ∃ h, v = .d (hd h) ∧ HandOk h ∧ DK R' L2 := little_ok (n := 8) hL'
  have w := o.wf
  have t := o.wt
  have t8 := o.t8
  obtain ⟨v2, L2, e2, d, rfl, td, hL2⟩ : ∃ v L2, callN T 11 18 [.r 1, .d (hd h)] L1 = .ok v L2 ∧ ∃ d, v = .d d ∧ Talk h [] 5 125000 d ∧ DK R' L2 := by_hand_ok (n := 1) o hL1
  obtain ⟨sm, nexts, bt, hlen, e3⟩ : ∃ sm nexts, Built h sm nexts ∧ nexts.length = sm.length ∧ callN T 11 5 [.d (hd h)] L2 = .ok (.d (worldD h.alph nexts (endsOf h sm))) L2 := world_ok (n := 9) w t (by omega) (fun x hx => (o.words x hx).le) fun day hd => dayOk_of w hd
  have p := parts_of w t (by omega) bt hlen (fun a ha => ⟨(o.words a ha).lt, (o.words a ha).le⟩) o.outs
  have e4 : ∀ L, callN T 11 4 [.d (worldD h.alph nexts (endsOf h sm))] L = .ok (.d (ruleD h.alph nexts (endsOf h sm))) L := fun L => code_ok (n := 5) p fun a ha => (o.words a ha).nd
  have rs : ∀ L, bfun .repr [.d d] L = .ok (.d (.str d.shown)) L := fun L => bf_repr (talk_show td)
  obtain ⟨ρ5, L5, e5, hL5, r2, r3, r4, r5, r6, r7, r8, r9, r10, r11, r12, r13, r14, r15, r16, r17, rfl⟩ := x3_turns (n := 5) (p0 := p0) (p2 := some x) (p8 := q8) (p9 := q9) (p10 := q10) (p11 := q11) (p12 := q12) (p13 := q13) (p14 := q14) (p15 := q15) (p16 := q16) (p17 := q17) o td bt hlen p hL2
  have e5' : evS T (callN T 11) x_law_3 [p0, some (.r 1), some x, some (.d (hd h)), some (.d d), some (.d (ruleD h.alph nexts (endsOf h sm))), some (.d (dT D.str h.alph)), some (.d (.str d.shown)), q8, q9, q10, q11, q12, q13, q14, q15, q16, q17] L2 = .next _ L5 := e5
  simp_arith [e1, e2, e3, e4, hd_alph, rs, e5']
  exact ⟨hL5, _, _, _, _, _, _, _, _, _, _, _, _, _, _, _, _, rfl⟩
end
theorem plain : ∀ ns : List Int, ns.length ≤ 63 → ∃ L, callN T 12 0 [.d (.scr (ns.map .int))] [] = .ok (.d (.bl true)) L := by
  intro ns _
  refine ⟨[], ?_⟩
  rw [callN_succ]
  obtain ⟨v1, L1, e1, xs, a, b, rfl, hx, rfl⟩ := (deck_ok (n := 10) (ns := ns)).ex
  obtain ⟨ρ2, L2, e2, _⟩ := x4_turns (p0 := some (.d (.scr (ns.map .int)))) (p2 := none) (p3 := none) (p4 := none) (p5 := none) (p6 := none) (p7 := none) (p8 := none) (p9 := none) (p10 := none) (p11 := none) (p12 := none) (p13 := none) (p14 := none) (p15 := none) (p16 := none) (p17 := none) (R := []) ⟨xs, a, b, hx, rfl⟩
  refine (run_ret (d := d_law) (v := .d (.bl true)) (L' := [] ++ L2) rfl rfl ?_).trans leave_app
  show evSs T (callN T 11) b_law [some (.d (.scr (ns.map .int))), none, none, none, none, none, none, none, none, none, none, none, none, none, none, none, none, none] [] = _
  have e1' : callN T 11 1 [.d (.scr (ns.map .int))] [] = .ok (.r 1) (dk xs a b []) := e1
  have e2' : evS T (callN T 11) x_law_4 [some (.d (.scr (ns.map .int))), some (.r 1), none, none, none, none, none, none, none, none, none, none, none, none, none, none, none, none] (dk xs a b []) = .next ρ2 L2 := e2
  unfold b_law
  simp_arith [e1', e2']
end K64
end
section
set_option Elab.async false
set_option linter.all false
set_option maxRecDepth 100000
set_option maxHeartbeats 4000000
/-! the table of k64 is what the text says -/
namespace K64
open PySem L2 L3
def top (i : Nat) : Stmt := PySem.Challenge.pw_fewslips_k64_courses_and_what_is_heard.main.body.getD i (.Pass ⟨0, 0, 0, 0⟩)
abbrev s_law : Stmt := top 64
def n_law : List Str := ["_law_script", "_law_deck_here", "_law_k", "_law_h", "_law_it", "_law_code_here", "_law_alphabets", "_law_seen", "_law_turn", "_law_many", "_law_story", "_law_answers", "_law_last_here", "_law_due", "_law_told", "_law_more", "_law_alone", "_law_own"]
def p_law : List Str := ["_law_script"]
abbrev s__law_deck : Stmt := top 48
def n__law_deck : List Str := ["_law_script", "_law_mixed", "_law_cell"]
def p__law_deck : List Str := ["_law_script"]
abbrev s__law_little : Stmt := top 57
def n__law_little : List Str := ["_law_deck_here", "_law_pool", "_law_lots", "_law_clock", "_law_alphabets", "_law_sizes", "_law_desks", "_law_own", "_law_many", "_law_turns", "_law_wide", "_law_found", "_law_ends", "_law_k", "_law_sign", "_law_size", "_law_day"]
def p__law_little : List Str := ["_law_deck_here"]
abbrev s__law_last : Stmt := top 58
def n__law_last : List Str := ["_law_h", "_law_lot", "_law_at", "_law_size", "_law_mark", "_law_row"]
def p__law_last : List Str := ["_law_h", "_law_lot"]
abbrev s__law_code : Stmt := top 56
def n__law_code : List Str := ["_law_w"]
def p__law_code : List Str := ["_law_w"]
abbrev s__law_world : Stmt := top 55
def n__law_world : List Str := ["_law_h", "_law_some", "_law_nexts", "_law_spots", "_law_place", "_law_row", "_law_day", "_law_there", "_law_ends"]
def p__law_world : List Str := ["_law_h"]
abbrev s__law_halves : Stmt := top 59
def n__law_halves : List Str := ["_law_deck_here", "_law_h", "_law_left", "_law_known", "_law_seat", "_law_turns", "_law_noted", "_law_halves_here", "_law_half", "_law_some", "_law_mark", "_law_is_it"]
def p__law_halves : List Str := ["_law_deck_here", "_law_h", "_law_left", "_law_known", "_law_seat"]
abbrev s__law_moved : Stmt := top 54
def n__law_moved : List Str := ["_law_h", "_law_spots", "_law_day", "_law_found", "_law_desk", "_law_own", "_law_spot", "_law_sign"]
def p__law_moved : List Str := ["_law_h", "_law_spots", "_law_day"]
abbrev s__law_later : Stmt := top 53
def n__law_later : List Str := ["_law_h", "_law_place"]
def p__law_later : List Str := ["_law_h", "_law_place"]
abbrev s__law_said : Stmt := top 52
def n__law_said : List Str := ["_law_h", "_law_spots", "_law_place", "_law_at", "_law_size", "_law_desk", "_law_spot"]
def p__law_said : List Str := ["_law_h", "_law_spots", "_law_place"]
abbrev s_course : Stmt := top 24
def n_course : List Str := ["paper", "letters", "history"]
def p_course : List Str := ["paper", "letters", "history"]
abbrev s_heard : Stmt := top 26
def n_heard : List Str := ["paper", "letters", "history"]
def p_heard : List Str := ["paper", "letters", "history"]
abbrev s_Rule_outcome : Stmt := inClass (top 43) 7
def n_Rule_outcome : List Str := ["self", "history"]
def p_Rule_outcome : List Str := ["self", "history"]
abbrev s__law_pick : Stmt := top 50
def n__law_pick : List Str := ["_law_deck_here", "_law_some"]
def p__law_pick : List Str := ["_law_deck_here", "_law_some"]
abbrev s__law_draw : Stmt := top 49
def n__law_draw : List Str := ["_law_deck_here", "_law_many", "_law_told_here", "_law_cell"]
def p__law_draw : List Str := ["_law_deck_here", "_law_many"]
abbrev s__law_tuples : Stmt := top 51
def n__law_tuples : List Str := ["_law_lots", "_law_found", "_law_lot", "_law_longer", "_law_row", "_law_item"]
def p__law_tuples : List Str := ["_law_lots"]
abbrev s_RuleU_initU : Stmt := inClass (top 43) 0
def n_RuleU_initU : List Str := ["self", "letters", "moves", "outcomes", "place", "day"]
def p_RuleU_initU : List Str := ["self", "letters", "moves", "outcomes"]
abbrev s__law_asked : Stmt := top 60
def n__law_asked : List Str := ["_law_deck_here", "_law_h", "_law_left", "_law_known", "_law_is_free", "_law_way", "_law_seat", "_law_rest", "_law_turns", "_law_at", "_law_more", "_law_some", "_law_mark", "_law_k", "_law_sign"]
def p__law_asked : List Str := ["_law_deck_here", "_law_h", "_law_left", "_law_known", "_law_is_free"]
abbrev s__law_by_hand : Stmt := top 61
def n__law_by_hand : List Str := ["_law_deck_here", "_law_h"]
def p__law_by_hand : List Str := ["_law_deck_here", "_law_h"]
abbrev s__law_answered : Stmt := top 62
def n__law_answered : List Str := ["_law_it", "_law_alphabets", "_law_story", "_law_found", "_law_here", "_law_spot", "_law_own", "_law_sign"]
def p__law_answered : List Str := ["_law_it", "_law_alphabets", "_law_story"]
abbrev s__law_on : Stmt := top 63
def n__law_on : List Str := ["_law_last_here", "_law_many", "_law_place", "_law_day"]
def p__law_on : List Str := ["_law_last_here", "_law_many"]
abbrev s_Rule_state : Stmt := inClass (top 43) 6
def n_Rule_state : List Str := ["self", "history", "here", "day"]
def p_Rule_state : List Str := ["self", "history"]
abbrev s_check_parts : Stmt := top 41
def n_check_parts : List Str := ["letters", "moves", "outcomes", "many", "row", "own", "outcome"]
def p_check_parts : List Str := ["letters", "moves", "outcomes"]
abbrev s_days_of : Stmt := top 18
def n_days_of : List Str := ["letters", "found", "own", "day", "letter"]
def p_days_of : List Str := ["letters"]
abbrev s_columns : Stmt := top 19
def n_columns : List Str := ["history", "at", "word"]
def p_columns : List Str := ["history"]
abbrev s_gone_along : Stmt := top 23
def n_gone_along : List Str := ["paper", "letters", "history", "found", "here", "word", "clerk", "moves", "answers", "further"]
def p_gone_along : List Str := ["paper", "letters", "history"]
abbrev s_Rule_is_history : Stmt := inClass (top 43) 5
def n_Rule_is_history : List Str := ["self", "thing", "own", "word"]
def p_Rule_is_history : List Str := ["self", "thing"]
abbrev s_is_letters : Stmt := top 16
def n_is_letters : List Str := ["thing", "one", "other"]
def p_is_letters : List Str := ["thing"]
abbrev s_is_row : Stmt := top 42
def n_is_row : List Str := ["thing", "many", "states", "state"]
def p_is_row : List Str := ["thing", "many", "states"]
abbrev s_is_outcome : Stmt := top 17
def n_is_outcome : List Str := ["thing"]
def p_is_outcome : List Str := ["thing"]
abbrev s_is_word : Stmt := top 15
def n_is_word : List Str := ["letters", "thing", "sign"]
def p_is_word : List Str := ["letters", "thing"]
abbrev s_is_integer : Stmt := top 14
def n_is_integer : List Str := ["thing"]
def p_is_integer : List Str := ["thing"]
abbrev s_told_on : Stmt := top 25
def n_told_on : List Str := ["end", "days", "word", "tail", "row"]
def p_told_on : List Str := ["end", "days"]
abbrev s_answer_to : Stmt := top 22
def n_answer_to : List Str := ["moves", "answers", "letters", "word", "room", "letter"]
def p_answer_to : List Str := ["moves", "answers", "letters", "word"]
def gm (x : Str) (d : GM) : Str × GM := (x, d)
def globs : List (Str × GM) := [gm "law" (GM.fn 0), gm "_law_deck" (GM.fn 1), gm "_law_little" (GM.fn 2), gm "_law_last" (GM.fn 3), gm "_law_code" (GM.fn 4), gm "_law_world" (GM.fn 5), gm "_law_halves" (GM.fn 6), gm "_law_moved" (GM.fn 7), gm "_law_later" (GM.fn 8), gm "_law_said" (GM.fn 9), gm "course" (GM.fn 10), gm "heard" (GM.fn 11), gm "_law_pick" (GM.fn 13), gm "_law_draw" (GM.fn 14), gm "_law_tuples" (GM.fn 15), gm "_law_asked" (GM.fn 17), gm "_law_by_hand" (GM.fn 18), gm "_law_answered" (GM.fn 19), gm "_law_on" (GM.fn 20), gm "check_parts" (GM.fn 22), gm "days_of" (GM.fn 23), gm "columns" (GM.fn 24), gm "gone_along" (GM.fn 25), gm "is_letters" (GM.fn 27), gm "is_row" (GM.fn 28), gm "is_outcome" (GM.fn 29), gm "is_word" (GM.fn 30), gm "is_integer" (GM.fn 31), gm "told_on" (GM.fn 32), gm "answer_to" (GM.fn 33), gm "Rule" (GM.cls 0), gm "CLERKS" (GM.con (.tup [(.int 2), (.int 3)])), gm "END" (GM.con (.str [101, 110, 100])), gm "ALPHABET" (GM.con (.str [97, 98, 99, 100, 101, 102, 103, 104, 105, 106, 107, 108, 109, 110, 111, 112, 113, 114, 115, 116, 117, 118, 119, 120, 121, 122])), gm "MOST_LETTERS" (GM.con (.int 12)), gm "LONGEST_OUTCOME" (GM.con (.int 8)), gm "BARRED_OUTCOME" (GM.con (.str [115, 101, 108, 102]))]
def G : GE := { globs := globs, names := ["outcome", "outcomes", "state", "letters", "moves", "day_places", "is_history"], kwt := [(10, 0, [2, 1, 0]), (11, 0, [1, 0, 2])], pnames := [p_law, p__law_deck, p__law_little, p__law_last, p__law_code, p__law_world, p__law_halves, p__law_moved, p__law_later, p__law_said, p_course, p_heard, p_Rule_outcome, p__law_pick, p__law_draw, p__law_tuples, p_RuleU_initU, p__law_asked, p__law_by_hand, p__law_answered, p__law_on, p_Rule_state, p_check_parts, p_days_of, p_columns, p_gone_along, p_Rule_is_history, p_is_letters, p_is_row, p_is_outcome, p_is_word, p_is_integer, p_told_on, p_answer_to] }
theorem m_law : mSs G T ⟨n_law, defScope s_law, fun _ => true⟩ b_law (defBody s_law) = true := by decide +kernel
theorem sc_law : FnScope n_law p_law (defScope s_law) := ⟨rfl, rfl, rfl, by decide +kernel, by decide +kernel, by decide +kernel, by decide +kernel⟩
theorem m__law_deck : mSs G T ⟨n__law_deck, defScope s__law_deck, fun _ => true⟩ b__law_deck (defBody s__law_deck) = true := by decide +kernel
theorem sc__law_deck : FnScope n__law_deck p__law_deck (defScope s__law_deck) := ⟨rfl, rfl, rfl, by decide +kernel, by decide +kernel, by decide +kernel, by decide +kernel⟩
theorem m__law_little : mSs G T ⟨n__law_little, defScope s__law_little, fun _ => true⟩ b__law_little (defBody s__law_little) = true := by decide +kernel
theorem sc__law_little : FnScope n__law_little p__law_little (defScope s__law_little) := ⟨rfl, rfl, rfl, by decide +kernel, by decide +kernel, by decide +kernel, by decide +kernel⟩
theorem m__law_last : mSs G T ⟨n__law_last, defScope s__law_last, fun _ => true⟩ b__law_last (defBody s__law_last) = true := by decide +kernel
theorem sc__law_last : FnScope n__law_last p__law_last (defScope s__law_last) := ⟨rfl, rfl, rfl, by decide +kernel, by decide +kernel, by decide +kernel, by decide +kernel⟩
theorem m__law_code : mSs G T ⟨n__law_code, defScope s__law_code, fun _ => true⟩ b__law_code (defBody s__law_code) = true := by decide +kernel
theorem sc__law_code : FnScope n__law_code p__law_code (defScope s__law_code) := ⟨rfl, rfl, rfl, by decide +kernel, by decide +kernel, by decide +kernel, by decide +kernel⟩
theorem m__law_world : mSs G T ⟨n__law_world, defScope s__law_world, fun _ => true⟩ b__law_world (defBody s__law_world) = true := by decide +kernel
theorem sc__law_world : FnScope n__law_world p__law_world (defScope s__law_world) := ⟨rfl, rfl, rfl, by decide +kernel, by decide +kernel, by decide +kernel, by decide +kernel⟩
theorem m__law_halves : mSs G T ⟨n__law_halves, defScope s__law_halves, fun _ => true⟩ b__law_halves (defBody s__law_halves) = true := by decide +kernel
theorem sc__law_halves : FnScope n__law_halves p__law_halves (defScope s__law_halves) := ⟨rfl, rfl, rfl, by decide +kernel, by decide +kernel, by decide +kernel, by decide +kernel⟩
theorem m__law_moved : mSs G T ⟨n__law_moved, defScope s__law_moved, fun _ => true⟩ b__law_moved (defBody s__law_moved) = true := by decide +kernel
theorem sc__law_moved : FnScope n__law_moved p__law_moved (defScope s__law_moved) := ⟨rfl, rfl, rfl, by decide +kernel, by decide +kernel, by decide +kernel, by decide +kernel⟩
theorem m__law_later : mSs G T ⟨n__law_later, defScope s__law_later, fun _ => true⟩ b__law_later (defBody s__law_later) = true := by decide +kernel
theorem sc__law_later : FnScope n__law_later p__law_later (defScope s__law_later) := ⟨rfl, rfl, rfl, by decide +kernel, by decide +kernel, by decide +kernel, by decide +kernel⟩
theorem m__law_said : mSs G T ⟨n__law_said, defScope s__law_said, fun _ => true⟩ b__law_said (defBody s__law_said) = true := by decide +kernel
theorem sc__law_said : FnScope n__law_said p__law_said (defScope s__law_said) := ⟨rfl, rfl, rfl, by decide +kernel, by decide +kernel, by decide +kernel, by decide +kernel⟩
theorem m_course : mSs G T ⟨n_course, defScope s_course, fun _ => true⟩ b_course (defBody s_course) = true := by decide +kernel
theorem sc_course : FnScope n_course p_course (defScope s_course) := ⟨rfl, rfl, rfl, by decide +kernel, by decide +kernel, by decide +kernel, by decide +kernel⟩
theorem m_heard : mSs G T ⟨n_heard, defScope s_heard, fun _ => true⟩ b_heard (defBody s_heard) = true := by decide +kernel
theorem sc_heard : FnScope n_heard p_heard (defScope s_heard) := ⟨rfl, rfl, rfl, by decide +kernel, by decide +kernel, by decide +kernel, by decide +kernel⟩
theorem m_Rule_outcome : mSs G T ⟨n_Rule_outcome, defScope s_Rule_outcome, fun _ => true⟩ b_Rule_outcome (defBody s_Rule_outcome) = true := by decide +kernel
theorem sc_Rule_outcome : FnScope n_Rule_outcome p_Rule_outcome (defScope s_Rule_outcome) := ⟨rfl, rfl, rfl, by decide +kernel, by decide +kernel, by decide +kernel, by decide +kernel⟩
theorem m__law_pick : mSs G T ⟨n__law_pick, defScope s__law_pick, fun _ => true⟩ b__law_pick (defBody s__law_pick) = true := by decide +kernel
theorem sc__law_pick : FnScope n__law_pick p__law_pick (defScope s__law_pick) := ⟨rfl, rfl, rfl, by decide +kernel, by decide +kernel, by decide +kernel, by decide +kernel⟩
theorem m__law_draw : mSs G T ⟨n__law_draw, defScope s__law_draw, fun _ => true⟩ b__law_draw (defBody s__law_draw) = true := by decide +kernel
theorem sc__law_draw : FnScope n__law_draw p__law_draw (defScope s__law_draw) := ⟨rfl, rfl, rfl, by decide +kernel, by decide +kernel, by decide +kernel, by decide +kernel⟩
theorem m__law_tuples : mSs G T ⟨n__law_tuples, defScope s__law_tuples, fun _ => true⟩ b__law_tuples (defBody s__law_tuples) = true := by decide +kernel
theorem sc__law_tuples : FnScope n__law_tuples p__law_tuples (defScope s__law_tuples) := ⟨rfl, rfl, rfl, by decide +kernel, by decide +kernel, by decide +kernel, by decide +kernel⟩
theorem m_RuleU_initU : mSs G T ⟨n_RuleU_initU, defScope s_RuleU_initU, fun _ => true⟩ b_RuleU_initU (defBody s_RuleU_initU) = true := by decide +kernel
theorem sc_RuleU_initU : FnScope n_RuleU_initU p_RuleU_initU (defScope s_RuleU_initU) := ⟨rfl, rfl, rfl, by decide +kernel, by decide +kernel, by decide +kernel, by decide +kernel⟩
theorem m__law_asked : mSs G T ⟨n__law_asked, defScope s__law_asked, fun _ => true⟩ b__law_asked (defBody s__law_asked) = true := by decide +kernel
theorem sc__law_asked : FnScope n__law_asked p__law_asked (defScope s__law_asked) := ⟨rfl, rfl, rfl, by decide +kernel, by decide +kernel, by decide +kernel, by decide +kernel⟩
theorem m__law_by_hand : mSs G T ⟨n__law_by_hand, defScope s__law_by_hand, fun _ => true⟩ b__law_by_hand (defBody s__law_by_hand) = true := by decide +kernel
theorem sc__law_by_hand : FnScope n__law_by_hand p__law_by_hand (defScope s__law_by_hand) := ⟨rfl, rfl, rfl, by decide +kernel, by decide +kernel, by decide +kernel, by decide +kernel⟩
theorem m__law_answered : mSs G T ⟨n__law_answered, defScope s__law_answered, fun _ => true⟩ b__law_answered (defBody s__law_answered) = true := by decide +kernel
theorem sc__law_answered : FnScope n__law_answered p__law_answered (defScope s__law_answered) := ⟨rfl, rfl, rfl, by decide +kernel, by decide +kernel, by decide +kernel, by decide +kernel⟩
theorem m__law_on : mSs G T ⟨n__law_on, defScope s__law_on, fun _ => true⟩ b__law_on (defBody s__law_on) = true := by decide +kernel
theorem sc__law_on : FnScope n__law_on p__law_on (defScope s__law_on) := ⟨rfl, rfl, rfl, by decide +kernel, by decide +kernel, by decide +kernel, by decide +kernel⟩
theorem m_Rule_state : mSs G T ⟨n_Rule_state, defScope s_Rule_state, fun _ => true⟩ b_Rule_state (defBody s_Rule_state) = true := by decide +kernel
theorem sc_Rule_state : FnScope n_Rule_state p_Rule_state (defScope s_Rule_state) := ⟨rfl, rfl, rfl, by decide +kernel, by decide +kernel, by decide +kernel, by decide +kernel⟩
theorem m_check_parts : mSs G T ⟨n_check_parts, defScope s_check_parts, fun _ => true⟩ b_check_parts (defBody s_check_parts) = true := by decide +kernel
theorem sc_check_parts : FnScope n_check_parts p_check_parts (defScope s_check_parts) := ⟨rfl, rfl, rfl, by decide +kernel, by decide +kernel, by decide +kernel, by decide +kernel⟩
theorem m_days_of : mSs G T ⟨n_days_of, defScope s_days_of, fun _ => true⟩ b_days_of (defBody s_days_of) = true := by decide +kernel
theorem sc_days_of : FnScope n_days_of p_days_of (defScope s_days_of) := ⟨rfl, rfl, rfl, by decide +kernel, by decide +kernel, by decide +kernel, by decide +kernel⟩
theorem m_columns : mSs G T ⟨n_columns, defScope s_columns, fun _ => true⟩ b_columns (defBody s_columns) = true := by decide +kernel
theorem sc_columns : FnScope n_columns p_columns (defScope s_columns) := ⟨rfl, rfl, rfl, by decide +kernel, by decide +kernel, by decide +kernel, by decide +kernel⟩
theorem m_gone_along : mSs G T ⟨n_gone_along, defScope s_gone_along, fun _ => true⟩ b_gone_along (defBody s_gone_along) = true := by decide +kernel
theorem sc_gone_along : FnScope n_gone_along p_gone_along (defScope s_gone_along) := ⟨rfl, rfl, rfl, by decide +kernel, by decide +kernel, by decide +kernel, by decide +kernel⟩
theorem m_Rule_is_history : mSs G T ⟨n_Rule_is_history, defScope s_Rule_is_history, fun _ => true⟩ b_Rule_is_history (defBody s_Rule_is_history) = true := by decide +kernel
theorem sc_Rule_is_history : FnScope n_Rule_is_history p_Rule_is_history (defScope s_Rule_is_history) := ⟨rfl, rfl, rfl, by decide +kernel, by decide +kernel, by decide +kernel, by decide +kernel⟩
theorem m_is_letters : mSs G T ⟨n_is_letters, defScope s_is_letters, fun _ => true⟩ b_is_letters (defBody s_is_letters) = true := by decide +kernel
theorem sc_is_letters : FnScope n_is_letters p_is_letters (defScope s_is_letters) := ⟨rfl, rfl, rfl, by decide +kernel, by decide +kernel, by decide +kernel, by decide +kernel⟩
theorem m_is_row : mSs G T ⟨n_is_row, defScope s_is_row, fun _ => true⟩ b_is_row (defBody s_is_row) = true := by decide +kernel
theorem sc_is_row : FnScope n_is_row p_is_row (defScope s_is_row) := ⟨rfl, rfl, rfl, by decide +kernel, by decide +kernel, by decide +kernel, by decide +kernel⟩
theorem m_is_outcome : mSs G T ⟨n_is_outcome, defScope s_is_outcome, fun _ => true⟩ b_is_outcome (defBody s_is_outcome) = true := by decide +kernel
theorem sc_is_outcome : FnScope n_is_outcome p_is_outcome (defScope s_is_outcome) := ⟨rfl, rfl, rfl, by decide +kernel, by decide +kernel, by decide +kernel, by decide +kernel⟩
theorem m_is_word : mSs G T ⟨n_is_word, defScope s_is_word, fun _ => true⟩ b_is_word (defBody s_is_word) = true := by decide +kernel
theorem sc_is_word : FnScope n_is_word p_is_word (defScope s_is_word) := ⟨rfl, rfl, rfl, by decide +kernel, by decide +kernel, by decide +kernel, by decide +kernel⟩
theorem m_is_integer : mSs G T ⟨n_is_integer, defScope s_is_integer, fun _ => true⟩ b_is_integer (defBody s_is_integer) = true := by decide +kernel
theorem sc_is_integer : FnScope n_is_integer p_is_integer (defScope s_is_integer) := ⟨rfl, rfl, rfl, by decide +kernel, by decide +kernel, by decide +kernel, by decide +kernel⟩
theorem m_told_on : mSs G T ⟨n_told_on, defScope s_told_on, fun _ => true⟩ b_told_on (defBody s_told_on) = true := by decide +kernel
theorem sc_told_on : FnScope n_told_on p_told_on (defScope s_told_on) := ⟨rfl, rfl, rfl, by decide +kernel, by decide +kernel, by decide +kernel, by decide +kernel⟩
theorem m_answer_to : mSs G T ⟨n_answer_to, defScope s_answer_to, fun _ => true⟩ b_answer_to (defBody s_answer_to) = true := by decide +kernel
theorem sc_answer_to : FnScope n_answer_to p_answer_to (defScope s_answer_to) := ⟨rfl, rfl, rfl, by decide +kernel, by decide +kernel, by decide +kernel, by decide +kernel⟩
end K64
end
section
set_option Elab.async false
set_option linter.all false
set_option maxRecDepth 100000
set_option maxHeartbeats 4000000
/-! the facts behind the top of k64, its head -/
namespace K64
open PySem PySem.Spec PyProof.Rows L2 L3
theorem names_nd : G.names.Nodup := by decide +kernel
theorem names_sh : ∀ x ∈ G.names, x.cps.size < 1000 := by decide +kernel
theorem all {w : World} {K : PySem.W.Frag} {h : Heap} {mg : Str → Option Value} {fa C0 f0 f1 f2 f3 f4 f5 f6 f7 f8 f9 f10 f11 f12 f13 f14 f15 f16 f17 f18 f19 f20 f21 f22 f23 f24 f25 f26 f27 f28 f29 f30 f31 f32 f33 ca0 : Addr} {oc0 kV0 dc0 pm0 cd0 ct0 oc1 kV1 dc1 pm1 cd1 ct1 oc2 kV2 dc2 pm2 cd2 ct2 oc3 kV3 dc3 pm3 cd3 ct3 oc4 kV4 dc4 pm4 cd4 ct4 oc5 kV5 dc5 pm5 cd5 ct5 oc6 kV6 dc6 pm6 cd6 ct6 oc7 kV7 dc7 pm7 cd7 ct7 oc8 kV8 dc8 pm8 cd8 ct8 oc9 kV9 dc9 pm9 cd9 ct9 oc10 kV10 dc10 pm10 cd10 ct10 oc11 kV11 dc11 pm11 cd11 ct11 oc12 kV12 dc12 pm12 cd12 ct12 oc13 kV13 dc13 pm13 cd13 ct13 oc14 kV14 dc14 pm14 cd14 ct14 oc15 kV15 dc15 pm15 cd15 ct15 oc16 kV16 dc16 pm16 cd16 ct16 oc17 kV17 dc17 pm17 cd17 ct17 oc18 kV18 dc18 pm18 cd18 ct18 oc19 kV19 dc19 pm19 cd19 ct19 oc20 kV20 dc20 pm20 cd20 ct20 oc21 kV21 dc21 pm21 cd21 ct21 oc22 kV22 dc22 pm22 cd22 ct22 oc23 kV23 dc23 pm23 cd23 ct23 oc24 kV24 dc24 pm24 cd24 ct24 oc25 kV25 dc25 pm25 cd25 ct25 oc26 kV26 dc26 pm26 cd26 ct26 oc27 kV27 dc27 pm27 cd27 ct27 oc28 kV28 dc28 pm28 cd28 ct28 oc29 kV29 dc29 pm29 cd29 ct29 oc30 kV30 dc30 pm30 cd30 ct30 oc31 kV31 dc31 pm31 cd31 ct31 oc32 kV32 dc32 pm32 cd32 ct32 oc33 kV33 dc33 pm33 cd33 ct33 : Value} {od0 an0 od1 an1 od2 an2 od3 an3 od4 an4 od5 an5 od6 an6 od7 an7 od8 an8 od9 an9 od10 an10 od11 an11 od12 an12 od13 an13 od14 an14 od15 an15 od16 an16 od17 an17 od18 an18 od19 an19 od20 an20 od21 an21 od22 an22 od23 an23 od24 an24 od25 an25 od26 an26 od27 an27 od28 an28 od29 an29 od30 an30 od31 an31 od32 an32 od33 an33 cod0 : Option Addr} {sl0 sl1 sl2 sl3 sl4 sl5 sl6 sl7 sl8 sl9 sl10 sl11 sl12 sl13 sl14 sl15 sl16 sl17 sl18 sl19 sl20 sl21 sl22 sl23 sl24 sl25 sl26 sl27 sl28 sl29 sl30 sl31 sl32 sl33 csl0 : Array (Option Value)} {tk0_0 tk0_1 cn0 tk1 tk2 tk3 tk4 tk5 : Nat} (X : K.In h) (Gm : h.Ns mainGlobals mg) (hfa : mg "law" = some (.ref fa))
    (aC0 : PySem.W.nsIn K mainGlobals "Rule" = some (some (.ref C0)))
    (pg0 : PySem.W.plainGet K C0 Str.empty = true)
    (hd0 : PySem.W.hasDictIn K C0 = true)
    (po0 : PySem.W.plainOver K C0 = true)
    (sa0 : PySem.W.findIn K (.ref C0) "__setattr__" = some (some (.builtin "object.__setattr__")))
    (mk0 : PySem.W.makesIn K C0 = true)
    (kc0 : PySem.W.keepIn K (.ref C0) = true)
    (na0_0 : PySem.W.findIn K (.ref C0) "letters" = some none)
    (na0_1 : PySem.W.findIn K (.ref C0) "moves" = some none)
    (na0_2 : PySem.W.findIn K (.ref C0) "outcomes" = some none)
    (na0_3 : PySem.W.findIn K (.ref C0) "day_places" = some none)
    (a0 : PySem.W.nsIn K mainGlobals "law" = some (some (.ref f0)))
    (l0 : K.lookup f0 = some ⟨oc0, od0, .func (PySem.W.fnOf "law" "law" (defArgs s_law) (defBody s_law) (defScope s_law) .none kV0 dc0 pm0 an0 cd0 ct0), sl0⟩)
    (c0 : PySem.W.codeIn K cd0 "law" = true)
    (k0 : PySem.W.keepIn K (.ref f0) = true)
    (a1 : PySem.W.nsIn K mainGlobals "_law_deck" = some (some (.ref f1)))
    (l1 : K.lookup f1 = some ⟨oc1, od1, .func (PySem.W.fnOf "_law_deck" "_law_deck" (defArgs s__law_deck) (defBody s__law_deck) (defScope s__law_deck) .none kV1 dc1 pm1 an1 cd1 ct1), sl1⟩)
    (c1 : PySem.W.codeIn K cd1 "_law_deck" = true)
    (k1 : PySem.W.keepIn K (.ref f1) = true)
    (a2 : PySem.W.nsIn K mainGlobals "_law_little" = some (some (.ref f2)))
    (l2 : K.lookup f2 = some ⟨oc2, od2, .func (PySem.W.fnOf "_law_little" "_law_little" (defArgs s__law_little) (defBody s__law_little) (defScope s__law_little) .none kV2 dc2 pm2 an2 cd2 ct2), sl2⟩)
    (c2 : PySem.W.codeIn K cd2 "_law_little" = true)
    (k2 : PySem.W.keepIn K (.ref f2) = true)
    (a3 : PySem.W.nsIn K mainGlobals "_law_last" = some (some (.ref f3)))
    (l3 : K.lookup f3 = some ⟨oc3, od3, .func (PySem.W.fnOf "_law_last" "_law_last" (defArgs s__law_last) (defBody s__law_last) (defScope s__law_last) .none kV3 dc3 pm3 an3 cd3 ct3), sl3⟩)
    (c3 : PySem.W.codeIn K cd3 "_law_last" = true)
    (k3 : PySem.W.keepIn K (.ref f3) = true)
    (a4 : PySem.W.nsIn K mainGlobals "_law_code" = some (some (.ref f4)))
    (l4 : K.lookup f4 = some ⟨oc4, od4, .func (PySem.W.fnOf "_law_code" "_law_code" (defArgs s__law_code) (defBody s__law_code) (defScope s__law_code) .none kV4 dc4 pm4 an4 cd4 ct4), sl4⟩)
    (c4 : PySem.W.codeIn K cd4 "_law_code" = true)
    (k4 : PySem.W.keepIn K (.ref f4) = true)
    (a5 : PySem.W.nsIn K mainGlobals "_law_world" = some (some (.ref f5)))
    (l5 : K.lookup f5 = some ⟨oc5, od5, .func (PySem.W.fnOf "_law_world" "_law_world" (defArgs s__law_world) (defBody s__law_world) (defScope s__law_world) .none kV5 dc5 pm5 an5 cd5 ct5), sl5⟩)
    (c5 : PySem.W.codeIn K cd5 "_law_world" = true)
    (k5 : PySem.W.keepIn K (.ref f5) = true)
    (a6 : PySem.W.nsIn K mainGlobals "_law_halves" = some (some (.ref f6)))
    (l6 : K.lookup f6 = some ⟨oc6, od6, .func (PySem.W.fnOf "_law_halves" "_law_halves" (defArgs s__law_halves) (defBody s__law_halves) (defScope s__law_halves) .none kV6 dc6 pm6 an6 cd6 ct6), sl6⟩)
    (c6 : PySem.W.codeIn K cd6 "_law_halves" = true)
    (k6 : PySem.W.keepIn K (.ref f6) = true)
    (a7 : PySem.W.nsIn K mainGlobals "_law_moved" = some (some (.ref f7)))
    (l7 : K.lookup f7 = some ⟨oc7, od7, .func (PySem.W.fnOf "_law_moved" "_law_moved" (defArgs s__law_moved) (defBody s__law_moved) (defScope s__law_moved) .none kV7 dc7 pm7 an7 cd7 ct7), sl7⟩)
    (c7 : PySem.W.codeIn K cd7 "_law_moved" = true)
    (k7 : PySem.W.keepIn K (.ref f7) = true)
    (a8 : PySem.W.nsIn K mainGlobals "_law_later" = some (some (.ref f8)))
    (l8 : K.lookup f8 = some ⟨oc8, od8, .func (PySem.W.fnOf "_law_later" "_law_later" (defArgs s__law_later) (defBody s__law_later) (defScope s__law_later) .none kV8 dc8 pm8 an8 cd8 ct8), sl8⟩)
    (c8 : PySem.W.codeIn K cd8 "_law_later" = true)
    (k8 : PySem.W.keepIn K (.ref f8) = true)
    (a9 : PySem.W.nsIn K mainGlobals "_law_said" = some (some (.ref f9)))
    (l9 : K.lookup f9 = some ⟨oc9, od9, .func (PySem.W.fnOf "_law_said" "_law_said" (defArgs s__law_said) (defBody s__law_said) (defScope s__law_said) .none kV9 dc9 pm9 an9 cd9 ct9), sl9⟩)
    (c9 : PySem.W.codeIn K cd9 "_law_said" = true)
    (k9 : PySem.W.keepIn K (.ref f9) = true)
    (a10 : PySem.W.nsIn K mainGlobals "course" = some (some (.ref f10)))
    (l10 : K.lookup f10 = some ⟨oc10, od10, .func (PySem.W.fnOf "course" "course" (defArgs s_course) (defBody s_course) (defScope s_course) .none kV10 dc10 pm10 an10 cd10 ct10), sl10⟩)
    (c10 : PySem.W.codeIn K cd10 "course" = true)
    (k10 : PySem.W.keepIn K (.ref f10) = true)
    (a11 : PySem.W.nsIn K mainGlobals "heard" = some (some (.ref f11)))
    (l11 : K.lookup f11 = some ⟨oc11, od11, .func (PySem.W.fnOf "heard" "heard" (defArgs s_heard) (defBody s_heard) (defScope s_heard) .none kV11 dc11 pm11 an11 cd11 ct11), sl11⟩)
    (c11 : PySem.W.codeIn K cd11 "heard" = true)
    (k11 : PySem.W.keepIn K (.ref f11) = true)
    (a12 : PySem.W.findIn K (.ref C0) "outcome" = some (some (.ref f12)))
    (i12 : PySem.W.isFn K (.ref f12) = true)
    (l12 : K.lookup f12 = some ⟨oc12, od12, .func (PySem.W.fnOf "outcome" "Rule.outcome" (defArgs s_Rule_outcome) (defBody s_Rule_outcome) (defScope s_Rule_outcome) .none kV12 dc12 pm12 an12 cd12 ct12), sl12⟩)
    (c12 : PySem.W.codeIn K cd12 "Rule.outcome" = true)
    (k12 : PySem.W.keepIn K (.ref f12) = true)
    (a13 : PySem.W.nsIn K mainGlobals "_law_pick" = some (some (.ref f13)))
    (l13 : K.lookup f13 = some ⟨oc13, od13, .func (PySem.W.fnOf "_law_pick" "_law_pick" (defArgs s__law_pick) (defBody s__law_pick) (defScope s__law_pick) .none kV13 dc13 pm13 an13 cd13 ct13), sl13⟩)
    (c13 : PySem.W.codeIn K cd13 "_law_pick" = true)
    (k13 : PySem.W.keepIn K (.ref f13) = true)
    (a14 : PySem.W.nsIn K mainGlobals "_law_draw" = some (some (.ref f14)))
    (l14 : K.lookup f14 = some ⟨oc14, od14, .func (PySem.W.fnOf "_law_draw" "_law_draw" (defArgs s__law_draw) (defBody s__law_draw) (defScope s__law_draw) .none kV14 dc14 pm14 an14 cd14 ct14), sl14⟩)
    (c14 : PySem.W.codeIn K cd14 "_law_draw" = true)
    (k14 : PySem.W.keepIn K (.ref f14) = true)
    (a15 : PySem.W.nsIn K mainGlobals "_law_tuples" = some (some (.ref f15)))
    (l15 : K.lookup f15 = some ⟨oc15, od15, .func (PySem.W.fnOf "_law_tuples" "_law_tuples" (defArgs s__law_tuples) (defBody s__law_tuples) (defScope s__law_tuples) .none kV15 dc15 pm15 an15 cd15 ct15), sl15⟩)
    (c15 : PySem.W.codeIn K cd15 "_law_tuples" = true)
    (k15 : PySem.W.keepIn K (.ref f15) = true)
    (a16 : PySem.W.findIn K (.ref C0) "__init__" = some (some (.ref f16)))
    (i16 : PySem.W.isFn K (.ref f16) = true)
    (l16 : K.lookup f16 = some ⟨oc16, od16, .func (PySem.W.fnOf "__init__" "Rule.__init__" (defArgs s_RuleU_initU) (defBody s_RuleU_initU) (defScope s_RuleU_initU) .none kV16 dc16 pm16 an16 cd16 ct16), sl16⟩)
    (c16 : PySem.W.codeIn K cd16 "Rule.__init__" = true)
    (k16 : PySem.W.keepIn K (.ref f16) = true)
    (a17 : PySem.W.nsIn K mainGlobals "_law_asked" = some (some (.ref f17)))
    (l17 : K.lookup f17 = some ⟨oc17, od17, .func (PySem.W.fnOf "_law_asked" "_law_asked" (defArgs s__law_asked) (defBody s__law_asked) (defScope s__law_asked) .none kV17 dc17 pm17 an17 cd17 ct17), sl17⟩)
    (c17 : PySem.W.codeIn K cd17 "_law_asked" = true)
    (k17 : PySem.W.keepIn K (.ref f17) = true)
    (a18 : PySem.W.nsIn K mainGlobals "_law_by_hand" = some (some (.ref f18)))
    (l18 : K.lookup f18 = some ⟨oc18, od18, .func (PySem.W.fnOf "_law_by_hand" "_law_by_hand" (defArgs s__law_by_hand) (defBody s__law_by_hand) (defScope s__law_by_hand) .none kV18 dc18 pm18 an18 cd18 ct18), sl18⟩)
    (c18 : PySem.W.codeIn K cd18 "_law_by_hand" = true)
    (k18 : PySem.W.keepIn K (.ref f18) = true)
    (a19 : PySem.W.nsIn K mainGlobals "_law_answered" = some (some (.ref f19)))
    (l19 : K.lookup f19 = some ⟨oc19, od19, .func (PySem.W.fnOf "_law_answered" "_law_answered" (defArgs s__law_answered) (defBody s__law_answered) (defScope s__law_answered) .none kV19 dc19 pm19 an19 cd19 ct19), sl19⟩)
    (c19 : PySem.W.codeIn K cd19 "_law_answered" = true)
    (k19 : PySem.W.keepIn K (.ref f19) = true)
    (a20 : PySem.W.nsIn K mainGlobals "_law_on" = some (some (.ref f20)))
    (l20 : K.lookup f20 = some ⟨oc20, od20, .func (PySem.W.fnOf "_law_on" "_law_on" (defArgs s__law_on) (defBody s__law_on) (defScope s__law_on) .none kV20 dc20 pm20 an20 cd20 ct20), sl20⟩)
    (c20 : PySem.W.codeIn K cd20 "_law_on" = true)
    (k20 : PySem.W.keepIn K (.ref f20) = true)
    (a21 : PySem.W.findIn K (.ref C0) "state" = some (some (.ref f21)))
    (i21 : PySem.W.isFn K (.ref f21) = true)
    (l21 : K.lookup f21 = some ⟨oc21, od21, .func (PySem.W.fnOf "state" "Rule.state" (defArgs s_Rule_state) (defBody s_Rule_state) (defScope s_Rule_state) .none kV21 dc21 pm21 an21 cd21 ct21), sl21⟩)
    (c21 : PySem.W.codeIn K cd21 "Rule.state" = true)
    (k21 : PySem.W.keepIn K (.ref f21) = true)
    (a22 : PySem.W.nsIn K mainGlobals "check_parts" = some (some (.ref f22)))
    (l22 : K.lookup f22 = some ⟨oc22, od22, .func (PySem.W.fnOf "check_parts" "check_parts" (defArgs s_check_parts) (defBody s_check_parts) (defScope s_check_parts) .none kV22 dc22 pm22 an22 cd22 ct22), sl22⟩)
    (c22 : PySem.W.codeIn K cd22 "check_parts" = true)
    (k22 : PySem.W.keepIn K (.ref f22) = true)
    (a23 : PySem.W.nsIn K mainGlobals "days_of" = some (some (.ref f23)))
    (l23 : K.lookup f23 = some ⟨oc23, od23, .func (PySem.W.fnOf "days_of" "days_of" (defArgs s_days_of) (defBody s_days_of) (defScope s_days_of) .none kV23 dc23 pm23 an23 cd23 ct23), sl23⟩)
    (c23 : PySem.W.codeIn K cd23 "days_of" = true)
    (k23 : PySem.W.keepIn K (.ref f23) = true)
    (a24 : PySem.W.nsIn K mainGlobals "columns" = some (some (.ref f24)))
    (l24 : K.lookup f24 = some ⟨oc24, od24, .func (PySem.W.fnOf "columns" "columns" (defArgs s_columns) (defBody s_columns) (defScope s_columns) .none kV24 dc24 pm24 an24 cd24 ct24), sl24⟩)
    (c24 : PySem.W.codeIn K cd24 "columns" = true)
    (k24 : PySem.W.keepIn K (.ref f24) = true)
    (a25 : PySem.W.nsIn K mainGlobals "gone_along" = some (some (.ref f25)))
    (l25 : K.lookup f25 = some ⟨oc25, od25, .func (PySem.W.fnOf "gone_along" "gone_along" (defArgs s_gone_along) (defBody s_gone_along) (defScope s_gone_along) .none kV25 dc25 pm25 an25 cd25 ct25), sl25⟩)
    (c25 : PySem.W.codeIn K cd25 "gone_along" = true)
    (k25 : PySem.W.keepIn K (.ref f25) = true)
    (a26 : PySem.W.findIn K (.ref C0) "is_history" = some (some (.ref f26)))
    (i26 : PySem.W.isFn K (.ref f26) = true)
    (l26 : K.lookup f26 = some ⟨oc26, od26, .func (PySem.W.fnOf "is_history" "Rule.is_history" (defArgs s_Rule_is_history) (defBody s_Rule_is_history) (defScope s_Rule_is_history) .none kV26 dc26 pm26 an26 cd26 ct26), sl26⟩)
    (c26 : PySem.W.codeIn K cd26 "Rule.is_history" = true)
    (k26 : PySem.W.keepIn K (.ref f26) = true)
    (a27 : PySem.W.nsIn K mainGlobals "is_letters" = some (some (.ref f27)))
    (l27 : K.lookup f27 = some ⟨oc27, od27, .func (PySem.W.fnOf "is_letters" "is_letters" (defArgs s_is_letters) (defBody s_is_letters) (defScope s_is_letters) .none kV27 dc27 pm27 an27 cd27 ct27), sl27⟩)
    (c27 : PySem.W.codeIn K cd27 "is_letters" = true)
    (k27 : PySem.W.keepIn K (.ref f27) = true)
    (a28 : PySem.W.nsIn K mainGlobals "is_row" = some (some (.ref f28)))
    (l28 : K.lookup f28 = some ⟨oc28, od28, .func (PySem.W.fnOf "is_row" "is_row" (defArgs s_is_row) (defBody s_is_row) (defScope s_is_row) .none kV28 dc28 pm28 an28 cd28 ct28), sl28⟩)
    (c28 : PySem.W.codeIn K cd28 "is_row" = true)
    (k28 : PySem.W.keepIn K (.ref f28) = true)
    (a29 : PySem.W.nsIn K mainGlobals "is_outcome" = some (some (.ref f29)))
    (l29 : K.lookup f29 = some ⟨oc29, od29, .func (PySem.W.fnOf "is_outcome" "is_outcome" (defArgs s_is_outcome) (defBody s_is_outcome) (defScope s_is_outcome) .none kV29 dc29 pm29 an29 cd29 ct29), sl29⟩)
    (c29 : PySem.W.codeIn K cd29 "is_outcome" = true)
    (k29 : PySem.W.keepIn K (.ref f29) = true)
    (a30 : PySem.W.nsIn K mainGlobals "is_word" = some (some (.ref f30)))
    (l30 : K.lookup f30 = some ⟨oc30, od30, .func (PySem.W.fnOf "is_word" "is_word" (defArgs s_is_word) (defBody s_is_word) (defScope s_is_word) .none kV30 dc30 pm30 an30 cd30 ct30), sl30⟩)
    (c30 : PySem.W.codeIn K cd30 "is_word" = true)
    (k30 : PySem.W.keepIn K (.ref f30) = true)
    (a31 : PySem.W.nsIn K mainGlobals "is_integer" = some (some (.ref f31)))
    (l31 : K.lookup f31 = some ⟨oc31, od31, .func (PySem.W.fnOf "is_integer" "is_integer" (defArgs s_is_integer) (defBody s_is_integer) (defScope s_is_integer) .none kV31 dc31 pm31 an31 cd31 ct31), sl31⟩)
    (c31 : PySem.W.codeIn K cd31 "is_integer" = true)
    (k31 : PySem.W.keepIn K (.ref f31) = true)
    (a32 : PySem.W.nsIn K mainGlobals "told_on" = some (some (.ref f32)))
    (l32 : K.lookup f32 = some ⟨oc32, od32, .func (PySem.W.fnOf "told_on" "told_on" (defArgs s_told_on) (defBody s_told_on) (defScope s_told_on) .none kV32 dc32 pm32 an32 cd32 ct32), sl32⟩)
    (c32 : PySem.W.codeIn K cd32 "told_on" = true)
    (k32 : PySem.W.keepIn K (.ref f32) = true)
    (a33 : PySem.W.nsIn K mainGlobals "answer_to" = some (some (.ref f33)))
    (l33 : K.lookup f33 = some ⟨oc33, od33, .func (PySem.W.fnOf "answer_to" "answer_to" (defArgs s_answer_to) (defBody s_answer_to) (defScope s_answer_to) .none kV33 dc33 pm33 an33 cd33 ct33), sl33⟩)
    (c33 : PySem.W.codeIn K cd33 "answer_to" = true)
    (k33 : PySem.W.keepIn K (.ref f33) = true)
    (con0 : PySem.W.nsIn K mainGlobals "CLERKS" = some (some (.ref ca0)))
    (conl0 : K.lookup ca0 = some ⟨.type "tuple", cod0, .seq #[.int 2 tk0_0, .int 3 tk0_1] cn0, csl0⟩)
    (con1 : PySem.W.nsIn K mainGlobals "END" = some (some (.str "end" tk1)))
    (con2 : PySem.W.nsIn K mainGlobals "ALPHABET" = some (some (.str "abcdefghijklmnopqrstuvwxyz" tk2)))
    (con3 : PySem.W.nsIn K mainGlobals "MOST_LETTERS" = some (some (.int 12 tk3)))
    (con4 : PySem.W.nsIn K mainGlobals "LONGEST_OUTCOME" = some (some (.int 8 tk4)))
    (con5 : PySem.W.nsIn K mainGlobals "BARRED_OUTCOME" = some (some (.str "self" tk5)))
    (z0 : PySem.W.nsIn K mainGlobals "len" = some none)
    (z1 : PySem.W.nsIn K mainGlobals "int" = some none)
    (z2 : PySem.W.nsIn K mainGlobals "str" = some none)
    (z3 : PySem.W.nsIn K mainGlobals "repr" = some none)
    (z4 : PySem.W.nsIn K mainGlobals "list" = some none)
    (z5 : PySem.W.nsIn K mainGlobals "tuple" = some none)
    (z6 : PySem.W.nsIn K mainGlobals "sum" = some none)
    (z7 : PySem.W.nsIn K mainGlobals "max" = some none)
    (z8 : PySem.W.nsIn K mainGlobals "min" = some none)
    (z9 : PySem.W.nsIn K mainGlobals "all" = some none)
    (z10 : PySem.W.nsIn K mainGlobals "any" = some none)
    (z11 : PySem.W.nsIn K mainGlobals "set" = some none)
    (z12 : PySem.W.nsIn K mainGlobals "isinstance" = some none)
    (z13 : PySem.W.nsIn K mainGlobals "range" = some none)
    (z14 : PySem.W.nsIn K mainGlobals "enumerate" = some none)
    (z15 : PySem.W.nsIn K mainGlobals "zip" = some none)
    (z16 : PySem.W.nsIn K mainGlobals "bool" = some none)
    (z17 : PySem.W.nsIn K mainGlobals "dict" = some none)
    (z18 : PySem.W.nsIn K mainGlobals "sorted" = some none)
    (plain : ∀ ns : List Int, ns.length ≤ 63 → ∃ L, callN T 12 0 [.d (.scr (ns.map .int))] [] = .ok (.d (.bl true)) L) : LawOk w K mg fa 63 := by
  have efa := hfa.symm.trans (PySem.W.mg_of X Gm a0)
  cases efa
  let Z : Lk := ⟨w, K, nmOf G.names, fun i => [C0].getD i 0, nmOf_inj names_nd names_sh⟩
  have F0 := fun_mk (st := s_law) l0 c0 k0
  have F1 := fun_mk (st := s__law_deck) l1 c1 k1
  have F2 := fun_mk (st := s__law_little) l2 c2 k2
  have F3 := fun_mk (st := s__law_last) l3 c3 k3
  have F4 := fun_mk (st := s__law_code) l4 c4 k4
  have F5 := fun_mk (st := s__law_world) l5 c5 k5
  have F6 := fun_mk (st := s__law_halves) l6 c6 k6
  have F7 := fun_mk (st := s__law_moved) l7 c7 k7
  have F8 := fun_mk (st := s__law_later) l8 c8 k8
  have F9 := fun_mk (st := s__law_said) l9 c9 k9
  have F10 := fun_mk (st := s_course) l10 c10 k10
  have F11 := fun_mk (st := s_heard) l11 c11 k11
  have F12 := fun_mk (st := s_Rule_outcome) l12 c12 k12
  have F13 := fun_mk (st := s__law_pick) l13 c13 k13
  have F14 := fun_mk (st := s__law_draw) l14 c14 k14
  have F15 := fun_mk (st := s__law_tuples) l15 c15 k15
  have F16 := fun_mk (st := s_RuleU_initU) l16 c16 k16
  have F17 := fun_mk (st := s__law_asked) l17 c17 k17
  have F18 := fun_mk (st := s__law_by_hand) l18 c18 k18
  have F19 := fun_mk (st := s__law_answered) l19 c19 k19
  have F20 := fun_mk (st := s__law_on) l20 c20 k20
  have F21 := fun_mk (st := s_Rule_state) l21 c21 k21
  have F22 := fun_mk (st := s_check_parts) l22 c22 k22
  have F23 := fun_mk (st := s_days_of) l23 c23 k23
  have F24 := fun_mk (st := s_columns) l24 c24 k24
  have F25 := fun_mk (st := s_gone_along) l25 c25 k25
  have F26 := fun_mk (st := s_Rule_is_history) l26 c26 k26
  have F27 := fun_mk (st := s_is_letters) l27 c27 k27
  have F28 := fun_mk (st := s_is_row) l28 c28 k28
  have F29 := fun_mk (st := s_is_outcome) l29 c29 k29
  have F30 := fun_mk (st := s_is_word) l30 c30 k30
  have F31 := fun_mk (st := s_is_integer) l31 c31 k31
  have F32 := fun_mk (st := s_told_on) l32 c32 k32
  have F33 := fun_mk (st := s_answer_to) l33 c33 k33
  let F : Fns := ⟨fun i => [fa, f1, f2, f3, f4, f5, f6, f7, f8, f9, f10, f11, f12, f13, f14, f15, f16, f17, f18, f19, f20, f21, f22, f23, f24, f25, f26, f27, f28, f29, f30, f31, f32, f33].getD i 0, fun i => [PySem.W.fnOf "law" "law" (defArgs s_law) (defBody s_law) (defScope s_law) .none kV0 dc0 pm0 an0 cd0 ct0, PySem.W.fnOf "_law_deck" "_law_deck" (defArgs s__law_deck) (defBody s__law_deck) (defScope s__law_deck) .none kV1 dc1 pm1 an1 cd1 ct1, PySem.W.fnOf "_law_little" "_law_little" (defArgs s__law_little) (defBody s__law_little) (defScope s__law_little) .none kV2 dc2 pm2 an2 cd2 ct2, PySem.W.fnOf "_law_last" "_law_last" (defArgs s__law_last) (defBody s__law_last) (defScope s__law_last) .none kV3 dc3 pm3 an3 cd3 ct3, PySem.W.fnOf "_law_code" "_law_code" (defArgs s__law_code) (defBody s__law_code) (defScope s__law_code) .none kV4 dc4 pm4 an4 cd4 ct4, PySem.W.fnOf "_law_world" "_law_world" (defArgs s__law_world) (defBody s__law_world) (defScope s__law_world) .none kV5 dc5 pm5 an5 cd5 ct5, PySem.W.fnOf "_law_halves" "_law_halves" (defArgs s__law_halves) (defBody s__law_halves) (defScope s__law_halves) .none kV6 dc6 pm6 an6 cd6 ct6, PySem.W.fnOf "_law_moved" "_law_moved" (defArgs s__law_moved) (defBody s__law_moved) (defScope s__law_moved) .none kV7 dc7 pm7 an7 cd7 ct7, PySem.W.fnOf "_law_later" "_law_later" (defArgs s__law_later) (defBody s__law_later) (defScope s__law_later) .none kV8 dc8 pm8 an8 cd8 ct8, PySem.W.fnOf "_law_said" "_law_said" (defArgs s__law_said) (defBody s__law_said) (defScope s__law_said) .none kV9 dc9 pm9 an9 cd9 ct9, PySem.W.fnOf "course" "course" (defArgs s_course) (defBody s_course) (defScope s_course) .none kV10 dc10 pm10 an10 cd10 ct10, PySem.W.fnOf "heard" "heard" (defArgs s_heard) (defBody s_heard) (defScope s_heard) .none kV11 dc11 pm11 an11 cd11 ct11, PySem.W.fnOf "outcome" "Rule.outcome" (defArgs s_Rule_outcome) (defBody s_Rule_outcome) (defScope s_Rule_outcome) .none kV12 dc12 pm12 an12 cd12 ct12, PySem.W.fnOf "_law_pick" "_law_pick" (defArgs s__law_pick) (defBody s__law_pick) (defScope s__law_pick) .none kV13 dc13 pm13 an13 cd13 ct13, PySem.W.fnOf "_law_draw" "_law_draw" (defArgs s__law_draw) (defBody s__law_draw) (defScope s__law_draw) .none kV14 dc14 pm14 an14 cd14 ct14, PySem.W.fnOf "_law_tuples" "_law_tuples" (defArgs s__law_tuples) (defBody s__law_tuples) (defScope s__law_tuples) .none kV15 dc15 pm15 an15 cd15 ct15, PySem.W.fnOf "__init__" "Rule.__init__" (defArgs s_RuleU_initU) (defBody s_RuleU_initU) (defScope s_RuleU_initU) .none kV16 dc16 pm16 an16 cd16 ct16, PySem.W.fnOf "_law_asked" "_law_asked" (defArgs s__law_asked) (defBody s__law_asked) (defScope s__law_asked) .none kV17 dc17 pm17 an17 cd17 ct17, PySem.W.fnOf "_law_by_hand" "_law_by_hand" (defArgs s__law_by_hand) (defBody s__law_by_hand) (defScope s__law_by_hand) .none kV18 dc18 pm18 an18 cd18 ct18, PySem.W.fnOf "_law_answered" "_law_answered" (defArgs s__law_answered) (defBody s__law_answered) (defScope s__law_answered) .none kV19 dc19 pm19 an19 cd19 ct19, PySem.W.fnOf "_law_on" "_law_on" (defArgs s__law_on) (defBody s__law_on) (defScope s__law_on) .none kV20 dc20 pm20 an20 cd20 ct20, PySem.W.fnOf "state" "Rule.state" (defArgs s_Rule_state) (defBody s_Rule_state) (defScope s_Rule_state) .none kV21 dc21 pm21 an21 cd21 ct21, PySem.W.fnOf "check_parts" "check_parts" (defArgs s_check_parts) (defBody s_check_parts) (defScope s_check_parts) .none kV22 dc22 pm22 an22 cd22 ct22, PySem.W.fnOf "days_of" "days_of" (defArgs s_days_of) (defBody s_days_of) (defScope s_days_of) .none kV23 dc23 pm23 an23 cd23 ct23, PySem.W.fnOf "columns" "columns" (defArgs s_columns) (defBody s_columns) (defScope s_columns) .none kV24 dc24 pm24 an24 cd24 ct24, PySem.W.fnOf "gone_along" "gone_along" (defArgs s_gone_along) (defBody s_gone_along) (defScope s_gone_along) .none kV25 dc25 pm25 an25 cd25 ct25, PySem.W.fnOf "is_history" "Rule.is_history" (defArgs s_Rule_is_history) (defBody s_Rule_is_history) (defScope s_Rule_is_history) .none kV26 dc26 pm26 an26 cd26 ct26, PySem.W.fnOf "is_letters" "is_letters" (defArgs s_is_letters) (defBody s_is_letters) (defScope s_is_letters) .none kV27 dc27 pm27 an27 cd27 ct27, PySem.W.fnOf "is_row" "is_row" (defArgs s_is_row) (defBody s_is_row) (defScope s_is_row) .none kV28 dc28 pm28 an28 cd28 ct28, PySem.W.fnOf "is_outcome" "is_outcome" (defArgs s_is_outcome) (defBody s_is_outcome) (defScope s_is_outcome) .none kV29 dc29 pm29 an29 cd29 ct29, PySem.W.fnOf "is_word" "is_word" (defArgs s_is_word) (defBody s_is_word) (defScope s_is_word) .none kV30 dc30 pm30 an30 cd30 ct30, PySem.W.fnOf "is_integer" "is_integer" (defArgs s_is_integer) (defBody s_is_integer) (defScope s_is_integer) .none kV31 dc31 pm31 an31 cd31 ct31, PySem.W.fnOf "told_on" "told_on" (defArgs s_told_on) (defBody s_told_on) (defScope s_told_on) .none kV32 dc32 pm32 an32 cd32 ct32, PySem.W.fnOf "answer_to" "answer_to" (defArgs s_answer_to) (defBody s_answer_to) (defScope s_answer_to) .none kV33 dc33 pm33 an33 cd33 ct33].getD i (PySem.W.fnOf "law" "law" (defArgs s_law) (defBody s_law) (defScope s_law) .none kV0 dc0 pm0 an0 cd0 ct0), fun i => G.pnames.getD i []⟩
  have D0 : DefOk Z G T (F.fa 0) (F.fd 0) (F.ps 0) d_law := ⟨⟨_, _, s_law, n_law, F0, sc_law, m_law, rfl⟩, rfl, F0.binds (ps := p_law) fun _ _ _ _ _ _ us hl => match us, hl with | [_], _ => rfl⟩
  have D1 : DefOk Z G T (F.fa 1) (F.fd 1) (F.ps 1) d__law_deck := ⟨⟨_, _, s__law_deck, n__law_deck, F1, sc__law_deck, m__law_deck, rfl⟩, rfl, F1.binds (ps := p__law_deck) fun _ _ _ _ _ _ us hl => match us, hl with | [_], _ => rfl⟩
  have D2 : DefOk Z G T (F.fa 2) (F.fd 2) (F.ps 2) d__law_little := ⟨⟨_, _, s__law_little, n__law_little, F2, sc__law_little, m__law_little, rfl⟩, rfl, F2.binds (ps := p__law_little) fun _ _ _ _ _ _ us hl => match us, hl with | [_], _ => rfl⟩
  have D3 : DefOk Z G T (F.fa 3) (F.fd 3) (F.ps 3) d__law_last := ⟨⟨_, _, s__law_last, n__law_last, F3, sc__law_last, m__law_last, rfl⟩, rfl, F3.binds (ps := p__law_last) fun _ _ _ _ _ _ us hl => match us, hl with | [_, _], _ => rfl⟩
  have D4 : DefOk Z G T (F.fa 4) (F.fd 4) (F.ps 4) d__law_code := ⟨⟨_, _, s__law_code, n__law_code, F4, sc__law_code, m__law_code, rfl⟩, rfl, F4.binds (ps := p__law_code) fun _ _ _ _ _ _ us hl => match us, hl with | [_], _ => rfl⟩
  have D5 : DefOk Z G T (F.fa 5) (F.fd 5) (F.ps 5) d__law_world := ⟨⟨_, _, s__law_world, n__law_world, F5, sc__law_world, m__law_world, rfl⟩, rfl, F5.binds (ps := p__law_world) fun _ _ _ _ _ _ us hl => match us, hl with | [_], _ => rfl⟩
  have D6 : DefOk Z G T (F.fa 6) (F.fd 6) (F.ps 6) d__law_halves := ⟨⟨_, _, s__law_halves, n__law_halves, F6, sc__law_halves, m__law_halves, rfl⟩, rfl, F6.binds (ps := p__law_halves) fun _ _ _ _ _ _ us hl => match us, hl with | [_, _, _, _, _], _ => rfl⟩
  have D7 : DefOk Z G T (F.fa 7) (F.fd 7) (F.ps 7) d__law_moved := ⟨⟨_, _, s__law_moved, n__law_moved, F7, sc__law_moved, m__law_moved, rfl⟩, rfl, F7.binds (ps := p__law_moved) fun _ _ _ _ _ _ us hl => match us, hl with | [_, _, _], _ => rfl⟩
  have D8 : DefOk Z G T (F.fa 8) (F.fd 8) (F.ps 8) d__law_later := ⟨⟨_, _, s__law_later, n__law_later, F8, sc__law_later, m__law_later, rfl⟩, rfl, F8.binds (ps := p__law_later) fun _ _ _ _ _ _ us hl => match us, hl with | [_, _], _ => rfl⟩
  have D9 : DefOk Z G T (F.fa 9) (F.fd 9) (F.ps 9) d__law_said := ⟨⟨_, _, s__law_said, n__law_said, F9, sc__law_said, m__law_said, rfl⟩, rfl, F9.binds (ps := p__law_said) fun _ _ _ _ _ _ us hl => match us, hl with | [_, _, _], _ => rfl⟩
  have D10 : DefOk Z G T (F.fa 10) (F.fd 10) (F.ps 10) d_course := ⟨⟨_, _, s_course, n_course, F10, sc_course, m_course, rfl⟩, rfl, F10.binds (ps := p_course) fun _ _ _ _ _ _ us hl => match us, hl with | [_, _, _], _ => rfl⟩
  have D11 : DefOk Z G T (F.fa 11) (F.fd 11) (F.ps 11) d_heard := ⟨⟨_, _, s_heard, n_heard, F11, sc_heard, m_heard, rfl⟩, rfl, F11.binds (ps := p_heard) fun _ _ _ _ _ _ us hl => match us, hl with | [_, _, _], _ => rfl⟩
  have D12 : DefOk Z G T (F.fa 12) (F.fd 12) (F.ps 12) d_Rule_outcome := ⟨⟨_, _, s_Rule_outcome, n_Rule_outcome, F12, sc_Rule_outcome, m_Rule_outcome, rfl⟩, rfl, F12.binds (ps := p_Rule_outcome) fun _ _ _ _ _ _ us hl => match us, hl with | [_, _], _ => rfl⟩
  have D13 : DefOk Z G T (F.fa 13) (F.fd 13) (F.ps 13) d__law_pick := ⟨⟨_, _, s__law_pick, n__law_pick, F13, sc__law_pick, m__law_pick, rfl⟩, rfl, F13.binds (ps := p__law_pick) fun _ _ _ _ _ _ us hl => match us, hl with | [_, _], _ => rfl⟩
  have D14 : DefOk Z G T (F.fa 14) (F.fd 14) (F.ps 14) d__law_draw := ⟨⟨_, _, s__law_draw, n__law_draw, F14, sc__law_draw, m__law_draw, rfl⟩, rfl, F14.binds (ps := p__law_draw) fun _ _ _ _ _ _ us hl => match us, hl with | [_, _], _ => rfl⟩
  have D15 : DefOk Z G T (F.fa 15) (F.fd 15) (F.ps 15) d__law_tuples := ⟨⟨_, _, s__law_tuples, n__law_tuples, F15, sc__law_tuples, m__law_tuples, rfl⟩, rfl, F15.binds (ps := p__law_tuples) fun _ _ _ _ _ _ us hl => match us, hl with | [_], _ => rfl⟩
  have D16 : DefOk Z G T (F.fa 16) (F.fd 16) (F.ps 16) d_RuleU_initU := ⟨⟨_, _, s_RuleU_initU, n_RuleU_initU, F16, sc_RuleU_initU, m_RuleU_initU, rfl⟩, rfl, F16.binds (ps := p_RuleU_initU) fun _ _ _ _ _ _ us hl => match us, hl with | [_, _, _, _], _ => rfl⟩
  have D17 : DefOk Z G T (F.fa 17) (F.fd 17) (F.ps 17) d__law_asked := ⟨⟨_, _, s__law_asked, n__law_asked, F17, sc__law_asked, m__law_asked, rfl⟩, rfl, F17.binds (ps := p__law_asked) fun _ _ _ _ _ _ us hl => match us, hl with | [_, _, _, _, _], _ => rfl⟩
  have D18 : DefOk Z G T (F.fa 18) (F.fd 18) (F.ps 18) d__law_by_hand := ⟨⟨_, _, s__law_by_hand, n__law_by_hand, F18, sc__law_by_hand, m__law_by_hand, rfl⟩, rfl, F18.binds (ps := p__law_by_hand) fun _ _ _ _ _ _ us hl => match us, hl with | [_, _], _ => rfl⟩
  have D19 : DefOk Z G T (F.fa 19) (F.fd 19) (F.ps 19) d__law_answered := ⟨⟨_, _, s__law_answered, n__law_answered, F19, sc__law_answered, m__law_answered, rfl⟩, rfl, F19.binds (ps := p__law_answered) fun _ _ _ _ _ _ us hl => match us, hl with | [_, _, _], _ => rfl⟩
  have D20 : DefOk Z G T (F.fa 20) (F.fd 20) (F.ps 20) d__law_on := ⟨⟨_, _, s__law_on, n__law_on, F20, sc__law_on, m__law_on, rfl⟩, rfl, F20.binds (ps := p__law_on) fun _ _ _ _ _ _ us hl => match us, hl with | [_, _], _ => rfl⟩
  have D21 : DefOk Z G T (F.fa 21) (F.fd 21) (F.ps 21) d_Rule_state := ⟨⟨_, _, s_Rule_state, n_Rule_state, F21, sc_Rule_state, m_Rule_state, rfl⟩, rfl, F21.binds (ps := p_Rule_state) fun _ _ _ _ _ _ us hl => match us, hl with | [_, _], _ => rfl⟩
  have D22 : DefOk Z G T (F.fa 22) (F.fd 22) (F.ps 22) d_check_parts := ⟨⟨_, _, s_check_parts, n_check_parts, F22, sc_check_parts, m_check_parts, rfl⟩, rfl, F22.binds (ps := p_check_parts) fun _ _ _ _ _ _ us hl => match us, hl with | [_, _, _], _ => rfl⟩
  have D23 : DefOk Z G T (F.fa 23) (F.fd 23) (F.ps 23) d_days_of := ⟨⟨_, _, s_days_of, n_days_of, F23, sc_days_of, m_days_of, rfl⟩, rfl, F23.binds (ps := p_days_of) fun _ _ _ _ _ _ us hl => match us, hl with | [_], _ => rfl⟩
  have D24 : DefOk Z G T (F.fa 24) (F.fd 24) (F.ps 24) d_columns := ⟨⟨_, _, s_columns, n_columns, F24, sc_columns, m_columns, rfl⟩, rfl, F24.binds (ps := p_columns) fun _ _ _ _ _ _ us hl => match us, hl with | [_], _ => rfl⟩
  have D25 : DefOk Z G T (F.fa 25) (F.fd 25) (F.ps 25) d_gone_along := ⟨⟨_, _, s_gone_along, n_gone_along, F25, sc_gone_along, m_gone_along, rfl⟩, rfl, F25.binds (ps := p_gone_along) fun _ _ _ _ _ _ us hl => match us, hl with | [_, _, _], _ => rfl⟩
  have D26 : DefOk Z G T (F.fa 26) (F.fd 26) (F.ps 26) d_Rule_is_history := ⟨⟨_, _, s_Rule_is_history, n_Rule_is_history, F26, sc_Rule_is_history, m_Rule_is_history, rfl⟩, rfl, F26.binds (ps := p_Rule_is_history) fun _ _ _ _ _ _ us hl => match us, hl with | [_, _], _ => rfl⟩
  have D27 : DefOk Z G T (F.fa 27) (F.fd 27) (F.ps 27) d_is_letters := ⟨⟨_, _, s_is_letters, n_is_letters, F27, sc_is_letters, m_is_letters, rfl⟩, rfl, F27.binds (ps := p_is_letters) fun _ _ _ _ _ _ us hl => match us, hl with | [_], _ => rfl⟩
  have D28 : DefOk Z G T (F.fa 28) (F.fd 28) (F.ps 28) d_is_row := ⟨⟨_, _, s_is_row, n_is_row, F28, sc_is_row, m_is_row, rfl⟩, rfl, F28.binds (ps := p_is_row) fun _ _ _ _ _ _ us hl => match us, hl with | [_, _, _], _ => rfl⟩
  have D29 : DefOk Z G T (F.fa 29) (F.fd 29) (F.ps 29) d_is_outcome := ⟨⟨_, _, s_is_outcome, n_is_outcome, F29, sc_is_outcome, m_is_outcome, rfl⟩, rfl, F29.binds (ps := p_is_outcome) fun _ _ _ _ _ _ us hl => match us, hl with | [_], _ => rfl⟩
  have D30 : DefOk Z G T (F.fa 30) (F.fd 30) (F.ps 30) d_is_word := ⟨⟨_, _, s_is_word, n_is_word, F30, sc_is_word, m_is_word, rfl⟩, rfl, F30.binds (ps := p_is_word) fun _ _ _ _ _ _ us hl => match us, hl with | [_, _], _ => rfl⟩
  have D31 : DefOk Z G T (F.fa 31) (F.fd 31) (F.ps 31) d_is_integer := ⟨⟨_, _, s_is_integer, n_is_integer, F31, sc_is_integer, m_is_integer, rfl⟩, rfl, F31.binds (ps := p_is_integer) fun _ _ _ _ _ _ us hl => match us, hl with | [_], _ => rfl⟩
  have D32 : DefOk Z G T (F.fa 32) (F.fd 32) (F.ps 32) d_told_on := ⟨⟨_, _, s_told_on, n_told_on, F32, sc_told_on, m_told_on, rfl⟩, rfl, F32.binds (ps := p_told_on) fun _ _ _ _ _ _ us hl => match us, hl with | [_, _], _ => rfl⟩
  have D33 : DefOk Z G T (F.fa 33) (F.fd 33) (F.ps 33) d_answer_to := ⟨⟨_, _, s_answer_to, n_answer_to, F33, sc_answer_to, m_answer_to, rfl⟩, rfl, F33.binds (ps := p_answer_to) fun _ _ _ _ _ _ us hl => match us, hl with | [_, _, _, _], _ => rfl⟩
  have defs : ∀ i d, T.fns[i]? = some d → DefOk Z G T (F.fa i) (F.fd i) (F.ps i) d := by
    intro i d hd
    match i, hd with
    | 0, hd => cases hd; exact D0
    | 1, hd => cases hd; exact D1
    | 2, hd => cases hd; exact D2
    | 3, hd => cases hd; exact D3
    | 4, hd => cases hd; exact D4
    | 5, hd => cases hd; exact D5
    | 6, hd => cases hd; exact D6
    | 7, hd => cases hd; exact D7
    | 8, hd => cases hd; exact D8
    | 9, hd => cases hd; exact D9
    | 10, hd => cases hd; exact D10
    | 11, hd => cases hd; exact D11
    | 12, hd => cases hd; exact D12
    | 13, hd => cases hd; exact D13
    | 14, hd => cases hd; exact D14
    | 15, hd => cases hd; exact D15
    | 16, hd => cases hd; exact D16
    | 17, hd => cases hd; exact D17
    | 18, hd => cases hd; exact D18
    | 19, hd => cases hd; exact D19
    | 20, hd => cases hd; exact D20
    | 21, hd => cases hd; exact D21
    | 22, hd => cases hd; exact D22
    | 23, hd => cases hd; exact D23
    | 24, hd => cases hd; exact D24
    | 25, hd => cases hd; exact D25
    | 26, hd => cases hd; exact D26
    | 27, hd => cases hd; exact D27
    | 28, hd => cases hd; exact D28
    | 29, hd => cases hd; exact D29
    | 30, hd => cases hd; exact D30
    | 31, hd => cases hd; exact D31
    | 32, hd => cases hd; exact D32
    | 33, hd => cases hd; exact D33
    | i + 34, hd => cases hd
  have gl : ∀ p ∈ globs, GOk Z F mg p := by
    refine all_cons (PySem.W.mg_of X Gm a0) ?_
    refine all_cons (PySem.W.mg_of X Gm a1) ?_
    refine all_cons (PySem.W.mg_of X Gm a2) ?_
    refine all_cons (PySem.W.mg_of X Gm a3) ?_
    refine all_cons (PySem.W.mg_of X Gm a4) ?_
    refine all_cons (PySem.W.mg_of X Gm a5) ?_
    refine all_cons (PySem.W.mg_of X Gm a6) ?_
    refine all_cons (PySem.W.mg_of X Gm a7) ?_
    refine all_cons (PySem.W.mg_of X Gm a8) ?_
    refine all_cons (PySem.W.mg_of X Gm a9) ?_
    refine all_cons (PySem.W.mg_of X Gm a10) ?_
    refine all_cons (PySem.W.mg_of X Gm a11) ?_
    refine all_cons (PySem.W.mg_of X Gm a13) ?_
    refine all_cons (PySem.W.mg_of X Gm a14) ?_
    refine all_cons (PySem.W.mg_of X Gm a15) ?_
    refine all_cons (PySem.W.mg_of X Gm a17) ?_
    refine all_cons (PySem.W.mg_of X Gm a18) ?_
    refine all_cons (PySem.W.mg_of X Gm a19) ?_
    refine all_cons (PySem.W.mg_of X Gm a20) ?_
    refine all_cons (PySem.W.mg_of X Gm a22) ?_
    refine all_cons (PySem.W.mg_of X Gm a23) ?_
    refine all_cons (PySem.W.mg_of X Gm a24) ?_
    refine all_cons (PySem.W.mg_of X Gm a25) ?_
    refine all_cons (PySem.W.mg_of X Gm a27) ?_
    refine all_cons (PySem.W.mg_of X Gm a28) ?_
    refine all_cons (PySem.W.mg_of X Gm a29) ?_
    refine all_cons (PySem.W.mg_of X Gm a30) ?_
    refine all_cons (PySem.W.mg_of X Gm a31) ?_
    refine all_cons (PySem.W.mg_of X Gm a32) ?_
    refine all_cons (PySem.W.mg_of X Gm a33) ?_
    refine all_cons (PySem.W.mg_of X Gm aC0) ?_
    refine all_cons (con_tup (vs := [.int 2, .int 3]) (PySem.W.mg_of X Gm con0) conl0 rfl rfl (show 2 ≤ sizeLine by decide) (.cons ⟨tk0_0, rfl⟩ (.cons ⟨tk0_1, rfl⟩ .nil)) fun _ => (.cons (.int 2) (.cons (.int 3) .nil))) ?_
    refine all_cons (con_str (PySem.W.mg_of X Gm con1) (by decide +kernel) (by decide +kernel)) ?_
    refine all_cons (con_str (PySem.W.mg_of X Gm con2) (by decide +kernel) (by decide +kernel)) ?_
    refine all_cons (con_int (PySem.W.mg_of X Gm con3)) ?_
    refine all_cons (con_int (PySem.W.mg_of X Gm con4)) ?_
    refine all_cons (con_str (PySem.W.mg_of X Gm con5) (by decide +kernel) (by decide +kernel)) ?_
    exact all_nil
  have bl : ∀ x ∈ bltNames, mg x = none := by
    refine all_cons (PySem.W.mg_none_of X Gm z0) ?_
    refine all_cons (PySem.W.mg_none_of X Gm z1) ?_
    refine all_cons (PySem.W.mg_none_of X Gm z2) ?_
    refine all_cons (PySem.W.mg_none_of X Gm z3) ?_
    refine all_cons (PySem.W.mg_none_of X Gm z4) ?_
    refine all_cons (PySem.W.mg_none_of X Gm z5) ?_
    refine all_cons (PySem.W.mg_none_of X Gm z6) ?_
    refine all_cons (PySem.W.mg_none_of X Gm z7) ?_
    refine all_cons (PySem.W.mg_none_of X Gm z8) ?_
    refine all_cons (PySem.W.mg_none_of X Gm z9) ?_
    refine all_cons (PySem.W.mg_none_of X Gm z10) ?_
    refine all_cons (PySem.W.mg_none_of X Gm z11) ?_
    refine all_cons (PySem.W.mg_none_of X Gm z12) ?_
    refine all_cons (PySem.W.mg_none_of X Gm z13) ?_
    refine all_cons (PySem.W.mg_none_of X Gm z14) ?_
    refine all_cons (PySem.W.mg_none_of X Gm z15) ?_
    refine all_cons (PySem.W.mg_none_of X Gm z16) ?_
    refine all_cons (PySem.W.mg_none_of X Gm z17) ?_
    refine all_cons (PySem.W.mg_none_of X Gm z18) ?_
    exact all_nil
  have kw : ∀ f mm ks, G.kwt.contains (f, mm, ks) = true → ∀ d, T.fns[f]? = some d → ∀ (s : Shared) (us ws : List Value) (nms : List Str), Z.K.In s.heap → us.length = mm → ws.length = ks.length → ks.map (fun j => (F.ps f)[j]?) = nms.map some → BindsTo s (F.fd f) ⟨us, nms.zip ws⟩ ((F.ps f).zip (placeG .none d.npar us ks ws)) := by
    intro f mm ks hc d hd s us ws nms hK hu hw hn
    have hc := List.contains_iff_mem.mp hc
    suffices hh : ∀ t ∈ G.kwt, ∀ d, T.fns[t.1]? = some d → us.length = t.2.1 → ws.length = t.2.2.length → t.2.2.map (fun j => (F.ps t.1)[j]?) = nms.map some → BindsTo s (F.fd t.1) ⟨us, nms.zip ws⟩ ((F.ps t.1).zip (placeG .none d.npar us t.2.2 ws)) from hh (f, mm, ks) hc d hd hu hw hn
    refine all_cons (fun d hd hu hw hn => ?_) ?_
    · cases hd
      obtain rfl : nms = (["history", "letters", "paper"] : List Str) := by
        refine (List.map_inj_right (f := some) fun _ _ e => Option.some.inj e).mp ?_
        exact hn.symm.trans rfl
      match us, hu, ws, hw with
      | [], _, [v0, v1, v2], _ => exact .of_eq rfl
    refine all_cons (fun d hd hu hw hn => ?_) ?_
    · cases hd
      obtain rfl : nms = (["letters", "paper", "history"] : List Str) := by
        refine (List.map_inj_right (f := some) fun _ _ e => Option.some.inj e).mp ?_
        exact hn.symm.trans rfl
      match us, hu, ws, hw with
      | [], _, [v0, v1, v2], _ => exact .of_eq rfl
    exact all_nil
  have cl : ∀ c cd, T.clss[c]? = some cd → Cls Z.K (Z.ca c) ∧ Mk Z.K (Z.ca c) (F.fa cd.init) ∧ (∀ a ∈ cd.flds, NoAttr Z.K (Z.ca c) (Z.nm a)) ∧ (∀ m f, cd.meths.lookup m = some f → Meth Z.K (Z.ca c) (Z.nm m) (F.fa f)) ∧ ∀ a f, cd.props.lookup a = some f → ∃ p, PropOf Z.K (Z.ca c) (Z.nm a) p (F.fa f) := by
    intro c cd hc
    match c, hc with
    | 0, hc =>
      cases hc
      refine ⟨⟨pg0, hd0, po0, sa0⟩, ⟨mk0, a16, i16, kc0⟩, ?_, ?_, ?_⟩
      · refine all_cons na0_0 ?_; refine all_cons na0_1 ?_; refine all_cons na0_2 ?_; refine all_cons na0_3 ?_; exact all_nil
      · intro m f hm
        have hm := mem_look hm
        suffices hh : ∀ t ∈ c_Rule.meths, Meth Z.K (Z.ca 0) (Z.nm t.1) (F.fa t.2) from hh _ hm
        refine all_cons ⟨a12, i12, k12⟩ ?_
        refine all_cons ⟨a21, i21, k21⟩ ?_
        refine all_cons ⟨a26, i26, k26⟩ ?_
        exact all_nil
      · intro a f hm
        have hm := mem_look hm
        suffices hh : ∀ t ∈ c_Rule.props, ∃ p, PropOf Z.K (Z.ca 0) (Z.nm t.1) p (F.fa t.2) from hh _ hm
        exact all_nil
    | c + 1, hc => cases hc
  have pn : ∀ f d, T.fns[f]? = some d → F.ps f = G.pnames.getD f [] := fun _ _ _ => rfl
  exact ⟨Z, G, T, F, 0, 12, d_law, "_law_script", rfl, rfl, ⟨defs, kw, pn, fun x i e => gok_fn gl e, fun x c e => gok_cls gl e, fun x d e => gok_con gl e, bl, fun i x e => nmOf_get e, cl⟩, rfl, rfl, rfl, fun s u => .of_eq rfl, ⟨rfl, by decide, by decide⟩, plain⟩
end K64
end
section
set_option Elab.async false
set_option linter.all false
set_option maxRecDepth 100000
open PySem PySem.W PyProof.Rows L2 L3
set_option maxRecDepth 100000 in
set_option maxHeartbeats 0 in
theorem PySem.Challenge.cw_fewslips_k64_courses_and_what_is_heard_holds : PySem.Challenge.rw_fewslips_k64_courses_and_what_is_heard.Holds := by
  w_on; o_law; k_head; (case hw => w_witness2)
  k_fill
  refine L3.law_walk (l := PySem.Challenge.rw_fewslips_k64_courses_and_what_is_heard) (n := 63) rfl (by decide) rfl (fun w h Y => PySem.W.kIn_of Y) ?F
  case F =>
    intro w mg fa h KX Gm hmg
    refine' K64.all KX Gm hmg ?aC0 ?pg0 ?hd0 ?po0 ?sa0 ?mk0 ?kc0 ?na0_0 ?na0_1 ?na0_2 ?na0_3 ?a0 ?l0 ?c0 ?k0 ?a1 ?l1 ?c1 ?k1 ?a2 ?l2 ?c2 ?k2 ?a3 ?l3 ?c3 ?k3 ?a4 ?l4 ?c4 ?k4 ?a5 ?l5 ?c5 ?k5 ?a6 ?l6 ?c6 ?k6 ?a7 ?l7 ?c7 ?k7 ?a8 ?l8 ?c8 ?k8 ?a9 ?l9 ?c9 ?k9 ?a10 ?l10 ?c10 ?k10 ?a11 ?l11 ?c11 ?k11 ?a12 ?i12 ?l12 ?c12 ?k12 ?a13 ?l13 ?c13 ?k13 ?a14 ?l14 ?c14 ?k14 ?a15 ?l15 ?c15 ?k15 ?a16 ?i16 ?l16 ?c16 ?k16 ?a17 ?l17 ?c17 ?k17 ?a18 ?l18 ?c18 ?k18 ?a19 ?l19 ?c19 ?k19 ?a20 ?l20 ?c20 ?k20 ?a21 ?i21 ?l21 ?c21 ?k21 ?a22 ?l22 ?c22 ?k22 ?a23 ?l23 ?c23 ?k23 ?a24 ?l24 ?c24 ?k24 ?a25 ?l25 ?c25 ?k25 ?a26 ?i26 ?l26 ?c26 ?k26 ?a27 ?l27 ?c27 ?k27 ?a28 ?l28 ?c28 ?k28 ?a29 ?l29 ?c29 ?k29 ?a30 ?l30 ?c30 ?k30 ?a31 ?l31 ?c31 ?k31 ?a32 ?l32 ?c32 ?k32 ?a33 ?l33 ?c33 ?k33 ?con0 ?conl0 ?con1 ?con2 ?con3 ?con4 ?con5 ?z0 ?z1 ?z2 ?z3 ?z4 ?z5 ?z6 ?z7 ?z8 ?z9 ?z10 ?z11 ?z12 ?z13 ?z14 ?z15 ?z16 ?z17 ?z18 K64.plain
    (case aC0 => k_is)
    (case pg0 => k_is)
    (case hd0 => k_is)
    (case po0 => k_is)
    (case sa0 => k_is)
    (case mk0 => k_is)
    (case kc0 => k_is)
    (case na0_0 => k_is)
    (case na0_1 => k_is)
    (case na0_2 => k_is)
    (case na0_3 => k_is)
    (case a0 => k_is)
    (case l0 => k_is)
    (case c0 => k_is)
    (case k0 => k_is)
    (case a1 => k_is)
    (case l1 => k_is)
    (case c1 => k_is)
    (case k1 => k_is)
    (case a2 => k_is)
    (case l2 => k_is)
    (case c2 => k_is)
    (case k2 => k_is)
    (case a3 => k_is)
    (case l3 => k_is)
    (case c3 => k_is)
    (case k3 => k_is)
    (case a4 => k_is)
    (case l4 => k_is)
    (case c4 => k_is)
    (case k4 => k_is)
    (case a5 => k_is)
    (case l5 => k_is)
    (case c5 => k_is)
    (case k5 => k_is)
    (case a6 => k_is)
    (case l6 => k_is)
    (case c6 => k_is)
    (case k6 => k_is)
    (case a7 => k_is)
    (case l7 => k_is)
    (case c7 => k_is)
    (case k7 => k_is)
    (case a8 => k_is)
    (case l8 => k_is)
    (case c8 => k_is)
    (case k8 => k_is)
    (case a9 => k_is)
    (case l9 => k_is)
    (case c9 => k_is)
    (case k9 => k_is)
    (case a10 => k_is)
    (case l10 => k_is)
    (case c10 => k_is)
    (case k10 => k_is)
    (case a11 => k_is)
    (case l11 => k_is)
    (case c11 => k_is)
    (case k11 => k_is)
    (case a12 => k_is)
    (case i12 => k_is)
    (case l12 => k_is)
    (case c12 => k_is)
    (case k12 => k_is)
    (case a13 => k_is)
    (case l13 => k_is)
    (case c13 => k_is)
    (case k13 => k_is)
    (case a14 => k_is)
    (case l14 => k_is)
    (case c14 => k_is)
    (case k14 => k_is)
    (case a15 => k_is)
    (case l15 => k_is)
    (case c15 => k_is)
    (case k15 => k_is)
    (case a16 => k_is)
    (case i16 => k_is)
    (case l16 => k_is)
    (case c16 => k_is)
    (case k16 => k_is)
    (case a17 => k_is)
    (case l17 => k_is)
    (case c17 => k_is)
    (case k17 => k_is)
    (case a18 => k_is)
    (case l18 => k_is)
    (case c18 => k_is)
    (case k18 => k_is)
    (case a19 => k_is)
    (case l19 => k_is)
    (case c19 => k_is)
    (case k19 => k_is)
    (case a20 => k_is)
    (case l20 => k_is)
    (case c20 => k_is)
    (case k20 => k_is)
    (case a21 => k_is)
    (case i21 => k_is)
    (case l21 => k_is)
    (case c21 => k_is)
    (case k21 => k_is)
    (case a22 => k_is)
    (case l22 => k_is)
    (case c22 => k_is)
    (case k22 => k_is)
    (case a23 => k_is)
    (case l23 => k_is)
    (case c23 => k_is)
    (case k23 => k_is)
    (case a24 => k_is)
    (case l24 => k_is)
    (case c24 => k_is)
    (case k24 => k_is)
    (case a25 => k_is)
    (case l25 => k_is)
    (case c25 => k_is)
    (case k25 => k_is)
    (case a26 => k_is)
    (case i26 => k_is)
    (case l26 => k_is)
    (case c26 => k_is)
    (case k26 => k_is)
    (case a27 => k_is)
    (case l27 => k_is)
    (case c27 => k_is)
    (case k27 => k_is)
    (case a28 => k_is)
    (case l28 => k_is)
    (case c28 => k_is)
    (case k28 => k_is)
    (case a29 => k_is)
    (case l29 => k_is)
    (case c29 => k_is)
    (case k29 => k_is)
    (case a30 => k_is)
    (case l30 => k_is)
    (case c30 => k_is)
    (case k30 => k_is)
    (case a31 => k_is)
    (case l31 => k_is)
    (case c31 => k_is)
    (case k31 => k_is)
    (case a32 => k_is)
    (case l32 => k_is)
    (case c32 => k_is)
    (case k32 => k_is)
    (case a33 => k_is)
    (case l33 => k_is)
    (case c33 => k_is)
    (case k33 => k_is)
    (case con0 => k_is)
    (case conl0 => k_is)
    (case con1 => k_is)
    (case con2 => k_is)
    (case con3 => k_is)
    (case con4 => k_is)
    (case con5 => k_is)
    (case z0 => k_is)
    (case z1 => k_is)
    (case z2 => k_is)
    (case z3 => k_is)
    (case z4 => k_is)
    (case z5 => k_is)
    (case z6 => k_is)
    (case z7 => k_is)
    (case z8 => k_is)
    (case z9 => k_is)
    (case z10 => k_is)
    (case z11 => k_is)
    (case z12 => k_is)
    (case z13 => k_is)
    (case z14 => k_is)
    (case z15 => k_is)
    (case z16 => k_is)
    (case z17 => k_is)
    (case z18 => k_is)
end
end
