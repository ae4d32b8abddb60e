import PyProof.Rows.All
import PySem.Str
import HandS.ForMost
import HandS.Exc
import HandS.ExcOwn
import HandS.TryOnly
import HandS.WordsExc
import HandS.Lambda
import KE.KDictKeyed
import HandS.TupAny
import KE.DataEq
import KE.DataCmp
import KE.DataMinMax
import KE.DataIsa
import KE.DataFind
import KE.SortData
import HandS.IsInst
import HandS.Style
import HandS.Text
import HandS.Words
import HandS.Zip
import KE.GoesMore
import PyProof.EnumMake
import HandS.Defaults
import HandS.ExcInit
import HandS.Small
import HandS.TryMany
import HandS.HeadHook4
import HandS.ExcField
import HandS.Head0
import HandS.Head1
import HandS.Head2
import HandS.HeadEnd
import HandS.HeadWalk
import PyProof.Rows.SetFrom
import HandS.Set
import HandS.SetFor
import HandS.Strs
import HandS.Conv
import HandS.Dict
import HandS.List
import KE.KDictPairs
import HandS.Iter
import HandS.TupMul
import HandS.Deep
import HandS.Wide
import HandS.TupSets
import PySem.Challenge.RW_drystones_k07_stones_that_fall
set_option Elab.async false
set_option linter.all false
set_option maxRecDepth 100000
set_option maxHeartbeats 0
/-! DL1: data as trees, what Python's operators give on them (no heap), the denotations' combinators. -/
namespace DL
open PySem
inductive D where
  | non
  | bl (b : Bool)
  | int (i : Int)
  | str (s : Str)
  | tup (xs : List D)
  | lst (xs : List D)
  | dct (ks vs : List D)
/-- the most items of a list -/
abbrev lim : Nat := 16777216
mutual
/-- Python's == (no dicts) -/
def D.eqv : D → D → Bool
  | .non, .non => true
  | .bl a, .bl b => a == b
  | .bl a, .int j => (if a then 1 else 0) == j
  | .int i, .bl b => i == (if b then 1 else 0)
  | .int i, .int j => i == j
  | .str x, .str y => x == y
  | .lst xs, .lst ys => D.eqvs xs ys
  | .tup xs, .tup ys => D.eqvs xs ys
  | _, _ => false
def D.eqvs : List D → List D → Bool
  | [], [] => true
  | x :: xs, y :: ys => D.eqv x y && D.eqvs xs ys
  | _, _ => false
end
mutual
/-- no dict within, not too deep -/
def D.plain : Nat → D → Bool
  | _, .dct _ _ => false
  | 0, .lst _ => false
  | 0, .tup _ => false
  | n + 1, .lst xs => D.plains n xs
  | n + 1, .tup xs => D.plains n xs
  | _, _ => true
def D.plains : Nat → List D → Bool
  | _, [] => true
  | n, x :: xs => D.plain n x && D.plains n xs
end
/-- depth below nine -/
abbrev D.pl (d : D) : Bool := D.plain 9 d
/-- no object: the value itself -/
def D.flat : D → Bool
  | .non => true
  | .bl _ => true
  | .int _ => true
  | .str _ => true
  | _ => false
mutual
/-- can be ordered, place by place -/
def D.alike : D → D → Bool
  | .non, .non => true
  | .bl _, .bl _ => true
  | .int _, .int _ => true
  | .str _, .str _ => true
  | .lst xs, .lst ys => D.alikes xs ys
  | .tup xs, .tup ys => D.alikes xs ys
  | _, _ => false
def D.alikes : List D → List D → Bool
  | x :: xs, y :: ys => D.alike x y && D.alikes xs ys
  | _, _ => true
end
mutual
/-- Python's < of alike data -/
def D.lt : D → D → Bool
  | .bl a, .bl b => !a && b
  | .int i, .int j => decide (i < j)
  | .str x, .str y => decide (x.cps.toList < y.cps.toList)
  | .lst xs, .lst ys => D.lts xs ys
  | .tup xs, .tup ys => D.lts xs ys
  | _, _ => false
def D.lts : List D → List D → Bool
  | [], _ :: _ => true
  | x :: xs, y :: ys => if D.eqv x y then D.lts xs ys else D.lt x y
  | _, [] => false
end
structure Pot where
  cells : List Int
  i : Nat
  m : Int
  g : Int
/-- an error of the program's own: its class, its fields -/
structure Exc where
  cls : Str
  fs : List (Str × D)
inductive Res (α : Type) where
  | ok (a : α) (p : Pot)
  | exc (e : Exc) (p : Pot)
  | err
abbrev M (α : Type) := Pot → Res α
def bindM {α β : Type} (m : M α) (k : α → M β) : M β := fun p => match m p with
  | .ok a p' => k a p'
  | .exc e p' => .exc e p'
  | .err => .err
def retM {α : Type} (a : α) : M α := fun p => .ok a p
def failM {α : Type} : M α := fun _ => .err
def liftM {α : Type} : Option α → M α
  | some a => retM a
  | none => failM
theorem bindM_assoc {α β γ : Type} (m : M α) (k : α → M β) (l : β → M γ) : bindM (bindM m k) l = bindM m fun a => bindM (k a) l := by
  funext p
  unfold bindM
  cases m p <;> rfl
theorem bindM_ret {α β : Type} (a : α) (k : α → M β) : bindM (retM a) k = k a := rfl
theorem bindM_pure {α : Type} (m : M α) : bindM m retM = m := by
  funext p
  unfold bindM
  cases m p <;> rfl
theorem bindM_ok {α β : Type} {m : M α} {k : α → M β} {p p' : Pot} {b : β} (h : bindM m k p = .ok b p') : ∃ a p1, m p = .ok a p1 ∧ k a p1 = .ok b p' := by
  unfold bindM at h
  cases q : m p with
  | ok a p1 =>
    rw [q] at h
    exact ⟨a, p1, rfl, h⟩
  | exc e p1 => rw [q] at h; cases h
  | err => rw [q] at h; cases h
inductive Sl where
  | un
  | fz (d : D)
  | ow (d : D)
  | fn (x : Str)
abbrev Env' := List Sl
def nth : List Sl → Nat → Sl
  | [], _ => .un
  | x :: _, 0 => x
  | _ :: r, n + 1 => nth r n
def put : List Sl → Nat → Sl → List Sl
  | [], _, _ => []
  | _ :: r, 0, s => s :: r
  | x :: r, n + 1, s => x :: put r n s
/-! ### expressions -/
abbrev DE := Env' → M D
abbrev DI := Env' → M (List D)
def dV (i : Nat) : DE := fun ρ => match nth ρ i with
  | .fz d => retM d
  | _ => failM
def dO (i : Nat) : DE := fun ρ => match nth ρ i with
  | .ow d => retM d
  | _ => failM
def dC (d : D) : DE := fun _ => retM d
def d1 (op : D → Option D) (f : DE) : DE := fun ρ => bindM (f ρ) fun x => liftM (op x)
def d2 (op : D → D → Option D) (f g : DE) : DE := fun ρ => bindM (f ρ) fun x => bindM (g ρ) fun y => liftM (op x y)
def d3 (op : D → D → D → Option D) (f g h : DE) : DE := fun ρ => bindM (f ρ) fun x => bindM (g ρ) fun y => bindM (h ρ) fun z => liftM (op x y z)
def asB {α : Type} (d : D) (k : Bool → M α) : M α := match d with
  | .bl b => k b
  | _ => failM
def dChain (o1 o2 : D → D → Option D) (f g h : DE) : DE := fun ρ => bindM (f ρ) fun x => bindM (g ρ) fun y => bindM (liftM (o1 x y)) fun c => asB c fun b =>
  if b then bindM (h ρ) fun z => liftM (o2 y z) else retM (.bl false)
/-- an expression's truth (its value is a bool) -/
def bM (f : DE) : Env' → M Bool := fun ρ => bindM (f ρ) fun d => asB d retM
def dAnd (f g : DE) : DE := fun ρ => bindM (bM f ρ) fun b => if b then g ρ else retM (.bl false)
def dOr (f g : DE) : DE := fun ρ => bindM (bM f ρ) fun b => if b then retM (.bl true) else g ρ
def dNot (f : DE) : DE := fun ρ => bindM (bM f ρ) fun b => retM (.bl (!b))
def dIf (c f g : DE) : DE := fun ρ => bindM (bM c ρ) fun b => if b then f ρ else g ρ
def dsN : List DE → DI
  | [] => fun _ => retM []
  | f :: fs => fun ρ => bindM (f ρ) fun x => bindM (dsN fs ρ) fun xs => retM (x :: xs)
def dTup (fs : List DE) : DE := fun ρ => bindM (dsN fs ρ) fun xs => retM (.tup xs)
def dLst (fs : List DE) : DE := fun ρ => bindM (dsN fs ρ) fun xs => retM (.lst xs)
/-- a def that takes no pot leaves it -/
def pot0 : Pot := ⟨[], 0, 0, 0⟩
def keep {α : Type} (r : Res α) : M α := fun p => match r with
  | .ok a _ => .ok a p
  | .exc e _ => .exc e p
  | .err => .err
/-- a call of a def: g its denotation -/
def dCall (g : List D → M D) (fs : List DE) : DE := fun ρ => bindM (dsN fs ρ) fun xs => keep (g xs pot0)
/-- .. that takes the pot -/
def dCallP (g : List D → M D) (fs : List DE) : DE := fun ρ => bindM (dsN fs ρ) g
/-! ### what is walked -/
def itV (f : DE) : DI := fun ρ => bindM (f ρ) fun x => match x with
  | .lst xs => retM xs
  | .tup xs => retM xs
  | _ => failM
def itK (f : DE) : DI := fun ρ => bindM (f ρ) fun x => match x with
  | .dct ks _ => retM ks
  | _ => failM
def intsD (lo : Int) : Nat → List D
  | 0 => []
  | n + 1 => .int lo :: intsD (lo + 1) n
def itR1 (f : DE) : DI := fun ρ => bindM (f ρ) fun x => match x with
  | .int n => if -1000000000 ≤ n ∧ n ≤ (lim : Int) then retM (intsD 0 n.toNat) else failM
  | _ => failM
def itR2 (f g : DE) : DI := fun ρ => bindM (f ρ) fun x => bindM (g ρ) fun y => match x, y with
  | .int a, .int b => if (-1000000000 ≤ a ∧ a ≤ 1000000000) ∧ (-1000000000 ≤ b ∧ b ≤ 1000000000) ∧ b - a ≤ (lim : Int) then retM (intsD a (b - a).toNat) else failM
  | _, _ => failM
def numbered (n : Nat) : List D → List D
  | [] => []
  | x :: xs => .tup [.int n, x] :: numbered (n + 1) xs
def itE (f : DE) : DI := fun ρ => bindM (f ρ) fun x => match x with
  | .lst xs => retM (numbered 0 xs)
  | .tup xs => retM (numbered 0 xs)
  | _ => failM
def pairUp : List D → List D → List D
  | x :: xs, y :: ys => .tup [x, y] :: pairUp xs ys
  | _, _ => []
def itZ (f g : DE) : DI := fun ρ => bindM (f ρ) fun x => bindM (g ρ) fun y => match x, y with
  | .lst xs, .lst ys => retM (pairUp xs ys)
  | .tup xs, .tup ys => retM (pairUp xs ys)
  | _, _ => failM
inductive Tg where
  | nm (i : Nat)
  | tp (is : List Nat)
def putAll : List Nat → List D → Env' → Option Env'
  | [], [], ρ => some ρ
  | i :: is, x :: xs, ρ => putAll is xs (put ρ i (.fz x))
  | _, _, _ => none
def setTg : Tg → D → Env' → Option Env'
  | .nm i, x, ρ => some (put ρ i (.fz x))
  | .tp is, .tup xs, ρ => putAll is xs ρ
  | .tp _, _, _ => none
def compGo (tg : Tg) (c : Option DE) (e : DE) (ρ : Env') : List D → M (List D)
  | [] => retM []
  | x :: xs => match setTg tg x ρ with
    | none => failM
    | some ρ1 => match c with
      | none => bindM (e ρ1) fun y => bindM (compGo tg c e ρ xs) fun ys => retM (y :: ys)
      | some t => bindM (bM t ρ1) fun b => if b then bindM (e ρ1) fun y => bindM (compGo tg c e ρ xs) fun ys => retM (y :: ys) else compGo tg c e ρ xs
def wipes : List Nat → Env' → Env'
  | [], ρ => ρ
  | v :: vs, ρ => put (wipes vs ρ) v .un
def dComp (it : DI) (tg : Tg) (c : Option DE) (e : DE) (vs : List Nat) : DE := fun ρ => bindM (it ρ) fun xs => bindM (compGo tg c e (wipes vs ρ) xs) fun ys => retM (.lst ys)
/-! ### statements -/
inductive Out where
  | nx (ρ : Env') (p : Pot)
  | ret (d : D) (p : Pot)
  | brk (ρ : Env') (p : Pot)
  | ct (ρ : Env') (p : Pot)
  | exc (e : Exc) (ρ : Env') (p : Pot)
  | err
abbrev DS := Env' → Pot → Out
def runE {α : Type} (ρ : Env') (r : Res α) (k : α → Pot → Out) : Out := match r with
  | .ok a p => k a p
  | .exc e p => .exc e ρ p
  | .err => .err
def sPass : DS := fun ρ p => .nx ρ p
def sSeq (f g : DS) : DS := fun ρ p => match f ρ p with
  | .nx ρ1 p1 => g ρ1 p1
  | r => r
def sSet (i : Nat) (f : DE) : DS := fun ρ p => runE ρ (f ρ p) fun d p1 => .nx (put ρ i (.fz d)) p1
/-- a fresh list or dict, owned -/
def sOwn (i : Nat) (f : DE) : DS := fun ρ p => runE ρ (f ρ p) fun d p1 => .nx (put ρ i (.ow d)) p1
/-- y = x where x was owned: x's slot is forgotten, y's is frozen -/
def sMove (j i : Nat) : DS := fun ρ p => match nth ρ i with
  | .ow d => .nx (put (put ρ i .un) j (.fz d)) p
  | _ => .err
def sUnpack (is : List Nat) (f : DE) : DS := fun ρ p => runE ρ (f ρ p) fun d p1 => match setTg (.tp is) d ρ with
  | some ρ1 => .nx ρ1 p1
  | none => .err
def sExpr (f : DE) : DS := fun ρ p => runE ρ (f ρ p) fun _ p1 => .nx ρ p1
def sRet (f : DE) : DS := fun ρ p => runE ρ (f ρ p) fun d p1 => .ret d p1
def sRetN : DS := fun _ p => .ret .non p
/-- return x of an owned x -/
def sRetO (i : Nat) : DS := fun ρ p => match nth ρ i with
  | .ow d => .ret d p
  | _ => .err
def sBrk : DS := fun ρ p => .brk ρ p
def sCt : DS := fun ρ p => .ct ρ p
def sIf (c : DE) (f g : DS) : DS := fun ρ p => runE ρ (bM c ρ p) fun b p1 => if b then f ρ p1 else g ρ p1
def forGo (tg : Tg) (body : DS) : List D → DS
  | [], ρ, p => .nx ρ p
  | x :: xs, ρ, p => match setTg tg x ρ with
    | none => .err
    | some ρ1 => match body ρ1 p with
      | .nx ρ2 p2 => forGo tg body xs ρ2 p2
      | .ct ρ2 p2 => forGo tg body xs ρ2 p2
      | .brk ρ2 p2 => .nx ρ2 p2
      | r => r
def sFor (it : DI) (tg : Tg) (body : DS) : DS := fun ρ p => runE ρ (it ρ p) fun xs p1 => forGo tg body xs ρ p1
def whileGo (c : DE) (body : DS) : Nat → DS
  | 0, _, _ => .err
  | n + 1, ρ, p => runE ρ (bM c ρ p) fun b p1 => if b then match body ρ p1 with
      | .nx ρ2 p2 => whileGo c body n ρ2 p2
      | .ct ρ2 p2 => whileGo c body n ρ2 p2
      | .brk ρ2 p2 => .nx ρ2 p2
      | r => r
    else .nx ρ p1
/-- names that nobody asks any more -/
def sKill (is : List Nat) : DS := fun ρ p => .nx (wipes is ρ) p
/-- x is owned no more: from now on it stays as it is -/
def sFz (i : Nat) : DS := fun ρ p => match nth ρ i with
  | .ow d => .nx (put ρ i (.fz d)) p
  | _ => .err
/-- x.append(e), x.extend(e), x[k] = e of an owned x -/
def sAppend (i : Nat) (f : DE) : DS := fun ρ p => match nth ρ i with
  | .ow (.lst xs) => runE ρ (f ρ p) fun d p1 => if xs.length < lim then .nx (put ρ i (.ow (.lst (xs ++ [d])))) p1 else .err
  | _ => .err
def sExtend (i : Nat) (f : DE) : DS := fun ρ p => match nth ρ i with
  | .ow (.lst xs) => runE ρ (f ρ p) fun d p1 => match d with
    | .lst ys => if xs.length + ys.length ≤ lim then .nx (put ρ i (.ow (.lst (xs ++ ys)))) p1 else .err
    | _ => .err
  | _ => .err
def setN (xs : List D) (n : Nat) (d : D) : List D := match xs, n with
  | [], _ => []
  | _ :: r, 0 => d :: r
  | x :: r, n + 1 => x :: setN r n d
/-- x[i] = e of an owned list -/
def sStore (i : Nat) (ix f : DE) : DS := fun ρ p => runE ρ (f ρ p) fun d p1 => match nth ρ i with
  | .ow (.lst xs) => runE ρ (ix ρ p1) fun j p2 => match j with
    | .int n => if 0 ≤ n ∧ n < xs.length then .nx (put ρ i (.ow (.lst (setN xs n.toNat d)))) p2 else .err
    | _ => .err
  | _ => .err
/-- raise C(e, ..): ns its fields' names -/
def sRaise (c : Str) (ns : List Str) (fl : List DE) : DS := fun ρ p => runE ρ (dsN fl ρ p) fun ds p1 => .exc ⟨c, (ns.zip ds).reverse⟩ ρ p1
def subC (x y : Str) : Bool := x == y || y == "WallError"
/-- no error leaves a suite -/
def hOut : Out → Out
  | .exc _ _ _ => .err
  | r => r
def tryGo (e : Exc) (ρ : Env') (p : Pot) : List (Str × DS) → Out
  | [] => .exc e ρ p
  | (c, h) :: r => if subC e.cls c then hOut (h ρ p) else tryGo e ρ p r
/-- try: s, except ..; cs: the classes that can come -/
def sTry (cs : List Str) (s : DS) (hs : List (Str × DS)) : DS := fun ρ p => match s ρ p with
  | .exc e ρ1 p1 => if e.cls ∈ cs then tryGo e ρ1 p1 hs else .err
  | r => r
def look (x : Str) : List (Str × D) → Option D
  | [] => none
  | (y, d) :: r => if x = y then some d else look x r
/-- try: s, except c as i: return i.f (or a tuple of such) -/
def sTryAs (cs : List Str) (s : DS) (c : Str) (i : Nat) (k : List (Str × D) → Option D) : DS := fun ρ p => match s ρ p with
  | .exc e ρ1 p1 => if e.cls ∈ cs ∧ i < ρ1.length then (if e.cls = c then (match k e.fs with
      | some d => .ret d p1
      | none => .err) else if subC e.cls c then .err else .exc e ρ1 p1) else .err
  | r => r
def look2 (x y : Str) (fs : List (Str × D)) : Option D := (look x fs).bind fun a => (look y fs).bind fun b => some (.tup [a, b])
/-- a def's denotation: n its slots -/
def padN : Nat → Env' → Env'
  | 0, ρ => ρ
  | n + 1, [] => .un :: padN n []
  | n + 1, x :: r => x :: padN n r
def runF (n : Nat) (body : DS) (ρ : Env') : M D := fun p => match body (padN n ρ) p with
  | .ret d p1 => .ok d p1
  | .nx _ p1 => .ok .non p1
  | .exc e _ p1 => .exc e p1
  | _ => .err
def dDef (n : Nat) (body : DS) : List D → M D := fun ds => runF n body (ds.map .fz)
/-- .. with the pot ahead of the parameters -/
def dDefP (n : Nat) (body : DS) : List D → M D := fun ds => runF n body (.un :: ds.map .fz)
/-! ### the pot -/
def dP0 : DE := fun _ p => .ok (.lst (p.cells.map .int)) p
def potAt : Nat → Pot → Option Int
  | 1, p => some p.i
  | 2, p => some p.m
  | 3, p => some p.g
  | _, _ => none
def dPk (k : Nat) : DE := fun _ p => match potAt k p with
  | some n => .ok (.int n) p
  | none => .err
def potSet : Nat → Int → Pot → Option Pot
  | 1, n, p => if 0 ≤ n then some { p with i := n.toNat } else none
  | 2, n, p => if 0 ≤ n ∧ n < 2147483647 then some { p with m := n } else none
  | 3, n, p => if 0 ≤ n then some { p with g := n } else none
  | _, _, _ => none
def sPk (k : Nat) (f : DE) : DS := fun ρ p => runE ρ (f ρ p) fun d p1 => match d with
  | .int n => (match potSet k n p1 with
    | some p2 => .nx ρ p2
    | none => .err)
  | _ => .err
/-! ### functions as values -/
def lookF (x : Str) : List (Str × (List D → M D)) → Option (List D → M D)
  | [] => none
  | (y, g) :: r => if x = y then some g else lookF x r
def dCallF (i : Nat) (fs : List (Str × (List D → M D))) (fl : List DE) : DE := fun ρ => match nth ρ i with
  | .fn x => (match lookF x fs with
    | some g => bindM (dsN fl ρ) fun xs => keep (g xs pot0)
    | none => failM)
  | _ => failM
/-- for w in [f, g, ..] -/
def fnGo (i : Nat) (body : DS) : List Str → DS
  | [], ρ, p => .nx ρ p
  | x :: xs, ρ, p => match body (put ρ i (.fn x)) p with
    | .nx ρ2 p2 => fnGo i body xs ρ2 p2
    | .ct ρ2 p2 => fnGo i body xs ρ2 p2
    | .brk ρ2 p2 => .nx ρ2 p2
    | r => r
/-! ### operators -/
def pAdd : D → D → Option D
  | .int a, .int b => some (.int (a + b))
  | .tup xs, .tup ys => if xs.length + ys.length ≤ lim then some (.tup (xs ++ ys)) else none
  | .lst xs, .lst ys => if xs.length + ys.length ≤ lim then some (.lst (xs ++ ys)) else none
  | .str x, .str y => if x.length + y.length ≤ lim then some (.str (x ++ y)) else none
  | _, _ => none
def pSub : D → D → Option D
  | .int a, .int b => some (.int (a - b))
  | _, _ => none
def small (a : Int) : Bool := decide (-18446744073709551616 < a) && decide (a < 18446744073709551616)
def reps {α : Type} (xs : List α) : Nat → List α
  | 0 => []
  | n + 1 => xs ++ reps xs n
def pMul : D → D → Option D
  | .int a, .int b => if small a || small b then some (.int (a * b)) else none
  | .lst xs, .int n => if -1000000000 < n ∧ n < 1000000000 ∧ xs.length * n.toNat ≤ lim then some (.lst (reps xs n.toNat)) else none
  | _, _ => none
def pDiv : D → D → Option D
  | .int a, .int b => if 0 < b ∧ b < 1073741824 then some (.int (a / b)) else none
  | _, _ => none
def pMod : D → D → Option D
  | .int a, .int b => if 0 < b then some (.int (a % b)) else none
  | _, _ => none
def pPow : D → D → Option D
  | .int a, .int b => if 0 ≤ b ∧ b ≤ 1000000 ∧ a.natAbs < 18446744073709551616 then some (.int (a ^ b.toNat)) else none
  | _, _ => none
def pNeg : D → Option D
  | .int a => some (.int (-a))
  | _ => none
def pLt (x y : D) : Option D := if x.alike y && x.pl && y.pl && !x.eqv .non then some (.bl (x.lt y)) else none
def pLe : D → D → Option D
  | .int a, .int b => some (.bl (decide (a ≤ b)))
  | _, _ => none
def pGt : D → D → Option D
  | .int a, .int b => some (.bl (decide (b < a)))
  | _, _ => none
def pGe : D → D → Option D
  | .int a, .int b => some (.bl (decide (b ≤ a)))
  | _, _ => none
def pEq (x y : D) : Option D := if x.pl && y.pl then some (.bl (x.eqv y)) else none
def pNe (x y : D) : Option D := if x.pl && y.pl then some (.bl (!x.eqv y)) else none
def memD (x : D) : List D → Bool
  | [] => false
  | y :: ys => y.eqv x || memD x ys
def pIn (x : D) : D → Option D
  | .lst ys => if x.pl && D.plains 9 ys then some (.bl (memD x ys)) else none
  | .tup ys => if x.pl && D.plains 9 ys then some (.bl (memD x ys)) else none
  | _ => none
def pNotIn (x y : D) : Option D := match pIn x y with
  | some (.bl b) => some (.bl (!b))
  | _ => none
def pIsN : D → Option D
  | .non => some (.bl true)
  | _ => some (.bl false)
def pNotN : D → Option D
  | .non => some (.bl false)
  | _ => some (.bl true)
def getD' : List D → Nat → Option D
  | [], _ => none
  | x :: _, 0 => some x
  | _ :: r, n + 1 => getD' r n
def pIdx : D → D → Option D
  | .lst xs, .int i => if 0 ≤ i then getD' xs i.toNat else if 0 ≤ i + xs.length then getD' xs (i + xs.length).toNat else none
  | .tup xs, .int i => if 0 ≤ i then getD' xs i.toNat else if 0 ≤ i + xs.length then getD' xs (i + xs.length).toNat else none
  | _, _ => none
def pLen : D → Option D
  | .lst xs => some (.int xs.length)
  | .tup xs => some (.int xs.length)
  | .dct ks _ => some (.int ks.length)
  | .str x => if x.length ≤ lim then some (.int x.length) else none
  | _ => none
def intsOf : List D → Option (List Int)
  | [] => some []
  | .int a :: r => (intsOf r).map (a :: ·)
  | _ :: _ => none
def boolsOf : List D → Option (List Bool)
  | [] => some []
  | .bl a :: r => (boolsOf r).map (a :: ·)
  | _ :: _ => none
def sumI : List Int → Int
  | [] => 0
  | a :: r => a + sumI r
def itemsOf : D → Option (List D)
  | .lst xs => some xs
  | .tup xs => some xs
  | _ => none
def pSum (x : D) : Option D := (itemsOf x).bind fun xs => (intsOf xs).map fun ns => .int (sumI ns)
def allB : List Bool → Bool
  | [] => true
  | a :: r => a && allB r
def anyB : List Bool → Bool
  | [] => false
  | a :: r => a || anyB r
def pAll : D → Option D
  | .lst xs => (boolsOf xs).map fun bs => .bl (allB bs)
  | _ => none
def pAny : D → Option D
  | .lst xs => (boolsOf xs).map fun bs => .bl (anyB bs)
  | _ => none
def pTuple : D → Option D
  | .lst xs => some (.tup xs)
  | .tup xs => some (.tup xs)
  | _ => none
def pList : D → Option D
  | .lst xs => some (.lst xs)
  | .tup xs => some (.lst xs)
  | _ => none
def pAbs : D → Option D
  | .int a => some (.int (if a < 0 then -a else a))
  | _ => none
def pMin2 : D → D → Option D
  | .int a, .int b => some (.int (if b < a then b else a))
  | _, _ => none
def pMax2 : D → D → Option D
  | .int a, .int b => some (.int (if b > a then b else a))
  | _, _ => none
/-- the least, the greatest: the first of them -/
def minD (x : D) : List D → D
  | [] => x
  | y :: ys => minD (if y.lt x then y else x) ys
def maxD (x : D) : List D → D
  | [] => x
  | y :: ys => maxD (if x.lt y then y else x) ys
def allAlike (xs : List D) : Bool := xs.all fun x => xs.all fun y => x.alike y
def pMin : D → Option D
  | .lst (x :: xs) => if allAlike (x :: xs) && D.plains 8 (x :: xs) && !x.eqv .non then some (minD x xs) else none
  | _ => none
def pMax : D → Option D
  | .lst (x :: xs) => if allAlike (x :: xs) && D.plains 8 (x :: xs) && !x.eqv .non then some (maxD x xs) else none
  | _ => none
def insD (x : D) : List D → List D
  | [] => [x]
  | y :: ys => if y.lt x then y :: insD x ys else x :: y :: ys
def sortD : List D → List D
  | [] => []
  | x :: xs => insD x (sortD xs)
def isTup1 : D → Bool
  | .tup (_ :: _) => true
  | _ => false
def noTup : D → Bool
  | .tup _ => false
  | .non => false
  | _ => true
def pSorted : D → Option D
  | .lst xs => if allAlike xs && D.plains 8 xs && (xs.all isTup1 || xs.all noTup) then some (.lst (sortD xs)) else none
  | _ => none
/-- a place in a slice -/
def sIx (len dflt : Nat) : Option Int → Nat
  | none => dflt
  | some i => if i < 0 then (i + len).toNat else min i.toNat len
def cut {α : Type} (xs : List α) (lo hi : Option Int) : List α := (xs.drop (sIx xs.length 0 lo)).take (sIx xs.length xs.length hi - sIx xs.length 0 lo)
def asIx : Option D → Option (Option Int)
  | none => some none
  | some (.int i) => some (some i)
  | _ => none
def pSlice (x : D) (lo hi : Option D) : Option D := (asIx lo).bind fun l => (asIx hi).bind fun h => match x with
  | .lst xs => some (.lst (cut xs l h))
  | .tup xs => some (.tup (cut xs l h))
  | _ => none
/-- is it an int | a tuple .. -/
inductive Ty where
  | int | bool | str | tuple | list | dict
def isTy : Ty → D → Bool
  | .int, .int _ => true
  | .int, .bl _ => true
  | .bool, .bl _ => true
  | .str, .str _ => true
  | .tuple, .tup _ => true
  | .list, .lst _ => true
  | .dict, .dct _ _ => true
  | _, _ => false
def pIsi (ts : List Ty) (x : D) : Option D := some (.bl (ts.any fun t => isTy t x))
end DL
/-! DL2: which values stand for which data; what holds between two steps of a body. -/
namespace DL
set_option autoImplicit false
open PySem PySem.Spec L2
/-! ### values that stand for data -/
/-- a dict at a whose keys are tuples -/
def DTk (P : Program) (w : World) (a : Addr) (xs : List (NestedKey × Addr × V)) : HO := .ext fun h => (a == sysModules) = false ∧
  ∃ ys : List (NestedKey × Addr × Value), Paired (fun (p : NestedKey × Addr × V) (q : NestedKey × Addr × Value) => p.1 = q.1 ∧ p.2.1 = q.2.1 ∧ RelV p.2.2 q.2.2) xs ys ∧
    ∃ o es ep, h.get? a = some o ∧ o.ExactDict ∧ o.data = .dict es ep ∧ es.toList = ys.map (entryOfKey (nestedKind P w)) ∧ (ys.map (·.1)).Nodup
mutual
def toNK : D → Option NestedKey
  | .non => some .none
  | .bl b => some (.num (if b then 1 else 0))
  | .int i => some (.num i)
  | .str x => some (.text x)
  | .tup xs => (toNKs xs).map .tup
  | _ => none
def toNKs : List D → Option (List NestedKey)
  | [] => some []
  | x :: xs => match toNK x, toNKs xs with
    | some k, some ks => some (k :: ks)
    | _, _ => none
end
def keyD : Key → D
  | .inl i => .int i
  | .inr x => .str x
/-- a thing that stays as it is -/
def Fz (F : Hp) (a : Addr) (u : HO) : Prop := ∃ o, F a = some (.frz o u)
theorem Fz.mono {F F' : Hp} {a : Addr} {u : HO} (h : Same F F') (x : Fz F a u) : Fz F' a u := let ⟨o, e⟩ := x; ⟨o, h _ _ e⟩
structure Gb where
  P : Program
  w : World
  mg : Str → Option Value
  T : List (Addr × Str)
mutual
def Rep (G : Gb) (F : Hp) : D → V → Prop
  | .non, v => v = .non
  | .bl b, v => v = .bl b
  | .int i, v => v = .int i
  | .str s, v => v = .str s
  | .tup ds, v => ∃ a vs, v = .ref a ∧ F a = some (.tup vs) ∧ ds.length ≤ lim ∧ Reps G F ds vs
  | .lst ds, v => ∃ a vs, v = .ref a ∧ F a = some (.lst vs) ∧ ds.length ≤ lim ∧ Reps G F ds vs
  | .dct ks ds, v => ∃ a, v = .ref a ∧ ks.length ≤ lim ∧
      ((∃ xs, Fz F a (DTk G.P G.w a xs) ∧ toNKs ks = some (xs.map (·.1)) ∧ Reps G F ks (xs.map fun x => .ref x.2.1) ∧ Reps G F ds (xs.map (·.2.2))) ∨
       (∃ kvs, Fz F a (.dK kvs) ∧ ks = kvs.map (fun p => keyD p.1) ∧ Reps G F ds (kvs.map (·.2))))
def Reps (G : Gb) (F : Hp) : List D → List V → Prop
  | [], vs => vs = []
  | d :: ds, vs => ∃ v r, vs = v :: r ∧ Rep G F d v ∧ Reps G F ds r
end
mutual
theorem Rep.mono {G : Gb} {F F' : Hp} (h : Same F F') : ∀ (d : D) (v : V), Rep G F d v → Rep G F' d v
  | .non, _, r => r
  | .bl _, _, r => r
  | .int _, _, r => r
  | .str _, _, r => r
  | .tup ds, _, r => by
    unfold Rep at r ⊢
    obtain ⟨a, vs, e, q, l, r⟩ := r
    exact ⟨a, vs, e, h _ _ q, l, Reps.mono h ds vs r⟩
  | .lst ds, _, r => by
    unfold Rep at r ⊢
    obtain ⟨a, vs, e, q, l, r⟩ := r
    exact ⟨a, vs, e, h _ _ q, l, Reps.mono h ds vs r⟩
  | .dct ks ds, _, r => by
    unfold Rep at r ⊢
    obtain ⟨a, e, l, r⟩ := r
    refine ⟨a, e, l, ?_⟩
    rcases r with ⟨xs, q, n, r1, r2⟩ | ⟨kvs, q, n, r2⟩
    · exact .inl ⟨xs, q.mono h, n, Reps.mono h ks _ r1, Reps.mono h ds _ r2⟩
    · exact .inr ⟨kvs, q.mono h, n, Reps.mono h ds _ r2⟩
theorem Reps.mono {G : Gb} {F F' : Hp} (h : Same F F') : ∀ (ds : List D) (vs : List V), Reps G F ds vs → Reps G F' ds vs
  | [], _, r => r
  | d :: ds, _, r => by
    unfold Reps at r ⊢
    obtain ⟨v, t, e, r1, r2⟩ := r
    exact ⟨v, t, e, Rep.mono h d v r1, Reps.mono h ds t r2⟩
end
section
variable {G : Gb} {F F' H : Hp}
theorem Reps.length : ∀ {ds : List D} {vs : List V}, Reps G F ds vs → vs.length = ds.length
  | [], _, r => by unfold Reps at r; rw [r]; rfl
  | d :: ds, _, r => by
    unfold Reps at r
    obtain ⟨v, t, e, _, r2⟩ := r
    rw [e, List.length_cons, List.length_cons, r2.length]
theorem Reps.nil : Reps G F [] [] := by unfold Reps; rfl
theorem Reps.cons {d : D} {ds : List D} {v : V} {vs : List V} (a : Rep G F d v) (b : Reps G F ds vs) : Reps G F (d :: ds) (v :: vs) := by unfold Reps; exact ⟨v, vs, rfl, a, b⟩
theorem Reps.uncons {d : D} {ds : List D} {vs : List V} (r : Reps G F (d :: ds) vs) : ∃ v t, vs = v :: t ∧ Rep G F d v ∧ Reps G F ds t := by unfold Reps at r; exact r
theorem Reps.app : ∀ {xs ys : List D} {us vs : List V}, Reps G F xs us → Reps G F ys vs → Reps G F (xs ++ ys) (us ++ vs)
  | [], _, _, _, a, b => by
    unfold Reps at a
    subst a
    exact b
  | x :: xs, ys, us, vs, a, b => by
    obtain ⟨v, t, e, r1, r2⟩ := a.uncons
    subst e
    exact .cons r1 (r2.app b)
theorem Reps.drop : ∀ {xs : List D} {us : List V} (n : Nat), Reps G F xs us → Reps G F (xs.drop n) (us.drop n)
  | xs, us, 0, a => a
  | [], us, n + 1, a => by
    unfold Reps at a
    subst a
    exact .nil
  | x :: xs, us, n + 1, a => by
    obtain ⟨v, t, e, r1, r2⟩ := a.uncons
    subst e
    exact r2.drop n
theorem Reps.take : ∀ {xs : List D} {us : List V} (n : Nat), Reps G F xs us → Reps G F (xs.take n) (us.take n)
  | xs, us, 0, a => by rw [List.take_zero, List.take_zero]; exact .nil
  | [], us, n + 1, a => by
    unfold Reps at a
    subst a
    exact .nil
  | x :: xs, us, n + 1, a => by
    obtain ⟨v, t, e, r1, r2⟩ := a.uncons
    subst e
    rw [List.take_succ_cons, List.take_succ_cons]
    exact .cons r1 (r2.take n)
theorem Reps.get : ∀ {xs : List D} {us : List V} {n : Nat} {d : D}, Reps G F xs us → getD' xs n = some d → ∃ v, us[n]? = some v ∧ Rep G F d v
  | [], us, n, d, a, e => by cases n <;> cases e
  | x :: xs, us, 0, d, a, e => by
    obtain ⟨v, t, e1, r1, r2⟩ := a.uncons
    subst e1
    cases e
    exact ⟨v, rfl, r1⟩
  | x :: xs, us, n + 1, d, a, e => by
    obtain ⟨v, t, e1, r1, r2⟩ := a.uncons
    subst e1
    obtain ⟨u, q1, q2⟩ := r2.get (n := n) (d := d) e
    exact ⟨u, by rw [List.getElem?_cons_succ]; exact q1, q2⟩
theorem Reps.at : ∀ {xs : List D} {us : List V} {n : Nat} {v : V}, Reps G F xs us → us[n]? = some v → ∃ d, xs[n]? = some d ∧ Rep G F d v
  | [], us, n, v, a, e => by
    unfold Reps at a
    subst a
    simp at e
  | x :: xs, us, 0, d, a, e => by
    obtain ⟨v, t, e1, r1, r2⟩ := a.uncons
    subst e1
    have e2 : v = d := by simpa using e
    subst e2
    exact ⟨x, rfl, r1⟩
  | x :: xs, us, n + 1, d, a, e => by
    obtain ⟨v, t, e1, r1, r2⟩ := a.uncons
    subst e1
    rw [List.getElem?_cons_succ] at e
    obtain ⟨u, q1, q2⟩ := r2.at (n := n) e
    exact ⟨u, by rw [List.getElem?_cons_succ]; exact q1, q2⟩
theorem Rep.flat {d : D} {v : V} (h : d.flat = true) (r : Rep G F d v) : Rep G F' d v := by
  cases d with
  | non => exact r
  | bl _ => exact r
  | int _ => exact r
  | str _ => exact r
  | _ => cases h
/-! ### the state of a body -/
/-- F0, H0: the entry; pa: where the pot stands; ps: its slot -/
structure DC where
  F0 : Hp
  H0 : Hp
  pa : Option Addr
  ps : Nat
/-- something that is no table of code objects stands there -/
def Thing (H : Hp) (a : Addr) : Prop := ∃ o, H a = some o ∧ ∀ ps, o ≠ .tbl ps
theorem Thing.ne {H : Hp} {a b : Addr} (t : Thing H a) (n : H b = none) : a ≠ b := fun e => by
  obtain ⟨o, h, _⟩ := t
  rw [e, n] at h
  cases h
/-- no table is frozen -/
def NoT (F : Hp) : Prop := ∀ a ps, F a ≠ some (.tbl ps)
theorem NoT.upd {F : Hp} {a : Addr} {o : HO} (n : NoT F) (ho : ∀ ps, o ≠ .tbl ps) : NoT (upd F a o) := fun b ps h => by
  by_cases e : b = a
  · rw [e, upd_same] at h
    exact ho ps (Option.some.inj h)
  · rw [upd_ne e] at h
    exact n b ps h
/-- what an expression may change -/
structure Ext (T : List (Addr × Str)) (pa : Option Addr) (F H F' H' : Hp) : Prop where
  ff : Same F F'
  fr : ∀ a, Thing H a → F' a = F a
  hh : ∀ a o, H a = some o → pa ≠ some a → (∀ ps, o ≠ .tbl ps) → H' a = some o
  dm : ∀ a, Thing H a → Thing H' a
  tb : LamX.Tabs T H → LamX.Tabs T H'
  nt : NoT F → NoT F'
theorem Ext.refl {T : List (Addr × Str)} {pa : Option Addr} (F H : Hp) : Ext T pa F H F H := ⟨Same.refl F, fun _ _ => rfl, fun _ _ h _ _ => h, fun _ h => h, fun h => h, fun h => h⟩
theorem Ext.trans {T : List (Addr × Str)} {pa : Option Addr} {F H F1 H1 F2 H2 : Hp} (a : Ext T pa F H F1 H1) (b : Ext T pa F1 H1 F2 H2) : Ext T pa F H F2 H2 :=
  ⟨a.ff.trans b.ff, fun x h => (b.fr x (a.dm x h)).trans (a.fr x h), fun x o h p q => b.hh x o (a.hh x o h p q) p q, fun x h => b.dm x (a.dm x h), fun h => b.tb (a.tb h), fun h => b.nt (a.nt h)⟩
/-- a thing of one's own at a: a list, a dict, its parts frozen -/
def Own (G : Gb) (F H : Hp) (a : Addr) : D → Prop
  | .lst ds => ∃ vs, H a = some (.lst vs) ∧ ds.length ≤ lim ∧ Reps G F ds vs
  | .dct ks ds => ks.length ≤ lim ∧
      ((∃ xs, H a = some (DTk G.P G.w a xs) ∧ toNKs ks = some (xs.map (·.1)) ∧ Reps G F ks (xs.map fun x => .ref x.2.1) ∧ Reps G F ds (xs.map (·.2.2))) ∨
       (∃ kvs, H a = some (.dK kvs) ∧ ks = kvs.map (fun p => keyD p.1) ∧ Reps G F ds (kvs.map (·.2))))
  | _ => False
structure Free (C : DC) (F H : Hp) (a : Addr) : Prop where
  f : F a = none
  h0 : ¬ Thing C.H0 a
  np : C.pa ≠ some a
def SlOk (G : Gb) (C : DC) (F H : Hp) (o : Option (Option V)) : Sl → Prop
  | .un => True
  | .fz d => ∃ v, o = some (some v) ∧ Rep G F d v
  | .ow d => ∃ a, o = some (some (.ref a)) ∧ Free C F H a ∧ Own G F H a d
  | .fn x => ∃ f, o = some (some (.ref f)) ∧ G.mg x = some (.ref f)
def isOw : Sl → Bool
  | .ow _ => true
  | _ => false
structure PotGood (p : Pot) : Prop where
  len : p.cells.length ≤ 63
  nn : ∀ z ∈ p.cells, 0 ≤ z
  m0 : 0 ≤ p.m
  m1 : p.m < 2147483647
  g0 : 0 ≤ p.g
structure PotAt (F H : Hp) (a : Addr) (p : Pot) : Prop where
  f : F a = none
  good : PotGood p
  at_ : ∃ c, H a = some (.lst [.ref c, .int p.i, .int p.m, .int p.g]) ∧ F c = some (.lst (p.cells.map .int))
def PotOk (pa : Option Addr) (F H : Hp) (p : Pot) : Prop := ∀ a, pa = some a → PotAt F H a p
structure BInv (G : Gb) (C : DC) (F H : Hp) (p : Pot) : Prop where
  fh : Same F H
  base : Ext G.T C.pa C.F0 C.H0 F H
  po : PotOk C.pa F H p
  tb : LamX.Tabs G.T H
  nt : NoT F
structure DInv (G : Gb) (C : DC) (F H : Hp) (σ : St) (ρ : Env') (p : Pot) : Prop extends BInv G C F H p where
  sl : ∀ i, SlOk G C F H σ[i]? (nth ρ i)
  ds : ∀ i j a, i ≠ j → σ[i]? = some (some (.ref a)) → isOw (nth ρ i) = true → σ[j]? = some (some (.ref a)) → isOw (nth ρ j) = false
  ps : ∀ a, C.pa = some a → σ[C.ps]? = some (some (.ref a)) ∧ nth ρ C.ps = .un
  ln : ρ.length ≤ σ.length
variable {C : DC} {σ : St} {ρ : Env'} {p p' : Pot} {H' : Hp}
theorem Own.ext {a : Addr} {d : D} {T : List (Addr × Str)} (x : Own G F H a d) (n : C.pa ≠ some a) (e : Ext T C.pa F H F' H') : Own G F' H' a d := by
  cases d with
  | lst ds =>
    obtain ⟨vs, h, l, r⟩ := x
    exact ⟨vs, e.hh _ _ h n (fun _ z => by cases z), l, Reps.mono e.ff _ _ r⟩
  | dct ks ds =>
    obtain ⟨l, x⟩ := x
    refine ⟨l, ?_⟩
    rcases x with ⟨xs, q, m, r1, r2⟩ | ⟨kvs, q, m, r2⟩
    · exact .inl ⟨xs, e.hh _ _ q n (fun _ z => by cases z), m, Reps.mono e.ff _ _ r1, Reps.mono e.ff _ _ r2⟩
    · exact .inr ⟨kvs, e.hh _ _ q n (fun _ z => by cases z), m, Reps.mono e.ff _ _ r2⟩
  | _ => exact x.elim
theorem Own.there {a : Addr} {d : D} (x : Own G F H a d) : Thing H a := by
  cases d with
  | lst ds =>
    obtain ⟨vs, h, _⟩ := x
    exact ⟨_, h, fun _ z => nomatch z⟩
  | dct ks ds =>
    rcases x.2 with ⟨xs, q, _⟩ | ⟨kvs, q, _⟩ <;> exact ⟨_, q, fun _ z => nomatch z⟩
  | _ => exact x.elim
theorem SlOk.ext {o : Option (Option V)} {s : Sl} {T : List (Addr × Str)} (x : SlOk G C F H o s) (e : Ext T C.pa F H F' H') : SlOk G C F' H' o s := by
  cases s with
  | un => trivial
  | fz d =>
    obtain ⟨v, h, r⟩ := x
    exact ⟨v, h, Rep.mono e.ff _ _ r⟩
  | ow d =>
    obtain ⟨a, h, fr, r⟩ := x
    exact ⟨a, h, ⟨by rw [e.fr a r.there]; exact fr.f, fr.h0, fr.np⟩, r.ext fr.np e⟩
  | fn x => exact x
theorem DInv.ext (I : DInv G C F H σ ρ p) (e : Ext G.T C.pa F H F' H') (fh : Same F' H') (po : PotOk C.pa F' H' p') : DInv G C F' H' σ ρ p' :=
  ⟨⟨fh, I.base.trans e, po, e.tb I.tb, e.nt I.nt⟩, fun i => (I.sl i).ext e, I.ds, I.ps, I.ln⟩
/-- a new object -/
theorem ext_new {T : List (Addr × Str)} {pa : Option Addr} {a : Addr} {o : HO} (fh : Same F H) (h : H a = none) (ho : ∀ ps, o ≠ .tbl ps := by intro _ h; cases h) : Ext T pa F H (upd F a o) (upd H a o) := by
  have fa : F a = none := Same.free fh h
  refine ⟨fun b u q => ?_, fun b q => ?_, fun b u q _ _ => ?_, fun b q => ?_, fun t => t.ext fun b u q => ?_, fun n => n.upd ho⟩
  · rw [upd_ne (ne_of_none q fa)]; exact q
  · rw [upd_ne (q.ne h)]
  · rw [upd_ne (ne_of_none q h)]; exact q
  · obtain ⟨u, q1, q2⟩ := q
    exact ⟨u, by rw [upd_ne (ne_of_none q1 h)]; exact q1, q2⟩
  · rw [upd_ne (ne_of_none q h)]; exact q
theorem same_new {a : Addr} {o : HO} (fh : Same F H) : Same (upd F a o) (upd H a o) := fun b u q => by
  by_cases e : b = a
  · rw [e, upd_same] at q ⊢; exact q
  · rw [upd_ne e] at q ⊢; exact fh b u q
theorem PotOk.new {pa : Option Addr} {a : Addr} {o : HO} (fh : Same F H) (x : PotOk pa F H p) (h : H a = none) : PotOk pa (upd F a o) (upd H a o) p := fun b e => by
  obtain ⟨f, g, c, q1, q2⟩ := x b e
  have n1 : b ≠ a := ne_of_none q1 h
  have n2 : c ≠ a := ne_of_none (fh _ _ q2) h
  exact ⟨by rw [upd_ne n1]; exact f, g, c, by rw [upd_ne n1]; exact q1, by rw [upd_ne n2]; exact q2⟩
theorem DInv.new {a : Addr} {o : HO} (I : DInv G C F H σ ρ p) (h : H a = none) (ho : ∀ ps, o ≠ .tbl ps := by intro _ h; cases h) : DInv G C (upd F a o) (upd H a o) σ ρ p :=
  I.ext (ext_new I.fh h ho) (same_new I.fh) (I.po.new I.fh h)
/-- .. that is not frozen -/
theorem ext_newH {T : List (Addr × Str)} {pa : Option Addr} {a : Addr} {o : HO} (h : H a = none) : Ext T pa F H F (upd H a o) := by
  refine ⟨Same.refl F, fun b q => rfl, fun b u q _ _ => ?_, fun b q => ?_, fun t => t.ext fun b u q => ?_, fun n => n⟩
  · rw [upd_ne (ne_of_none q h)]; exact q
  · obtain ⟨u, q1, q2⟩ := q
    exact ⟨u, by rw [upd_ne (ne_of_none q1 h)]; exact q1, q2⟩
  · rw [upd_ne (ne_of_none q h)]; exact q
theorem same_newH {a : Addr} {o : HO} (fh : Same F H) (h : H a = none) : Same F (upd H a o) := fun b u q => by
  rw [upd_ne (ne_of_none (fh _ _ q) h)]; exact fh b u q
theorem PotOk.newH {pa : Option Addr} {a : Addr} {o : HO} (fh : Same F H) (x : PotOk pa F H p) (h : H a = none) : PotOk pa F (upd H a o) p := fun b e => by
  obtain ⟨f, g, c, q1, q2⟩ := x b e
  exact ⟨f, g, c, by rw [upd_ne (ne_of_none q1 h)]; exact q1, q2⟩
end
end DL
/-! DL3: expressions whose reading is a denotation. -/
namespace DL
set_option autoImplicit false
open PySem PySem.Spec L2
abbrev gb (X : Cx) (T : List (Addr × Str)) : Gb := ⟨X.prog, X.w, X.mg, T⟩
/-- an own error: its class stands under its name, its field in its dict -/
def ExcR (G : Gb) (F H : Hp) (cls : Value) (dd : Option Addr) (e : Exc) : Prop :=
  (∃ Cl : Addr, cls = .ref Cl ∧ G.mg e.cls = some (.ref Cl)) ∧
    ((e.fs = [] ∧ dd = none) ∨ ∃ d fs, dd = some d ∧ H d = some (.xd fs) ∧ fs.map (·.1) = e.fs.map (·.1) ∧ Reps G F (e.fs.map (·.2)) (fs.map (·.2)))
section
variable (G : Gb) (C : DC) (W : WX)
def post {α β : Type} (R : Hp → Hp → α → β → Prop) (r : Res α) (F H : Hp) (σ : L2.St) (ρ : Env') (Q : β → Hp → Prop) : Prop := match r with
  | .ok a p' => ∀ b F' H', DInv G C F' H' σ ρ p' → Ext G.T C.pa F H F' H' → R F' H' a b → Q b H'
  | .exc e p' => ∀ cls dd F' H', DInv G C F' H' σ ρ p' → Ext G.T C.pa F H F' H' → ExcR G F' H' cls dd e → W cls dd σ H'
  | .err => False
def tG {α β : Type} (R : Hp → Hp → α → β → Prop) (f : Env' → M α) (σ : L2.St) (H : Hp) (Q : β → Hp → Prop) : Prop :=
  ∃ F ρ p, DInv G C F H σ ρ p ∧ post G C W R (f ρ p) F H σ ρ Q
/-- lent: frozen, or owned -/
def Lent (F H : Hp) (d : D) (v : V) : Prop := Rep G F d v ∨ ∃ a, v = .ref a ∧ C.pa ≠ some a ∧ Own G F H a d
def Lents (F H : Hp) : List D → List V → Prop
  | [], vs => vs = []
  | d :: ds, vs => ∃ v r, vs = v :: r ∧ Lent G C F H d v ∧ Lents F H ds r
abbrev tE (f : DE) : TE := tG G C W (fun F _ d v => Rep G F d v) f
abbrev tL (f : DE) : TE := tG G C W (fun F H d v => Lent G C F H d v) f
abbrev tT (f : DE) : TT := tG G C W (fun _ _ a b => b = a) (bM f)
abbrev tA (f : DI) : TA := tG G C W (fun F _ ds vs => Reps G F ds vs) f
abbrev tAL (f : DI) : TA := tG G C W (fun F H ds vs => Lents G C F H ds vs) f
end
section
variable {G : Gb} {C : DC} {W : WX} {α β γ δ : Type} {R : Hp → Hp → α → β → Prop} {R' : Hp → Hp → γ → δ → Prop} {F H F1 H1 : Hp} {σ : L2.St} {ρ : Env'} {p : Pot}
theorem post.ext {r : Res α} {Q : β → Hp → Prop} (e : Ext G.T C.pa F H F1 H1) (h : post G C W R r F H σ ρ Q) : post G C W R r F1 H1 σ ρ Q := by
  cases r with
  | ok a p' => exact fun b F' H' I x r => h b F' H' I (e.trans x) r
  | exc z p' => exact fun c d F' H' I x r => h c d F' H' I (e.trans x) r
  | err => exact h
theorem post.mono {r : Res α} {Q Q' : β → Hp → Prop} (m : ∀ b H, Q b H → Q' b H) (h : post G C W R r F H σ ρ Q) : post G C W R r F H σ ρ Q' := by
  cases r with
  | ok a p' => exact fun b F' H' I x r => m _ _ (h b F' H' I x r)
  | exc z p' => exact h
  | err => exact h
theorem post.now {a : α} {b : β} {Q : β → Hp → Prop} (h : post G C W R (.ok a p) F H σ ρ Q) (I : DInv G C F H σ ρ p) (r : R F H a b) : Q b H := h b F H I (Ext.refl F H) r
theorem tG_bind {f : Env' → M α} {k : α → M γ} {Q : δ → Hp → Prop} (I : DInv G C F H σ ρ p) (h : post G C W R' (bindM (f ρ) k p) F H σ ρ Q) :
    tG G C W R f σ H (fun b H1 => ∃ F1 a p1, DInv G C F1 H1 σ ρ p1 ∧ Ext G.T C.pa F H F1 H1 ∧ R F1 H1 a b ∧ post G C W R' (k a p1) F1 H1 σ ρ Q) := by
  refine ⟨F, ρ, p, I, ?_⟩
  unfold bindM at h
  cases q : f ρ p with
  | ok a p1 =>
    rw [q] at h
    exact fun b F' H' I' e r => ⟨F', a, p1, I', e, r, h.ext e⟩
  | exc z p1 =>
    rw [q] at h
    exact h
  | err =>
    rw [q] at h
    exact h
theorem tG_mono {f : Env' → M α} {Q Q' : β → Hp → Prop} (m : ∀ b H, Q b H → Q' b H) (h : tG G C W R f σ H Q) : tG G C W R f σ H Q' := by
  obtain ⟨F, ρ, p, I, h⟩ := h
  exact ⟨F, ρ, p, I, h.mono m⟩
/-- another relation that follows -/
theorem tG_rel {f : Env' → M α} {R2 : Hp → Hp → α → β → Prop} {Q : β → Hp → Prop} (m : ∀ F H a b, R F H a b → R2 F H a b) (h : tG G C W R2 f σ H Q) : tG G C W R f σ H Q := by
  obtain ⟨F, ρ, p, I, h⟩ := h
  refine ⟨F, ρ, p, I, ?_⟩
  cases q : f ρ p with
  | ok a p1 =>
    rw [q] at h
    exact fun b F' H' I' e r => h b F' H' I' e (m _ _ _ _ r)
  | exc z p1 =>
    rw [q] at h
    exact h
  | err =>
    rw [q] at h
    exact h
theorem Lent.ext {d : D} {v : V} {T : List (Addr × Str)} (e : Ext T C.pa F H F1 H1) (x : Lent G C F H d v) : Lent G C F1 H1 d v := by
  rcases x with x | ⟨a, h, n, x⟩
  · exact .inl (Rep.mono e.ff _ _ x)
  · exact .inr ⟨a, h, n, x.ext n e⟩
theorem Lents.ext {T : List (Addr × Str)} (e : Ext T C.pa F H F1 H1) : ∀ {ds : List D} {vs : List V}, Lents G C F H ds vs → Lents G C F1 H1 ds vs
  | [], _, x => x
  | d :: ds, _, x => by
    obtain ⟨v, r, q, x1, x2⟩ := x
    exact ⟨v, r, q, x1.ext e, x2.ext e⟩
theorem Lents.of : ∀ {ds : List D} {vs : List V}, Reps G F ds vs → Lents G C F H ds vs
  | [], _, x => by unfold Reps at x; exact x
  | d :: ds, _, x => by
    obtain ⟨v, r, q, x1, x2⟩ := x.uncons
    exact ⟨v, r, q, .inl x1, Lents.of x2⟩
/-- what a list, a tuple is -/
theorem Lent.lst {ds : List D} {v : V} (fh : Same F H) (x : Lent G C F H (.lst ds) v) : ∃ a vs, v = .ref a ∧ H a = some (.lst vs) ∧ ds.length ≤ lim ∧ Reps G F ds vs := by
  rcases x with x | ⟨a, h, n, vs, x1, x2, x3⟩
  · unfold Rep at x
    obtain ⟨a, vs, e, q, l, r⟩ := x
    exact ⟨a, vs, e, fh _ _ q, l, r⟩
  · exact ⟨a, vs, h, x1, x2, x3⟩
theorem Lent.tup {ds : List D} {v : V} (fh : Same F H) (x : Lent G C F H (.tup ds) v) : ∃ a vs, v = .ref a ∧ H a = some (.tup vs) ∧ F a = some (.tup vs) ∧ ds.length ≤ lim ∧ Reps G F ds vs := by
  rcases x with x | ⟨a, h, n, x⟩
  · unfold Rep at x
    obtain ⟨a, vs, e, q, l, r⟩ := x
    exact ⟨a, vs, e, fh _ _ q, q, l, r⟩
  · exact x.elim
theorem Lent.int {i : Int} {v : V} (x : Lent G C F H (.int i) v) : v = .int i := by
  rcases x with x | ⟨a, h, n, x⟩
  · unfold Rep at x; exact x
  · exact x.elim
theorem Lent.bl {i : Bool} {v : V} (x : Lent G C F H (.bl i) v) : v = .bl i := by
  rcases x with x | ⟨a, h, n, x⟩
  · unfold Rep at x; exact x
  · exact x.elim
theorem Lent.str {i : Str} {v : V} (x : Lent G C F H (.str i) v) : v = .str i := by
  rcases x with x | ⟨a, h, n, x⟩
  · unfold Rep at x; exact x
  · exact x.elim
theorem Lent.non {v : V} (x : Lent G C F H .non v) : v = .non := by
  rcases x with x | ⟨a, h, n, x⟩
  · unfold Rep at x; exact x
  · exact x.elim
theorem Lent.flat {d : D} {v : V} (h : d.flat = true) (x : Lent G C F H d v) : Rep G F d v := by
  rcases x with x | ⟨a, _, n, x⟩
  · exact x
  · cases d with
    | lst _ => cases h
    | dct _ _ => cases h
    | _ => exact x.elim
end
theorem imp {X : Cx} {e : Expr} {t t' : TE} (h : PE X e t) (i : ∀ σ H Q, t' σ H Q → t σ H Q) : PE X e t' := ⟨fun pins s σ H Q I q => h.run pins s σ H Q I (i σ H Q q)⟩
theorem impT {X : Cx} {e : Expr} {t t' : TT} (h : PT X e t) (i : ∀ σ H Q, t' σ H Q → t σ H Q) : PT X e t' := ⟨fun pins s σ H Q I q => h.run pins s σ H Q I (i σ H Q q)⟩
theorem impW {X : Cx} {e : Expr} {t t' : TT} (h : PW X e t) (i : ∀ σ H Q, t' σ H Q → t σ H Q) : PW X e t' := ⟨fun wh pins s σ H Q I q => h.run wh pins s σ H Q I (i σ H Q q)⟩
theorem impA {X : Cx} {es : List Expr} {t t' : TA} (h : PA X es t) (i : ∀ σ H Q, t' σ H Q → t σ H Q) : PA X es t' := ⟨fun pos pins s σ H Q I q => h.run pos pins s σ H Q I (i σ H Q q)⟩
section
variable {X : Cx} {T : List (Addr × Str)} {C : DC} {W : WX} {e a b c : Expr} {f g h : DE} {pos : Pos} {es : List Expr} {fs : DI}
/-- frozen is lent -/
theorem lent (x : PE X e (tE (gb X T) C W f)) : PE X e (tL (gb X T) C W f) := imp x fun _ _ _ => tG_rel fun _ _ _ _ r => .inl r
theorem lents (x : PA X es (tA (gb X T) C W fs)) : PA X es (tAL (gb X T) C W fs) := impA x fun _ _ _ => tG_rel fun _ _ _ _ r => Lents.of r
/-! ### names, constants -/
theorem ev (i : Nat) {x : Str} (hN : X.N[i]? = some x := by rfl) (hv : Vis X.env.scope x := by first | exact Or.inl rfl | exact Or.inr (Or.inl rfl) | exact Or.inr (Or.inr rfl)) (hd : (x == ("__debug__" : Str)) = false := by decide)
    (hcd : (x == ("__classdict__" : Str)) = false := by decide) : PE X (.Name x pos) (tE (gb X T) C W (dV i)) := imp (pe_var hN hv hd hcd) fun σ H Q ⟨F, ρ, p, I, q⟩ => by
  unfold dV at q
  have s := I.sl i
  cases z : nth ρ i with
  | fz d =>
    rw [z] at q s
    obtain ⟨v, e1, r⟩ := s
    exact ⟨v, e1, q.now I r⟩
  | _ => rw [z] at q; exact q.elim
theorem eo (i : Nat) {x : Str} (hN : X.N[i]? = some x := by rfl) (hv : Vis X.env.scope x := by first | exact Or.inl rfl | exact Or.inr (Or.inl rfl) | exact Or.inr (Or.inr rfl)) (hd : (x == ("__debug__" : Str)) = false := by decide)
    (hcd : (x == ("__classdict__" : Str)) = false := by decide) : PE X (.Name x pos) (tL (gb X T) C W (dO i)) := imp (pe_var hN hv hd hcd) fun σ H Q ⟨F, ρ, p, I, q⟩ => by
  unfold dO at q
  have s := I.sl i
  cases z : nth ρ i with
  | ow d =>
    rw [z] at q s
    obtain ⟨a, e1, fr, r⟩ := s
    exact ⟨.ref a, e1, q.now I (.inr ⟨a, rfl, fr.np, r⟩)⟩
  | _ => rw [z] at q; exact q.elim
theorem ei {i : Int} {j : Tok} : PE X (.Constant (.int i) j pos) (tE (gb X T) C W (dC (.int i))) := imp pe_int fun σ H Q ⟨F, ρ, p, I, q⟩ => q.now I (by unfold Rep; rfl)
theorem eb {i : Bool} {j : Tok} : PE X (.Constant (.bool i) j pos) (tE (gb X T) C W (dC (.bl i))) := imp pe_bl fun σ H Q ⟨F, ρ, p, I, q⟩ => q.now I (by unfold Rep; rfl)
theorem en {j : Tok} : PE X (.Constant .none j pos) (tE (gb X T) C W (dC .non)) := imp pe_non fun σ H Q ⟨F, ρ, p, I, q⟩ => q.now I (by unfold Rep; rfl)
theorem es' {i : Str} {j : Tok} : PE X (.Constant (.str i) j pos) (tE (gb X T) C W (dC (.str i))) := imp pe_str fun σ H Q ⟨F, ρ, p, I, q⟩ => q.now I (by unfold Rep; rfl)
/-- a module's constant -/
theorem eg {x : Str} {i : Int} {t : Tok} (hm : X.mg x = some (.int i t)) (hg : Gl X x := by rfl) (hd : (x == ("__debug__" : Str)) = false := by decide) : PE X (.Name x pos) (tE (gb X T) C W (dC (.int i))) :=
  imp (pe_glob (v := .int i) hg hm ⟨t, rfl⟩ hd) fun σ H Q ⟨F, ρ, p, I, q⟩ => q.now I (by unfold Rep; rfl)
/-! ### operators by values -/
/-- what an operator on lent data asks -/
def rD (G : Gb) (C : DC) (W : WX) (op : D → D → Option D) : R2 := fun x y H Q => ∃ F σ ρ p d1 d2, DInv G C F H σ ρ p ∧ Lent G C F H d1 x ∧ Lent G C F H d2 y ∧
  post G C W (fun F _ d v => Rep G F d v) (liftM (op d1 d2) p) F H σ ρ Q
theorem tt_val {G : Gb} {σ : L2.St} {H : Hp} {Q : Bool → Hp → Prop} (h : tT G C W f σ H Q) : tE G C W f σ H (fun x H' => ∃ k, x = .bl k ∧ Q k H') := by
  obtain ⟨F, ρ, p, I, q⟩ := h
  refine tG_mono (fun x H1 z => ?_) (tG_bind I q)
  obtain ⟨F1, d1, p1, I1, e1, r1, q1⟩ := z
  cases d1 with
  | bl b =>
    unfold Rep at r1
    exact ⟨b, r1, q1.now I1 rfl⟩
  | _ => exact q1.elim
theorem bin_imp {G : Gb} {op : D → D → Option D} {σ : L2.St} {H : Hp} {Q : VK} (z : tE G C W (d2 op f g) σ H Q) : tOp (rD G C W op) (tL G C W f) (tL G C W g) σ H Q := by
  obtain ⟨F, ρ, p, I, q⟩ := z
  refine tG_mono (fun x H1 z => ?_) (tG_bind I q)
  obtain ⟨F1, d1, p1, I1, e1, r1, q1⟩ := z
  refine tG_mono (fun y H2 z => ?_) (tG_bind I1 q1)
  obtain ⟨F2, d2, p2, I2, e2, r2, q2⟩ := z
  exact ⟨F2, σ, ρ, p2, d1, d2, I2, r1.ext e2, r2, q2⟩
theorem chain_imp {G : Gb} {o1 o2 : D → D → Option D} {σ : L2.St} {H : Hp} {Q : VK} (z : tE G C W (dChain o1 o2 f g h) σ H Q) : tChain (rD G C W o1) (rD G C W o2) (tL G C W f) (tL G C W g) (tL G C W h) σ H Q := by
  obtain ⟨F, ρ, p, I, q⟩ := z
  refine tG_mono (fun x H1 z => ?_) (tG_bind I q)
  obtain ⟨F1, d1, p1, I1, e1, r1, q1⟩ := z
  refine tG_mono (fun y H2 z => ?_) (tG_bind I1 q1)
  obtain ⟨F2, d2, p2, I2, e2, r2, q2⟩ := z
  refine ⟨F2, σ, ρ, p2, d1, d2, I2, r1.ext e2, r2, ?_⟩
  unfold bindM at q2
  cases ho : o1 d1 d2 with
  | none =>
    rw [ho] at q2
    exact q2.elim
  | some c =>
    rw [ho] at q2
    have q3 : post G C W (fun F _ d v => Rep G F d v) (asB c (fun b => if b then bindM (h ρ) fun z => liftM (o2 d2 z) else retM (.bl false)) p2) F2 H2 σ ρ Q := q2
    cases c with
    | bl b =>
      intro v F' H' I' e' r'
      unfold Rep at r'
      refine ⟨b, r', ?_⟩
      cases b with
      | false => exact (q3.ext e').now (I := I') (by unfold Rep; rfl)
      | true =>
        have q4 : post G C W (fun F _ d v => Rep G F d v) (bindM (h ρ) (fun z => liftM (o2 d2 z)) p2) F' H' σ ρ Q := q3.ext e'
        refine tG_mono (fun y H3 z => ?_) (tG_bind I' q4)
        obtain ⟨F3, d3, p3, I3, e3, r3, q5⟩ := z
        exact ⟨F3, σ, ρ, p3, d2, d3, I3, (r2.ext e').ext e3, r3, q5⟩
    | _ => exact q3.elim
theorem e2 {op : D → D → Option D} {o : Operator} (hop : OpR X (binaryOp o) (rD (gb X T) C W op)) (ha : PE X a (tL (gb X T) C W f)) (hb : PE X b (tL (gb X T) C W g)) : PE X (.BinOp a o b pos) (tE (gb X T) C W (d2 op f g)) :=
  imp (pe_op hop ha hb) fun _ _ _ z => bin_imp z
/-- a comparison -/
theorem ec {op : D → D → Option D} {o : CmpOp} (hop : OpR X (compareOp o) (rD (gb X T) C W op)) (ha : PE X a (tL (gb X T) C W f)) (hb : PE X b (tL (gb X T) C W g)) (hn : behindInMarks o b = false := by first | rfl | exact nobehind _ (by decide) (by decide)) :
    PE X (.Compare a [o] [b] pos) (tE (gb X T) C W (d2 op f g)) := imp (pe_cmpR hop ha hb hn) fun _ _ _ z => bin_imp z
theorem tc {op : D → D → Option D} {o : CmpOp} (hop : OpR X (compareOp o) (rD (gb X T) C W op)) (ha : PE X a (tL (gb X T) C W f)) (hb : PE X b (tL (gb X T) C W g)) (hn : behindInMarks o b = false := by first | rfl | exact nobehind _ (by decide) (by decide)) :
    PT X (.Compare a [o] [b] pos) (tT (gb X T) C W (d2 op f g)) := impT (pt_cmpR hop ha hb hn) fun _ _ _ z => bin_imp (tt_val z)
/-- a chain -/
theorem ech {p1 p2 : D → D → Option D} {o o' : CmpOp} (h1 : OpR X (compareOp o) (rD (gb X T) C W p1)) (h2 : OpR X (compareOp o') (rD (gb X T) C W p2)) (ha : PE X a (tL (gb X T) C W f)) (hb : PE X b (tL (gb X T) C W g)) (hc : PE X c (tL (gb X T) C W h))
    (hm : lastMarks [o, o'] [b, c] = false := by with_unfolding_all rfl) : PE X (.Compare a [o, o'] [b, c] pos) (tE (gb X T) C W (dChain p1 p2 f g h)) := imp (pe_chain h1 h2 ha hb hc hm) fun _ _ _ z => chain_imp z
theorem tch {p1 p2 : D → D → Option D} {o o' : CmpOp} (h1 : OpR X (compareOp o) (rD (gb X T) C W p1)) (h2 : OpR X (compareOp o') (rD (gb X T) C W p2)) (ha : PE X a (tL (gb X T) C W f)) (hb : PE X b (tL (gb X T) C W g)) (hc : PE X c (tL (gb X T) C W h))
    (hm : lastMarks [o, o'] [b, c] = false := by with_unfolding_all rfl) : PT X (.Compare a [o, o'] [b, c] pos) (tT (gb X T) C W (dChain p1 p2 f g h)) := impT (pt_chain h1 h2 ha hb hc hm) fun _ _ _ z => chain_imp (tt_val z)
/-- a call, a name .. as a test -/
theorem tv (x : PE X e (tE (gb X T) C W f)) (he : ∀ whole, isTrue e X.env whole = (do let v ← whole; standAt e.pos; holding [v] (truthy v)) := by intro _; rfl) : PT X e (tT (gb X T) C W f) := impT (pt_val x he) fun _ _ _ z => tt_val z
/-! ### and, or, not, if -/
theorem bM_and (ρ : Env') : bM (dAnd f g) ρ = bindM (bM f ρ) fun b => if b then bM g ρ else retM false := by
  show bindM (bindM (bM f ρ) _) _ = _
  rw [bindM_assoc]
  refine congrArg (bindM (bM f ρ)) (funext fun b => ?_)
  cases b <;> rfl
theorem bM_or (ρ : Env') : bM (dOr f g) ρ = bindM (bM f ρ) fun b => if b then retM true else bM g ρ := by
  show bindM (bindM (bM f ρ) _) _ = _
  rw [bindM_assoc]
  refine congrArg (bindM (bM f ρ)) (funext fun b => ?_)
  cases b <;> rfl
theorem bM_not (ρ : Env') : bM (dNot f) ρ = bindM (bM f ρ) fun b => retM (!b) := by
  show bindM (bindM (bM f ρ) _) _ = _
  rw [bindM_assoc]
  rfl
variable {G : Gb} {σ : L2.St} {H : Hp}
theorem tAnd_imp {Q : Bool → Hp → Prop} (z : tT G C W (dAnd f g) σ H Q) : tAnd (tT G C W f) (tT G C W g) σ H Q := by
  obtain ⟨F, ρ, p, I, q⟩ := z
  rw [bM_and] at q
  refine tG_mono (fun x H1 z => ?_) (tG_bind I q)
  obtain ⟨F1, b, p1, I1, e1, r1, q1⟩ := z
  subst r1
  cases x with
  | true => exact ⟨F1, ρ, p1, I1, q1⟩
  | false => exact q1.now I1 rfl
theorem tOr_imp {Q : Bool → Hp → Prop} (z : tT G C W (dOr f g) σ H Q) : tOr (tT G C W f) (tT G C W g) σ H Q := by
  obtain ⟨F, ρ, p, I, q⟩ := z
  rw [bM_or] at q
  refine tG_mono (fun x H1 z => ?_) (tG_bind I q)
  obtain ⟨F1, b, p1, I1, e1, r1, q1⟩ := z
  subst r1
  cases x with
  | false => exact ⟨F1, ρ, p1, I1, q1⟩
  | true => exact q1.now I1 rfl
variable {rest : List Expr}
/-- the last of an and, an or, as a test -/
theorem wa1 (x : PT X a (tT (gb X T) C W f)) : PW X (.BoolOp .And [a] pos) (tT (gb X T) C W f) := pw_and1 x
theorem wo1 (x : PT X a (tT (gb X T) C W f)) : PW X (.BoolOp .Or [a] pos) (tT (gb X T) C W f) := pw_or1 x
theorem wa (x : PT X a (tT (gb X T) C W f)) (y : PW X (.BoolOp .And (b :: rest) pos) (tT (gb X T) C W g)) : PW X (.BoolOp .And (a :: b :: rest) pos) (tT (gb X T) C W (dAnd f g)) := impW (pw_and x y) fun _ _ _ z => tAnd_imp z
theorem wo (x : PT X a (tT (gb X T) C W f)) (y : PW X (.BoolOp .Or (b :: rest) pos) (tT (gb X T) C W g)) : PW X (.BoolOp .Or (a :: b :: rest) pos) (tT (gb X T) C W (dOr f g)) := impW (pw_or x y) fun _ _ _ z => tOr_imp z
theorem tn (x : PT X a (tT (gb X T) C W f)) : PT X (.UnaryOp .Not a pos) (tT (gb X T) C W (dNot f)) := impT (pt_not x) fun σ H Q ⟨F, ρ, p, I, q⟩ => by
  rw [bM_not] at q
  refine tG_mono (fun x H1 z => ?_) (tG_bind I q)
  obtain ⟨F1, b, p1, I1, e1, r1, q1⟩ := z
  subst r1
  exact q1.now I1 rfl
/-- as values -/
theorem ea1 (x : PE X a (tE (gb X T) C W f)) : PE X (.BoolOp .And [a] pos) (tE (gb X T) C W f) := pe_one x
theorem eo1 (x : PE X a (tE (gb X T) C W f)) : PE X (.BoolOp .Or [a] pos) (tE (gb X T) C W f) := pe_one x
theorem bM_bind {α : Type} (k : Bool → M α) (ρ : Env') : bindM (bM f ρ) k = bindM (f ρ) fun d => asB d k := by
  show bindM (bindM (f ρ) _) _ = _
  rw [bindM_assoc]
  refine congrArg (bindM (f ρ)) (funext fun d => ?_)
  cases d <;> rfl
theorem asb {α β : Type} {R : Hp → Hp → α → β → Prop} {F : Hp} {ρ : Env'} {p : Pot} {d : D} {v : V} {k : Bool → M α} {Q : β → Hp → Prop} (r : Rep G F d v) (q : post G C W R (asB d k p) F H σ ρ Q) : ∃ b, d = .bl b ∧ v = .bl b ∧ post G C W R (k b p) F H σ ρ Q := by
  cases d with
  | bl b =>
    unfold Rep at r
    exact ⟨b, rfl, r, q⟩
  | _ => exact q.elim
theorem ea (x : PE X a (tE (gb X T) C W f)) (y : PE X (.BoolOp .And (b :: rest) pos) (tE (gb X T) C W g)) : PE X (.BoolOp .And (a :: b :: rest) pos) (tE (gb X T) C W (dAnd f g)) := imp (pe_and x y) fun σ H Q ⟨F, ρ, p, I, q⟩ => by
  unfold dAnd at q
  rw [bM_bind] at q
  refine tG_mono (fun x H1 z => ?_) (tG_bind I q)
  obtain ⟨F1, d, p1, I1, e1, r1, q1⟩ := z
  obtain ⟨b, ed, ev, q2⟩ := asb r1 q1
  refine ⟨b, ev, ?_⟩
  cases b with
  | true => exact ⟨F1, ρ, p1, I1, q2⟩
  | false => exact q2.now I1 (by unfold Rep; rfl)
theorem eor (x : PE X a (tE (gb X T) C W f)) (y : PE X (.BoolOp .Or (b :: rest) pos) (tE (gb X T) C W g)) : PE X (.BoolOp .Or (a :: b :: rest) pos) (tE (gb X T) C W (dOr f g)) := imp (pe_or x y) fun σ H Q ⟨F, ρ, p, I, q⟩ => by
  unfold dOr at q
  rw [bM_bind] at q
  refine tG_mono (fun x H1 z => ?_) (tG_bind I q)
  obtain ⟨F1, d, p1, I1, e1, r1, q1⟩ := z
  obtain ⟨b, ed, ev, q2⟩ := asb r1 q1
  refine ⟨b, ev, ?_⟩
  cases b with
  | false => exact ⟨F1, ρ, p1, I1, q2⟩
  | true => exact q2.now I1 (by unfold Rep; rfl)
theorem ent (x : PE X a (tE (gb X T) C W f)) : PE X (.UnaryOp .Not a pos) (tE (gb X T) C W (dNot f)) := imp (pe_not x) fun σ H Q ⟨F, ρ, p, I, q⟩ => by
  unfold dNot at q
  rw [bM_bind] at q
  refine tG_mono (fun x H1 z => ?_) (tG_bind I q)
  obtain ⟨F1, d, p1, I1, e1, r1, q1⟩ := z
  obtain ⟨b, ed, ev, q2⟩ := asb r1 q1
  exact ⟨b, ev, q2.now I1 (by unfold Rep; rfl)⟩
theorem eif (x : PT X c (tT (gb X T) C W h)) (y : PE X a (tE (gb X T) C W f)) (z : PE X b (tE (gb X T) C W g)) : PE X (.IfExp c a b pos) (tE (gb X T) C W (dIf h f g)) := imp (pe_ifExp x y z) fun σ H Q ⟨F, ρ, p, I, q⟩ => by
  unfold dIf at q
  refine tG_mono (fun x H1 z => ?_) (tG_bind I q)
  obtain ⟨F1, d, p1, I1, e1, r1, q1⟩ := z
  subst r1
  cases x with
  | true => exact ⟨F1, ρ, p1, I1, q1⟩
  | false => exact ⟨F1, ρ, p1, I1, q1⟩
/-! ### rows of expressions, displays -/
variable {fl : List DE}
theorem an : PA X [] (tA (gb X T) C W (dsN [])) := impA pa_nil fun σ H Q ⟨F, ρ, p, I, q⟩ => q.now I .nil
theorem ac (x : PE X e (tE (gb X T) C W f)) (y : PA X es (tA (gb X T) C W (dsN fl))) (hs : starEach (e :: es) X.env = (false, eval e X.env) :: starEach es X.env := by rfl) : PA X (e :: es) (tA (gb X T) C W (dsN (f :: fl))) :=
  impA (pa_cons x y hs) fun σ H Q ⟨F, ρ, p, I, q⟩ => by
    unfold dsN at q
    refine tG_mono (fun x H1 z => ?_) (tG_bind I q)
    obtain ⟨F1, d, p1, I1, e1, r1, q1⟩ := z
    refine tG_mono (fun y H2 z => ?_) (tG_bind I1 q1)
    obtain ⟨F2, ds, p2, I2, e2, r2, q2⟩ := z
    exact q2.now I2 (.cons (Rep.mono e2.ff _ _ r1) r2)
theorem aln : PA X [] (tAL (gb X T) C W (dsN [])) := impA pa_nil fun σ H Q ⟨F, ρ, p, I, q⟩ => q.now I rfl
theorem alc (x : PE X e (tL (gb X T) C W f)) (y : PA X es (tAL (gb X T) C W (dsN fl))) (hs : starEach (e :: es) X.env = (false, eval e X.env) :: starEach es X.env := by rfl) : PA X (e :: es) (tAL (gb X T) C W (dsN (f :: fl))) :=
  impA (pa_cons x y hs) fun σ H Q ⟨F, ρ, p, I, q⟩ => by
    unfold dsN at q
    refine tG_mono (fun x H1 z => ?_) (tG_bind I q)
    obtain ⟨F1, d, p1, I1, e1, r1, q1⟩ := z
    refine tG_mono (fun y H2 z => ?_) (tG_bind I1 q1)
    obtain ⟨F2, ds, p2, I2, e2, r2, q2⟩ := z
    exact q2.now I2 ⟨_, _, rfl, r1.ext e2, r2⟩
theorem lim_line {n : Nat} (h : n ≤ lim) : n ≤ sizeLine := by rw [sizeLine_eq]; exact h
theorem dsN_len : ∀ (fl : List DE) (ρ : Env') (p p' : Pot) (ds : List D), dsN fl ρ p = .ok ds p' → ds.length = fl.length
  | [], ρ, p, p', ds, h => by cases h; rfl
  | f :: fl, ρ, p, p', ds, h => by
    unfold dsN at h
    obtain ⟨d, p1, _, h1⟩ := bindM_ok h
    obtain ⟨ds2, p2, h2, h3⟩ := bindM_ok h1
    cases h3
    rw [List.length_cons, List.length_cons, dsN_len fl ρ p1 _ ds2 h2]
/-- what is known of the result besides -/
theorem tG_bind' {α β γ δ : Type} {R : Hp → Hp → α → β → Prop} {R' : Hp → Hp → γ → δ → Prop} {F : Hp} {ρ : Env'} {p : Pot} {f : Env' → M α} {k : α → M γ} {Q : δ → Hp → Prop} (I : DInv G C F H σ ρ p) (h : post G C W R' (bindM (f ρ) k p) F H σ ρ Q) :
    tG G C W R f σ H (fun b H1 => ∃ F1 a p1, DInv G C F1 H1 σ ρ p1 ∧ Ext G.T C.pa F H F1 H1 ∧ R F1 H1 a b ∧ f ρ p = .ok a p1 ∧ post G C W R' (k a p1) F1 H1 σ ρ Q) := by
  refine ⟨F, ρ, p, I, ?_⟩
  unfold bindM at h
  cases q : f ρ p with
  | ok a p1 =>
    rw [q] at h
    exact fun b F' H' I' e r => ⟨F', a, p1, I', e, r, rfl, h.ext e⟩
  | exc z p1 =>
    rw [q] at h
    exact h
  | err =>
    rw [q] at h
    exact h
/-- the end of a rule: a new object that stands for the datum -/
theorem post_new {F : Hp} {ρ : Env'} {p : Pot} {d : D} {Q : VK} {o : HO} {l : Addr} (q : post G C W (fun F _ d v => Rep G F d v) (.ok d p) F H σ ρ Q) (I : DInv G C F H σ ρ p) (n : H l = none) (r : ∀ F' : Hp, Same F F' → F' l = some o → Rep G F' d (.ref l)) (ho : ∀ ps, o ≠ .tbl ps := by intro _ h; cases h) : Q (.ref l) (upd H l o) :=
  q _ _ _ (I.new n ho) (ext_new I.fh n ho) (r _ (ext_new (T := G.T) (pa := C.pa) (o := o) I.fh n ho).ff upd_same)
theorem et {x1 : Nat} (y : PA X es (tA (gb X T) C W (dsN fl))) (hl : fl.length ≤ lim := by decide) : PE X (.Tuple es x1 pos) (tE (gb X T) C W (dTup fl)) := imp (pe_tup y) fun σ H Q ⟨F, ρ, p, I, q⟩ => by
  unfold dTup at q
  refine tG_mono (fun x H1 z => ?_) (tG_bind' I q)
  obtain ⟨F1, ds, p1, I1, e1, r1, eq, q1⟩ := z
  have l1 := dsN_len _ _ _ _ _ eq
  refine ⟨by rw [r1.length, l1]; exact lim_line hl, fun l n => post_new q1 I1 n fun F' s e => ?_⟩
  unfold Rep
  exact ⟨l, x, rfl, e, by rw [l1]; exact hl, Reps.mono s _ _ r1⟩
theorem el (y : PA X es (tA (gb X T) C W (dsN fl))) (hl : fl.length ≤ lim := by decide) : PE X (.List es pos) (tE (gb X T) C W (dLst fl)) := imp (pe_lst y) fun σ H Q ⟨F, ρ, p, I, q⟩ => by
  unfold dLst at q
  refine tG_mono (fun x H1 z => ?_) (tG_bind' I q)
  obtain ⟨F1, ds, p1, I1, e1, r1, eq, q1⟩ := z
  have l1 := dsN_len _ _ _ _ _ eq
  refine ⟨by rw [r1.length, l1]; exact lim_line hl, fun l n => post_new q1 I1 n fun F' s e => ?_⟩
  unfold Rep
  exact ⟨l, x, rfl, e, by rw [l1]; exact hl, Reps.mono s _ _ r1⟩
end
end DL
/-! DL4: Python's operators and built-ins on values that stand for data. -/
namespace DL
set_option autoImplicit false
open PySem PySem.Spec L2
/-! ### data as the library has them -/
mutual
def D.py : D → PyData
  | .non => .none
  | .bl b => .bool b
  | .int i => .int i
  | .str x => .str x
  | .lst xs => .list (D.pys xs)
  | .tup xs => .tuple (D.pys xs)
  | .dct _ _ => .dict []
def D.pys : List D → List PyData
  | [] => []
  | x :: xs => D.py x :: D.pys xs
end
theorem pys_len : ∀ xs : List D, (D.pys xs).length = xs.length
  | [] => rfl
  | x :: xs => by rw [D.pys, List.length_cons, List.length_cons, pys_len xs]
mutual
theorem eqv_py : ∀ d e : D, PyData.eqv d.py e.py = D.eqv d e
  | .non, e => by cases e <;> simp [D.py, PyData.eqv, D.eqv]
  | .bl _, e => by cases e <;> simp [D.py, PyData.eqv, D.eqv]
  | .int _, e => by cases e <;> simp [D.py, PyData.eqv, D.eqv]
  | .str _, e => by cases e <;> simp [D.py, PyData.eqv, D.eqv]
  | .dct _ _, e => by cases e <;> simp [D.py, PyData.eqv, D.eqv]
  | .lst xs, e => by
    cases e with
    | lst ys =>
      simp only [D.py, PyData.eqv, D.eqv]
      exact eqvs_py xs ys
    | _ => simp [D.py, PyData.eqv, D.eqv]
  | .tup xs, e => by
    cases e with
    | tup ys =>
      simp only [D.py, PyData.eqv, D.eqv]
      exact eqvs_py xs ys
    | _ => simp [D.py, PyData.eqv, D.eqv]
theorem eqvs_py : ∀ xs ys : List D, PyData.eqvAll (D.pys xs) (D.pys ys) = D.eqvs xs ys
  | [], [] => by simp [D.pys, PyData.eqvAll, D.eqvs]
  | [], _ :: _ => by simp [D.pys, PyData.eqvAll, D.eqvs]
  | _ :: _, [] => by simp [D.pys, PyData.eqvAll, D.eqvs]
  | x :: xs, y :: ys => by
    simp only [D.pys, PyData.eqvAll, D.eqvs]
    rw [eqv_py x y, eqvs_py xs ys]
end
mutual
theorem plain_py : ∀ (n : Nat) (d : D), d.plain n = true → d.py.plain = true ∧ d.py.depth ≤ n
  | _, .non, _ => by simp [D.py, PyData.plain, PyData.depth]
  | _, .bl _, _ => by simp [D.py, PyData.plain, PyData.depth]
  | _, .int _, _ => by simp [D.py, PyData.plain, PyData.depth]
  | _, .str _, _ => by simp [D.py, PyData.plain, PyData.depth]
  | 0, .dct _ _, h => by simp [D.plain] at h
  | n + 1, .dct _ _, h => by simp [D.plain] at h
  | 0, .lst _, h => by simp [D.plain] at h
  | 0, .tup _, h => by simp [D.plain] at h
  | n + 1, .lst xs, h => by
    have h1 := plains_py n xs (by simpa [D.plain] using h)
    simp only [D.py, PyData.plain, PyData.depth]
    exact ⟨h1.1, Nat.succ_le_succ h1.2⟩
  | n + 1, .tup xs, h => by
    have h1 := plains_py n xs (by simpa [D.plain] using h)
    simp only [D.py, PyData.plain, PyData.depth]
    exact ⟨h1.1, Nat.succ_le_succ h1.2⟩
theorem plains_py : ∀ (n : Nat) (xs : List D), D.plains n xs = true → PyData.plainAll (D.pys xs) = true ∧ PyData.depthAll (D.pys xs) ≤ n
  | _, [], _ => by simp [D.pys, PyData.plainAll, PyData.depthAll]
  | n, x :: xs, h => by
    have h0 : D.plain n x = true ∧ D.plains n xs = true := by simpa [D.plains] using h
    have h1 := plain_py n x h0.1
    have h2 := plains_py n xs h0.2
    simp only [D.pys, PyData.plainAll, PyData.depthAll]
    exact ⟨by rw [h1.1, h2.1]; rfl, Nat.max_le.mpr ⟨h1.2, h2.2⟩⟩
end
section
variable {X : Cx} {T : List (Addr × Str)} {C : DC} {W : WX} {G : Gb} {F F' H H' : Hp} {σ : L2.St} {ρ : Env'} {p : Pot} {K : PySem.W.Frag}
mutual
theorem Rep.dp (fh : Same F H) : ∀ (n : Nat) (d : D) (v : V), d.plain n = true → Rep G F d v → Dp K H v d.py
  | _, .non, v, _, r => by unfold Rep at r; subst r; rw [D.py]; exact .non
  | _, .bl b, v, _, r => by unfold Rep at r; subst r; rw [D.py]; exact .bl b
  | _, .int i, v, _, r => by unfold Rep at r; subst r; rw [D.py]; exact .int i
  | _, .str s, v, _, r => by unfold Rep at r; subst r; rw [D.py]; exact .str s
  | 0, .dct _ _, _, h, _ => by simp [D.plain] at h
  | n + 1, .dct _ _, _, h, _ => by simp [D.plain] at h
  | 0, .lst _, _, h, _ => by simp [D.plain] at h
  | 0, .tup _, _, h, _ => by simp [D.plain] at h
  | n + 1, .lst xs, v, h, r => by
    unfold Rep at r
    obtain ⟨a, vs, e, q, l, r⟩ := r
    subst e
    rw [D.py]
    exact .lst (SqL.of (fh _ _ q)) (Reps.dp fh n xs vs (by simpa [D.plain] using h) r)
  | n + 1, .tup xs, v, h, r => by
    unfold Rep at r
    obtain ⟨a, vs, e, q, l, r⟩ := r
    subst e
    rw [D.py]
    exact .tup (SqT.of (fh _ _ q)) (Reps.dp fh n xs vs (by simpa [D.plain] using h) r)
theorem Reps.dp (fh : Same F H) : ∀ (n : Nat) (ds : List D) (vs : List V), D.plains n ds = true → Reps G F ds vs → DpAll K H vs (D.pys ds)
  | _, [], vs, _, r => by unfold Reps at r; subst r; rw [D.pys]; exact .nil
  | n, d :: ds, vs, h, r => by
    have h0 : D.plain n d = true ∧ D.plains n ds = true := by simpa [D.plains] using h
    obtain ⟨v, t, e, r1, r2⟩ := r.uncons
    subst e
    rw [D.pys]
    exact .cons (Rep.dp fh n d v h0.1 r1) (Reps.dp fh n ds t h0.2 r2)
end
theorem Lent.dp {d : D} {v : V} {n : Nat} (fh : Same F H) (h : d.plain n = true) (x : Lent G C F H d v) : Dp K H v d.py := by
  rcases x with x | ⟨a, e, np, x⟩
  · exact Rep.dp fh n d v h x
  · cases d with
    | lst ds =>
      obtain ⟨vs, q, l, r⟩ := x
      subst e
      rw [D.py]
      cases n with
      | zero => simp [D.plain] at h
      | succ n => exact .lst (SqL.of q) (Reps.dp fh n ds vs (by simpa [D.plain] using h) r)
    | dct _ _ => cases n <;> simp [D.plain] at h
    | _ => exact x.elim
/-- a value that is read as a datum -/
theorem Lent.reads {d : D} {v : V} {u : Value} {n : Nat} {pins : List (Addr × Obj)} {s : Shared} {σ' : L2.St} (I : Inv X pins σ' H s) (fh : Same F H) (h : d.plain n = true) (x : Lent G C F H d v) (r : RelV v u) : ∃ as, Reads s.heap u d.py as :=
  Dp.reads I d.py v u (x.dp fh h) r
abbrev rz (G : Gb) : Hp → Hp → D → V → Prop := fun F _ d v => Rep G F d v
theorem post.flat {d : D} {v : V} {Q : VK} (q : post G C W (rz G) (.ok d p) F H σ ρ Q) (I : DInv G C F H σ ρ p) (h : Rep G F d v) : Q v H := q.now I h
/-! ### two-place operators -/
theorem o_add : OpR X (binaryOp .Add) (rD (gb X T) C W pAdd) := by
  intro pins s σ H x y v u Q I rx ry h
  obtain ⟨F, σ', ρ, p, d1, d2, J, l1, l2, q⟩ := h
  have fh := J.fh
  cases d1 with
  | int a =>
    cases d2 with
    | int b => exact op_add pins s σ H x y v u Q I rx ry ⟨a, b, l1.int, l2.int, post.flat q J (by unfold Rep; rfl)⟩
    | _ => exact q.elim
  | str a =>
    cases d2 with
    | str b =>
      unfold pAdd at q
      by_cases hz : a.length + b.length ≤ lim
      · simp only [hz, if_true] at q
        exact op_add_str pins s σ H x y v u Q I rx ry ⟨a, b, l1.str, l2.str, lim_line hz, post.flat q J (by unfold Rep; rfl)⟩
      · simp only [hz, if_false] at q
        exact q.elim
    | _ => exact q.elim
  | tup xs =>
    cases d2 with
    | tup ys =>
      unfold pAdd at q
      by_cases hz : xs.length + ys.length ≤ lim
      · simp only [hz, if_true] at q
        obtain ⟨a, vs, e1, h1, f1, z1, r1⟩ := l1.tup fh
        obtain ⟨b, us, e2, h2, f2, z2, r2⟩ := l2.tup fh
        have n1 := r1.length
        have n2 := r2.length
        refine op_catA pins s σ H x y v u Q I rx ry ⟨a, b, vs, us, e1, e2, SqT.of h1, SqT.of h2, lim_line (by omega), fun e => ?_, fun _ e => ?_, fun _ _ l n => ?_⟩
        · have : xs = [] := List.eq_nil_of_length_eq_zero (by rw [← n1, e]; rfl)
          subst this
          refine post.flat q J ?_
          unfold Rep
          exact ⟨b, us, rfl, f2, by rw [List.nil_append]; exact z2, by rw [List.nil_append]; exact r2⟩
        · have : ys = [] := List.eq_nil_of_length_eq_zero (by rw [← n2, e]; rfl)
          subst this
          refine post.flat q J ?_
          unfold Rep
          exact ⟨a, vs, rfl, f1, by rw [List.append_nil]; exact z1, by rw [List.append_nil]; exact r1⟩
        · refine post_new q J n fun F' sm e => ?_
          unfold Rep
          exact ⟨l, vs ++ us, rfl, e, by rw [List.length_append]; exact hz, Reps.mono sm _ _ (r1.app r2)⟩
      · simp only [hz, if_false] at q
        exact q.elim
    | _ => exact q.elim
  | lst xs =>
    cases d2 with
    | lst ys =>
      unfold pAdd at q
      by_cases hz : xs.length + ys.length ≤ lim
      · simp only [hz, if_true] at q
        obtain ⟨a, vs, e1, h1, z1, r1⟩ := l1.lst fh
        obtain ⟨b, us, e2, h2, z2, r2⟩ := l2.lst fh
        have n1 := r1.length
        have n2 := r2.length
        refine op_cat pins s σ H x y v u Q I rx ry ⟨a, b, vs, us, e1, e2, h1, h2, lim_line (by omega), fun l n => ?_⟩
        refine post_new q J n fun F' sm e => ?_
        unfold Rep
        exact ⟨l, vs ++ us, rfl, e, by rw [List.length_append]; exact hz, Reps.mono sm _ _ (r1.app r2)⟩
      · simp only [hz, if_false] at q
        exact q.elim
    | _ => exact q.elim
  | _ => exact q.elim
theorem o_sub : OpR X (binaryOp .Sub) (rD (gb X T) C W pSub) := by
  intro pins s σ H x y v u Q I rx ry h
  obtain ⟨F, σ', ρ, p, d1, d2, J, l1, l2, q⟩ := h
  cases d1 with
  | int a =>
    cases d2 with
    | int b => exact op_sub pins s σ H x y v u Q I rx ry ⟨a, b, l1.int, l2.int, post.flat q J (by unfold Rep; rfl)⟩
    | _ => exact q.elim
  | _ => exact q.elim
theorem reps_of {G : Gb} {F : Hp} {xs : List D} {vs : List V} (r : Reps G F xs vs) : ∀ n : Nat, Reps G F (reps xs n) ((List.replicate n vs).flatten)
  | 0 => .nil
  | n + 1 => by
    rw [List.replicate_succ, List.flatten_cons, reps]
    exact r.app (reps_of r n)
theorem reps_len {α : Type} (xs : List α) : ∀ n : Nat, (reps xs n).length = xs.length * n
  | 0 => rfl
  | n + 1 => by rw [reps, List.length_append, reps_len xs n, Nat.mul_succ, Nat.add_comm]
theorem small_of {a : Int} (h : small a = true) : -(2 ^ 64) < a ∧ a < 2 ^ 64 := by
  unfold small at h
  have h2 := Bool.and_eq_true_iff.mp h
  exact ⟨of_decide_eq_true h2.1, of_decide_eq_true h2.2⟩
theorem o_mul : OpR X (binaryOp .Mult) (rD (gb X T) C W pMul) := by
  intro pins s σ H x y v u Q I rx ry h
  obtain ⟨F, σ', ρ, p, d1, d2, J, l1, l2, q⟩ := h
  cases d1 with
  | int a =>
    cases d2 with
    | int b =>
      simp only [pMul] at q
      cases hz : (small a || small b) with
      | true =>
        simp only [hz, if_true] at q
        refine op_mul pins s σ H x y v u Q I rx ry ⟨a, b, l1.int, l2.int, ?_, post.flat q J (by unfold Rep; rfl)⟩
        rcases (Bool.or_eq_true _ _).mp hz with e | e
        · exact .inl (small_of e)
        · exact .inr (small_of e)
      | false =>
        simp only [hz] at q
        exact q.elim
    | _ => exact q.elim
  | lst xs =>
    cases d2 with
    | int n =>
      unfold pMul at q
      by_cases hz : -1000000000 < n ∧ n < 1000000000 ∧ xs.length * n.toNat ≤ lim
      · simp only [hz, and_self, if_true] at q
        obtain ⟨h1, h2, h3⟩ := hz
        obtain ⟨a, vs, e1, q1, z1, r1⟩ := l1.lst J.fh
        have n1 := r1.length
        refine op_rep pins s σ H x y v u Q I rx ry ⟨a, n, vs, e1, l2.int, q1, by omega, by omega, by rw [n1]; exact lim_line h3, fun l nl => ?_⟩
        refine post_new q J nl fun F' sm e => ?_
        unfold Rep
        exact ⟨l, _, rfl, e, by rw [reps_len]; exact h3, Reps.mono sm _ _ (reps_of r1 _)⟩
      · simp only [hz, if_false] at q
        exact q.elim
    | _ => exact q.elim
  | _ => exact q.elim
theorem o_div : OpR X (binaryOp .FloorDiv) (rD (gb X T) C W pDiv) := by
  intro pins s σ H x y v u Q I rx ry h
  obtain ⟨F, σ', ρ, p, d1, d2, J, l1, l2, q⟩ := h
  cases d1 with
  | int a =>
    cases d2 with
    | int b =>
      unfold pDiv at q
      by_cases hz : 0 < b ∧ b < 1073741824
      · simp only [hz, and_self, if_true] at q
        exact op_fdiv pins s σ H x y v u Q I rx ry ⟨a, b, l1.int, l2.int, hz, post.flat q J (by unfold Rep; rfl)⟩
      · simp only [hz, if_false] at q
        exact q.elim
    | _ => exact q.elim
  | _ => exact q.elim
theorem o_mod : OpR X (binaryOp .Mod) (rD (gb X T) C W pMod) := by
  intro pins s σ H x y v u Q I rx ry h
  obtain ⟨F, σ', ρ, p, d1, d2, J, l1, l2, q⟩ := h
  cases d1 with
  | int a =>
    cases d2 with
    | int b =>
      unfold pMod at q
      by_cases hz : 0 < b
      · simp only [hz, if_true] at q
        exact op_mod pins s σ H x y v u Q I rx ry ⟨a, b, l1.int, l2.int, hz, post.flat q J (by unfold Rep; rfl)⟩
      · simp only [hz, if_false] at q
        exact q.elim
    | _ => exact q.elim
  | _ => exact q.elim
/-! ### comparisons -/
theorem pl_ab {a b : Bool} {β : Type} {z r : β} {x : Option β} (h : (if (a && b) = true then some z else none) = x) (hx : x = some r) : a = true ∧ b = true ∧ z = r := by
  subst h
  cases a <;> cases b <;> simp_all
theorem o_eq (hr : Room 0 X.A) : OpR X (compareOp .Eq) (rD (gb X T) C W pEq) := by
  intro pins s σ H x y v u Q I rx ry h
  obtain ⟨F, σ', ρ, p, d1, d2, J, l1, l2, q⟩ := h
  unfold pEq at q
  cases h1 : d1.pl with
  | false => rw [h1] at q; exact q.elim
  | true =>
    cases h2 : d2.pl with
    | false => rw [h1, h2] at q; exact q.elim
    | true =>
      rw [h1, h2] at q
      obtain ⟨as, ra⟩ := l1.reads I J.fh h1 rx
      obtain ⟨bs, rb⟩ := l2.reads I J.fh h2 ry
      have k1 := plain_py _ _ h1
      have k2 := plain_py _ _ h2
      have un := hr.un
      refine PySem.SeqAt.eq_plain ra rb k1.1 k2.1 (by omega) ⟨.bl _, H, I, rfl, ?_⟩
      rw [eqv_py]
      exact post.flat q J (by unfold Rep; rfl)
theorem o_ne (hr : Room 0 X.A) : OpR X (compareOp .NotEq) (rD (gb X T) C W pNe) := by
  intro pins s σ H x y v u Q I rx ry h
  obtain ⟨F, σ', ρ, p, d1, d2, J, l1, l2, q⟩ := h
  unfold pNe at q
  cases h1 : d1.pl with
  | false => rw [h1] at q; exact q.elim
  | true =>
    cases h2 : d2.pl with
    | false => rw [h1, h2] at q; exact q.elim
    | true =>
      rw [h1, h2] at q
      obtain ⟨as, ra⟩ := l1.reads I J.fh h1 rx
      obtain ⟨bs, rb⟩ := l2.reads I J.fh h2 ry
      have k1 := plain_py _ _ h1
      have k2 := plain_py _ _ h2
      have un := hr.un
      refine PySem.SeqAt.ne_plain ra rb k1.1 k2.1 (by omega) ⟨.bl _, H, I, rfl, ?_⟩
      rw [eqv_py]
      exact post.flat q J (by unfold Rep; rfl)
theorem memD_py (d : D) : ∀ xs : List D, ((D.pys xs).any fun z => PyData.eqv z d.py) = memD d xs
  | [] => rfl
  | x :: xs => by rw [D.pys, List.any_cons, eqv_py, memD_py d xs]; rfl
theorem lst_plain {n : Nat} {xs : List D} (h : D.plains n xs = true) : D.plain (n + 1) (.lst xs) = true := by simpa [D.plain] using h
theorem tup_plain {n : Nat} {xs : List D} (h : D.plains n xs = true) : D.plain (n + 1) (.tup xs) = true := by simpa [D.plain] using h
theorem o_in (hr : Room 0 X.A) : OpR X (compareOp .In) (rD (gb X T) C W pIn) := by
  intro pins s σ H x y v u Q I rx ry h
  obtain ⟨F, σ', ρ, p, d1, d2, J, l1, l2, q⟩ := h
  have un := hr.un
  cases d2 with
  | lst ys =>
    unfold pIn at q
    cases h1 : d1.pl with
    | false => rw [h1] at q; exact q.elim
    | true =>
      cases h2 : D.plains 9 ys with
      | false => simp only [h1, h2] at q; exact q.elim
      | true =>
        simp only [h1, h2] at q
        obtain ⟨as, ra⟩ := l1.reads I J.fh h1 rx
        obtain ⟨bs, rb⟩ := l2.reads I J.fh (lst_plain h2) ry
        have k1 := plain_py _ _ h1
        have k2 := plains_py _ _ h2
        rw [D.py] at rb
        refine PySem.SeqAt.in_list_data rb ra k2.1 k1.1 (by omega) ⟨.bl _, H, I, rfl, ?_⟩
        rw [memD_py]
        exact post.flat q J (by unfold Rep; rfl)
  | tup ys =>
    unfold pIn at q
    cases h1 : d1.pl with
    | false => rw [h1] at q; exact q.elim
    | true =>
      cases h2 : D.plains 9 ys with
      | false => simp only [h1, h2] at q; exact q.elim
      | true =>
        simp only [h1, h2] at q
        obtain ⟨as, ra⟩ := l1.reads I J.fh h1 rx
        obtain ⟨bs, rb⟩ := l2.reads I J.fh (tup_plain h2) ry
        have k1 := plain_py _ _ h1
        have k2 := plains_py _ _ h2
        rw [D.py] at rb
        refine PySem.SeqAt.in_tuple_data rb ra k2.1 k1.1 (by omega) ⟨.bl _, H, I, rfl, ?_⟩
        rw [memD_py]
        exact post.flat q J (by unfold Rep; rfl)
  | _ => exact q.elim
theorem o_notin (hr : Room 0 X.A) : OpR X (compareOp .NotIn) (rD (gb X T) C W pNotIn) := by
  intro pins s σ H x y v u Q I rx ry h
  obtain ⟨F, σ', ρ, p, d1, d2, J, l1, l2, q⟩ := h
  have un := hr.un
  cases d2 with
  | lst ys =>
    unfold pNotIn pIn at q
    cases h1 : d1.pl with
    | false => rw [h1] at q; exact q.elim
    | true =>
      cases h2 : D.plains 9 ys with
      | false => simp only [h1, h2] at q; exact q.elim
      | true =>
        simp only [h1, h2] at q
        obtain ⟨as, ra⟩ := l1.reads I J.fh h1 rx
        obtain ⟨bs, rb⟩ := l2.reads I J.fh (lst_plain h2) ry
        have k1 := plain_py _ _ h1
        have k2 := plains_py _ _ h2
        rw [D.py] at rb
        refine PySem.SeqAt.notIn_list_data rb ra k2.1 k1.1 (by omega) ⟨.bl _, H, I, rfl, ?_⟩
        rw [memD_py]
        exact post.flat q J (by unfold Rep; rfl)
  | tup ys =>
    unfold pNotIn pIn at q
    cases h1 : d1.pl with
    | false => rw [h1] at q; exact q.elim
    | true =>
      cases h2 : D.plains 9 ys with
      | false => simp only [h1, h2] at q; exact q.elim
      | true =>
        simp only [h1, h2] at q
        obtain ⟨as, ra⟩ := l1.reads I J.fh h1 rx
        obtain ⟨bs, rb⟩ := l2.reads I J.fh (tup_plain h2) ry
        have k1 := plain_py _ _ h1
        have k2 := plains_py _ _ h2
        rw [D.py] at rb
        refine PySem.SeqAt.notIn_tuple_data rb ra k2.1 k1.1 (by omega) ⟨.bl _, H, I, rfl, ?_⟩
        rw [memD_py]
        exact post.flat q J (by unfold Rep; rfl)
  | _ => exact q.elim
mutual
theorem alike_py : ∀ d e : D, PySem.W.alike d.py e.py = D.alike d e
  | .non, e => by cases e <;> simp [D.py, PySem.W.alike, D.alike]
  | .bl _, e => by cases e <;> simp [D.py, PySem.W.alike, D.alike]
  | .int _, e => by cases e <;> simp [D.py, PySem.W.alike, D.alike]
  | .str _, e => by cases e <;> simp [D.py, PySem.W.alike, D.alike]
  | .dct _ _, e => by cases e <;> simp [D.py, PySem.W.alike, D.alike]
  | .lst xs, e => by
    cases e with
    | lst ys =>
      simp only [D.py, PySem.W.alike, D.alike]
      exact alikes_py xs ys
    | _ => simp [D.py, PySem.W.alike, D.alike]
  | .tup xs, e => by
    cases e with
    | tup ys =>
      simp only [D.py, PySem.W.alike, D.alike]
      exact alikes_py xs ys
    | _ => simp [D.py, PySem.W.alike, D.alike]
theorem alikes_py : ∀ xs ys : List D, PySem.W.alikeAll (D.pys xs) (D.pys ys) = D.alikes xs ys
  | [], ys => by simp [D.pys, PySem.W.alikeAll, D.alikes]
  | _ :: _, [] => by simp [D.pys, PySem.W.alikeAll, D.alikes]
  | x :: xs, y :: ys => by
    simp only [D.pys, PySem.W.alikeAll, D.alikes]
    rw [alike_py x y, alikes_py xs ys]
end
mutual
theorem lt_py : ∀ d e : D, D.alike d e = true → PySem.W.dataLt d.py e.py = D.lt d e
  | .non, e, h => by
    cases e with
    | non => rfl
    | _ => simp [D.alike] at h
  | .bl a, e, h => by
    cases e with
    | bl b =>
      rw [D.py, D.py, PySem.W.dataLt_bool]
      cases a <;> cases b <;> rfl
    | _ => simp [D.alike] at h
  | .int a, e, h => by
    cases e with
    | int b => rw [D.py, D.py, PySem.W.dataLt_int]; rfl
    | _ => simp [D.alike] at h
  | .str a, e, h => by
    cases e with
    | str b => rw [D.py, D.py, PySem.W.dataLt_str]; rfl
    | _ => simp [D.alike] at h
  | .dct _ _, e, h => by cases e <;> simp [D.alike] at h
  | .lst xs, e, h => by
    cases e with
    | lst ys =>
      rw [D.py, D.py, PySem.W.dataLt_list]
      exact lts_py xs ys (by simpa [D.alike] using h)
    | _ => simp [D.alike] at h
  | .tup xs, e, h => by
    cases e with
    | tup ys =>
      rw [D.py, D.py, PySem.W.dataLt_tuple]
      exact lts_py xs ys (by simpa [D.alike] using h)
    | _ => simp [D.alike] at h
theorem lts_py : ∀ xs ys : List D, D.alikes xs ys = true → PyProof.Rows.lexLt PyProof.Rows.itemOrd (PySem.W.keyToksAll (D.pys xs)) (PySem.W.keyToksAll (D.pys ys)) = D.lts xs ys
  | [], [], _ => by rw [D.pys, D.lts]; rfl
  | [], y :: ys, _ => by rw [D.pys, D.pys, D.lts]; rfl
  | x :: xs, [], _ => by rw [D.pys, D.pys, D.lts]; rfl
  | x :: xs, y :: ys, h => by
    have h0 : D.alike x y = true ∧ D.alikes xs ys = true := by simpa [D.alikes] using h
    have ha : PySem.W.alike x.py y.py = true := by rw [alike_py]; exact h0.1
    rw [D.pys, D.pys, D.lts]
    cases e : D.eqv x y with
    | true =>
      rw [PySem.W.dataLt_all_yes ha (by rw [eqv_py]; exact e), lts_py xs ys h0.2]
      rfl
    | false =>
      rw [PySem.W.dataLt_all_no ha (by rw [eqv_py]; exact e), lt_py x y h0.1]
      rfl
end
theorem o_lt (hr : Room 0 X.A) : OpR X (compareOp .Lt) (rD (gb X T) C W pLt) := by
  intro pins s σ H x y v u Q I rx ry h
  obtain ⟨F, σ', ρ, p, d1, d2, J, l1, l2, q⟩ := h
  unfold pLt at q
  by_cases hc : (d1.alike d2 && d1.pl && d2.pl && !d1.eqv .non) = true
  · rw [if_pos hc] at q
    simp only [Bool.and_eq_true, Bool.not_eq_true'] at hc
    obtain ⟨⟨⟨h0, h1⟩, h2⟩, h3⟩ := hc
    obtain ⟨as, ra⟩ := l1.reads I J.fh h1 rx
    obtain ⟨bs, rb⟩ := l2.reads I J.fh h2 ry
    have k1 := plain_py _ _ h1
    have k2 := plain_py _ _ h2
    have un := hr.un
    refine PySem.W.lt_data ra rb (by rw [alike_py]; exact h0) (fun e => ?_) (by omega) ⟨.bl _, H, I, rfl, ?_⟩
    · rw [← eqv_py, e, D.py] at h3
      cases h3
    · rw [lt_py _ _ h0]
      exact post.flat q J (by unfold Rep; rfl)
  · rw [if_neg hc] at q
    exact q.elim
theorem o_le : OpR X (compareOp .LtE) (rD (gb X T) C W pLe) := by
  intro pins s σ H x y v u Q I rx ry h
  obtain ⟨F, σ', ρ, p, d1, d2, J, l1, l2, q⟩ := h
  cases d1 with
  | int a =>
    cases d2 with
    | int b => exact op_le pins s σ H x y v u Q I rx ry ⟨a, b, l1.int, l2.int, post.flat q J (by unfold Rep; rfl)⟩
    | _ => exact q.elim
  | _ => exact q.elim
theorem o_gt : OpR X (compareOp .Gt) (rD (gb X T) C W pGt) := by
  intro pins s σ H x y v u Q I rx ry h
  obtain ⟨F, σ', ρ, p, d1, d2, J, l1, l2, q⟩ := h
  cases d1 with
  | int a =>
    cases d2 with
    | int b => exact op_gt pins s σ H x y v u Q I rx ry ⟨a, b, l1.int, l2.int, post.flat q J (by unfold Rep; rfl)⟩
    | _ => exact q.elim
  | _ => exact q.elim
theorem o_ge : OpR X (compareOp .GtE) (rD (gb X T) C W pGe) := by
  intro pins s σ H x y v u Q I rx ry h
  obtain ⟨F, σ', ρ, p, d1, d2, J, l1, l2, q⟩ := h
  cases d1 with
  | int a =>
    cases d2 with
    | int b => exact op_ge pins s σ H x y v u Q I rx ry ⟨a, b, l1.int, l2.int, post.flat q J (by unfold Rep; rfl)⟩
    | _ => exact q.elim
  | _ => exact q.elim
/-- x is None, x is a bool -/
def pIs (x y : D) : Option D := match y with
  | .non => pIsN x
  | .bl b => (match x with
    | .bl a => some (.bl (a == b))
    | _ => none)
  | _ => none
def pIsNot (x y : D) : Option D := match y with
  | .non => pNotN x
  | .bl b => (match x with
    | .bl a => some (.bl (!(a == b)))
    | _ => none)
  | _ => none
theorem Lent.isN {d : D} {v : V} (x : Lent G C F H d v) : decide (v = .non) = (match d with | .non => true | _ => false) := by
  rcases x with x | ⟨a, e, _, x⟩
  · cases d with
    | non => unfold Rep at x; subst x; rfl
    | bl _ => unfold Rep at x; subst x; rfl
    | int _ => unfold Rep at x; subst x; rfl
    | str _ => unfold Rep at x; subst x; rfl
    | lst _ => unfold Rep at x; obtain ⟨a, vs, e, _⟩ := x; subst e; rfl
    | tup _ => unfold Rep at x; obtain ⟨a, vs, e, _⟩ := x; subst e; rfl
    | dct _ _ => unfold Rep at x; obtain ⟨a, e, _⟩ := x; subst e; rfl
  · subst e
    cases d with
    | non => exact x.elim
    | _ => rfl
theorem o_is : OpR X (compareOp .Is) (rD (gb X T) C W pIs) := by
  intro pins s σ H x y v u Q I rx ry h
  obtain ⟨F, σ', ρ, p, d1, d2, J, l1, l2, q⟩ := h
  cases d2 with
  | non =>
    refine op_isN pins s σ H x y v u Q I rx ry ⟨l2.non, ?_⟩
    rw [l1.isN]
    cases d1 <;> exact post.flat q J (by unfold Rep; rfl)
  | bl b =>
    cases d1 with
    | bl a =>
      have e1 := l1.bl
      have e2 := l2.bl
      subst e1 e2
      cases rx
      cases ry
      exact PyProof.Rows.is_bool ⟨.bl (a == b), H, I, rfl, post.flat q J (by unfold Rep; rfl)⟩
    | _ => exact q.elim
  | _ => exact q.elim
theorem o_isnot : OpR X (compareOp .IsNot) (rD (gb X T) C W pIsNot) := by
  intro pins s σ H x y v u Q I rx ry h
  obtain ⟨F, σ', ρ, p, d1, d2, J, l1, l2, q⟩ := h
  cases d2 with
  | non =>
    refine op_notN pins s σ H x y v u Q I rx ry ⟨l2.non, ?_⟩
    rw [l1.isN]
    cases d1 <;> exact post.flat q J (by unfold Rep; rfl)
  | bl b =>
    cases d1 with
    | bl a =>
      have e1 := l1.bl
      have e2 := l2.bl
      subst e1 e2
      cases rx
      cases ry
      exact PyProof.Rows.isnot_bool ⟨.bl (!(a == b)), H, I, rfl, post.flat q J (by unfold Rep; rfl)⟩
    | _ => exact q.elim
  | _ => exact q.elim
end
end DL
/-! DL5: built-in calls, subscripts, slices. -/
namespace DL
set_option autoImplicit false
open PySem PySem.Spec L2
/-- a built-in's denotation -/
def dB (op : List D → Option D) (fs : List DE) : DE := fun ρ => bindM (dsN fs ρ) fun xs => liftM (op xs)
def o1 (op : D → Option D) : List D → Option D
  | [x] => op x
  | _ => none
def o2 (op : D → D → Option D) : List D → Option D
  | [x, y] => op x y
  | _ => none
/-- what a built-in on lent data asks -/
def rL (G : Gb) (C : DC) (W : WX) (op : List D → Option D) : List V → Hp → VK → Prop := fun vs H Q => ∃ F σ ρ p ds, DInv G C F H σ ρ p ∧ Lents G C F H ds vs ∧
  post G C W (fun F _ d v => Rep G F d v) (liftM (op ds) p) F H σ ρ Q
section
variable {X : Cx} {T : List (Addr × Str)} {C : DC} {W : WX} {G : Gb} {F F' H H' : Hp} {σ : L2.St} {ρ : Env'} {p : Pot} {K : PySem.W.Frag} {e : Expr} {es : List Expr} {fl : List DE} {pos : Pos}
theorem bi {id : String} {x : Str} {op : List D → Option D} {p0 : Pos} (hc : CallR X (.builtin id) (rL (gb X T) C W op)) (hm : X.mg x = none) (ha : PA X (e :: es) (tAL (gb X T) C W (dsN fl))) (hv : bootBuiltins x = some (.builtin id)) (hg : Gl X x := by rfl) (hn : x ≠ "__name__" := by decide) (hdb : (x == ("__debug__" : Str)) = false := by decide)
    (he : starEach (e :: es) X.env = (false, eval e X.env) :: starEach es X.env := by rfl) (hpl : (backTo pos (starEach es X.env)).any (·.1) = false := by rfl) : PE X (.Call (.Name x p0) (e :: es) [] pos) (tE (gb X T) C W (dB op fl)) :=
  imp (pe_callB hc hg hm hv ha hn hdb he hpl) fun σ H Q ⟨F, ρ, p, I, q⟩ => by
    refine tG_mono (fun x H1 z => ?_) (tG_bind I q)
    obtain ⟨F1, ds, p1, I1, e1, r1, q1⟩ := z
    exact ⟨F1, σ, ρ, p1, ds, I1, r1, q1⟩
theorem bt {id : String} {x : Str} {op : List D → Option D} {p0 : Pos} (hc : CallR X (.type id) (rL (gb X T) C W op)) (hm : X.mg x = none) (ha : PA X (e :: es) (tAL (gb X T) C W (dsN fl))) (hv : bootBuiltins x = some (.type id)) (hg : Gl X x := by rfl) (hn : x ≠ "__name__" := by decide) (hdb : (x == ("__debug__" : Str)) = false := by decide)
    (he : starEach (e :: es) X.env = (false, eval e X.env) :: starEach es X.env := by rfl) (hpl : (backTo pos (starEach es X.env)).any (·.1) = false := by rfl) : PE X (.Call (.Name x p0) (e :: es) [] pos) (tE (gb X T) C W (dB op fl)) :=
  imp (pe_callTy hc hg hm hv ha hn hdb he hpl) fun σ H Q ⟨F, ρ, p, I, q⟩ => by
    refine tG_mono (fun x H1 z => ?_) (tG_bind I q)
    obtain ⟨F1, ds, p1, I1, e1, r1, q1⟩ := z
    exact ⟨F1, σ, ρ, p1, ds, I1, r1, q1⟩
/-- one argument -/
theorem o1_inv {op : D → Option D} {ds : List D} {vs : List V} {R : Hp → Hp → D → V → Prop} {Q : VK} (l : Lents G C F H ds vs) (q : post G C W R (liftM (o1 op ds) p) F H σ ρ Q) :
    ∃ d v, vs = [v] ∧ Lent G C F H d v ∧ post G C W R (liftM (op d) p) F H σ ρ Q := by
  cases ds with
  | nil => exact q.elim
  | cons d ds =>
    cases ds with
    | nil =>
      obtain ⟨v, r, e, l1, l2⟩ := l
      have l2' : r = [] := l2
      subst l2'
      exact ⟨d, v, e, l1, q⟩
    | cons _ _ => exact q.elim
theorem o2_inv {op : D → D → Option D} {ds : List D} {vs : List V} {R : Hp → Hp → D → V → Prop} {Q : VK} (l : Lents G C F H ds vs) (q : post G C W R (liftM (o2 op ds) p) F H σ ρ Q) :
    ∃ d v e u, vs = [v, u] ∧ Lent G C F H d v ∧ Lent G C F H e u ∧ post G C W R (liftM (op d e) p) F H σ ρ Q := by
  cases ds with
  | nil => exact q.elim
  | cons d ds =>
    cases ds with
    | nil => exact q.elim
    | cons e ds =>
      cases ds with
      | nil =>
        obtain ⟨v, r, e1, l1, u, r2, e2, l2, l3⟩ := l
        have l3' : r2 = [] := l3
        subst l3' e2
        exact ⟨d, v, e, u, e1, l1, l2, q⟩
      | cons _ _ => exact q.elim
theorem Fz.rd {F H : Hp} {a : Addr} {u : HO} (fh : Same F H) (x : Fz F a u) : Rd H a u := let ⟨o, e⟩ := x; .inr ⟨o, fh _ _ e⟩
theorem Lent.dct {ks ds : List D} {v : V} (fh : Same F H) (x : Lent G C F H (.dct ks ds) v) : ∃ a, v = .ref a ∧ ks.length ≤ lim ∧
    ((∃ xs, Rd H a (DTk G.P G.w a xs) ∧ toNKs ks = some (xs.map (·.1)) ∧ Reps G F ks (xs.map fun x => .ref x.2.1) ∧ Reps G F ds (xs.map (·.2.2))) ∨
     (∃ kvs, Rd H a (.dK kvs) ∧ ks = kvs.map (fun p => keyD p.1) ∧ Reps G F ds (kvs.map (·.2)))) := by
  rcases x with x | ⟨a, e, n, l, x⟩
  · unfold Rep at x
    obtain ⟨a, e, l, x⟩ := x
    refine ⟨a, e, l, ?_⟩
    rcases x with ⟨xs, q, r⟩ | ⟨kvs, q, r⟩
    · exact .inl ⟨xs, q.rd fh, r⟩
    · exact .inr ⟨kvs, q.rd fh, r⟩
  · refine ⟨a, e, l, ?_⟩
    rcases x with ⟨xs, q, r⟩ | ⟨kvs, q, r⟩
    · exact .inl ⟨xs, .of q, r⟩
    · exact .inr ⟨kvs, .of q, r⟩
/-- what stands behind such a dict's address -/
theorem DTk.at {P : Program} {w : World} {H : Hp} {h : Heap} {a : Addr} {xs : List (NestedKey × Addr × V)} (hok : HOk P w H h) (e : Rd H a (DTk P w a xs)) :
    (a == sysModules) = false ∧ ∃ ys : List (NestedKey × Addr × Value), Paired (fun (p : NestedKey × Addr × V) (q : NestedKey × Addr × Value) => p.1 = q.1 ∧ p.2.1 = q.2.1 ∧ RelV p.2.2 q.2.2) xs ys ∧
      ∃ o es ep, h.get? a = some o ∧ o.ExactDict ∧ o.data = .dict es ep ∧ es.toList = ys.map (entryOfKey (nestedKind P w)) ∧ (ys.map (·.1)).Nodup := (show ObjOk P w H h a (DTk P w a xs) from e.ok hok).1
/-! ### len, sum, all, any, abs, min, max, tuple, list, int -/
theorem line_pos {n : Nat} (h : n ≤ lim) : ¬ ((n : Int) < 0) ∧ ¬ ((n : Int) ≥ 2 ^ 63) := by
  have h' : n ≤ 16777216 := h
  constructor <;> omega
theorem len_raw {a : Addr} {es : Array DictEntry} {ep n : Nat} {pins : List (Addr × Obj)} {s : Shared} {σ' : L2.St} {Q : VK} (I : L2.Inv X pins σ' H s) (hsys : (a == sysModules) = false) (hraw : s.heap.DictRaw a es ep) (hz : es.size = n) (hl : n ≤ lim) (q : Q (.int n) H) :
    wpAny (model X.prog X.w) X.A (call (.builtin "len") [.ref a]) (EP X pins σ' Q) X.xe s := by
  have hb := line_pos hl
  refine PyProof.Rows.call_len_slot (n := n) hraw.typeIs F.slot_dict_len (fun Q' hq => call_len_raw hsys hraw ?_) hb.1 hb.2 ⟨.int n, H, I.tok _, ⟨_, rfl⟩, q⟩
  rw [hz]
  exact hq
theorem len_dct {a : Addr} {xs : List (NestedKey × Addr × V)} {pins : List (Addr × Obj)} {s : Shared} {σ' : L2.St} {Q : VK} (I : L2.Inv X pins σ' H s) (e : Rd H a (DTk X.prog X.w a xs)) (hl : xs.length ≤ lim) (q : Q (.int xs.length) H) :
    wpAny (model X.prog X.w) X.A (call (.builtin "len") [.ref a]) (EP X pins σ' Q) X.xe s := by
  obtain ⟨hsys, ys, pr, o, es, ep, h1, h2, h3, h4, h5⟩ := DTk.at I.hok e
  have hz : es.size = xs.length := by
    have := congrArg List.length h4
    rw [List.length_map, ← Paired.length pr] at this
    simpa using this
  exact len_raw I hsys ⟨o, h1, h2, h3⟩ hz hl q
theorem pairs_size {K : Type} [DecidableEq K] {P : Program} {w : World} {knd : PySem.KeyKind P w K} : ∀ {l : List DictEntry} {kvs : List (K × Value)}, Pairs knd l kvs → l.length = kvs.length
  | [], _, h => by cases h; rfl
  | _ :: _, _, h => by
    cases h with
    | cons _ _ t => rw [List.length_cons, List.length_cons, pairs_size t]
theorem len_dk {a : Addr} {kvs : List (Key × V)} {pins : List (Addr × Obj)} {s : Shared} {σ' : L2.St} {Q : VK} (I : L2.Inv X pins σ' H s) (e : Rd H a (.dK kvs)) (hl : kvs.length ≤ lim) (q : Q (.int kvs.length) H) :
    wpAny (model X.prog X.w) X.A (call (.builtin "len") [.ref a]) (EP X pins σ' Q) X.xe s := by
  obtain ⟨_, hsys, vs, rel, o, es, ep, h1, h2, h3, _, h5, _⟩ := dk_rd I.hok e
  have hz : es.size = kvs.length := by
    rw [← Array.length_toList, pairs_size h5]
    exact (Paired.length rel).symm
  exact len_raw I hsys ⟨o, h1, h2, h3⟩ hz hl q
theorem c_len : CallR X (.builtin "len") (rL (gb X T) C W (o1 pLen)) := by
  intro pins s σ H vs us Q I r h
  obtain ⟨F, σ', ρ, p, ds, J, l, q⟩ := h
  obtain ⟨d, v, e, l1, q1⟩ := o1_inv l q
  subst e
  cases d with
  | lst xs =>
    obtain ⟨a, ws, e, h1, z, r1⟩ := l1.lst J.fh
    subst e
    exact call_len_seq pins s σ H _ us Q I r ⟨a, ws, rfl, .inl (SqL.of h1), by rw [r1.length]; exact post.flat q1 J (by unfold Rep; rfl)⟩
  | tup xs =>
    obtain ⟨a, ws, e, h1, _, z, r1⟩ := l1.tup J.fh
    subst e
    exact call_len_seq pins s σ H _ us Q I r ⟨a, ws, rfl, .inr (SqT.of h1), by rw [r1.length]; exact post.flat q1 J (by unfold Rep; rfl)⟩
  | str x =>
    have e := l1.str
    subst e
    unfold pLen at q1
    by_cases hz : x.length ≤ lim
    · simp only [hz, if_true] at q1
      exact call_len_str pins s σ H _ us Q I r ⟨x, rfl, lim_line hz, post.flat q1 J (by unfold Rep; rfl)⟩
    · simp only [hz, if_false] at q1
      exact q1.elim
  | dct ks ds =>
    obtain ⟨a, e, z, x⟩ := l1.dct J.fh
    subst e
    rcases x with ⟨xs, h1, h2, h3, h4⟩ | ⟨kvs, h1, h2, h3⟩
    · have n1 : xs.length = ks.length := by
        have := h3.length
        rw [List.length_map] at this
        exact this
      rw [Vals.ref1 r]
      exact len_dct I h1 (by rw [n1]; exact z) (by rw [n1]; exact post.flat q1 J (by unfold Rep; rfl))
    · have n1 : kvs.length = ks.length := by rw [h2, List.length_map]
      rw [Vals.ref1 r]
      exact len_dk I h1 (by rw [n1]; exact z) (by rw [n1]; exact post.flat q1 J (by unfold Rep; rfl))
  | _ => exact q1.elim
/-- data that are ints -/
theorem ints_rep : ∀ {xs : List D} {vs : List V} {ns : List Int}, intsOf xs = some ns → Reps G F xs vs → vs = ns.map V.int
  | [], vs, ns, h, r => by
    cases h
    unfold Reps at r
    exact r
  | x :: xs, vs, ns, h, r => by
    obtain ⟨v, t, e, r1, r2⟩ := r.uncons
    cases x with
    | int a =>
      unfold intsOf at h
      cases q : intsOf xs with
      | none => rw [q] at h; cases h
      | some ms =>
        rw [q] at h
        cases h
        unfold Rep at r1
        rw [e, r1, ints_rep q r2]
        rfl
    | _ => cases h
theorem bools_rep : ∀ {xs : List D} {vs : List V} {ns : List Bool}, boolsOf xs = some ns → Reps G F xs vs → vs = ns.map V.bl
  | [], vs, ns, h, r => by
    cases h
    unfold Reps at r
    exact r
  | x :: xs, vs, ns, h, r => by
    obtain ⟨v, t, e, r1, r2⟩ := r.uncons
    cases x with
    | bl a =>
      unfold boolsOf at h
      cases q : boolsOf xs with
      | none => rw [q] at h; cases h
      | some ms =>
        rw [q] at h
        cases h
        unfold Rep at r1
        rw [e, r1, bools_rep q r2]
        rfl
    | _ => cases h
theorem sumI_eq : ∀ ns : List Int, sumI ns = ns.sum
  | [] => rfl
  | a :: r => by rw [sumI, List.sum_cons, sumI_eq r]
theorem allB_eq : ∀ bs : List Bool, allB bs = bs.all id
  | [] => rfl
  | a :: r => by rw [allB, List.all_cons, allB_eq r]; rfl
theorem anyB_eq : ∀ bs : List Bool, anyB bs = bs.any id
  | [] => rfl
  | a :: r => by rw [anyB, List.any_cons, anyB_eq r]; rfl
theorem old_kept' {s : Shared} {h' : Heap} (hk : ∀ b o, b ∉ [s.heap.objs.size] → (s.heap.push { cls := .type "tuple_iterator", data := .fields #[.ref 0, .int 0 0] }).get? b = some o → h'.get? b = some o) : True := trivial
theorem sum_tup {prog : Program} {w : World} {A : Around} {E : Value → Shared → Prop} {s : Shared} {l : Addr} {its : List Value} {ns : List Int} {Q : Value → Shared → Prop} (hh : A.handled = none) (hl : s.heap.IsTuple l its.toArray) (hi : PyProof.Rows.IntsAre its ns)
    (h : ∀ h' tk t', (∀ b o, s.heap.get? b = some o → h'.get? b = some o) → Q (.int ns.sum t') { s with heap := h', toks := tk }) : wpAny (model prog w) A (call (.builtin "sum") [.ref l]) Q E s := by
  obtain ⟨xs, e⟩ := hi.allInts.items
  have hn : numsOf (intItems xs).toList = ns := by rw [← e]; exact hi.numsOf
  rw [nums_intItems] at hn
  rw [e] at hl
  have hlt : l < s.heap.objs.size := by obtain ⟨_, q, _⟩ := hl; exact Heap.lt_size q
  refine call_sum_walkG (wpAny_pyIter_tuple hl ?_)
  refine ⟨_, _, _, _, _, _, numAt xs, rfl, Walks.tuple (A := A.in1) hh s.heap.objs.size l (Nat.ne_of_lt hlt) (intItems xs), ⟨⟨_, Heap.get?_push_size _ rfl, rfl, rfl⟩, hl.push _⟩, fun b hb => ?_, (fun _ _ => intItems_at), fun h' tk t' hk => ?_⟩
  · show b < (s.heap.push _).objs.size
    rw [Heap.size_push]
    rcases List.mem_cons.mp hb with rfl | hb
    · exact Nat.lt_succ_self _
    · rw [List.mem_singleton.mp hb]; exact Nat.lt_succ_of_lt hlt
  · have := h h' tk t' fun b o q => hk b o (fun hm => by rw [List.mem_singleton.mp hm] at q; exact absurd (Heap.lt_size q) (Nat.lt_irrefl _)) (Heap.get?_push_of_some _ q)
    rw [preSum_eq, List.take_of_length_le (by simp [intItems]), hn]
    exact this
theorem c_sum (hc : X.calm = true) : CallR X (.builtin "sum") (rL (gb X T) C W (o1 pSum)) := by
  intro pins s σ H vs us Q I r h
  obtain ⟨F, σ', ρ, p, ds, J, l, q⟩ := h
  obtain ⟨d, v, e, l1, q1⟩ := o1_inv l q
  subst e
  cases d with
  | lst xs =>
    obtain ⟨a, ws, e, h1, z, r1⟩ := l1.lst J.fh
    subst e
    unfold pSum at q1
    simp only [itemsOf, Option.bind_some] at q1
    cases hi : intsOf xs with
    | none => rw [hi] at q1; exact q1.elim
    | some ns =>
      rw [hi] at q1
      have ew := ints_rep hi r1
      subst ew
      exact cr_sum hc pins s σ H _ us Q I r ⟨a, ns, rfl, SqL.of h1, by rw [← sumI_eq]; exact post.flat q1 J (by unfold Rep; rfl)⟩
  | tup xs =>
    obtain ⟨a, ws, e, h1, _, z, r1⟩ := l1.tup J.fh
    subst e
    unfold pSum at q1
    simp only [itemsOf, Option.bind_some] at q1
    cases hi : intsOf xs with
    | none => rw [hi] at q1; exact q1.elim
    | some ns =>
      rw [hi] at q1
      have ew := ints_rep hi r1
      subst ew
      obtain ⟨its, rv, pt, _⟩ := I.tuple (SqT.of h1)
      rw [Vals.ref1 r]
      exact sum_tup (I.ok.hd hc) (show s.heap.IsTuple a its.toArray from pt) (intsAre_of rv) fun h' tk t' hk => ⟨.int _, H, I.kept hk, ⟨_, rfl⟩, by rw [← sumI_eq]; exact post.flat q1 J (by unfold Rep; rfl)⟩
  | _ => exact q1.elim
theorem c_all (hc : X.calm = true) : CallR X (.builtin "all") (rL (gb X T) C W (o1 pAll)) := by
  intro pins s σ H vs us Q I r h
  obtain ⟨F, σ', ρ, p, ds, J, l, q⟩ := h
  obtain ⟨d, v, e, l1, q1⟩ := o1_inv l q
  subst e
  cases d with
  | lst xs =>
    obtain ⟨a, ws, e, h1, z, r1⟩ := l1.lst J.fh
    subst e
    unfold pAll at q1
    cases hi : boolsOf xs with
    | none => simp only [hi] at q1; exact q1.elim
    | some ns =>
      simp only [hi] at q1
      have ew := bools_rep hi r1
      subst ew
      exact cr_all hc pins s σ H _ us Q I r ⟨a, ns, rfl, SqL.of h1, by rw [← allB_eq]; exact post.flat q1 J (by unfold Rep; rfl)⟩
  | _ => exact q1.elim
theorem c_any (hc : X.calm = true) : CallR X (.builtin "any") (rL (gb X T) C W (o1 pAny)) := by
  intro pins s σ H vs us Q I r h
  obtain ⟨F, σ', ρ, p, ds, J, l, q⟩ := h
  obtain ⟨d, v, e, l1, q1⟩ := o1_inv l q
  subst e
  cases d with
  | lst xs =>
    obtain ⟨a, ws, e, h1, z, r1⟩ := l1.lst J.fh
    subst e
    unfold pAny at q1
    cases hi : boolsOf xs with
    | none => simp only [hi] at q1; exact q1.elim
    | some ns =>
      simp only [hi] at q1
      have ew := bools_rep hi r1
      subst ew
      exact cr_any hc pins s σ H _ us Q I r ⟨a, ns, rfl, SqL.of h1, by rw [← anyB_eq]; exact post.flat q1 J (by unfold Rep; rfl)⟩
  | _ => exact q1.elim
theorem c_abs : CallR X (.builtin "abs") (rL (gb X T) C W (o1 pAbs)) := by
  intro pins s σ H vs us Q I r h
  obtain ⟨F, σ', ρ, p, ds, J, l, q⟩ := h
  obtain ⟨d, v, e, l1, q1⟩ := o1_inv l q
  subst e
  cases d with
  | int a =>
    have e := l1.int
    subst e
    exact call_abs pins s σ H _ us Q I r ⟨a, rfl, post.flat q1 J (by unfold Rep; rfl)⟩
  | _ => exact q1.elim
theorem c_min2 (hc : X.calm = true) : CallR X (.builtin "min") (rL (gb X T) C W (o2 pMin2)) := by
  intro pins s σ H vs us Q I r h
  obtain ⟨F, σ', ρ, p, ds, J, l, q⟩ := h
  obtain ⟨d, v, d2, v2, e, l1, l2, q1⟩ := o2_inv l q
  subst e
  cases d with
  | int a =>
    cases d2 with
    | int b =>
      have e := l1.int
      have e2 := l2.int
      subst e e2
      exact call_min2 hc pins s σ H _ us Q I r ⟨a, b, rfl, post.flat q1 J (by unfold Rep; rfl)⟩
    | _ => exact q1.elim
  | _ => exact q1.elim
theorem c_max2 (hc : X.calm = true) : CallR X (.builtin "max") (rL (gb X T) C W (o2 pMax2)) := by
  intro pins s σ H vs us Q I r h
  obtain ⟨F, σ', ρ, p, ds, J, l, q⟩ := h
  obtain ⟨d, v, d2, v2, e, l1, l2, q1⟩ := o2_inv l q
  subst e
  cases d with
  | int a =>
    cases d2 with
    | int b =>
      have e := l1.int
      have e2 := l2.int
      subst e e2
      exact call_max2 hc pins s σ H _ us Q I r ⟨a, b, rfl, post.flat q1 J (by unfold Rep; rfl)⟩
    | _ => exact q1.elim
  | _ => exact q1.elim
theorem c_tuple : CallR X (.type "tuple") (rL (gb X T) C W (o1 pTuple)) := by
  intro pins s σ H vs us Q I r h
  obtain ⟨F, σ', ρ, p, ds, J, l, q⟩ := h
  obtain ⟨d, v, e, l1, q1⟩ := o1_inv l q
  subst e
  cases d with
  | lst xs =>
    obtain ⟨a, ws, e, h1, z, r1⟩ := l1.lst J.fh
    subst e
    refine call_tuple_of pins s σ H _ us Q I r ⟨a, ws, rfl, .inl ⟨SqL.of h1, fun l n => post_new q1 J n fun F' sm e => ?_⟩⟩
    unfold Rep
    exact ⟨l, ws, rfl, e, z, Reps.mono sm _ _ r1⟩
  | tup xs =>
    obtain ⟨a, ws, e, h1, f1, z, r1⟩ := l1.tup J.fh
    subst e
    refine call_tuple_of pins s σ H _ us Q I r ⟨a, ws, rfl, .inr ⟨SqT.of h1, post.flat q1 J ?_⟩⟩
    unfold Rep
    exact ⟨a, ws, rfl, f1, z, r1⟩
  | _ => exact q1.elim
theorem c_list : CallR X (.type "list") (rL (gb X T) C W (o1 pList)) := by
  intro pins s σ H vs us Q I r h
  obtain ⟨F, σ', ρ, p, ds, J, l, q⟩ := h
  obtain ⟨d, v, e, l1, q1⟩ := o1_inv l q
  subst e
  cases d with
  | lst xs =>
    obtain ⟨a, ws, e, h1, z, r1⟩ := l1.lst J.fh
    subst e
    refine call_list_of pins s σ H _ us Q I r ⟨a, ws, rfl, .inl (SqL.of h1), fun l n => post_new q1 J n fun F' sm e => ?_⟩
    unfold Rep
    exact ⟨l, ws, rfl, e, z, Reps.mono sm _ _ r1⟩
  | tup xs =>
    obtain ⟨a, ws, e, h1, f1, z, r1⟩ := l1.tup J.fh
    subst e
    refine call_list_of pins s σ H _ us Q I r ⟨a, ws, rfl, .inr (SqT.of h1), fun l n => post_new q1 J n fun F' sm e => ?_⟩
    unfold Rep
    exact ⟨l, ws, rfl, e, z, Reps.mono sm _ _ r1⟩
  | _ => exact q1.elim
/-- int(n) of a number -/
def pInt : D → Option D
  | .int a => some (.int a)
  | .bl b => some (.int (if b then 1 else 0))
  | _ => none
theorem c_int : CallR X (.type "int") (rL (gb X T) C W (o1 pInt)) := by
  intro pins s σ H vs us Q I r h
  obtain ⟨F, σ', ρ, p, ds, J, l, q⟩ := h
  obtain ⟨d, v, e, l1, q1⟩ := o1_inv l q
  subst e
  cases d with
  | int a =>
    have e := l1.int
    subst e
    exact call_int1 pins s σ H _ us Q I r (.inl ⟨a, rfl, post.flat q1 J (by unfold Rep; rfl)⟩)
  | bl a =>
    have e := l1.bl
    subst e
    exact call_int1 pins s σ H _ us Q I r (.inr ⟨a, rfl, post.flat q1 J (by unfold Rep; rfl)⟩)
  | _ => exact q1.elim
/-- str(n) of a small number -/
def pStr : D → Option D
  | .int a => if a.natAbs < 1000000000 then some (.str (toString a)) else none
  | _ => none
theorem c_str : CallR X (.type "str") (rL (gb X T) C W (o1 pStr)) := by
  intro pins s σ H vs us Q I r h
  obtain ⟨F, σ', ρ, p, ds, J, l, q⟩ := h
  obtain ⟨d, v, e, l1, q1⟩ := o1_inv l q
  subst e
  cases d with
  | int a =>
    have e := l1.int
    subst e
    unfold pStr at q1
    by_cases hz : a.natAbs < 1000000000
    · simp only [hz, if_true] at q1
      refine call_str_int pins s σ H _ us Q I r ⟨a, rfl, ?_, post.flat q1 J (by unfold Rep; rfl)⟩
      by_cases h0 : a.natAbs = 0
      · rw [h0]; decide
      · have := Nat.log2_lt h0 (k := 1920)
        exact this.mpr (Nat.lt_of_lt_of_le hz (by decide +kernel))
    · simp only [hz, if_false] at q1
      exact q1.elim
  | _ => exact q1.elim
end
end DL
/-! DL6: isinstance, min, max, sorted of data; subscripts, slices. -/
namespace DL
set_option autoImplicit false
open PySem PySem.Spec L2
section
variable {X : Cx} {T : List (Addr × Str)} {C : DC} {W : WX} {G : Gb} {F F' H H' : Hp} {σ : L2.St} {ρ : Env'} {p : Pot} {K : PySem.W.Frag} {e : Expr} {es : List Expr} {fl : List DE} {pos : Pos} {f g : DE}
/-! ### isinstance(x, T) -/
def tyName : Ty → String
  | .int => "int"
  | .bool => "bool"
  | .str => "str"
  | .tuple => "tuple"
  | .list => "list"
  | .dict => "dict"
def tyOf : D → String
  | .non => "NoneType"
  | .bl _ => "bool"
  | .int _ => "int"
  | .str _ => "str"
  | .tup _ => "tuple"
  | .lst _ => "list"
  | .dct _ _ => "dict"
theorem kit_all : ∀ (t : Ty) (d : D), kitB (tyOf d) (tyName t) = some (isTy t d) := by
  intro t d
  cases t <;> cases d <;> first | rfl | decide +kernel
/-- a dict keyed by tuples is a dict -/
theorem Lent.ty {d : D} {v : V} (fh : Same F H) (x : Lent G C F H d v) : (TyX K H v (.type (tyOf d))) ∨ (∃ ks ds a xs, d = .dct ks ds ∧ v = .ref a ∧ Rd H a (DTk G.P G.w a xs)) := by
  cases d with
  | non => have e := x.non; subst e; exact .inl (.base .non)
  | bl b => have e := x.bl; subst e; exact .inl (.base (.bl b))
  | int b => have e := x.int; subst e; exact .inl (.base (.int b))
  | str b => have e := x.str; subst e; exact .inl (.base (.str b))
  | lst xs =>
    obtain ⟨a, vs, e, h, _⟩ := x.lst fh
    subst e
    exact .inl (.base (.lst h))
  | tup xs =>
    obtain ⟨a, vs, e, h, _⟩ := x.tup fh
    subst e
    exact .inl (.base (.tup h))
  | dct ks ds =>
    obtain ⟨a, e, _, y⟩ := x.dct fh
    subst e
    rcases y with ⟨xs, h, _⟩ | ⟨kvs, h, _⟩
    · exact .inr ⟨ks, ds, a, xs, rfl, rfl, h⟩
    · rcases h with h | ⟨o, h⟩
      · exact .inl (.base (.dK h))
      · exact .inl (.fDict h)
/-- isinstance by values: one class -/
theorem isi_val {t : Ty} {d : D} {v : V} {u : Value} {pins : List (Addr × Obj)} {s : Shared} {σ' : L2.St} {Q : VK} (I : L2.Inv X pins σ' H s) (fh : Same F H) (x : Lent (gb X T) C F H d v) (r : RelV v u) (q : Q (.bl (isTy t d)) H) :
    wpAny (model X.prog X.w) X.A (call (.builtin "isinstance") [u, .type (tyName t)]) (EP X pins σ' Q) X.xe s := by
  rcases x.ty (K := X.K) fh with ty | ⟨ks, ds, a, xs, e1, e2, h⟩
  · exact call_isi pins s σ' H [v, .ty (tyName t)] [u, .type (tyName t)] Q I (.cons r (.cons rfl .nil)) ⟨v, .ty (tyName t), _, _, _, rfl, .ty _, ty, kit_ty (kit_all t d), q⟩
  · subst e1 e2
    cases r
    obtain ⟨hsys, ys, pr, o, es, ep, h1, h2, h3, h4, h5⟩ := DTk.at I.hok h
    have e0 : PySem.W.kitOne X.K (.type "dict") (.type (tyName t)) = some (isTy t (.dct ks ds)) := kit_ty (kit_all t (.dct ks ds))
    exact PySem.W.kia_one PySem.W.kitx_dict I.kIn ⟨o, h1, h2.1⟩ e0 (fun z => nomatch z) fun tk => ⟨.bl _, H, I.tok tk, rfl, q⟩
/-- .. a tuple of two -/
theorem isi_val2 {t1 t2 : Ty} {d : D} {v : V} {u : Value} {tp : Addr} {pins : List (Addr × Obj)} {s : Shared} {σ' : L2.St} {Q : VK} (I : L2.Inv X pins σ' H s) (fh : Same F H) (x : Lent (gb X T) C F H d v) (r : RelV v u)
    (hT : H tp = some (.tup [.ty (tyName t1), .ty (tyName t2)])) (q : Q (.bl (isTy t1 d || isTy t2 d)) H) :
    wpAny (model X.prog X.w) X.A (call (.builtin "isinstance") [u, .ref tp]) (EP X pins σ' Q) X.xe s := by
  have e0 : PySem.W.kitAny X.K (.type (tyOf d)) [.type (tyName t1), .type (tyName t2)] = some (isTy t1 d || isTy t2 d) := by
    refine kitAny_cons (kit_ty (kit_all t1 d)) (fun e => ?_) (fun e => by rw [e]; rfl)
    rw [e, Bool.false_or]
    refine kitAny_cons (kit_ty (kit_all t2 d)) (fun e => ?_) (fun e => e)
    rw [e]
    rfl
  rcases x.ty (K := X.K) fh with ty | ⟨ks, ds, a, xs, e1, e2, h⟩
  · exact call_isiT pins s σ' H [v, .ref tp] [u, .ref tp] Q I (.cons r (.cons rfl .nil)) ⟨v, tp, _, _, _, _, rfl, hT, .cons (.ty _) (.cons (.ty _) .nil), ty, e0, q⟩
  · subst e1 e2
    cases r
    obtain ⟨hsys, ys, pr, o, es, ep, h1, h2, h3, h4, h5⟩ := DTk.at I.hok h
    obtain ⟨_, its, rv, o2, g1, g2, n, g3⟩ := (show ObjOk X.prog X.w H s.heap tp (.tup [.ty (tyName t1), .ty (tyName t2)]) from I.hok tp _ hT)
    have e3 : its = [.type (tyName t1), .type (tyName t2)] := by
      cases rv with
      | cons a1 b1 =>
        cases b1 with
        | cons a2 b2 =>
          cases b2
          cases a1
          cases a2
          rfl
    subst e3
    obtain ⟨oc, od, dt, sl⟩ := o2
    simp only at g2 g3
    subst g2 g3
    exact PySem.W.kia_tup PySem.W.kitx_dict I.kIn ⟨o, h1, h2.1⟩ g1 e0 (fun z => nomatch z) fun tk => ⟨.bl _, H, I.tok tk, rfl, q⟩
/-- a built-in class by its name, as a value -/
theorem pe_cls {t : Ty} {x : Str} {p0 : Pos} (hm : X.mg x = none) (hv : bootBuiltins x = some (.type (tyName t))) (hg : Gl X x := by rfl) (hn : x ≠ "__name__" := by decide) (hd : (x == ("__debug__" : Str)) = false := by decide) : PE X (.Name x p0) (tC (.ty (tyName t))) :=
  pe_bltn hg hm hv rfl hn hd
def dIsi (t : Ty) (f : DE) : DE := fun ρ => bindM (f ρ) fun x => retM (.bl (isTy t x))
def dIsi2 (t1 t2 : Ty) (f : DE) : DE := fun ρ => bindM (f ρ) fun x => retM (.bl (isTy t1 x || isTy t2 x))
/-- isinstance(e, T) -/
theorem eis (t : Ty) {x : Str} {p0 p1 : Pos} (he : PE X e (tL (gb X T) C W f)) (hi : X.mg "isinstance" = none) (hm : X.mg x = none) (hv : bootBuiltins x = some (.type (tyName t))) (hb : bootBuiltins "isinstance" = some (.builtin "isinstance")) (hg : Gl X x := by rfl) (hgi : Gl X "isinstance" := by rfl) (hn : x ≠ "__name__" := by decide) (hd : (x == ("__debug__" : Str)) = false := by decide)
    (h1 : starEach [e, .Name x p1] X.env = (false, eval e X.env) :: starEach [.Name x p1] X.env := by rfl) (h2 : starEach [.Name x p1] X.env = (false, eval (.Name x p1) X.env) :: starEach [] X.env := by rfl) (h3 : (backTo pos (starEach [.Name x p1] X.env)).any (·.1) = false := by rfl) :
    PE X (.Call (.Name "isinstance" p0) [e, .Name x p1] [] pos) (tE (gb X T) C W (dIsi t f)) := by
  have hc : CallR X (.builtin "isinstance") (fun vs H Q => ∃ F d v σ ρ p, vs = [v, .ty (tyName t)] ∧ DInv (gb X T) C F H σ ρ p ∧ Lent (gb X T) C F H d v ∧ Q (.bl (isTy t d)) H) := by
    intro pins s σ H vs us Q I r h
    obtain ⟨F, d, v, σ', ρ, p, e, J, l, q⟩ := h
    subst e
    obtain ⟨u1, u2, rfl, r1, r2⟩ := vals2 r
    cases (show u2 = Value.type (tyName t) from r2)
    exact isi_val I J.fh l r1 q
  refine imp (pe_callB hc hgi hi hb (pa_cons he (pa_cons (pe_cls hm hv hg hn hd) pa_nil h2) h1) (by decide) (by decide) h1 h3) fun σ H Q ⟨F, ρ, p, I, q⟩ => ?_
  refine tG_mono (fun v H1 z => ?_) (tG_bind I q)
  obtain ⟨F1, d, p1, I1, e1, r1, q1⟩ := z
  exact ⟨F1, d, v, σ, ρ, p1, rfl, I1, r1, post.flat q1 I1 (by unfold Rep; rfl)⟩
/-- isinstance(e, (T1, T2)) -/
theorem eis2 (t1 t2 : Ty) {x y : Str} {p0 p1 p2 p3 : Pos} {k : Nat} (he : PE X e (tL (gb X T) C W f)) (hi : X.mg "isinstance" = none) (hm : X.mg x = none) (hv : bootBuiltins x = some (.type (tyName t1))) (hm2 : X.mg y = none) (hv2 : bootBuiltins y = some (.type (tyName t2))) (hb : bootBuiltins "isinstance" = some (.builtin "isinstance")) (hg : Gl X x := by rfl) (hg2 : Gl X y := by rfl) (hgi : Gl X "isinstance" := by rfl)
    (hn : x ≠ "__name__" := by decide) (hd : (x == ("__debug__" : Str)) = false := by decide) (hn2 : y ≠ "__name__" := by decide) (hd2 : (y == ("__debug__" : Str)) = false := by decide)
    (h1 : starEach [e, .Tuple [.Name x p1, .Name y p2] k p3] X.env = (false, eval e X.env) :: starEach [.Tuple [.Name x p1, .Name y p2] k p3] X.env := by rfl) (h2 : starEach [.Tuple [.Name x p1, .Name y p2] k p3] X.env = (false, eval (.Tuple [.Name x p1, .Name y p2] k p3) X.env) :: starEach [] X.env := by rfl)
    (h3 : (backTo pos (starEach [.Tuple [.Name x p1, .Name y p2] k p3] X.env)).any (·.1) = false := by rfl)
    (h4 : starEach [.Name x p1, .Name y p2] X.env = (false, eval (.Name x p1) X.env) :: starEach [.Name y p2] X.env := by rfl) (h5 : starEach [.Name y p2] X.env = (false, eval (.Name y p2) X.env) :: starEach [] X.env := by rfl) :
    PE X (.Call (.Name "isinstance" p0) [e, .Tuple [.Name x p1, .Name y p2] k p3] [] pos) (tE (gb X T) C W (dIsi2 t1 t2 f)) := by
  have hc : CallR X (.builtin "isinstance") (fun vs H Q => ∃ F d v tp σ ρ p, vs = [v, .ref tp] ∧ DInv (gb X T) C F H σ ρ p ∧ Lent (gb X T) C F H d v ∧ H tp = some (.tup [.ty (tyName t1), .ty (tyName t2)]) ∧ Q (.bl (isTy t1 d || isTy t2 d)) H) := by
    intro pins s σ H vs us Q I r h
    obtain ⟨F, d, v, tp, σ', ρ, p, e, J, l, ht, q⟩ := h
    subst e
    obtain ⟨u1, u2, rfl, r1, r2⟩ := vals2 r
    cases (show u2 = Value.ref tp from r2)
    exact isi_val2 I J.fh l r1 ht q
  refine imp (pe_callB hc hgi hi hb (pa_cons he (pa_cons (pe_tup (pa_cons (pe_cls hm hv hg hn hd) (pa_cons (pe_cls hm2 hv2 hg2 hn2 hd2) pa_nil h5) h4)) pa_nil h2) h1) (by decide) (by decide) h1 h3) fun σ H Q ⟨F, ρ, p, I, q⟩ => ?_
  refine tG_mono (fun v H1 z => ?_) (tG_bind I q)
  obtain ⟨F1, d, p1, I1, e1, r1, q1⟩ := z
  refine ⟨lim_line (show 2 ≤ lim by decide), fun l n => ?_⟩
  have I2 := I1.new (o := .tup [.ty (tyName t1), .ty (tyName t2)]) n
  have x2 := ext_new (T := T) (pa := C.pa) (o := .tup [.ty (tyName t1), .ty (tyName t2)]) I1.fh n
  exact ⟨_, d, v, l, σ, ρ, p1, rfl, I2, r1.ext x2, upd_same, post.flat (q1.ext x2) I2 (by unfold Rep; rfl)⟩
/-! ### subscripts -/
theorem getD_at {α : Type} : ∀ (xs : List D) (n : Nat) (d : D), getD' xs n = some d → n < xs.length
  | [], n, d, h => by cases n <;> cases h
  | x :: xs, 0, d, h => Nat.succ_pos _
  | x :: xs, n + 1, d, h => Nat.succ_lt_succ (getD_at (α := α) xs n d h)
theorem at_ix {xs : List D} {vs : List V} {i : Int} {d : D} (r : Reps G F xs vs) (h : (if 0 ≤ i then getD' xs i.toNat else if 0 ≤ i + xs.length then getD' xs (i + xs.length).toNat else none) = some d) : ∃ v, atI vs i = some v ∧ Rep G F d v := by
  have hl := r.length
  by_cases h0 : 0 ≤ i
  · rw [if_pos h0] at h
    obtain ⟨v, q1, q2⟩ := r.get h
    have hlt := getD_at (α := Nat) _ _ _ h
    refine ⟨v, ?_, q2⟩
    unfold atI ixN
    rw [if_pos h0, if_pos (show i < (vs.length : Int) by omega)]
    exact q1
  · rw [if_neg h0] at h
    by_cases h1 : 0 ≤ i + xs.length
    · rw [if_pos h1] at h
      obtain ⟨v, q1, q2⟩ := r.get h
      refine ⟨v, ?_, q2⟩
      unfold atI ixN
      rw [if_neg h0, if_pos (show -(vs.length : Int) ≤ i by omega)]
      rw [← hl] at q1
      exact q1
    · rw [if_neg h1] at h
      cases h
theorem i_idx : IxR X (rD (gb X T) C W pIdx) := by
  intro value slice pins s σ H x y v u Q I rx ry h hs
  obtain ⟨F, σ', ρ, p, d1, d2, J, l1, l2, q⟩ := h
  cases d1 with
  | lst xs =>
    cases d2 with
    | int i =>
      obtain ⟨a, ws, e, h1, z, r1⟩ := l1.lst J.fh
      cases hq : pIdx (.lst xs) (.int i) with
      | none => rw [hq] at q; exact q.elim
      | some d =>
        rw [hq] at q
        obtain ⟨w, g1, g2⟩ := at_ix r1 hq
        exact ix_list value slice pins s σ H x y v u Q I rx ry ⟨a, ws, i, w, e, l2.int, SqL.of h1, g1, post.flat q J g2⟩ hs
    | _ => exact q.elim
  | tup xs =>
    cases d2 with
    | int i =>
      obtain ⟨a, ws, e, h1, _, z, r1⟩ := l1.tup J.fh
      cases hq : pIdx (.tup xs) (.int i) with
      | none => rw [hq] at q; exact q.elim
      | some d =>
        rw [hq] at q
        obtain ⟨w, g1, g2⟩ := at_ix r1 hq
        exact ix_tup value slice pins s σ H x y v u Q I rx ry ⟨a, ws, i, w, e, l2.int, SqT.of h1, g1, post.flat q J g2⟩ hs
    | _ => exact q.elim
  | _ => exact q.elim
theorem ex {a b : Expr} (ha : PE X a (tL (gb X T) C W f)) (hb : PE X b (tL (gb X T) C W g)) (hs : PlainIx b := by intro _ _; rfl) : PE X (.Subscript a b pos) (tE (gb X T) C W (d2 pIdx f g)) := imp (pe_ix i_idx ha hb hs) fun _ _ _ z => bin_imp z
/-! ### slices -/
abbrev tO (G : Gb) (C : DC) (W : WX) (f : Env' → M (Option Int)) : TO := tG G C W (fun _ _ a b => b = a) f
def cutT (z : Str) (lo hi : Option Int) : Str := ⟨(cut z.cps.toList lo hi).toArray⟩
def pSl (x : D) (l h : Option Int) : Option D := match x with
  | .lst xs => some (.lst (cut xs l h))
  | .tup xs => some (.tup (cut xs l h))
  | .str z => if z.length ≤ lim then some (.str (cutT z l h)) else none
  | _ => none
def dSl (f : DE) (lo hi : Env' → M (Option Int)) : DE := fun ρ => bindM (f ρ) fun x => bindM (lo ρ) fun l => bindM (hi ρ) fun h => liftM (pSl x l h)
theorem cutT_eq (z : Str) (lo hi : Option Int) : cutS z lo hi = cutT z lo hi := by
  unfold cutS cutT cut
  have e : z.length = z.cps.toList.length := Array.length_toList.symm
  rw [e]
  cases lo <;> cases hi <;> rfl
def noIx : Env' → M (Option Int) := fun _ => retM none
def anIx (f : DE) : Env' → M (Option Int) := fun ρ => bindM (f ρ) fun x => match x with
  | .int i => retM (some i)
  | _ => failM
theorem sn : PO X none (tO (gb X T) C W noIx) := ⟨fun pins s σ H Q I ⟨F, ρ, p, J, q⟩ => po_none.run pins s σ H Q I (q.now J rfl)⟩
theorem ss (he : PE X e (tE (gb X T) C W f)) : PO X (some e) (tO (gb X T) C W (anIx f)) := ⟨fun pins s σ H Q I ⟨F, ρ, p, J, q⟩ => (po_some he).run pins s σ H Q I (by
  refine tG_mono (fun v H1 z => ?_) (tG_bind J q)
  obtain ⟨F1, d, p1, I1, e1, r1, q1⟩ := z
  cases d with
  | int i =>
    unfold Rep at r1
    exact ⟨i, r1, q1.now I1 rfl⟩
  | _ => exact q1.elim)⟩
theorem cut_reps {xs : List D} {vs : List V} (r : Reps G F xs vs) (lo hi : Option Int) : Reps G F (cut xs lo hi) (cutV vs lo hi) := by
  unfold cut cutV
  rw [r.length]
  exact (r.drop _).take _
theorem cut_le {α : Type} (xs : List α) (lo hi : Option Int) : (cut xs lo hi).length ≤ xs.length := by
  unfold cut
  rw [List.length_take, List.length_drop]
  omega
theorem cut_all {α : Type} (xs : List α) (lo hi : Option Int) (h : sIx xs.length 0 lo = 0 ∧ sIx xs.length xs.length hi = xs.length) : cut xs lo hi = xs := by
  unfold cut
  rw [h.1, h.2]
  simp
theorem i_sl : SlR X (fun x lo hi H Q => ∃ F σ ρ p d, DInv (gb X T) C F H σ ρ p ∧ Lent (gb X T) C F H d x ∧ post (gb X T) C W (rz (gb X T)) (liftM (pSl d lo hi) p) F H σ ρ Q) := by
  intro pins s σ H x v vl vu lo hi sl Q I rx hs pl pu h
  obtain ⟨F, σ', ρ, p, d, J, l1, q⟩ := h
  cases d with
  | lst xs =>
    obtain ⟨a, ws, e, h1, z, r1⟩ := l1.lst J.fh
    refine sl_list pins s σ H x v vl vu lo hi sl Q I rx hs pl pu ⟨a, ws, e, SqL.of h1, fun l n => post_new q J n fun F' sm e => ?_⟩
    unfold Rep
    exact ⟨l, _, rfl, e, Nat.le_trans (cut_le _ _ _) z, Reps.mono sm _ _ (cut_reps r1 _ _)⟩
  | tup xs =>
    obtain ⟨a, ws, e, h1, f1, z, r1⟩ := l1.tup J.fh
    have n1 := r1.length
    refine sl_tupA pins s σ H x v vl vu lo hi sl Q I rx hs pl pu ⟨a, ws, e, SqT.of h1, fun hw => post.flat q J ?_, fun _ l n => post_new q J n fun F' sm e => ?_⟩
    · rw [n1] at hw
      rw [cut_all xs lo hi hw]
      unfold Rep
      exact ⟨a, ws, rfl, f1, z, r1⟩
    · unfold Rep
      exact ⟨l, _, rfl, e, Nat.le_trans (cut_le _ _ _) z, Reps.mono sm _ _ (cut_reps r1 _ _)⟩
  | str z =>
    unfold pSl at q
    dsimp only at q
    by_cases hz : z.length ≤ lim
    · rw [if_pos hz] at q
      have e := l1.str
      subst e
      exact sl_str pins s σ H _ v vl vu lo hi sl Q I rx hs pl pu ⟨z, rfl, lim_line hz, by rw [cutT_eq]; exact post.flat q J (by unfold Rep; rfl)⟩
    · rw [if_neg hz] at q
      exact q.elim
  | _ => exact q.elim
theorem esl {lo hi : Option Expr} {fl fh : Env' → M (Option Int)} {p2 : Pos} (he : PE X e (tL (gb X T) C W f)) (hl : PO X lo (tO (gb X T) C W fl)) (hu : PO X hi (tO (gb X T) C W fh)) : PE X (.Subscript e (.Slice lo hi none p2) pos) (tE (gb X T) C W (dSl f fl fh)) :=
  imp (pe_slice i_sl he hl hu) fun σ H Q ⟨F, ρ, p, I, q⟩ => by
    refine tG_mono (fun x H1 z => ?_) (tG_bind I q)
    obtain ⟨F1, d, p1, I1, e1, r1, q1⟩ := z
    refine tG_mono (fun l H2 z => ?_) (tG_bind I1 q1)
    obtain ⟨F2, l', p2, I2, e2, el, q2⟩ := z
    refine tG_mono (fun h H3 z => ?_) (tG_bind I2 q2)
    obtain ⟨F3, h', p3, I3, e3, eh, q3⟩ := z
    subst el eh
    exact ⟨F3, σ, ρ, p3, d, I3, (r1.ext e2).ext e3, q3⟩
end
end DL
/-! DL7: statements whose reading is a denotation. -/
namespace DL
set_option autoImplicit false
open PySem PySem.Spec L2
theorem nth_put_same : ∀ (ρ : Env') (i : Nat) (s : Sl), i < ρ.length → nth (put ρ i s) i = s
  | [], i, s, h => absurd h (Nat.not_lt_zero _)
  | x :: r, 0, s, _ => rfl
  | x :: r, i + 1, s, h => nth_put_same r i s (Nat.lt_of_succ_lt_succ h)
theorem nth_put_ne : ∀ (ρ : Env') (i j : Nat) (s : Sl), j ≠ i → nth (put ρ i s) j = nth ρ j
  | [], i, j, s, h => rfl
  | x :: r, 0, 0, s, h => absurd rfl h
  | x :: r, 0, j + 1, s, h => rfl
  | x :: r, i + 1, 0, s, h => rfl
  | x :: r, i + 1, j + 1, s, h => nth_put_ne r i j s (fun e => h (by rw [e]))
theorem put_length : ∀ (ρ : Env') (i : Nat) (s : Sl), (put ρ i s).length = ρ.length
  | [], _, _ => rfl
  | x :: r, 0, s => rfl
  | x :: r, i + 1, s => by rw [put, List.length_cons, List.length_cons, put_length r i s]
theorem nth_out : ∀ (ρ : Env') (i : Nat), ρ.length ≤ i → nth ρ i = .un
  | [], _, _ => rfl
  | x :: r, 0, h => absurd h (Nat.not_succ_le_zero _)
  | x :: r, i + 1, h => nth_out r i (Nat.le_of_succ_le_succ h)
theorem put_out : ∀ (ρ : Env') (i : Nat) (s : Sl), ρ.length ≤ i → put ρ i s = ρ
  | [], _, _, _ => rfl
  | x :: r, 0, s, h => absurd h (Nat.not_succ_le_zero _)
  | x :: r, i + 1, s, h => by rw [put, put_out r i s (Nat.le_of_succ_le_succ h)]
section
variable {G : Gb} {C : DC} {F H F' H' : Hp} {σ : L2.St} {ρ : Env'} {p p' : Pot} {i : Nat}
/-- a slot gets another content -/
theorem DInv.store (I : DInv G C F H σ ρ p) {v : V} {s : Sl} (hp : C.ps ≠ i) (r : SlOk G C F H (some (some v)) s) (hd : isOw s = true → ∀ a, v = .ref a → ∀ j, j ≠ i → σ[j]? = some (some (.ref a)) → isOw (nth ρ j) = false) : DInv G C F H (σ.set i (some v)) (put ρ i s) p := by
  by_cases hi : i < ρ.length
  · have hs : i < σ.length := Nat.lt_of_lt_of_le hi I.ln
    refine ⟨I.toBInv, fun j => ?_, fun j k a hjk h1 h2 h3 => ?_, fun a e => ?_, ?_⟩
    · by_cases e : j = i
      · subst e
        rw [List.getElem?_set_self hs, nth_put_same ρ j s hi]
        exact r
      · rw [List.getElem?_set_ne (Ne.symm e), nth_put_ne ρ i j s e]
        exact I.sl j
    · by_cases e : j = i
      · subst e
        rw [nth_put_same ρ j s hi] at h2
        rw [List.getElem?_set_self hs] at h1
        rw [List.getElem?_set_ne hjk] at h3
        rw [nth_put_ne ρ j k s (Ne.symm hjk)]
        exact hd h2 a (Option.some.inj (Option.some.inj h1)) k (Ne.symm hjk) h3
      · rw [List.getElem?_set_ne (Ne.symm e)] at h1
        rw [nth_put_ne ρ i j s e] at h2
        by_cases e2 : k = i
        · subst e2
          rw [nth_put_same ρ k s hi]
          rw [List.getElem?_set_self hs] at h3
          cases hs2 : isOw s with
          | false => rfl
          | true =>
            have := hd hs2 a (Option.some.inj (Option.some.inj h3)) j hjk h1
            rw [this] at h2
            cases h2
        · rw [List.getElem?_set_ne (Ne.symm e2)] at h3
          rw [nth_put_ne ρ i k s e2]
          exact I.ds j k a hjk h1 h2 h3
    · obtain ⟨q1, q2⟩ := I.ps a e
      exact ⟨by rw [List.getElem?_set_ne (Ne.symm hp)]; exact q1, by rw [nth_put_ne ρ i _ s hp]; exact q2⟩
    · rw [put_length, List.length_set]; exact I.ln
  · have hi' : ρ.length ≤ i := Nat.le_of_not_lt hi
    rw [put_out ρ i s hi']
    refine ⟨I.toBInv, fun j => ?_, fun j k a hjk h1 h2 h3 => ?_, fun a e => ?_, ?_⟩
    · by_cases e : j = i
      · subst e
        rw [nth_out ρ j hi']
        trivial
      · rw [List.getElem?_set_ne (Ne.symm e)]
        exact I.sl j
    · have j1 : j ≠ i := fun e => by rw [e, nth_out ρ i hi'] at h2; cases h2
      rw [List.getElem?_set_ne (Ne.symm j1)] at h1
      by_cases e2 : k = i
      · rw [e2, nth_out ρ i hi']; rfl
      · rw [List.getElem?_set_ne (Ne.symm e2)] at h3
        exact I.ds j k a hjk h1 h2 h3
    · obtain ⟨q1, q2⟩ := I.ps a e
      exact ⟨by rw [List.getElem?_set_ne (Ne.symm hp)]; exact q1, q2⟩
    · rw [List.length_set]; exact I.ln
/-- a slot is forgotten -/
theorem DInv.forget (I : DInv G C F H σ ρ p) (i : Nat) : DInv G C F H σ (put ρ i .un) p := by
  have key : ∀ j, nth (put ρ i .un) j = nth ρ j ∨ nth (put ρ i .un) j = .un := fun j => by
    by_cases e : j = i
    · subst e
      by_cases hi : j < ρ.length
      · exact .inr (nth_put_same ρ j .un hi)
      · exact .inr (by rw [put_out ρ j _ (Nat.le_of_not_lt hi)]; exact nth_out ρ j (Nat.le_of_not_lt hi))
    · exact .inl (nth_put_ne ρ i j _ e)
  refine ⟨I.toBInv, fun j => ?_, fun j k a hjk h1 h2 h3 => ?_, fun a e => ⟨(I.ps a e).1, ?_⟩, by rw [put_length]; exact I.ln⟩
  · rcases key j with e | e <;> rw [e]
    · exact I.sl j
    · trivial
  · rcases key k with e | e <;> rw [e]
    · rcases key j with e1 | e1 <;> rw [e1] at h2
      · exact I.ds j k a hjk h1 h2 h3
      · cases h2
    · rfl
  · rcases key C.ps with e1 | e1 <;> rw [e1]
    exact (I.ps a e).2
theorem DInv.forgets (I : DInv G C F H σ ρ p) : ∀ is : List Nat, DInv G C F H σ (wipes is ρ) p
  | [] => I
  | i :: is => by rw [wipes]; exact (I.forgets is).forget i
theorem DInv.fz (I : DInv G C F H σ ρ p) {v : V} {d : D} (hp : C.ps ≠ i) (r : Rep G F d v) : DInv G C F H (σ.set i (some v)) (put ρ i (.fz d)) p := I.store hp ⟨v, rfl, r⟩ fun z => nomatch z
/-- a new thing of one's own -/
theorem DInv.own (I : DInv G C F H σ ρ p) {a : Addr} {o : HO} {d : D} (hp : C.ps ≠ i) (n : H a = none) (r : Own G F (upd H a o) a d) : DInv G C F (upd H a o) (σ.set i (some (.ref a))) (put ρ i (.ow d)) p := by
  have fa : F a = none := Same.free I.fh n
  have J : DInv G C F (upd H a o) σ ρ p := I.ext (ext_newH n) (same_newH I.fh n) (I.po.newH I.fh n)
  have h0 : ¬ Thing C.H0 a := fun t => (I.base.dm a t).ne n rfl
  have np : C.pa ≠ some a := fun e => by
    obtain ⟨_, _, c, q1, _⟩ := I.po a e
    rw [n] at q1
    cases q1
  refine J.store hp ⟨a, rfl, ⟨fa, h0, np⟩, r⟩ fun _ b e j hj h1 => ?_
  cases e
  cases hx : isOw (nth ρ j) with
  | false => rfl
  | true =>
    have s := I.sl j
    cases z : nth ρ j with
    | ow d2 =>
      rw [z, h1] at s
      obtain ⟨b, e1, _, x⟩ := s
      cases e1
      exact (x.there.ne n rfl).elim
    | _ => rw [z] at hx; cases hx
end
section
variable (G : Gb) (C : DC) (W : WX)
def postS (r : Out) (F : Hp) (D : Ends) : Prop := match r with
  | .nx ρ' p' => ∀ σ' F' H', DInv G C F' H' σ' ρ' p' → Same F F' → D.nx σ' H'
  | .ret d p' => ∀ v σ' ρ' F' H', DInv G C F' H' σ' ρ' p' → Same F F' → Rep G F' d v → D.rt v H'
  | .brk ρ' p' => ∀ σ' F' H', DInv G C F' H' σ' ρ' p' → Same F F' → D.bk σ' H'
  | .ct ρ' p' => ∀ σ' F' H', DInv G C F' H' σ' ρ' p' → Same F F' → D.ct σ' H'
  | .exc e ρ' p' => ∀ cls dd σ' F' H', DInv G C F' H' σ' ρ' p' → Same F F' → ExcR G F' H' cls dd e → W cls dd σ' H'
  | .err => False
def tS (f : DS) : TS := fun D σ H => ∃ F ρ p, DInv G C F H σ ρ p ∧ postS G C W (f ρ p) F D
end
theorem impS {X : Cx} {st : Stmt} {t t' : TS} (h : PS X st t) (i : ∀ D σ H, t' D σ H → t D σ H) : PS X st t' := ⟨fun pins s σ H D I q => h.run pins s σ H D I (i D σ H q)⟩
theorem impSs {X : Cx} {st : List Stmt} {t t' : TS} (h : PSs X st t) (i : ∀ D σ H, t' D σ H → t D σ H) : PSs X st t' := ⟨fun pins s σ H D I q => h.run pins s σ H D I (i D σ H q)⟩
section
variable {G : Gb} {C : DC} {W : WX} {F F1 H : Hp} {σ : L2.St} {ρ : Env'} {p : Pot} {D : Ends}
theorem postS.ext {r : Out} (e : Same F F1) (h : postS G C W r F D) : postS G C W r F1 D := by
  cases r with
  | nx ρ' p' => exact fun σ' F' H' I s => h σ' F' H' I (e.trans s)
  | ret d p' => exact fun v σ' ρ' F' H' I s => h v σ' ρ' F' H' I (e.trans s)
  | brk ρ' p' => exact fun σ' F' H' I s => h σ' F' H' I (e.trans s)
  | ct ρ' p' => exact fun σ' F' H' I s => h σ' F' H' I (e.trans s)
  | exc z ρ' p' => exact fun c d σ' F' H' I s => h c d σ' F' H' I (e.trans s)
  | err => exact h
theorem runE_imp {α β : Type} {R : Hp → Hp → α → β → Prop} {f : Env' → M α} {k : α → Pot → Out} (I : DInv G C F H σ ρ p) (h : postS G C W (runE ρ (f ρ p) k) F D) :
    tG G C W R f σ H (fun b H1 => ∃ F1 a p1, DInv G C F1 H1 σ ρ p1 ∧ Ext G.T C.pa F H F1 H1 ∧ R F1 H1 a b ∧ postS G C W (k a p1) F1 D) := by
  refine ⟨F, ρ, p, I, ?_⟩
  cases q : f ρ p with
  | ok a p1 =>
    rw [q] at h
    exact fun b F' H' I' e r => ⟨F', a, p1, I', e, r, postS.ext e.ff h⟩
  | exc z p1 =>
    rw [q] at h
    exact fun cls dd F' H' I' e r => h cls dd σ F' H' I' e.ff r
  | err =>
    rw [q] at h
    exact h.elim
end
/-- what a body leans on -/
structure Bd (X : Cx) (W : WX) (k : Nat) : Prop where
  calm : X.calm = true
  nd : X.N.Nodup
  hr : Room k X.A
  tk : Takes X W
  hp : PassesOwn (model X.prog X.w) X.A X.env X.xe
section
variable {X : Cx} {T : List (Addr × Str)} {C : DC} {W : WX} {e a b c : Expr} {f g h : DE} {pos : Pos} {es : List Expr} {fl : List DE} {st : Stmt} {rest : List Stmt} {s t : DS} {k : Nat}
abbrev tSS (X : Cx) (T : List (Addr × Str)) (C : DC) (W : WX) (s : DS) : TS := tS (gb X T) C W s
theorem bnil : PSs X [] (tSS X T C W sPass) := impSs pss_nil fun D σ H ⟨F, ρ, p, I, q⟩ => q σ F H I (Same.refl F)
theorem bcons (x : PS X st (tSS X T C W s)) (y : PSs X rest (tSS X T C W t)) : PSs X (st :: rest) (tSS X T C W (sSeq s t)) := impSs (pss_cons x y) fun D σ H ⟨F, ρ, p, I, q⟩ => by
  refine ⟨F, ρ, p, I, ?_⟩
  unfold sSeq at q
  cases z : s ρ p with
  | nx ρ1 p1 =>
    rw [z] at q
    exact fun σ' F' H' I' sm => ⟨F', ρ1, p1, I', postS.ext sm q⟩
  | ret d p1 => rw [z] at q; exact q
  | brk ρ1 p1 => rw [z] at q; exact q
  | ct ρ1 p1 => rw [z] at q; exact q
  | exc u p1 => rw [z] at q; exact q
  | err => rw [z] at q; exact q
theorem bone (x : PS X st (tSS X T C W s)) : PSs X [st] (tSS X T C W s) := pss_one x
/-- names that nobody asks any more, behind a block -/
theorem bkill (is : List Nat) (x : PSs X rest (tSS X T C W s)) : PSs X rest (tSS X T C W (sSeq s (sKill is))) := impSs x fun D σ H ⟨F, ρ, p, I, q⟩ => by
  refine ⟨F, ρ, p, I, ?_⟩
  unfold sSeq at q
  cases z : s ρ p with
  | nx ρ1 p1 =>
    rw [z] at q
    exact fun σ' F' H' I' sm => q σ' F' H' (I'.forgets is) sm
  | ret d p1 => rw [z] at q; exact q
  | brk ρ1 p1 => rw [z] at q; exact q
  | ct ρ1 p1 => rw [z] at q; exact q
  | exc u p1 => rw [z] at q; exact q
  | err => rw [z] at q; exact q
/-- .. behind a statement -/
theorem skill (is : List Nat) (x : PS X st (tSS X T C W s)) : PS X st (tSS X T C W (sSeq s (sKill is))) := impS x fun D σ H ⟨F, ρ, p, I, q⟩ => by
  refine ⟨F, ρ, p, I, ?_⟩
  unfold sSeq at q
  cases z : s ρ p with
  | nx ρ1 p1 =>
    rw [z] at q
    exact fun σ' F' H' I' sm => q σ' F' H' (I'.forgets is) sm
  | ret d p1 => rw [z] at q; exact q
  | brk ρ1 p1 => rw [z] at q; exact q
  | ct ρ1 p1 => rw [z] at q; exact q
  | exc u p1 => rw [z] at q; exact q
  | err => rw [z] at q; exact q
theorem spass : PS X (.Pass pos) (tSS X T C W sPass) := impS ps_pass fun D σ H ⟨F, ρ, p, I, q⟩ => q σ F H I (Same.refl F)
theorem sbreak : PS X (.Break pos) (tSS X T C W sBrk) := impS ps_break fun D σ H ⟨F, ρ, p, I, q⟩ => q σ F H I (Same.refl F)
theorem scont : PS X (.Continue pos) (tSS X T C W sCt) := impS ps_continue fun D σ H ⟨F, ρ, p, I, q⟩ => q σ F H I (Same.refl F)
theorem sret (x : PE X e (tE (gb X T) C W f)) : PS X (.Return (some e) pos) (tSS X T C W (sRet f)) := impS (ps_ret x) fun D σ H ⟨F, ρ, p, I, q⟩ => by
  refine tG_mono (fun v H1 z => ?_) (runE_imp I q)
  obtain ⟨F1, d, p1, I1, e1, r1, q1⟩ := z
  exact q1 v σ ρ F1 H1 I1 (Same.refl F1) r1
theorem sretn : PS X (.Return none pos) (tSS X T C W sRetN) := impS ps_retN fun D σ H ⟨F, ρ, p, I, q⟩ => q .non σ ρ F H I (Same.refl F) (by unfold Rep; rfl)
theorem sexpr (x : PE X e (tE (gb X T) C W f)) (hs : swapsWith e none pos.line X.env = pure false := by rfl) : PS X (.Expr e pos) (tSS X T C W (sExpr f)) := impS (ps_expr x hs) fun D σ H ⟨F, ρ, p, I, q⟩ => by
  refine tG_mono (fun v H1 z => ?_) (runE_imp I q)
  obtain ⟨F1, d, p1, I1, e1, r1, q1⟩ := z
  exact q1 σ F1 H1 I1 (Same.refl F1)
theorem sif {A B : List Stmt} (x : PT X c (tT (gb X T) C W f)) (y : PSs X A (tSS X T C W s)) (z : PSs X B (tSS X T C W t)) : PS X (.If c A B pos) (tSS X T C W (sIf f s t)) := impS (ps_if x y z) fun D σ H ⟨F, ρ, p, I, q⟩ => by
  refine tG_mono (fun v H1 z => ?_) (runE_imp I q)
  obtain ⟨F1, d, p1, I1, e1, r1, q1⟩ := z
  subst r1
  cases v with
  | true => exact ⟨F1, ρ, p1, I1, q1⟩
  | false => exact ⟨F1, ρ, p1, I1, q1⟩
/-- x = e -/
theorem sset (i : Nat) {x : Str} {pos' : Pos} (hN : X.N.Nodup) (he : PE X e (tE (gb X T) C W f)) (hp : C.ps ≠ i := by first | (dsimp only; decide) | decide) (hi : X.N[i]? = some x := by rfl) (hx : Loc X.env.scope x := by first | exact .inl rfl | exact .inr rfl) (hs : swapsWith e (some (.Name x pos')) pos.line X.env = pure false := by rfl) (hf : X.fn x = true ∨ X.env.scope.names.lookup x = some .local := by first | exact .inl rfl | exact .inr rfl) :
    PS X (.Assign [.Name x pos'] e pos) (tSS X T C W (sSet i f)) := impS (ps_set hN hi hx he hs hf) fun D σ H ⟨F, ρ, p, I, q⟩ => by
  refine tG_mono (fun v H1 z => ?_) (runE_imp I q)
  obtain ⟨F1, d, p1, I1, e1, r1, q1⟩ := z
  exact q1 _ F1 H1 (I1.fz hp r1) (Same.refl F1)
/-- x = [e, ..], a list of one's own -/
theorem sownl (i : Nat) {x : Str} {pos' : Pos} (hN : X.N.Nodup) (he : PA X es (tA (gb X T) C W (dsN fl))) (hp : C.ps ≠ i := by first | (dsimp only; decide) | decide) (hl : fl.length ≤ lim := by decide) (hi : X.N[i]? = some x := by rfl) (hx : Loc X.env.scope x := by first | exact .inl rfl | exact .inr rfl) {p0 : Pos} (hs : swapsWith (.List es p0) (some (.Name x pos')) pos.line X.env = pure false := by rfl) (hf : X.fn x = true ∨ X.env.scope.names.lookup x = some .local := by first | exact .inl rfl | exact .inr rfl) :
    PS X (.Assign [.Name x pos'] (.List es p0) pos) (tSS X T C W (sOwn i (dLst fl))) := impS (ps_set hN hi hx (pe_lst he) hs hf) fun D σ H ⟨F, ρ, p, I, q⟩ => by
  have q' : postS (gb X T) C W (runE ρ (bindM (dsN fl ρ) (fun xs => retM (.lst xs)) p) fun d p1 => .nx (put ρ i (.ow d)) p1) F D := q
  have q2 : postS (gb X T) C W (runE ρ (dsN fl ρ p) fun xs p1 => .nx (put ρ i (.ow (.lst xs))) p1) F D := by
    unfold bindM at q'
    cases z : dsN fl ρ p with
    | ok a p1 => rw [z] at q'; exact q'
    | exc a p1 => rw [z] at q'; exact q'
    | err => rw [z] at q'; exact q'
  have hlen : ∀ ds p1, dsN fl ρ p = .ok ds p1 → ds.length = fl.length := fun ds p1 h => dsN_len _ _ _ _ _ h
  show tG (gb X T) C W _ (dsN fl) σ H _
  refine ⟨F, ρ, p, I, ?_⟩
  cases z : dsN fl ρ p with
  | ok ds p1 =>
    rw [z] at q2
    intro vs F1 H1 I1 e1 r1
    have n1 := hlen ds p1 z
    refine ⟨by rw [r1.length, n1]; exact lim_line hl, fun l n => ?_⟩
    exact q2 _ F1 _ (I1.own hp n ⟨vs, upd_same, by rw [n1]; exact hl, r1⟩) e1.ff
  | exc u p1 =>
    rw [z] at q2
    exact fun cls dd F' H' I' e r => q2 cls dd σ F' H' I' e.ff r
  | err => rw [z] at q2; exact q2.elim
/-! ### several names -/
def gtp : List Nat → List V → L2.St → L2.St
  | i :: is, v :: vs, σ => gtp is vs (σ.set i (some v))
  | _, _, σ => σ
theorem putAll_inv {G : Gb} {F H : Hp} {p : Pot} : ∀ {is : List Nat} {xs : List D} {vs : List V} {ρ ρ1 : Env'} {σ : L2.St}, (∀ i ∈ is, C.ps ≠ i) → putAll is xs ρ = some ρ1 → Reps G F xs vs → DInv G C F H σ ρ p → DInv G C F H (gtp is vs σ) ρ1 p
  | [], [], vs, ρ, ρ1, σ, _, h, r, I => by
    cases h
    unfold Reps at r
    subst r
    exact I
  | [], _ :: _, _, _, _, _, _, h, _, _ => by cases h
  | _ :: _, [], _, _, _, _, _, h, _, _ => by cases h
  | i :: is, x :: xs, vs, ρ, ρ1, σ, hp, h, r, I => by
    obtain ⟨v, t, e, r1, r2⟩ := r.uncons
    subst e
    exact putAll_inv (is := is) (fun j hj => hp j (List.mem_cons_of_mem _ hj)) h r2 (I.fz (hp i List.mem_cons_self) r1)
/-- the reading of a target that is a tuple of names -/
def gNames : List Nat → TGs
  | [] => gNil
  | i :: is => gCons (gName i) (gNames is)
theorem gNames_of : ∀ {is : List Nat} {vs : List V} {σ : L2.St} {H : Hp} {Q : L2.St → Hp → Prop}, is.length = vs.length → Q (gtp is vs σ) H → gNames is vs σ H Q
  | [], [], _, _, _, _, q => ⟨rfl, q⟩
  | [], _ :: _, _, _, _, h, _ => by cases h
  | _ :: _, [], _, _, _, h, _ => by cases h
  | i :: is, v :: vs, σ, H, Q, h, q => ⟨v, vs, rfl, gNames_of (Nat.succ.inj h) q⟩
theorem putAll_len : ∀ {is : List Nat} {xs : List D} {ρ ρ1 : Env'}, putAll is xs ρ = some ρ1 → is.length = xs.length
  | [], [], _, _, _ => rfl
  | [], _ :: _, _, _, h => by cases h
  | _ :: _, [], _, _, h => by cases h
  | i :: is, x :: xs, ρ, ρ1, h => congrArg Nat.succ (putAll_len (is := is) (xs := xs) h)
structure GNs (X : Cx) (ts : List Expr) (is : List Nat) : Prop where
  g : PGs X ts (gNames is)
theorem gn0 : GNs X [] [] := ⟨pgs_nil⟩
theorem gn1 (i : Nat) {x : Str} {is : List Nat} {px : Pos} {ts : List Expr} (hN : X.N.Nodup) (r : GNs X ts is) (hi : X.N[i]? = some x := by rfl) (hx : Loc X.env.scope x := by first | exact .inl rfl | exact .inr rfl) (hf : X.fn x = true ∨ X.env.scope.names.lookup x = some .local := by first | exact .inl rfl | exact .inr rfl)
    (hs : (assignEach (.Name x px :: ts) X.env).map (·.2) = assign (.Name x px) X.env :: (assignEach ts X.env).map (·.2) := by rfl) : GNs X (.Name x px :: ts) (i :: is) := ⟨pgs_cons (pg_name hN hi hx hf) r.g hs⟩
/-- a tuple that is unpacked -/
theorem gTup_of {G : Gb} {F H : Hp} {p : Pot} {ρ ρ1 : Env'} {σ : L2.St} {is : List Nat} {d : D} {v : V} {K : PySem.W.Frag} {Q : L2.St → Hp → Prop} (hp : ∀ i ∈ is, C.ps ≠ i) (I : DInv G C F H σ ρ p) (r : Rep G F d v) (h : setTg (.tp is) d ρ = some ρ1) (q : ∀ σ1, DInv G C F H σ1 ρ1 p → Q σ1 H) :
    gTup K is.length (gNames is) v σ H Q := by
  cases d with
  | tup xs =>
    unfold Rep at r
    obtain ⟨a, vs, e, h1, l, r1⟩ := r
    have h' : putAll is xs ρ = some ρ1 := h
    have n1 := r1.length
    have n2 := putAll_len h'
    exact ⟨a, vs, e, SqT.of (I.fh _ _ h1), by omega, gNames_of (by omega) (q _ (putAll_inv hp h' r1 I))⟩
  | _ => cases h
/-- a, b = e -/
theorem sunp (is : List Nat) {ts : List Expr} {kt : Nat} {pt : Pos} (hc : X.calm = true) (he : PE X e (tE (gb X T) C W f)) (hg : GNs X ts is) (hp : ∀ i ∈ is, C.ps ≠ i := by first | (dsimp only; decide) | decide) (hn : (assignEach ts X.env).length = is.length := by rfl) (hst : (assignEach ts X.env).findIdx? (·.1) = none := by rfl)
    (hs : swapsWithSole [.Tuple ts kt pt] e pos.line X.env = pure false := by rfl) (hw : swappedStores [.Tuple ts kt pt] e X.env = pure none := by rfl) (h1 : (assignEach [.Tuple ts kt pt] X.env).map (·.2) = [assign (.Tuple ts kt pt) X.env] := by rfl) :
    PS X (.Assign [.Tuple ts kt pt] e pos) (tSS X T C W (sUnpack is f)) := impS (ps_asg he (pg_tup hc hg.g hn hst) hs hw h1) fun D σ H ⟨F, ρ, p, I, q⟩ => by
  refine tG_mono (fun v H1 z => ?_) (runE_imp I q)
  obtain ⟨F1, d, p1, I1, e1, r1, q1⟩ := z
  cases z : setTg (.tp is) d ρ with
  | some ρ1 =>
    rw [z] at q1
    exact gTup_of hp I1 r1 z fun σ1 I2 => q1 σ1 F1 H1 I2 (Same.refl F1)
  | none => rw [z] at q1; exact q1.elim
/-- a, b = e1, e2 (two local names) -/
def sPar (is : List Nat) (fs : List DE) : DS := fun ρ p => runE ρ (dsN fs ρ p) fun ds p1 => match putAll is ds ρ with
  | some ρ1 => .nx ρ1 p1
  | none => .err
theorem spar2 (i j : Nat) {x y : Str} {px py pt : Pos} {kt k2 : Nat} {pt2 : Pos} (hc : X.calm = true) (hN : X.N.Nodup) (ha : PA X [a, b] (tA (gb X T) C W (dsN [f, g]))) (hij : i ≠ j := by decide) (hpi : C.ps ≠ i := by first | (dsimp only; decide) | decide) (hpj : C.ps ≠ j := by first | (dsimp only; decide) | decide) (hi : X.N[i]? = some x := by rfl) (hj : X.N[j]? = some y := by rfl)
    (hx : X.env.scope.names.lookup x = some .local := by rfl) (hy : X.env.scope.names.lookup y = some .local := by rfl)
    (hw : swappedStores [.Tuple [.Name x px, .Name y py] kt pt] (.Tuple [a, b] k2 pt2) X.env = pure (some [x, y]) := by rfl) (hs : swapsWithSole [.Tuple [.Name x px, .Name y py] kt pt] (.Tuple [a, b] k2 pt2) pos.line X.env = pure false := by rfl) :
    PS X (.Assign [.Tuple [.Name x px, .Name y py] kt pt] (.Tuple [a, b] k2 pt2) pos) (tSS X T C W (sPar [i, j] [f, g])) := impS (ps_par hc hN hi hj hij hx hy ha hw hs) fun D σ H ⟨F, ρ, p, I, q⟩ => by
  refine tG_mono (fun vs H1 z => ?_) (runE_imp I q)
  obtain ⟨F1, ds, p1, I1, e1, r1, q1⟩ := z
  cases z : putAll [i, j] ds ρ with
  | none => rw [z] at q1; exact q1.elim
  | some ρ1 =>
    rw [z] at q1
    have n1 := putAll_len z
    have n2 := r1.length
    have I2 := putAll_inv (C := C) (fun k hk => by
      rcases List.mem_cons.mp hk with e | hk
      · rw [e]; exact hpi
      · rw [List.mem_singleton.mp hk]; exact hpj) z r1 I1
    match vs, n2.trans n1.symm with
    | [v, w], _ => exact ⟨v, w, rfl, q1 _ F1 H1 I2 (Same.refl F1)⟩
/-! ### x += e of numbers -/
theorem saug (i : Nat) {x : Str} {pos' : Pos} {o : Operator} {op : D → D → Option D} {gi : Int → Int → Int} (hN : X.N.Nodup) (ho : PIp X o (ipI gi)) (hop : ∀ d d2 r, op d d2 = some r → ∃ i j, d = .int i ∧ d2 = .int j ∧ r = .int (gi i j)) (he : PE X e (tE (gb X T) C W f)) (hp : C.ps ≠ i := by first | (dsimp only; decide) | decide) (hi : X.N[i]? = some x := by rfl) (hx : Loc X.env.scope x := by first | exact .inl rfl | exact .inr rfl)
    (hf : X.fn x = true ∨ X.env.scope.names.lookup x = some .local := by first | exact .inl rfl | exact .inr rfl) :
    PS X (.AugAssign (.Name x pos') o e pos) (tSS X T C W (sSet i (d2 op (dV i) f))) := impS (ps_aug hN hi hx he ho hf) fun D σ H ⟨F, ρ, p, I, q⟩ => by
  have s := I.sl i
  cases z : nth ρ i with
  | fz d =>
    rw [z] at s
    obtain ⟨v, e1, r0⟩ := s
    refine ⟨v, e1, ?_⟩
    have q' : postS (gb X T) C W (runE ρ (bindM (f ρ) (fun y => liftM (op d y)) p) fun d p1 => .nx (put ρ i (.fz d)) p1) F D := by
      have : d2 op (dV i) f ρ p = bindM (f ρ) (fun y => liftM (op d y)) p := by
        unfold d2 dV
        rw [z]
        rfl
      rw [← this]
      exact q
    have q2 : postS (gb X T) C W (runE ρ (f ρ p) fun y p1 => runE ρ (liftM (op d y) p1) fun d p1 => .nx (put ρ i (.fz d)) p1) F D := by
      unfold bindM at q'
      cases w : f ρ p with
      | ok a p1 => rw [w] at q'; exact q'
      | exc a p1 => rw [w] at q'; exact q'
      | err => rw [w] at q'; exact q'
    refine tG_mono (fun w H1 z => ?_) (runE_imp I q2)
    obtain ⟨F1, d2, p1, I1, e2, r1, q3⟩ := z
    cases hr : op d d2 with
    | none => rw [hr] at q3; exact q3.elim
    | some r =>
      rw [hr] at q3
      obtain ⟨a, b, h1, h2, h3⟩ := hop _ _ _ hr
      subst h1 h2 h3
      unfold Rep at r0 r1
      refine ⟨a, b, r0, r1, ?_⟩
      exact q3 _ F1 H1 (I1.fz hp (by unfold Rep; rfl)) (Same.refl F1)
  | _ =>
    have : d2 op (dV i) f ρ p = .err := by
      unfold d2 dV
      rw [z]
      rfl
    have q' : postS (gb X T) C W (runE ρ (d2 op (dV i) f ρ p) fun d p1 => .nx (put ρ i (.fz d)) p1) F D := q
    rw [this] at q'
    exact q'.elim
def pAddI : D → D → Option D
  | .int a, .int b => some (.int (a + b))
  | _, _ => none
theorem pAddI_ok : ∀ d e r, pAddI d e = some r → ∃ i j, d = .int i ∧ e = .int j ∧ r = .int (i + j) := by
  intro d e r h
  cases d with
  | int a =>
    cases e with
    | int b => cases h; exact ⟨a, b, rfl, rfl, rfl⟩
    | _ => cases h
  | _ => cases h
theorem pSub_ok : ∀ d e r, pSub d e = some r → ∃ i j, d = .int i ∧ e = .int j ∧ r = .int (i - j) := by
  intro d e r h
  cases d with
  | int a =>
    cases e with
    | int b => cases h; exact ⟨a, b, rfl, rfl, rfl⟩
    | _ => cases h
  | _ => cases h
/-! ### while -/
/-- what a loop's body is to reach: the rest of the loop from there -/
theorem loop_body {G : Gb} {rest : DS} {D : Ends} {F : Hp} {s : DS} {σ : L2.St} {H : Hp} {ρ : Env'} {p : Pot} {N : L2.St → Hp → Prop} (I : DInv G C F H σ ρ p)
    (q : postS G C W (match s ρ p with
      | .nx ρ2 p2 => rest ρ2 p2
      | .ct ρ2 p2 => rest ρ2 p2
      | .brk ρ2 p2 => .nx ρ2 p2
      | r => r) F D) (hN : ∀ F3 σ3 H3 ρ3 p3, DInv G C F3 H3 σ3 ρ3 p3 → Same F F3 → postS G C W (rest ρ3 p3) F3 D → N σ3 H3) : tS G C W s { D with nx := N, ct := N, bk := D.nx } σ H := by
  refine ⟨F, ρ, p, I, ?_⟩
  cases z : s ρ p with
  | nx ρ2 p2 =>
    rw [z] at q
    exact fun σ' F' H' I' sm => hN F' σ' H' ρ2 p2 I' sm (postS.ext sm q)
  | ct ρ2 p2 =>
    rw [z] at q
    exact fun σ' F' H' I' sm => hN F' σ' H' ρ2 p2 I' sm (postS.ext sm q)
  | brk ρ2 p2 => rw [z] at q; exact q
  | ret d p2 => rw [z] at q; exact q
  | exc d p2 => rw [z] at q; exact q
  | err => rw [z] at q; exact q
theorem swhile (n : Nat) {body : List Stmt} (B : Bd X W k) (hc : PT X c (tT (gb X T) C W f)) (hb : PSs X body (tSS X T C W s)) : PS X (.While c body [] pos) (tSS X T C W (whileGo f s n)) := impS (ps_while B.hp hc hb) fun D σ H ⟨F, ρ, p, I, q⟩ => by
  refine ⟨fun m σ' H' => ∃ F1 ρ1 p1, DInv (gb X T) C F1 H' σ' ρ1 p1 ∧ postS (gb X T) C W (whileGo f s m ρ1 p1) F1 D, ⟨n, F, ρ, p, I, q⟩, ?_⟩
  rintro m σ' H' ⟨F1, ρ1, p1, I1, q1⟩
  cases m with
  | zero => exact q1.elim
  | succ m =>
    rw [whileGo] at q1
    refine tG_mono (fun b H2 z => ?_) (runE_imp I1 q1)
    obtain ⟨F2, b', p2, I2, e2, r2, q3⟩ := z
    subst r2
    cases b with
    | false => exact q3 σ' F2 H2 I2 (Same.refl F2)
    | true =>
      refine ⟨fun σ3 H3 => ∃ F3 ρ3 p3, DInv (gb X T) C F3 H3 σ3 ρ3 p3 ∧ postS (gb X T) C W (whileGo f s m ρ3 p3) F3 D, fun σ3 H3 h => ⟨m, Nat.lt_succ_self m, h⟩, ?_⟩
      exact loop_body (rest := whileGo f s m) I2 q3 fun F3 σ3 H3 ρ3 p3 I3 _ q4 => ⟨F3, ρ3, p3, I3, q4⟩
/-! ### what is walked -/
/-- an iterator that yields these data, as long as what is frozen stays -/
def Yields (G : Gb) (C : DC) (F : Hp) (J : It) (ds : List D) : Prop := ∀ F1 H, Same F F1 → Same F1 H → LamX.Tabs G.T H → ∀ i,
  (∀ d, ds[i]? = some d → J.go i H ∧ ∀ v H', J.yld i H v H' → ∃ F', Ext G.T C.pa F1 H F' H' ∧ Same F' H' ∧ Rep G F' d v ∧ (∀ p, PotOk C.pa F1 H p → PotOk C.pa F' H' p)) ∧ (ds.length ≤ i → J.stop i H)
abbrev tI (G : Gb) (C : DC) (W : WX) (g : DI) : TI := fun σ H R => tG G C W (fun F _ ds (J : It) => Yields G C F J ds ∧ ds.length ≤ lim) g σ H R
theorem sfor {tg iter : Expr} {body : List Stmt} {it : DI} {t : Tg} {gt : TG} (B : Bd X W k) (hi : PI X tg iter (tI (gb X T) C W it)) (hg : PG X tg gt)
    (ht : ∀ F H σ ρ ρ1 p d v (Q : L2.St → Hp → Prop), DInv (gb X T) C F H σ ρ p → Rep (gb X T) F d v → setTg t d ρ = some ρ1 → (∀ σ1, DInv (gb X T) C F H σ1 ρ1 p → Q σ1 H) → gt v σ H Q) (hb : PSs X body (tSS X T C W s)) (hs : ∀ x, foldedSetIterable iter X.env x = pure x := by intro _; rfl) :
    PS X (.For tg iter body [] pos) (tSS X T C W (sFor it t s)) := impS (ps_for B.hp B.calm hi hg hb hs) fun D σ H ⟨F, ρ, p, I, q⟩ => by
  refine tG_mono (fun J H1 z => ?_) (runE_imp (R := fun F _ ds (J : It) => Yields (gb X T) C F J ds ∧ ds.length ≤ lim) I q)
  obtain ⟨F1, ds, p1, I1, e1, ⟨yl, ln⟩, q1⟩ := z
  refine ⟨fun i m σ' H' => m = ds.length - i ∧ ∃ F2 ρ2 p2, DInv (gb X T) C F2 H' σ' ρ2 p2 ∧ Same F1 F2 ∧ postS (gb X T) C W (forGo t s (ds.drop i) ρ2 p2) F2 D, ⟨ds.length, rfl, F1, ρ, p1, I1, Same.refl F1, q1⟩, ?_⟩
  rintro i m σ' H' ⟨hm, F2, ρ2, p2, I2, sm, q2⟩
  have y := yl F2 H' sm I2.fh I2.tb i
  by_cases hlt : i < ds.length
  · have hd : ds[i]? = some ds[i] := List.getElem?_eq_getElem hlt
    obtain ⟨go, yld⟩ := y.1 _ hd
    rw [List.drop_eq_getElem_cons hlt, forGo] at q2
    refine .inr ⟨go, fun σ3 H3 => ∃ F3 ρ3 p3, DInv (gb X T) C F3 H3 σ3 ρ3 p3 ∧ Same F1 F3 ∧ postS (gb X T) C W (forGo t s (ds.drop (i + 1)) ρ3 p3) F3 D, fun σ3 H3 h => ⟨ds.length - (i + 1), by omega, rfl, h⟩, fun v H3 hy => ?_⟩
    obtain ⟨F3, e3, fh3, r3, po3⟩ := yld v H3 hy
    have I3 := I2.ext e3 fh3 (po3 _ I2.po)
    have q3 := postS.ext e3.ff q2
    cases z : setTg t ds[i] ρ2 with
    | none => rw [z] at q3; exact q3.elim
    | some ρ3 =>
      rw [z] at q3
      refine ht F3 H3 σ' ρ2 ρ3 p2 ds[i] v _ I3 r3 z fun σ4 I4 => ?_
      exact loop_body (rest := forGo t s (ds.drop (i + 1))) I4 q3 fun F5 σ5 H5 ρ5 p5 I5 sm5 q5 => ⟨F5, ρ5, p5, I5, (sm.trans e3.ff).trans sm5, q5⟩
  · have hle : ds.length ≤ i := Nat.le_of_not_lt hlt
    rw [List.drop_of_length_le hle] at q2
    exact .inl ⟨y.2 hle, q2 σ' F2 H' I2 (Same.refl F2)⟩
/-- for x in .. -/
theorem sforn (i : Nat) {x : Str} {px : Pos} {iter : Expr} {body : List Stmt} {it : DI} (B : Bd X W k) (hi : PI X (.Name x px) iter (tI (gb X T) C W it)) (hb : PSs X body (tSS X T C W s)) (hp : C.ps ≠ i := by first | (dsimp only; decide) | decide) (hxi : X.N[i]? = some x := by rfl) (hx : Loc X.env.scope x := by first | exact .inl rfl | exact .inr rfl)
    (hf : X.fn x = true ∨ X.env.scope.names.lookup x = some .local := by first | exact .inl rfl | exact .inr rfl) (hs : ∀ x, foldedSetIterable iter X.env x = pure x := by intro _; rfl) :
    PS X (.For (.Name x px) iter body [] pos) (tSS X T C W (sFor it (.nm i) s)) := sfor (gt := gName i) B hi (pg_name B.nd hxi hx hf) (fun F H σ ρ ρ1 p d v Q I r e q => by
  cases e
  exact q _ (I.fz hp r)) hb hs
/-- for x, y in .. -/
theorem sfort (is : List Nat) {ts : List Expr} {kt : Nat} {pt : Pos} {iter : Expr} {body : List Stmt} {it : DI} (B : Bd X W k) (hi : PI X (.Tuple ts kt pt) iter (tI (gb X T) C W it)) (hg : GNs X ts is) (hb : PSs X body (tSS X T C W s)) (hp : ∀ i ∈ is, C.ps ≠ i := by first | (dsimp only; decide) | decide)
    (hn : (assignEach ts X.env).length = is.length := by rfl) (hst : (assignEach ts X.env).findIdx? (·.1) = none := by rfl) (hs : ∀ x, foldedSetIterable iter X.env x = pure x := by intro _; rfl) :
    PS X (.For (.Tuple ts kt pt) iter body [] pos) (tSS X T C W (sFor it (.tp is) s)) := sfor B hi (pg_tup B.calm hg.g hn hst) (fun F H σ ρ ρ1 p d v Q I r e q => gTup_of hp I r e q) hb hs
end
end DL
/-! DL8: what is walked: lists, tuples, ranges, numbered, paired. -/
namespace DL
set_option autoImplicit false
open PySem PySem.Spec L2 PyProof.Rows
/-! ### enumerate(tuple) -/
theorem meets_enumerate_newT (l : Addr) (items : Array Value) :
    Meets (Builtin.«enumerate.__new__» ⟨[.type "enumerate", .ref l], []⟩) (fun _ R s => s.heap.IsTuple l items ∧
      R (.ok (.ret (.ref (s.heap.push { cls := .type "tuple_iterator", data := .fields #[.ref l, .int 0 0] }).objs.size)))
        { s with heap := (s.heap.push { cls := .type "tuple_iterator", data := .fields #[.ref l, .int 0 0] }).push { cls := .type "enumerate", data := .fields #[.none, .bool false, .ref s.heap.objs.size, rawInt 0, .none, .none] } }) :=
  .of_wp fun prog w A R s h => by
    obtain ⟨hp, g, d, tk, os⟩ := s; obtain ⟨hL, h⟩ := h
    have hsub := sub_enumerate
    obtain ⟨o, hl, hc, n, hd⟩ := id hL
    have q1 : ∀ {A' : Around} {E : Value → Shared → Prop} {Q : Value → Shared → Prop}, Q (.ref hp.objs.size) ⟨hp.push { cls := .type "tuple_iterator", data := .fields #[.ref l, .int 0 0] }, g, d, tk, os⟩ → wpAny (model prog w) A' (pyIter (.ref l)) Q E ⟨hp, g, d, tk, os⟩ :=
      fun q => wpAny_pyIter_tuple (s := ⟨hp, g, d, tk, os⟩) hL q
    wp_walk using q1, wpAny_loadPart' hl
    refine wpAny_stack_any fun st => wpAny_pure ?_
    split
    · rename_i c _ _ _ _ _
      cases (c == Value.type "enumerate")
      · wp_walk using q1, wpAny_loadPart' hl
        exact ⟨_, rfl, h⟩
      · wp_walk using q1, wpAny_loadPart' hl
        exact ⟨_, rfl, h⟩
    · wp_walk using q1, wpAny_loadPart' hl
      exact ⟨_, rfl, h⟩
section
variable {prog : Program} {w : World} {A : Around} {E : Value → Shared → Prop} {s : Shared}
theorem call_enumerate_tup {l : Addr} {items : Array Value} {Q : Value → Shared → Prop} (hL : s.heap.IsTuple l items)
    (h : ∀ h', IsEnum h' (s.heap.objs.size + 1) s.heap.objs.size 0 .none → h'.IsTupleIter s.heap.objs.size l 0 → h'.objs.size = s.heap.objs.size + 2 →
      (∀ b o, s.heap.get? b = some o → h'.get? b = some o) → Q (.ref (s.heap.objs.size + 1)) { s with heap := h' }) :
    wpAny (model prog w) A (call (.type "enumerate") [.ref l]) Q E s := by
  refine callType_new F.called_enumerate (by decide) (F.typeCall_enumerate_1 _) (F.newCall_enumerate_1 _) (fun obj => F.args_object_init_2 obj _) F.entry_enumerate_new
    (meets_enumerate_newT l items) ⟨hL, ?_⟩
  have hz : (s.heap.push { cls := .type "tuple_iterator", data := .fields #[.ref l, .int 0 0] }).objs.size = s.heap.objs.size + 1 := Heap.size_push ..
  show _ ∧ _
  rw [hz]
  have he : IsEnum ((s.heap.push { cls := .type "tuple_iterator", data := .fields #[.ref l, .int 0 0] }).push
      { cls := .type "enumerate", data := .fields #[.none, .bool false, .ref s.heap.objs.size, rawInt 0, .none, .none] }) (s.heap.objs.size + 1) s.heap.objs.size 0 .none := by
    have := Heap.get?_push_size (s.heap.push { cls := .type "tuple_iterator", data := .fields #[.ref l, .int 0 0] })
      (o := { cls := .type "enumerate", data := .fields #[.none, .bool false, .ref s.heap.objs.size, rawInt 0, .none, .none] }) rfl
    rw [hz] at this; exact this
  refine ⟨⟨_, he, rfl⟩, h _ he ⟨_, Heap.get?_push_of_some _ (Heap.get?_push_size _ rfl), rfl, rfl⟩ (by rw [Heap.size_push, hz]) fun b o x => Heap.get?_push_of_some _ (Heap.get?_push_of_some _ x)⟩
end
def IteT (K : PySem.W.Frag) (a : Addr) : It :=
  ⟨fun i H => ∃ (xs : List V) (x : V), SqT K H a xs ∧ xs[i]? = some x, fun i H v H' => ∃ T x, v = .ref T ∧ H T = none ∧ H' = upd H T (.tup [.int (i : Nat), x]) ∧ ∀ xs, SqT K H a xs → xs[i]? = some x, fun i H => ∃ xs : List V, SqT K H a xs ∧ xs.length ≤ i⟩
theorem turn_enumT {P : Program} {w : World} {K : PySem.W.Frag} {elts : List Expr} {kk : Nat} {tpos : Pos} (a e it : Addr) (hae : a ≠ e) (hai : a ≠ it) :
    Turn P w K (.Tuple elts kk tpos) (IteT K a) [e, it] e (fun i h => (∃ old, IsEnum h e it ((i : Nat) : Int) old) ∧ h.IsTupleIter it a i ∧ e ≠ it) where
  mem := by simp
  obj := fun i h st b hb => by
    obtain ⟨⟨old, he⟩, ⟨o, ho, hc, hd⟩, _⟩ := st
    have e' : b = e ∨ b = it := by simpa using hb
    rcases e' with z | z
    · rw [z]; exact ⟨_, he, fun v q => nomatch q⟩
    · rw [z]; exact ⟨o, ho, fun v q => by rw [hd] at q; cases q⟩
  keep := fun i h h' st k => let ⟨⟨old, he⟩, hi, hne⟩ := st; ⟨⟨old, k e (by simp) _ he⟩, hi.at fun o q => k it (by simp) o q, hne⟩
  item := by
    intro X hP hw hK hc i pins s σ H E I hf st hg
    subst hP hw hK
    obtain ⟨⟨old, he⟩, hit, hne⟩ := st
    obtain ⟨xs, x, hq, hx⟩ := hg
    obtain ⟨its, rv, p, hz⟩ := I.tuple hq
    obtain ⟨u, hu, ru⟩ := rv.get hx
    have hel : e < s.heap.objs.size := Heap.lt_size he
    have hil : it < s.heap.objs.size := by obtain ⟨_, q, _⟩ := hit; exact Heap.lt_size q
    have hlt : i < its.toArray.size := by
      rcases Nat.lt_or_ge i its.length with z | z
      · simpa using z
      · rw [List.getElem?_eq_none z] at hu; cases hu
    refine wpAny_pyNext_enum_itemD (Draws.tuple (A := X.A.in1) (I.ok.hd hc) it a hai its.toArray) he ⟨hit, show s.heap.IsTuple a its.toArray from p⟩ hlt hne (by simp [hne, Ne.symm hae]) fun x' h' tk hx' ho hit' hT hsz hk => ?_
    have hu' : x' = u := by
      have h1 : its[i]? = some x' := by simpa using hx'
      rw [hu] at h1
      exact (Option.some.inj h1).symm
    subst hu'
    refine ⟨_, rfl, wpAny_letOwnedTupleGo_enum (s := { s with heap := h', toks := tk + 1 }) ho fun h'' he' sb => ?_⟩
    have hT2 : h''.get? s.heap.objs.size = some { cls := .type "tuple", data := .seq #[.int i tk, x'] } := (sb.2 _ (Nat.ne_of_gt hel)).trans hT
    have new : ObjOk X.prog X.w (upd H s.heap.objs.size (.tup [.int (i : Nat), x])) h'' s.heap.objs.size (.tup [.int (i : Nat), x]) :=
      ⟨by show 2 ≤ sizeLine; decide, [.int i tk, x'], .cons ⟨_, rfl⟩ (.cons ru .nil), ⟨_, hT2, rfl, _, rfl⟩⟩
    have I1 : Inv X pins σ (upd H s.heap.objs.size (.tup [.int (i : Nat), x])) { s with heap := h'', toks := tk + 1 } :=
      I.turnedNew (ch := [e, it]) (fun b ob hb q => (sb.2 b (fun z => hb (by simp [z]))).trans (hk b ob (fun z => hb (by simp [z])) (fun z => hb (by simp [z])) q)) hf (Nat.le_refl _) new
    refine ⟨.ref s.heap.objs.size, _, I1, rfl, ⟨_, x, rfl, I.hok.fresh (Nat.le_refl _), rfl, fun ys hy => by rw [I.tuple_inj hy hq]; exact hx⟩, ⟨⟨x', ?_⟩, hit'.1.at fun o q => (sb.2 it (Ne.symm hne)).trans q, hne⟩, fun b hb => ?_⟩
    · have e1 : ((i + 1 : Nat) : Int) = (i : Int) + 1 := by omega
      rw [e1]; exact he'
    · have hb' : b < s.heap.objs.size := by
        have e' : b = e ∨ b = it := by simpa using hb
        rcases e' with z | z
        · rw [z]; exact hel
        · rw [z]; exact hil
      rw [upd_ne (Nat.ne_of_lt hb')]
      exact (hf b hb).1
  done := by
    intro X hP hw hK hc i pins s σ H E I hf st hg
    subst hP hw hK
    obtain ⟨⟨old, he⟩, hit, hne⟩ := st
    obtain ⟨xs, hq, hx⟩ := hg
    obtain ⟨its, rv, p, hz⟩ := I.tuple hq
    obtain ⟨f0, f1, f2, f3, f4, f5⟩ := hf it (by simp)
    have hl := rv.length
    have hT : s.heap.IsTuple a its.toArray := p
    have hge : its.toArray.size ≤ i := by simp; omega
    have hT' : s.TypeIs (.ref e) "enumerate" := ⟨_, he, rfl⟩
    refine wpAny_pyNext_enum_endD (n := i) (fp := [it, a]) (P := fun _ _ => True) (St := fun j h => h.IsTupleIter it a i ∧ h.IsTuple a its.toArray ∧ j = i) ?_ he ⟨hit, hT, rfl⟩ fun h' eb => ⟨rfl, I.turned (t' := s.toks) (fun b o hb q => eb b o hb q) f0 f1 f3 f4 f5⟩
    exact {
      live := fun _ _ st => let ⟨o, ho, _⟩ := st.1; ⟨o, ho⟩
      frame := fun _ _ _ st hk => ⟨st.1.at fun o e => hk it (by simp) o e, st.2.1.at fun o e => hk a (by simp) o e, st.2.2⟩
      item := fun j s' Q E hi st hQ => by
        obtain ⟨st1, st2, st3⟩ := st
        exfalso
        omega
      done := fun s Q E st hE => wpAny_nextOf_tuple_end (I.ok.hd hc) st.1 st.2.1 (Array.getElem?_eq_none hge) hE }
  self := fun A i s Q E st h => let ⟨⟨_, he⟩, _⟩ := st; wpAny_pyIter_enum he h
theorem pi_enumT {X : Cx} {e : Expr} {ta : TA} {p pos tpos : Pos} {elts : List Expr} {kk : Nat} (hg : Gl X "enumerate") (hm : X.mg "enumerate" = none) (ha : PA X [e] ta) (hs : starEach [e] X.env = [(false, eval e X.env)] := by rfl) :
    PI X (.Tuple elts kk tpos) (.Call (.Name "enumerate" p) [e] [] pos) (fun σ H R => ta σ H fun vs H1 => ∃ a xs, vs = [.ref a] ∧ ((SqL X.K H1 a xs ∧ R (Ite X.K a) H1) ∨ (SqT X.K H1 a xs ∧ R (IteT X.K a) H1))) := by
  refine ⟨fun pins s σ H R I h => ?_⟩
  refine Call_ (ld_blt I hg hm boot_enumerate (PyProof.Rows.callWith_type1 (thn (ha.run pos pins s σ H _ I h) fun us s1 ⟨vs, H1, I1, r1, q1⟩ => ?_) hs rfl))
  obtain ⟨a, xs, ex, q⟩ := q1
  subst ex
  cases r1 with
  | cons r rr =>
    cases rr
    cases r
    rcases q with ⟨hq, q⟩ | ⟨hq, q⟩
    · obtain ⟨its, rv, p', hz⟩ := I1.list hq
      refine call_enumerate_list p'.isList fun h' he hit hsz hk => wpAny_pyIter_enum he ?_
      have I2 : L2.Inv X pins σ H1 { s1 with heap := h' } := I1.kept (t' := s1.toks) hk
      refine ⟨s1.heap.objs.size + 1, [s1.heap.objs.size + 1, s1.heap.objs.size], _, _, H1, rfl, I2, turn_enum a (s1.heap.objs.size + 1) s1.heap.objs.size, ⟨⟨.none, he⟩, hit, Nat.succ_ne_self _⟩, fun b hb => ?_, q⟩
      have e' : b = s1.heap.objs.size + 1 ∨ b = s1.heap.objs.size := by simpa using hb
      have hle : s1.heap.objs.size ≤ b := by
        rcases e' with z | z
        · rw [z]; exact Nat.le_add_right _ _
        · rw [z]; exact Nat.le_refl _
      exact I1.fpOk hle (I1.hok.fresh hle)
    · obtain ⟨its, rv, p', hz⟩ := I1.tuple hq
      obtain ⟨o, ho, _⟩ := id p'
      have hlt : a < s1.heap.objs.size := Heap.lt_size ho
      refine call_enumerate_tup (show s1.heap.IsTuple a its.toArray from p') fun h' he hit hsz hk => wpAny_pyIter_enum he ?_
      have I2 : L2.Inv X pins σ H1 { s1 with heap := h' } := I1.kept (t' := s1.toks) hk
      refine ⟨s1.heap.objs.size + 1, [s1.heap.objs.size + 1, s1.heap.objs.size], _, _, H1, rfl, I2, turn_enumT a (s1.heap.objs.size + 1) s1.heap.objs.size (Nat.ne_of_lt (Nat.lt_succ_of_lt hlt)) (Nat.ne_of_lt hlt), ⟨⟨.none, he⟩, hit, Nat.succ_ne_self _⟩, fun b hb => ?_, q⟩
      have e' : b = s1.heap.objs.size + 1 ∨ b = s1.heap.objs.size := by simpa using hb
      have hle : s1.heap.objs.size ≤ b := by
        rcases e' with z | z
        · rw [z]; exact Nat.le_add_right _ _
        · rw [z]; exact Nat.le_refl _
      exact I1.fpOk hle (I1.hok.fresh hle)
/-- a list or a tuple -/
theorem pi_seq {X : Cx} {tg l : Expr} {tl : TE} (hl : PE X l tl) : PI X tg l (fun σ H R => tl σ H fun x H1 => ∃ a xs, x = .ref a ∧ ((SqL X.K H1 a xs ∧ R (Itl X.K a) H1) ∨ (SqT X.K H1 a xs ∧ R (Itt X.K a) H1))) := by
  refine ⟨fun pins s σ H R I h => ?_⟩
  refine thn (hl.run pins s σ H _ I h) fun v s1 ⟨x, H1, I1, r1, q1⟩ => ?_
  obtain ⟨a, xs, e, q⟩ := q1
  subst e
  cases r1
  rcases q with ⟨hq, q⟩ | ⟨hq, q⟩
  · obtain ⟨its, rv, p, hz⟩ := I1.list hq
    refine wpAny_pyIter_list p.isList ?_
    refine ⟨s1.heap.objs.size, [s1.heap.objs.size], _, _, H1, rfl, I1.kept (t' := s1.toks) fun b o e => Heap.get?_push_of_some _ e, turn_list a _, ⟨_, Heap.get?_push_size _ rfl, rfl, rfl⟩, fun b hb => ?_, q⟩
    have e : b = s1.heap.objs.size := by simpa using hb
    subst e
    exact I1.fpOk (Nat.le_refl _) (I1.hok.fresh (Nat.le_refl _))
  · obtain ⟨its, rv, p, hz⟩ := I1.tuple hq
    refine wpAny_pyIter_tuple (show s1.heap.IsTuple a its.toArray from p) ?_
    refine ⟨s1.heap.objs.size, [s1.heap.objs.size], _, _, H1, rfl, I1.kept (t' := s1.toks) fun b o e => Heap.get?_push_of_some _ e, turn_tuple a _, ⟨_, Heap.get?_push_size _ rfl, rfl, rfl⟩, fun b hb => ?_, q⟩
    have e : b = s1.heap.objs.size := by simpa using hb
    subst e
    exact I1.fpOk (Nat.le_refl _) (I1.hok.fresh (Nat.le_refl _))
/-! ### as data -/
theorem impI {X : Cx} {tg e : Expr} {t t' : TI} (h : PI X tg e t) (i : ∀ σ H R, t' σ H R → t σ H R) : PI X tg e t' := ⟨fun pins s σ H R I q => h.run pins s σ H R I (i σ H R q)⟩
section
variable {X : Cx} {T : List (Addr × Str)} {C : DC} {W : WX} {G : Gb} {F F' H H' : Hp} {σ : L2.St} {ρ : Env'} {p : Pot} {K : PySem.W.Frag} {e e2 tg : Expr} {pos tpos p0 : Pos} {f g : DE} {elts : List Expr} {kk : Nat}
/-- what a list is, however it stands -/
theorem SqL.at {xs ys : List V} {a : Addr} (h : H a = some (.lst xs)) (hq : SqL K H a ys) : Rd H a (.lst ys) ∨ True := .inr trivial
theorem y_lst {a : Addr} {xs : List V} {ds : List D} (hf : F a = some (.lst xs)) (r : Reps G F ds xs) : Yields G C F (Itl K a) ds := by
  intro F1 H1 sm fh tb i
  have h1 : H1 a = some (.lst xs) := fh _ _ (sm _ _ hf)
  refine ⟨fun d hd => ?_, fun hle => ⟨xs, .of h1, by rw [r.length]; exact hle⟩⟩
  obtain ⟨v, hv, rv⟩ : ∃ v, xs[i]? = some v ∧ Rep G F d v := by
    have hlt : i < xs.length := by
      rw [r.length]
      rcases Nat.lt_or_ge i ds.length with z | z
      · exact z
      · rw [List.getElem?_eq_none z] at hd; cases hd
    obtain ⟨d', q1, q2⟩ := r.at (n := i) (v := xs[i]) (List.getElem?_eq_getElem hlt)
    rw [hd] at q1
    cases q1
    exact ⟨_, List.getElem?_eq_getElem hlt, q2⟩
  refine ⟨⟨xs, v, .of h1, hv⟩, fun v' H' hy => ?_⟩
  obtain ⟨e, hy⟩ := hy
  subst e
  have := hy xs (.of h1)
  rw [hv] at this
  cases this
  exact ⟨F1, Ext.refl _ _, fh, Rep.mono sm _ _ rv, fun p h => h⟩
theorem y_tup {a : Addr} {xs : List V} {ds : List D} (hf : F a = some (.tup xs)) (r : Reps G F ds xs) : Yields G C F (Itt K a) ds := by
  intro F1 H1 sm fh tb i
  have h1 : H1 a = some (.tup xs) := fh _ _ (sm _ _ hf)
  refine ⟨fun d hd => ?_, fun hle => ⟨xs, .of h1, by rw [r.length]; exact hle⟩⟩
  obtain ⟨v, hv, rv⟩ : ∃ v, xs[i]? = some v ∧ Rep G F d v := by
    have hlt : i < xs.length := by
      rw [r.length]
      rcases Nat.lt_or_ge i ds.length with z | z
      · exact z
      · rw [List.getElem?_eq_none z] at hd; cases hd
    obtain ⟨d', q1, q2⟩ := r.at (n := i) (v := xs[i]) (List.getElem?_eq_getElem hlt)
    rw [hd] at q1
    cases q1
    exact ⟨_, List.getElem?_eq_getElem hlt, q2⟩
  refine ⟨⟨xs, v, .of h1, hv⟩, fun v' H' hy => ?_⟩
  obtain ⟨e, hy⟩ := hy
  subst e
  have := hy xs (.of h1)
  rw [hv] at this
  cases this
  exact ⟨F1, Ext.refl _ _, fh, Rep.mono sm _ _ rv, fun p h => h⟩
theorem ints_at : ∀ (lo : Int) (n i : Nat) (d : D), (intsD lo n)[i]? = some d → i < n ∧ d = .int (lo + i)
  | lo, 0, i, d, h => by simp [intsD] at h
  | lo, n + 1, 0, d, h => by
    simp [intsD] at h
    exact ⟨Nat.succ_pos _, by rw [← h]; simp⟩
  | lo, n + 1, i + 1, d, h => by
    rw [intsD, List.getElem?_cons_succ] at h
    obtain ⟨h1, h2⟩ := ints_at (lo + 1) n i d h
    refine ⟨Nat.succ_lt_succ h1, ?_⟩
    rw [h2]
    congr 1
    omega
theorem ints_len : ∀ (lo : Int) (n : Nat), (intsD lo n).length = n
  | _, 0 => rfl
  | lo, n + 1 => by rw [intsD, List.length_cons, ints_len]
theorem y_rng {lo : Int} {n : Nat} : Yields G C F (Itr lo n) (intsD lo n) := by
  intro F1 H1 sm fh tb i
  refine ⟨fun d hd => ?_, fun hle => by rw [ints_len] at hle; exact hle⟩
  obtain ⟨h1, h2⟩ := ints_at _ _ _ _ hd
  refine ⟨h1, fun v H' hy => ?_⟩
  obtain ⟨e1, e2⟩ := hy
  subst e1 e2 h2
  exact ⟨F1, Ext.refl _ _, fh, by unfold Rep; rfl, fun p h => h⟩
theorem numbered_at : ∀ (n : Nat) (xs : List D) (i : Nat) (d : D), (numbered n xs)[i]? = some d → ∃ x, xs[i]? = some x ∧ d = .tup [.int ((n + i : Nat) : Int), x]
  | n, [], i, d, h => by simp [numbered] at h
  | n, x :: xs, 0, d, h => by
    simp [numbered] at h
    exact ⟨x, by simp, by rw [← h]; simp⟩
  | n, x :: xs, i + 1, d, h => by
    rw [numbered, List.getElem?_cons_succ] at h
    obtain ⟨y, h1, h2⟩ := numbered_at (n + 1) xs i d h
    refine ⟨y, by simpa using h1, ?_⟩
    rw [h2]
    have : n + 1 + i = n + (i + 1) := by omega
    rw [this]
theorem numbered_len : ∀ (n : Nat) (xs : List D), (numbered n xs).length = xs.length
  | _, [] => rfl
  | n, x :: xs => by rw [numbered, List.length_cons, List.length_cons, numbered_len]
theorem rep_pair {a : Addr} {d1 d2 : D} {v1 v2 : V} (fh : Same F H) (n : H a = none) (r1 : Rep G F d1 v1) (r2 : Rep G F d2 v2) : Rep G (upd F a (.tup [v1, v2])) (.tup [d1, d2]) (.ref a) := by
  have sm : Same F (upd F a (.tup [v1, v2])) := (ext_new (T := []) (pa := none) fh n).ff
  unfold Rep
  exact ⟨a, [v1, v2], rfl, upd_same, (by decide : 2 ≤ lim), .cons (Rep.mono sm _ _ r1) (.cons (Rep.mono sm _ _ r2) .nil)⟩
theorem yield_pair {F1 H1 : Hp} {a : Addr} {d1 d2 : D} {v1 v2 : V} {T : List (Addr × Str)} (fh : Same F1 H1) (n : H1 a = none) (r1 : Rep G F1 d1 v1) (r2 : Rep G F1 d2 v2) :
    ∃ F', Ext T C.pa F1 H1 F' (upd H1 a (.tup [v1, v2])) ∧ Same F' (upd H1 a (.tup [v1, v2])) ∧ Rep G F' (.tup [d1, d2]) (.ref a) ∧ (∀ p, PotOk C.pa F1 H1 p → PotOk C.pa F' (upd H1 a (.tup [v1, v2])) p) :=
  ⟨upd F1 a (.tup [v1, v2]), ext_new fh n, same_new fh, rep_pair fh n r1 r2, fun p h => h.new fh n⟩
theorem reps_at {ds : List D} {xs : List V} {i : Nat} {d : D} (r : Reps G F ds xs) (h : ds[i]? = some d) : ∃ v, xs[i]? = some v ∧ Rep G F d v := by
  have hlt : i < xs.length := by
    rw [r.length]
    rcases Nat.lt_or_ge i ds.length with z | z
    · exact z
    · rw [List.getElem?_eq_none z] at h; cases h
  obtain ⟨d', q1, q2⟩ := r.at (n := i) (v := xs[i]) (List.getElem?_eq_getElem hlt)
  rw [h] at q1
  cases q1
  exact ⟨_, List.getElem?_eq_getElem hlt, q2⟩
theorem y_enl {a : Addr} {xs : List V} {ds : List D} (hf : F a = some (.lst xs)) (r : Reps G F ds xs) : Yields G C F (Ite K a) (numbered 0 ds) := by
  intro F1 H1 sm fh tb i
  have h1 : H1 a = some (.lst xs) := fh _ _ (sm _ _ hf)
  refine ⟨fun d hd => ?_, fun hle => ⟨xs, .of h1, by rw [r.length]; rw [numbered_len] at hle; exact hle⟩⟩
  obtain ⟨x, hx, e⟩ := numbered_at _ _ _ _ hd
  obtain ⟨v, hv, rv⟩ := reps_at r hx
  refine ⟨⟨xs, v, .of h1, hv⟩, fun v' H' hy => ?_⟩
  obtain ⟨T, x', e1, n, e2, hy⟩ := hy
  have := hy xs (.of h1)
  rw [hv] at this
  cases this
  subst e1 e2 e
  rw [Nat.zero_add]
  exact yield_pair fh n (by unfold Rep; rfl) (Rep.mono sm _ _ rv)
theorem y_ent {a : Addr} {xs : List V} {ds : List D} (hf : F a = some (.tup xs)) (r : Reps G F ds xs) : Yields G C F (IteT K a) (numbered 0 ds) := by
  intro F1 H1 sm fh tb i
  have h1 : H1 a = some (.tup xs) := fh _ _ (sm _ _ hf)
  refine ⟨fun d hd => ?_, fun hle => ⟨xs, .of h1, by rw [r.length]; rw [numbered_len] at hle; exact hle⟩⟩
  obtain ⟨x, hx, e⟩ := numbered_at _ _ _ _ hd
  obtain ⟨v, hv, rv⟩ := reps_at r hx
  refine ⟨⟨xs, v, .of h1, hv⟩, fun v' H' hy => ?_⟩
  obtain ⟨T, x', e1, n, e2, hy⟩ := hy
  have := hy xs (.of h1)
  rw [hv] at this
  cases this
  subst e1 e2 e
  rw [Nat.zero_add]
  exact yield_pair fh n (by unfold Rep; rfl) (Rep.mono sm _ _ rv)
theorem pairUp_at : ∀ (xs ys : List D) (i : Nat) (d : D), (pairUp xs ys)[i]? = some d → ∃ x y, xs[i]? = some x ∧ ys[i]? = some y ∧ d = .tup [x, y]
  | [], ys, i, d, h => by simp [pairUp] at h
  | x :: xs, [], i, d, h => by simp [pairUp] at h
  | x :: xs, y :: ys, 0, d, h => by
    simp [pairUp] at h
    exact ⟨x, y, by simp, by simp, h.symm⟩
  | x :: xs, y :: ys, i + 1, d, h => by
    rw [pairUp, List.getElem?_cons_succ] at h
    obtain ⟨a, b, h1, h2, h3⟩ := pairUp_at xs ys i d h
    exact ⟨a, b, by simpa using h1, by simpa using h2, h3⟩
theorem pairUp_len : ∀ (xs ys : List D), (pairUp xs ys).length = min xs.length ys.length
  | [], ys => by simp [pairUp]
  | x :: xs, [] => by simp [pairUp]
  | x :: xs, y :: ys => by
    rw [pairUp, List.length_cons, List.length_cons, List.length_cons, pairUp_len]
    omega
theorem y_zpl {a b : Addr} {xs ys : List V} {ds es : List D} (hf : F a = some (.lst xs)) (hg : F b = some (.lst ys)) (r : Reps G F ds xs) (r2 : Reps G F es ys) : Yields G C F (Itz K a b) (pairUp ds es) := by
  intro F1 H1 sm fh tb i
  have h1 : H1 a = some (.lst xs) := fh _ _ (sm _ _ hf)
  have h2 : H1 b = some (.lst ys) := fh _ _ (sm _ _ hg)
  refine ⟨fun d hd => ?_, fun hle => ⟨xs, ys, .of h1, .of h2, by rw [r.length, r2.length]; rw [pairUp_len] at hle; omega⟩⟩
  obtain ⟨x, y, hx, hy, e⟩ := pairUp_at _ _ _ _ hd
  obtain ⟨v, hv, rv⟩ := reps_at r hx
  obtain ⟨w, hw, rw'⟩ := reps_at r2 hy
  refine ⟨⟨xs, ys, v, w, .of h1, .of h2, hv, hw⟩, fun v' H' hy => ?_⟩
  obtain ⟨T, x', y', e1, n, e2, hy1, hy2⟩ := hy
  have q1 := hy1 xs (.of h1)
  have q2 := hy2 ys (.of h2)
  rw [hv] at q1
  rw [hw] at q2
  cases q1
  cases q2
  subst e1 e2 e
  exact yield_pair fh n (Rep.mono sm _ _ rv) (Rep.mono sm _ _ rw')
theorem y_zpt {a b : Addr} {xs ys : List V} {ds es : List D} (hf : F a = some (.tup xs)) (hg : F b = some (.tup ys)) (r : Reps G F ds xs) (r2 : Reps G F es ys) : Yields G C F (RZ.ItzT K a b) (pairUp ds es) := by
  intro F1 H1 sm fh tb i
  have h1 : H1 a = some (.tup xs) := fh _ _ (sm _ _ hf)
  have h2 : H1 b = some (.tup ys) := fh _ _ (sm _ _ hg)
  refine ⟨fun d hd => ?_, fun hle => ⟨xs, ys, .of h1, .of h2, by rw [r.length, r2.length]; rw [pairUp_len] at hle; omega⟩⟩
  obtain ⟨x, y, hx, hy, e⟩ := pairUp_at _ _ _ _ hd
  obtain ⟨v, hv, rv⟩ := reps_at r hx
  obtain ⟨w, hw, rw'⟩ := reps_at r2 hy
  refine ⟨⟨xs, ys, v, w, .of h1, .of h2, hv, hw⟩, fun v' H' hy => ?_⟩
  obtain ⟨T, x', y', e1, n, e2, hy1, hy2⟩ := hy
  have q1 := hy1 xs (.of h1)
  have q2 := hy2 ys (.of h2)
  rw [hv] at q1
  rw [hw] at q2
  cases q1
  cases q2
  subst e1 e2 e
  exact yield_pair fh n (Rep.mono sm _ _ rv) (Rep.mono sm _ _ rw')
/-! ### for x in e -/
theorem iv (he : PE X e (tE (gb X T) C W f)) : PI X tg e (tI (gb X T) C W (itV f)) := impI (pi_seq he) fun σ H R ⟨F, ρ, p, I, q⟩ => by
  refine tG_mono (fun v H1 z => ?_) (tG_bind I q)
  obtain ⟨F1, d, p1, I1, e1, r1, q1⟩ := z
  cases d with
  | lst xs =>
    unfold Rep at r1
    obtain ⟨a, vs, e, h1, l, r⟩ := r1
    exact ⟨a, vs, e, .inl ⟨.of (I1.fh _ _ h1), q1.now I1 ⟨y_lst h1 r, l⟩⟩⟩
  | tup xs =>
    unfold Rep at r1
    obtain ⟨a, vs, e, h1, l, r⟩ := r1
    exact ⟨a, vs, e, .inr ⟨.of (I1.fh _ _ h1), q1.now I1 ⟨y_tup h1 r, l⟩⟩⟩
  | _ => exact q1.elim
theorem ir1 (he : PE X e (tE (gb X T) C W f)) (hg : Gl X "range") (hm : X.mg "range" = none) (hs : starEach [e] X.env = [(false, eval e X.env)] := by rfl) : PI X tg (.Call (.Name "range" p0) [e] [] pos) (tI (gb X T) C W (itR1 f)) :=
  impI (pi_range1 hg hm (pa_cons he pa_nil hs) hs) fun σ H R ⟨F, ρ, p, I, q⟩ => by
    refine tG_mono (fun v H1 z => ?_) (tG_bind I q)
    obtain ⟨F1, d, p1, I1, e1, r1, q1⟩ := z
    cases d with
    | int n =>
      unfold Rep at r1
      subst r1
      simp only at q1
      by_cases hn : -1000000000 ≤ n ∧ n ≤ (lim : Int)
      · rw [if_pos hn] at q1
        exact ⟨n, rfl, Int.le_trans (by decide) hn.1, Int.lt_of_le_of_lt hn.2 (by decide), q1.now I1 ⟨y_rng, by rw [ints_len]; omega⟩⟩
      · rw [if_neg hn] at q1
        exact q1.elim
    | _ => exact q1.elim
theorem ir2 (he : PE X e (tE (gb X T) C W f)) (he2 : PE X e2 (tE (gb X T) C W g)) (hg : Gl X "range") (hm : X.mg "range" = none) (hs : starEach [e, e2] X.env = [(false, eval e X.env), (false, eval e2 X.env)] := by rfl) (hs2 : starEach [e2] X.env = [(false, eval e2 X.env)] := by rfl) :
    PI X tg (.Call (.Name "range" p0) [e, e2] [] pos) (tI (gb X T) C W (itR2 f g)) :=
  impI (pi_range2 hg hm (pa_cons he (pa_cons he2 pa_nil hs2) (by rw [hs, hs2])) hs hs2) fun σ H R ⟨F, ρ, p, I, q⟩ => by
    refine tG_mono (fun v H1 z => ?_) (tG_bind I q)
    obtain ⟨F1, d, p1, I1, e1, r1, q1⟩ := z
    refine tG_mono (fun v2 H2 z => ?_) (tG_bind I1 q1)
    obtain ⟨F2, d2, p2, I2, e2, r2, q2⟩ := z
    cases d with
    | int m =>
      cases d2 with
      | int n =>
        unfold Rep at r1 r2
        subst r1 r2
        simp only at q2
        by_cases hn : (-1000000000 ≤ m ∧ m ≤ 1000000000) ∧ (-1000000000 ≤ n ∧ n ≤ 1000000000) ∧ n - m ≤ (lim : Int)
        · rw [if_pos hn] at q2
          obtain ⟨h1, h2, h3⟩ := hn
          exact ⟨m, n, rfl, ⟨Int.le_trans (by decide) h1.1, Int.lt_of_le_of_lt h1.2 (by decide), Int.le_trans (by decide) h2.1, Int.lt_of_le_of_lt h2.2 (by decide)⟩, q2.now I2 ⟨y_rng, by rw [ints_len]; omega⟩⟩
        · rw [if_neg hn] at q2
          exact q2.elim
      | _ => exact q2.elim
    | _ => exact q2.elim
theorem ie (he : PE X e (tE (gb X T) C W f)) (hg : Gl X "enumerate") (hm : X.mg "enumerate" = none) (hs : starEach [e] X.env = [(false, eval e X.env)] := by rfl) : PI X (.Tuple elts kk tpos) (.Call (.Name "enumerate" p0) [e] [] pos) (tI (gb X T) C W (itE f)) :=
  impI (pi_enumT hg hm (pa_cons he pa_nil hs) hs) fun σ H R ⟨F, ρ, p, I, q⟩ => by
    refine tG_mono (fun v H1 z => ?_) (tG_bind I q)
    obtain ⟨F1, d, p1, I1, e1, r1, q1⟩ := z
    cases d with
    | lst xs =>
      unfold Rep at r1
      obtain ⟨a, vs, e, h1, l, r⟩ := r1
      subst e
      exact ⟨a, vs, rfl, .inl ⟨.of (I1.fh _ _ h1), q1.now I1 ⟨y_enl h1 r, by rw [numbered_len]; exact l⟩⟩⟩
    | tup xs =>
      unfold Rep at r1
      obtain ⟨a, vs, e, h1, l, r⟩ := r1
      subst e
      exact ⟨a, vs, rfl, .inr ⟨.of (I1.fh _ _ h1), q1.now I1 ⟨y_ent h1 r, by rw [numbered_len]; exact l⟩⟩⟩
    | _ => exact q1.elim
theorem iz (he : PE X e (tE (gb X T) C W f)) (he2 : PE X e2 (tE (gb X T) C W g)) (hg : Gl X "zip") (hm : X.mg "zip" = none)
    (hs : starEach [e, e2] X.env = (false, eval e X.env) :: starEach [e2] X.env := by rfl) (hs2 : starEach [e2] X.env = (false, eval e2 X.env) :: starEach [] X.env := by rfl) (hpl : (backTo pos (starEach [e2] X.env)).any (·.1) = false := by rfl) :
    PI X (.Tuple elts kk tpos) (.Call (.Name "zip" p0) [e, e2] [] pos) (tI (gb X T) C W (itZ f g)) :=
  impI (RZ.pi_zipA hg hm (pa_cons he (pa_cons he2 pa_nil hs2) hs) hs hpl) fun σ H R ⟨F, ρ, p, I, q⟩ => by
    refine tG_mono (fun v H1 z => ?_) (tG_bind I q)
    obtain ⟨F1, d, p1, I1, e1, r1, q1⟩ := z
    refine tG_mono (fun v2 H2 z => ?_) (tG_bind I1 q1)
    obtain ⟨F2, d2, p2, I2, e2, r2, q2⟩ := z
    cases d with
    | lst xs =>
      cases d2 with
      | lst ys =>
        unfold Rep at r1 r2
        obtain ⟨a, vs, e, h1, l, r⟩ := r1
        obtain ⟨b, us, e', h2, l2, r'⟩ := r2
        subst e e'
        have h1' := e2.ff _ _ h1
        exact ⟨a, b, vs, us, rfl, .inl ⟨.of (I2.fh _ _ h1'), .of (I2.fh _ _ h2), q2.now I2 ⟨y_zpl h1' h2 (Reps.mono e2.ff _ _ r) r', by rw [pairUp_len]; exact Nat.le_trans (Nat.min_le_left _ _) l⟩⟩⟩
      | _ => exact q2.elim
    | tup xs =>
      cases d2 with
      | tup ys =>
        unfold Rep at r1 r2
        obtain ⟨a, vs, e, h1, l, r⟩ := r1
        obtain ⟨b, us, e', h2, l2, r'⟩ := r2
        subst e e'
        have h1' := e2.ff _ _ h1
        exact ⟨a, b, vs, us, rfl, .inr ⟨.of (I2.fh _ _ h1'), .of (I2.fh _ _ h2), q2.now I2 ⟨y_zpt h1' h2 (Reps.mono e2.ff _ _ r) r', by rw [pairUp_len]; exact Nat.le_trans (Nat.min_le_left _ _) l⟩⟩⟩
      | _ => exact q2.elim
    | _ => exact q2.elim
end
end DL
/-! DL9: list comprehensions. -/
namespace DL
set_option autoImplicit false
open PySem PySem.Spec L2 PyProof.Rows
/-! ### wiped slots -/
theorem wipe_in {σ : L2.St} {i : Nat} : ∀ {vs : List Nat}, i ∈ vs → (wipe σ vs)[i]? = if i < σ.length then some none else none
  | [], h => nomatch h
  | v :: vs, h => by
    unfold wipe
    by_cases e : v = i
    · subst e
      by_cases hl : v < σ.length
      · rw [List.getElem?_set_self (by rw [wipe_length]; exact hl), if_pos hl]
      · rw [if_neg hl, List.getElem?_eq_none (by rw [List.length_set, wipe_length]; omega)]
    · rw [List.getElem?_set_ne e]
      exact wipe_in ((List.mem_cons.mp h).resolve_left (Ne.symm e))
theorem wipe_set {σ : L2.St} {i : Nat} {o : Option V} {vs : List Nat} (h : i ∈ vs) : wipe (σ.set i o) vs = wipe σ vs := by
  apply List.ext_getElem?
  intro j
  by_cases hj : j ∈ vs
  · rw [wipe_in hj, wipe_in hj, List.length_set]
  · rw [wipe_out hj, wipe_out hj, List.getElem?_set_ne (fun e => hj (by rw [← e]; exact h))]
theorem wipe_wipe {σ : L2.St} {vs : List Nat} : wipe (wipe σ vs) vs = wipe σ vs := by
  apply List.ext_getElem?
  intro j
  by_cases hj : j ∈ vs
  · rw [wipe_in hj, wipe_in hj, wipe_length]
  · rw [wipe_out hj]
theorem wipe_gtp {vs : List Nat} : ∀ {is : List Nat} {xs : List V} {σ : L2.St}, (∀ i ∈ is, i ∈ vs) → wipe (gtp is xs σ) vs = wipe σ vs
  | [], _, _, _ => rfl
  | _ :: _, [], _, _ => rfl
  | i :: is, x :: xs, σ, h => by
    rw [gtp, wipe_gtp (fun j hj => h j (List.mem_cons_of_mem _ hj)), wipe_set (h i List.mem_cons_self)]
theorem nth_wipes_in {ρ : Env'} {i : Nat} : ∀ {vs : List Nat}, i ∈ vs → nth (wipes vs ρ) i = .un
  | [], h => nomatch h
  | v :: vs, h => by
    rw [wipes]
    by_cases e : v = i
    · subst e
      by_cases hi : v < (wipes vs ρ).length
      · exact nth_put_same _ _ _ hi
      · rw [put_out _ _ _ (Nat.le_of_not_lt hi)]; exact nth_out _ _ (Nat.le_of_not_lt hi)
    · rw [nth_put_ne _ _ _ _ (Ne.symm e)]
      exact nth_wipes_in ((List.mem_cons.mp h).resolve_left (Ne.symm e))
theorem wipes_len {ρ : Env'} : ∀ {vs : List Nat}, (wipes vs ρ).length = ρ.length
  | [] => rfl
  | v :: vs => by rw [wipes, put_length, wipes_len]
section
variable {G : Gb} {C : DC} {W : WX} {F H F1 H1 F2 H2 : Hp} {σ : L2.St} {ρ : Env'} {p : Pot}
theorem DInv.wipe (I : DInv G C F H σ ρ p) {vs : List Nat} (hp : C.ps ∉ vs) : DInv G C F H (wipe σ vs) (wipes vs ρ) p := by
  have J := I.forgets vs
  refine ⟨J.toBInv, fun i => ?_, fun i j a hij h1 h2 h3 => ?_, fun a e => ?_, ?_⟩
  · by_cases hi : i ∈ vs
    · rw [nth_wipes_in hi]; trivial
    · rw [wipe_out hi]; exact J.sl i
  · have hi : i ∉ vs := fun hi => by rw [nth_wipes_in hi] at h2; cases h2
    by_cases hj : j ∈ vs
    · rw [nth_wipes_in hj]; rfl
    · rw [wipe_out hi] at h1
      rw [wipe_out hj] at h3
      exact J.ds i j a hij h1 h2 h3
  · obtain ⟨q1, q2⟩ := J.ps a e
    exact ⟨by rw [wipe_out hp]; exact q1, q2⟩
  · rw [wipes_len, wipe_length]; exact I.ln
/-- the new list takes another content -/
theorem Tabs.updL {T : List (Addr × Str)} {a : Addr} {xs : List V} {o : HO} (t : LamX.Tabs T H) (h : H a = some (.lst xs)) : LamX.Tabs T (upd H a o) := fun p hp => by
  obtain ⟨ps, h1, h2, h3⟩ := t p hp
  refine ⟨ps, ?_, h2, fun pos cv hc => ?_⟩
  · rw [upd_ne (fun e => by rw [e, h] at h1; cases h1)]; exact h1
  · obtain ⟨c, e1, e2⟩ := h3 pos cv hc
    refine ⟨c, e1, ?_⟩
    rw [upd_ne (fun e => by rw [e, h] at e2; cases e2)]
    exact e2
theorem Ext.upL {T : List (Addr × Str)} {pa : Option Addr} {a : Addr} {xs : List V} {o : HO} (e : Ext T pa F H F2 H2) (n : H a = none) (h : H2 a = some (.lst xs)) : Ext T pa F H F2 (upd H2 a o) :=
  ⟨e.ff, e.fr, fun b u q p t => by rw [upd_ne (ne_of_none q n)]; exact e.hh b u q p t, fun b q => by
    obtain ⟨u, q1, q2⟩ := e.dm b q
    exact ⟨u, by rw [upd_ne (q.ne n)]; exact q1, q2⟩, fun t => Tabs.updL (e.tb t) h, e.nt⟩
theorem PotOk.upL {pa : Option Addr} {a : Addr} {xs : List V} {o : HO} (fh : Same F2 H2) (x : PotOk pa F2 H2 p) (np : pa ≠ some a) (fa : F2 a = none) : PotOk pa F2 (upd H2 a o) p := fun b e => by
  obtain ⟨f, g, c, q1, q2⟩ := x b e
  have n1 : b ≠ a := fun z => by rw [z] at e; exact np e
  exact ⟨f, g, c, by rw [upd_ne n1]; exact q1, q2⟩
theorem same_upL {a : Addr} {o : HO} (fh : Same F2 H2) (fa : F2 a = none) : Same F2 (upd H2 a o) := fun b u q => by rw [upd_ne (ne_of_none q fa)]; exact fh b u q
end
/-- a target's reading: the new slots -/
structure TgR (G : Gb) (C : DC) (gt : TG) (t : Tg) (is : List Nat) : Prop where
  st : ∀ F H σ ρ ρ1 p d v (Q : L2.St → Hp → Prop), DInv G C F H σ ρ p → Rep G F d v → setTg t d ρ = some ρ1 → (∀ σ1, DInv G C F H σ1 ρ1 p → (∀ vs : List Nat, (∀ i ∈ is, i ∈ vs) → wipe σ1 vs = wipe σ vs) → Q σ1 H) → gt v σ H Q
theorem tgr_nm {G : Gb} {C : DC} {i : Nat} (hp : C.ps ≠ i) : TgR G C (gName i) (.nm i) [i] := ⟨fun F H σ ρ ρ1 p d v Q I r h q => by
  cases h
  exact q _ (I.fz hp r) fun vs hv => wipe_set (hv i List.mem_cons_self)⟩
theorem tgr_tp {G : Gb} {C : DC} {K : PySem.W.Frag} {is : List Nat} (hp : ∀ i ∈ is, C.ps ≠ i) : TgR G C (gTup K is.length (gNames is)) (.tp is) is := ⟨fun F H σ ρ ρ1 p d v Q I r h q => by
  cases d with
  | tup xs =>
    unfold Rep at r
    obtain ⟨a, vs, e, h1, l, r1⟩ := r
    have h' : putAll is xs ρ = some ρ1 := h
    have n1 := r1.length
    have n2 := putAll_len h'
    exact ⟨a, vs, e, SqT.of (I.fh _ _ h1), by omega, gNames_of (by omega) (q _ (putAll_inv hp h' r1 I) fun ws hw => wipe_gtp hw)⟩
  | _ => cases h⟩
/-- no error leaves a comprehension -/
def noX {α : Type} (m : M α) : M α := fun p => match m p with
  | .ok a p' => .ok a p'
  | _ => .err
theorem noX_bind {α β γ : Type} (m : M α) (k : α → M β) (l : β → M γ) (p : Pot) : bindM (noX (bindM m k)) l p = match m p with
  | .ok a p1 => bindM (noX (k a)) l p1
  | _ => .err := by
  show (match (match (match m p with | .ok a p' => k a p' | .exc e p' => .exc e p' | .err => .err : Res β) with | .ok a p' => .ok a p' | _ => .err : Res β) with | .ok a p' => l a p' | .exc e p' => .exc e p' | .err => .err) = _
  cases m p <;> rfl
def dCmp (it : DI) (tg : Tg) (c : Option DE) (e : DE) (vs : List Nat) : DE := fun ρ => bindM (it ρ) fun xs => bindM (noX (compGo tg c e (wipes vs ρ) xs)) fun ys => retM (.lst ys)
def W0 : WX := fun _ _ _ _ => False
section
variable {X : Cx} {T : List (Addr × Str)} {C : DC} {W : WX} {F H : Hp} {σ : L2.St} {ρ : Env'} {p : Pot} {f g : DE} {it : DI}
theorem compGo_len : ∀ {tg : Tg} {c : Option DE} {e : DE} {ρ : Env'} {xs ys : List D} {p p' : Pot}, compGo tg c e ρ xs p = .ok ys p' → ys.length ≤ xs.length
  | tg, c, e, ρ, [], ys, p, p', h => by cases h; exact Nat.le_refl _
  | tg, c, e, ρ, x :: xs, ys, p, p', h => by
    rw [compGo] at h
    cases z : setTg tg x ρ with
    | none => rw [z] at h; cases h
    | some ρ1 =>
      rw [z] at h
      have fin : ∀ {p ys}, (bindM (e ρ1) fun y => bindM (compGo tg c e ρ xs) fun ys => retM (y :: ys)) p = .ok ys p' → ys.length ≤ xs.length + 1 := fun h => by
        obtain ⟨y, p1, h1, h2⟩ := bindM_ok h
        obtain ⟨zs, p2, h3, h4⟩ := bindM_ok h2
        cases h4
        exact Nat.succ_le_succ (compGo_len h3)
      cases c with
      | none => exact fin h
      | some t =>
        obtain ⟨b, p1, h1, h2⟩ := bindM_ok h
        cases b with
        | true => exact fin h2
        | false => exact Nat.le_succ_of_le (compGo_len h2)
/-- a test's reading, if there is one -/
def tCnd (G : Gb) (C : DC) : Option DE → TT
  | none => tYes
  | some t => tT G C W0 t
/-- where the block stands: the list at L so far -/
structure CI (G : Gb) (C : DC) (F1 H1 : Hp) (L : Addr) (F H : Hp) (p : Pot) (ys : List D) (acc : List V) : Prop where
  ext : Ext G.T C.pa F1 H1 F H
  fh : Same F H
  po : PotOk C.pa F H p
  fd : F L = none
  hd : H L = some (.lst acc)
  rp : Reps G F ys acc
theorem comp_imp {G : Gb} {tg : Tg} {gt : TG} {is vs : List Nat} {c : Option DE} {e : DE} (hp : C.ps ∉ vs) (tr : TgR G C gt tg is) (hv : ∀ i ∈ is, i ∈ vs) {Q : VK} (z : tE G C W (dCmp it tg c e vs) σ H Q) :
    tLc (tI G C W it) gt (tCnd G C c) (tE G C W0 e) vs σ H Q := by
  obtain ⟨F, ρ, p, I, q⟩ := z
  refine tG_mono (fun J H1 z => ?_) (tG_bind (R := fun F _ ds (J : It) => Yields G C F J ds ∧ ds.length ≤ lim) I q)
  obtain ⟨F1, ds, p1, I1, e1, ⟨yl, ln⟩, q1⟩ := z
  intro L hD
  have fD : F1 L = none := Same.free I1.fh hD
  have npD : C.pa ≠ some L := fun e => by
    obtain ⟨_, _, c, q1, _⟩ := I1.po L e
    rw [hD] at q1
    cases q1
  refine ⟨fun i m H => m = ds.length - i ∧ ∃ F2 p2 ys acc, CI G C F1 H1 L F2 H p2 ys acc ∧ ys.length ≤ i ∧ i ≤ ds.length ∧
    post G C W (fun F _ d v => Rep G F d v) (bindM (noX (compGo tg c e (wipes vs ρ) (ds.drop i))) (fun zs => retM (.lst (ys ++ zs))) p2) F1 H1 σ ρ Q,
    ⟨ds.length, rfl, F1, p1, [], [], ⟨(ext_newH hD), same_newH I1.fh hD, I1.po.newH I1.fh hD, fD, upd_same, .nil⟩, Nat.zero_le _, Nat.zero_le _, q1⟩, ?_⟩
  rintro i m H' ⟨hm, F2, p2, ys, acc, ci, hys, hil, q2⟩
  have I2 : DInv G C F2 H' σ ρ p2 := I1.ext ci.ext ci.fh ci.po
  have y := yl F2 H' ci.ext.ff ci.fh I2.tb i
  by_cases hlt : i < ds.length
  · have hd : ds[i]? = some ds[i] := List.getElem?_eq_getElem hlt
    obtain ⟨go, yld⟩ := y.1 _ hd
    rw [List.drop_eq_getElem_cons hlt] at q2
    refine .inr ⟨go, fun H3 => ∃ F3 p3 ys acc, CI G C F1 H1 L F3 H3 p3 ys acc ∧ ys.length ≤ i + 1 ∧ i + 1 ≤ ds.length ∧
      post G C W (fun F _ d v => Rep G F d v) (bindM (noX (compGo tg c e (wipes vs ρ) (ds.drop (i + 1)))) (fun zs => retM (.lst (ys ++ zs))) p3) F1 H1 σ ρ Q, fun H3 h => ⟨ds.length - (i + 1), by omega, rfl, h⟩, fun v H3 hy => ?_⟩
    obtain ⟨F3, e3, fh3, r3, po3⟩ := yld v H3 hy
    have x3 : Ext G.T C.pa F1 H1 F3 H3 := ci.ext.trans e3
    have d3 : H3 L = some (.lst acc) := e3.hh L _ ci.hd npD (fun _ z => nomatch z)
    have f3 : F3 L = none := by rw [e3.fr L ⟨_, ci.hd, fun _ z => nomatch z⟩]; exact ci.fd
    have I3 : DInv G C F3 H3 σ ρ p2 := I1.ext x3 fh3 (po3 _ ci.po)
    have J3 := I3.wipe hp
    rw [compGo] at q2
    cases z : setTg tg ds[i] (wipes vs ρ) with
    | none => rw [z] at q2; exact q2.elim
    | some ρ1 =>
      rw [z] at q2
      refine tr.st F3 H3 _ _ ρ1 p2 ds[i] v _ J3 r3 z fun σ4 I4 hw => ⟨by rw [hw vs hv, wipe_wipe], ?_⟩
      -- the element
      have elem : ∀ F5 H5 p5, DInv G C F5 H5 σ4 ρ1 p5 → Ext G.T C.pa F3 H3 F5 H5 →
          post G C W (fun F _ d v => Rep G F d v) (bindM (noX (bindM (e ρ1) fun y => bindM (compGo tg c e (wipes vs ρ) (ds.drop (i + 1))) fun ys => retM (y :: ys))) (fun zs => retM (.lst (ys ++ zs))) p5) F1 H1 σ ρ Q →
          tE G C W0 e σ4 H5 fun y H6 => ∃ acc, H6 L = some (.lst acc) ∧ acc.length < sizeLine ∧ ∃ F3 p3 ys acc', CI G C F1 H1 L F3 (upd H6 L (.lst (acc ++ [y]))) p3 ys acc' ∧ ys.length ≤ i + 1 ∧ i + 1 ≤ ds.length ∧
            post G C W (fun F _ d v => Rep G F d v) (bindM (noX (compGo tg c e (wipes vs ρ) (ds.drop (i + 1)))) (fun zs => retM (.lst (ys ++ zs))) p3) F1 H1 σ ρ Q := by
        intro F5 H5 p5 I5 x5 q5
        refine ⟨F5, ρ1, p5, I5, ?_⟩
        rw [noX_bind] at q5
        cases w : e ρ1 p5 with
        | err => rw [w] at q5; exact q5
        | exc u p6 => rw [w] at q5; exact q5.elim
        | ok yd p6 =>
          rw [w] at q5
          intro yv F6 H6 I6 x6 r6
          have x6' := x3.trans (x5.trans x6)
          have d6 : H6 L = some (.lst acc) := (x5.trans x6).hh L _ d3 npD (fun _ z => nomatch z)
          have f6 : F6 L = none := by rw [(x5.trans x6).fr L ⟨_, d3, fun _ z => nomatch z⟩]; exact f3
          have hl : acc.length = ys.length := ci.rp.length
          refine ⟨acc, d6, ?_, F6, p6, ys ++ [yd], acc ++ [yv], ⟨x6'.upL hD d6, same_upL I6.fh f6, PotOk.upL (xs := acc) I6.fh I6.po npD f6, f6, upd_same, ?_⟩, by rw [List.length_append]; exact Nat.add_le_add_right hys 1, hlt, ?_⟩
          · have := lim_line (n := acc.length + 1) (by rw [hl]; omega)
            omega
          · exact (Reps.mono (e3.ff.trans (x5.ff.trans x6.ff)) _ _ ci.rp).app (.cons r6 .nil)
          · simp only at q5
            rw [noX_bind] at q5
            unfold bindM noX
            cases w2 : compGo tg c e (wipes vs ρ) (ds.drop (i + 1)) p6 with
            | err => rw [w2] at q5; exact q5
            | exc u p7 => rw [w2] at q5; exact q5
            | ok zs p7 =>
              rw [w2] at q5
              have q5' : post G C W (fun F _ d v => Rep G F d v) (.ok (.lst (ys ++ yd :: zs)) p7) F1 H1 σ ρ Q := q5
              rw [List.append_cons] at q5'
              exact q5'
      cases c with
      | none => exact elem F3 H3 p2 I4 (Ext.refl _ _) q2
      | some t =>
        refine ⟨F3, ρ1, p2, I4, ?_⟩
        simp only at q2
        rw [noX_bind] at q2
        cases w : bM t ρ1 p2 with
        | err => rw [w] at q2; exact q2
        | exc u p6 => rw [w] at q2; exact q2.elim
        | ok b p6 =>
          rw [w] at q2
          intro b' F6 H6 I6 x6 r6
          subst r6
          cases b' with
          | true => exact elem F6 H6 p6 I6 x6 q2
          | false =>
            refine ⟨F6, p6, ys, acc, ⟨x3.trans x6, I6.fh, I6.po, ?_, x6.hh L _ d3 npD (fun _ z => nomatch z), Reps.mono (e3.ff.trans x6.ff) _ _ ci.rp⟩, by omega, hlt, q2⟩
            rw [x6.fr L ⟨_, d3, fun _ z => nomatch z⟩]; exact f3
  · have hle : ds.length ≤ i := Nat.le_of_not_lt hlt
    rw [List.drop_of_length_le hle] at q2
    refine .inl ⟨y.2 hle, ?_⟩
    have hyl : ys.length ≤ lim := Nat.le_trans hys (Nat.le_trans hil ln)
    have q3 : post G C W (fun F _ d v => Rep G F d v) (.ok (.lst (ys ++ [])) p2) F1 H1 σ ρ Q := q2
    rw [List.append_nil] at q3
    have sm : Same F2 (upd F2 L (.lst acc)) := fun b u h => by rw [upd_ne (ne_of_none h ci.fd)]; exact h
    have fh' : Same (upd F2 L (.lst acc)) H' := fun b u h => by
      by_cases e : b = L
      · subst e
        rw [upd_same] at h
        rw [ci.hd, h]
      · rw [upd_ne e] at h; exact ci.fh b u h
    have xx : Ext G.T C.pa F1 H1 (upd F2 L (.lst acc)) H' := ⟨ci.ext.ff.trans sm, fun a h => by
      rw [upd_ne (h.ne hD)]; exact ci.ext.fr a h, ci.ext.hh, ci.ext.dm, ci.ext.tb, fun n => (ci.ext.nt n).upd fun _ z => nomatch z⟩
    have po' : PotOk C.pa (upd F2 L (.lst acc)) H' p2 := fun b e => by
      obtain ⟨f, g, c, q1, q2⟩ := ci.po b e
      have n1 : b ≠ L := fun z => by rw [z] at e; exact npD e
      exact ⟨by rw [upd_ne n1]; exact f, g, c, q1, sm _ _ q2⟩
    refine q3 (.ref L) _ H' (I1.ext xx fh' po') xx ?_
    unfold Rep
    exact ⟨L, acc, rfl, upd_same, hyl, Reps.mono sm _ _ ci.rp⟩
end
section
variable {X : Cx} {T : List (Addr × Str)} {C : DC} {W : WX} {f g : DE} {it : DI}
/-- the block's context -/
abbrev XB (X : Cx) (scope : Scope) (s : Shared) (H : Hp) (c : Addr) (cl : List (Str × Addr)) (fp : List Addr) : Cx := X.blk s H scope (compEnvC scope cl c X.env) fp
abbrev InB (X : Cx) (scope : Scope) (P : Cx → Prop) : Prop := ∀ (s : Shared) (H : Hp) (c : Addr) (cl : List (Str × Addr)) (fp : List Addr), P (XB X scope s H c cl fp)
theorem tnm (i : Nat) {x : Str} {px : Pos} (hN : X.N.Nodup) (hxi : X.N[i]? = some x := by rfl) (hx : Loc X.env.scope x := by first | exact .inl rfl | exact .inr rfl) (hf : X.fn x = true ∨ X.env.scope.names.lookup x = some .local := by first | exact .inl rfl | exact .inr rfl) :
    PG X (.Name x px) (gName i) := pg_name hN hxi hx hf
theorem ttp (is : List Nat) {ts : List Expr} {kt : Nat} {pt : Pos} (hc : X.calm = true) (hg : GNs X ts is) (hn : (assignEach ts X.env).length = is.length := by rfl) (hst : (assignEach ts X.env).findIdx? (·.1) = none := by rfl) :
    PG X (.Tuple ts kt pt) (gTup X.K is.length (gNames is)) := pg_tup hc hg.g hn hst
theorem rnm (i : Nat) (hp : C.ps ≠ i := by first | (dsimp only; decide) | decide) (G : Gb) : TgR G C (gName i) (.nm i) [i] := tgr_nm hp
theorem rtp (is : List Nat) {K : PySem.W.Frag} (hp : ∀ i ∈ is, C.ps ≠ i := by first | (dsimp only; decide) | decide) (G : Gb) : TgR G C (gTup K is.length (gNames is)) (.tp is) is := tgr_tp hp
/-- [e for tg in it] -/
theorem elc {elt tg iter : Expr} {scope : Scope} {pos : Pos} {gt : TG} {t : Tg} {is : List Nat} (own : List (Str × Nat)) {k : Nat} (B : Bd X W k) (hi : PI X tg iter (tI (gb X T) C W it)) (hr : ∀ G : Gb, TgR G C gt t is) (ht : InB X scope fun Y => PG Y tg gt) (he : InB X scope fun Y => PE Y elt (tE (gb Y T) C W0 f))
    (hb : blkC X.N X.env.scope scope own = true := by rfl) (hp : C.ps ∉ own.map (·.2) := by first | (dsimp only; decide) | decide) (hv : ∀ i ∈ is, i ∈ own.map (·.2) := by decide) (hs : ∀ x, foldedSetIterable iter X.env x = pure x := by intro _; rfl) :
    PE X (.ListComp elt [⟨tg, iter, [], 0⟩] scope pos) (tE (gb X T) C W (dCmp it t none f (own.map (·.2)))) :=
  imp (pe_lc (tt := tYes) B.calm B.nd hi (blkOk_by hb) ht (fun _ _ _ _ _ => pts_nil) he hs) fun σ H Q z => comp_imp hp (hr (gb X T)) hv z
/-- [e for tg in it if c] -/
theorem elci {elt tg iter cnd : Expr} {scope : Scope} {pos : Pos} {gt : TG} {t : Tg} {is : List Nat} (own : List (Str × Nat)) {k : Nat} (B : Bd X W k) (hi : PI X tg iter (tI (gb X T) C W it)) (hr : ∀ G : Gb, TgR G C gt t is) (ht : InB X scope fun Y => PG Y tg gt) (hc : InB X scope fun Y => PT Y cnd (tT (gb Y T) C W0 g)) (he : InB X scope fun Y => PE Y elt (tE (gb Y T) C W0 f))
    (hb : blkC X.N X.env.scope scope own = true := by rfl) (hp : C.ps ∉ own.map (·.2) := by first | (dsimp only; decide) | decide) (hv : ∀ i ∈ is, i ∈ own.map (·.2) := by decide) (hs : ∀ x, foldedSetIterable iter X.env x = pure x := by intro _; rfl) :
    PE X (.ListComp elt [⟨tg, iter, [cnd], 0⟩] scope pos) (tE (gb X T) C W (dCmp it t (some g) f (own.map (·.2)))) :=
  imp (pe_lc B.calm B.nd hi (blkOk_by hb) ht (fun s H c cl fp => pts_one (hc s H c cl fp)) he hs) fun σ H Q z => comp_imp hp (hr (gb X T)) hv z
/-- x = [..] -/
theorem slc (i : Nat) {y : Str} {py : Pos} {spos : Pos} {elt tg iter : Expr} {scope : Scope} {pos : Pos} {gt : TG} {t : Tg} {is : List Nat} (own : List (Str × Nat)) {k : Nat} (B : Bd X W k) (hi : PI X tg iter (tI (gb X T) C W it)) (hr : ∀ G : Gb, TgR G C gt t is) (ht : InB X scope fun Y => PG Y tg gt) (he : InB X scope fun Y => PE Y elt (tE (gb Y T) C W0 f))
    (hsw : swapsWith (.ListComp elt [⟨tg, iter, [], 0⟩] scope pos) (some (.Name y py)) spos.line X.env = pure true) (hpi : C.ps ≠ i := by first | (dsimp only; decide) | decide) (hy : X.N[i]? = some y := by rfl) (hyl : X.env.scope.names.lookup y = some .local := by rfl)
    (hb : blkC X.N X.env.scope scope own = true := by rfl) (hp : C.ps ∉ own.map (·.2) := by first | (dsimp only; decide) | decide) (hv : ∀ i ∈ is, i ∈ own.map (·.2) := by decide) (hs : ∀ x, foldedSetIterable iter X.env x = pure x := by intro _; rfl) :
    PS X (.Assign [.Name y py] (.ListComp elt [⟨tg, iter, [], 0⟩] scope pos) spos) (tSS X T C W (sSet i (dCmp it t none f (own.map (·.2))))) :=
  impS (ps_setLc (tt := tYes) B.calm B.nd hy hyl hsw hi (blkOk_by hb) ht (fun _ _ _ _ _ => pts_nil) he hs) fun D σ H ⟨F, ρ, p, I, q⟩ =>
    comp_imp hp (hr (gb X T)) hv (tG_mono (fun v H1 ⟨F1, d, p1, I1, e1, r1, q1⟩ => q1 _ F1 H1 (I1.fz hpi r1) (Same.refl F1)) (runE_imp I q))
theorem slci (i : Nat) {y : Str} {py : Pos} {spos : Pos} {elt tg iter cnd : Expr} {scope : Scope} {pos : Pos} {gt : TG} {t : Tg} {is : List Nat} (own : List (Str × Nat)) {k : Nat} (B : Bd X W k) (hi : PI X tg iter (tI (gb X T) C W it)) (hr : ∀ G : Gb, TgR G C gt t is) (ht : InB X scope fun Y => PG Y tg gt) (hc : InB X scope fun Y => PT Y cnd (tT (gb Y T) C W0 g)) (he : InB X scope fun Y => PE Y elt (tE (gb Y T) C W0 f))
    (hsw : swapsWith (.ListComp elt [⟨tg, iter, [cnd], 0⟩] scope pos) (some (.Name y py)) spos.line X.env = pure true) (hpi : C.ps ≠ i := by first | (dsimp only; decide) | decide) (hy : X.N[i]? = some y := by rfl) (hyl : X.env.scope.names.lookup y = some .local := by rfl)
    (hb : blkC X.N X.env.scope scope own = true := by rfl) (hp : C.ps ∉ own.map (·.2) := by first | (dsimp only; decide) | decide) (hv : ∀ i ∈ is, i ∈ own.map (·.2) := by decide) (hs : ∀ x, foldedSetIterable iter X.env x = pure x := by intro _; rfl) :
    PS X (.Assign [.Name y py] (.ListComp elt [⟨tg, iter, [cnd], 0⟩] scope pos) spos) (tSS X T C W (sSet i (dCmp it t (some g) f (own.map (·.2))))) :=
  impS (ps_setLc B.calm B.nd hy hyl hsw hi (blkOk_by hb) ht (fun s H c cl fp => pts_one (hc s H c cl fp)) he hs) fun D σ H ⟨F, ρ, p, I, q⟩ =>
    comp_imp hp (hr (gb X T)) hv (tG_mono (fun v H1 ⟨F1, d, p1, I1, e1, r1, q1⟩ => q1 _ F1 H1 (I1.fz hpi r1) (Same.refl F1)) (runE_imp I q))
/-- in the block -/
theorem Bd.blk {k : Nat} (B : Bd X W k) {scope : Scope} {s : Shared} {H : Hp} {c : Addr} {cl : List (Str × Addr)} {fp : List Addr} : Bd (XB X scope s H c cl fp) W0 k := ⟨B.calm, B.nd, B.hr, takes0, .never⟩
end
end DL
/-! DL10: defs by their denotations; calls. -/
namespace DL
set_option autoImplicit false
open PySem PySem.Spec L2 PyProof.Rows
/-- behind a call: what is wanted of the end and of an error -/
def endR (G : Gb) (pa : Option Addr) (F H : Hp) (r : Res D) (Q : VK) (E : XK) : Prop := match r with
  | .ok d p' => ∀ v F' H', Same F' H' → Ext G.T pa F H F' H' → PotOk pa F' H' p' → Rep G F' d v → Q v H'
  | .exc e p' => ∀ cls dd F' H', Same F' H' → Ext G.T pa F H F' H' → PotOk pa F' H' p' → ExcR G F' H' cls dd e → E cls dd H'
  | .err => False
/-- a def without a pot: n parameters, g its denotation -/
def spN (G : Gb) (n : Nat) (g : List D → M D) : Sp := fun vs H Q E => vs.length = n ∧ ∃ F ds, Same F H ∧ NoT F ∧ LamX.Tabs G.T H ∧ Reps G F ds vs ∧ endR G none F H (g ds pot0) Q E
/-- .. that takes the pot first -/
def spP (G : Gb) (n : Nat) (g : List D → M D) : Sp := fun vs H Q E => vs.length = n ∧ ∃ F a p ws ds, vs = .ref a :: ws ∧ Same F H ∧ NoT F ∧ LamX.Tabs G.T H ∧ PotAt F H a p ∧ Reps G F ds ws ∧ endR G (some a) F H (g ds p) Q E
section
variable {G : Gb} {F F' H H' : Hp} {T : List (Addr × Str)} {p : Pot}
theorem Ext.weak {pa : Option Addr} (e : Ext T none F H F' H') : Ext T pa F H F' H' := ⟨e.ff, e.fr, fun a o h _ t => e.hh a o h (fun z => nomatch z) t, e.dm, e.tb, e.nt⟩
theorem PotOk.weak {pa : Option Addr} (x : PotOk pa F H p) (e : Ext T none F H F' H') : PotOk pa F' H' p := fun a h => by
  obtain ⟨f, g, c, q1, q2⟩ := x a h
  refine ⟨by rw [e.fr a ⟨_, q1, fun _ z => nomatch z⟩]; exact f, g, c, e.hh _ _ q1 (fun z => nomatch z) (fun _ z => nomatch z), e.ff _ _ q2⟩
theorem potok_none : PotOk none F H p := fun a h => nomatch h
/-- the slots at a def's start -/
def slots (n : Nat) (ds : List D) : Env' := padN n (ds.map .fz)
theorem padN_len : ∀ (n : Nat) (ρ : Env'), ρ.length ≤ n → (padN n ρ).length = n
  | 0, ρ, h => by rw [padN]; omega
  | n + 1, [], _ => by rw [padN, List.length_cons, padN_len n [] (Nat.zero_le _)]
  | n + 1, x :: r, h => by rw [padN, List.length_cons, padN_len n r (Nat.le_of_succ_le_succ h)]
theorem nth_padN : ∀ (n : Nat) (ρ : Env') (i : Nat), nth (padN n ρ) i = nth ρ i
  | 0, ρ, i => by rw [padN]
  | n + 1, [], 0 => rfl
  | n + 1, [], i + 1 => by rw [padN, nth]; exact (nth_padN n [] i).trans (by cases i <;> rfl)
  | n + 1, x :: r, 0 => rfl
  | n + 1, x :: r, i + 1 => by rw [padN, nth, nth]; exact nth_padN n r i
theorem nth_map : ∀ (ds : List D) (i : Nat), nth (ds.map .fz) i = match ds[i]? with
    | some d => .fz d
    | none => .un
  | [], i => by simp [nth]
  | d :: ds, 0 => rfl
  | d :: ds, i + 1 => by rw [List.map_cons, nth, nth_map ds i, List.getElem?_cons_succ]
theorem start_get {N : List Str} {vs : List V} {i : Nat} {v : V} (h : vs[i]? = some v) : (L2.start N vs)[i]? = some (some v) := by
  unfold L2.start
  have hi : i < vs.length := by
    rcases Nat.lt_or_ge i vs.length with z | z
    · exact z
    · rw [List.getElem?_eq_none z] at h; cases h
  rw [List.getElem?_append_left (by simpa using hi), List.getElem?_map, h]
  rfl
theorem start_len {N : List Str} {vs : List V} (h : vs.length ≤ N.length) : (L2.start N vs).length = N.length := by
  unfold L2.start
  rw [List.length_append, List.length_map, List.length_replicate]
  omega
theorem start_inv {N : List Str} {ds : List D} {vs : List V} (fh : Same F H) (nt : NoT F) (tb : LamX.Tabs G.T H) (r : Reps G F ds vs) (hl : vs.length ≤ N.length) (k : Nat) : DInv G ⟨F, H, none, k⟩ F H (L2.start N vs) (padN N.length (ds.map .fz)) p := by
  refine ⟨⟨fh, Ext.refl F H, potok_none, tb, nt⟩, fun i => ?_, fun i j a _ _ h2 _ => ?_, fun a e => (nomatch (show (none : Option Addr) = some a from e)), ?_⟩
  · rw [nth_padN, nth_map]
    cases z : ds[i]? with
    | none => trivial
    | some d =>
      obtain ⟨v, q1, q2⟩ := reps_at r z
      exact ⟨v, start_get q1, q2⟩
  · rw [nth_padN, nth_map] at h2
    cases z : ds[i]? with
    | none => rw [z] at h2; cases h2
    | some d => rw [z] at h2; cases h2
  · rw [padN_len _ _ (by rw [List.length_map, ← r.length]; exact hl), start_len hl]
    exact Nat.le_refl _
theorem start_invP {N : List Str} {ds : List D} {vs : List V} {a : Addr} (fh : Same F H) (nt : NoT F) (tb : LamX.Tabs G.T H) (r : Reps G F ds vs) (hl : (V.ref a :: vs).length ≤ N.length) (po : PotAt F H a p) : DInv G ⟨F, H, some a, 0⟩ F H (L2.start N (.ref a :: vs)) (padN N.length (.un :: ds.map .fz)) p := by
  have key : ∀ i, nth (padN N.length (Sl.un :: ds.map .fz)) (i + 1) = match ds[i]? with
    | some d => .fz d
    | none => .un := fun i => by rw [nth_padN]; exact nth_map ds i
  have key0 : nth (padN N.length (Sl.un :: ds.map .fz)) 0 = .un := by rw [nth_padN]; rfl
  have noow : ∀ i, isOw (nth (padN N.length (Sl.un :: ds.map .fz)) i) = false := fun i => by
    cases i with
    | zero => rw [key0]; rfl
    | succ i => rw [key]; cases ds[i]? <;> rfl
  refine ⟨⟨fh, Ext.refl F H, fun b e => ?_, tb, nt⟩, fun i => ?_, fun i j b _ _ h2 _ => ?_, fun b e => ?_, ?_⟩
  · cases (show (some a : Option Addr) = some b from e)
    exact po
  · cases i with
    | zero => rw [key0]; trivial
    | succ i =>
      rw [key]
      cases z : ds[i]? with
      | none => trivial
      | some d =>
        obtain ⟨v, q1, q2⟩ := reps_at r z
        exact ⟨v, start_get (by rw [List.getElem?_cons_succ]; exact q1), q2⟩
  · rw [noow i] at h2; cases h2
  · cases (show (some a : Option Addr) = some b from e)
    exact ⟨start_get rfl, key0⟩
  · rw [padN_len _ _ (by rw [List.length_cons, List.length_map, ← r.length]; exact hl), start_len hl]
    exact Nat.le_refl _
end
section
variable {P : Program} {w : World} {K : PySem.W.Frag} {mg : Str → Option Value} {base : Heap} {x qual : Str} {params : Arguments} {body : List Stmt} {scope : Scope} {f : Addr} {fd : FuncData} {N ps : List Str} {k : Nat} {T : List (Addr × Str)}
/-- a def's body, at its entry -/
abbrev XD (P : Program) (w : World) (K : PySem.W.Frag) (mg : Str → Option Value) (base : Heap) (N : List Str) (qual : Str) (scope : Scope) (f : Addr) (cdv : Value) (A : Around) (outer : List Env) (s : Shared) (H : Hp) (E : XK) : Cx :=
  cxOf (L2.CX P w) P w K mg base N qual scope f cdv A outer s H E
abbrev WE' (E : XK) : WX := fun c d _ H => E c d H
theorem bd_def {cdv : Value} {A : Around} {outer : List Env} {s : Shared} {H : Hp} {E : XK} (S : FnScope N ps scope) (hr : Room k (A.deeper (envOfC qual scope s.heap.objs.size f cdv))) : Bd (XD P w K mg base N qual scope f cdv A outer s H E) (WE' E) k :=
  ⟨rfl, S.nd, hr, takes_of rfl rfl rfl rfl, passes_of rfl⟩
/-- a def without a pot -/
theorem fn_n (F : FunD K x qual params body scope [] [] f fd) (S : FnScope N ps scope) (s : DS)
    (hb : ∀ (cdv : Value) (A : Around) (outer : List Env) (sh : Shared) (F0 H : Hp) (E : XK), Bd (XD P w K mg base N qual scope f cdv A outer sh H E) (WE' E) k → PSs (XD P w K mg base N qual scope f cdv A outer sh H E) body (tSS (XD P w K mg base N qual scope f cdv A outer sh H E) T ⟨F0, H, none, 1000⟩ (WE' E) s)) :
    FnOk P w K mg base (L2.CX P w) (k + 1) f fd ps (spN ⟨P, w, mg, T⟩ ps.length (dDef N.length s)) :=
  F.ok S (fun vs H Q E h => h.1) fun cdv A outer sh H vs Q E hr ⟨hl, F0, ds, fh, nt, tb, r, q⟩ => by
    have hpl : ps.length ≤ N.length := by have := congrArg List.length S.pre; rw [List.length_take] at this; omega
    refine ⟨_, hb cdv A outer sh F0 H E (bd_def S hr), F0, _, pot0, start_inv (G := ⟨P, w, mg, T⟩) fh nt tb r (by omega) 1000, ?_⟩
    unfold dDef runF at q
    cases z : s (padN N.length (ds.map .fz)) pot0 with
    | nx ρ1 p1 =>
      simp only [z] at q
      exact fun σ' F' H' I sm => q .non F' H' I.fh I.base potok_none (by unfold Rep; rfl)
    | ret d p1 =>
      simp only [z] at q
      exact fun v σ' ρ' F' H' I sm rv => q v F' H' I.fh I.base potok_none rv
    | exc e ρ1 p1 =>
      simp only [z] at q
      exact fun cls dd σ' F' H' I sm x => q cls dd F' H' I.fh I.base potok_none x
    | brk ρ1 p1 => simp only [z] at q; exact q.elim
    | ct ρ1 p1 => simp only [z] at q; exact q.elim
    | err => simp only [z] at q; exact q.elim
/-- .. that takes the pot first -/
theorem fn_p (F : FunD K x qual params body scope [] [] f fd) (S : FnScope N ps scope) (s : DS)
    (hb : ∀ (cdv : Value) (A : Around) (outer : List Env) (sh : Shared) (F0 H : Hp) (E : XK) (a : Addr), Bd (XD P w K mg base N qual scope f cdv A outer sh H E) (WE' E) k → PSs (XD P w K mg base N qual scope f cdv A outer sh H E) body (tSS (XD P w K mg base N qual scope f cdv A outer sh H E) T ⟨F0, H, some a, 0⟩ (WE' E) s)) :
    FnOk P w K mg base (L2.CX P w) (k + 1) f fd ps (spP ⟨P, w, mg, T⟩ ps.length (dDefP N.length s)) :=
  F.ok S (fun vs H Q E h => h.1) fun cdv A outer sh H vs Q E hr ⟨hl, F0, a, p, ws, ds, e, fh, nt, tb, po, r, q⟩ => by
    have hpl : ps.length ≤ N.length := by have := congrArg List.length S.pre; rw [List.length_take] at this; omega
    subst e
    have I0 := start_invP (G := ⟨P, w, mg, T⟩) fh nt tb r (by omega : (V.ref a :: ws).length ≤ N.length) po
    refine ⟨_, hb cdv A outer sh F0 H E a (bd_def S hr), F0, _, p, I0, ?_⟩
    unfold dDefP runF at q
    cases z : s (padN N.length (Sl.un :: ds.map .fz)) p with
    | nx ρ1 p1 =>
      simp only [z] at q
      exact fun σ' F' H' I sm => q .non F' H' I.fh I.base I.po (by unfold Rep; rfl)
    | ret d p1 =>
      simp only [z] at q
      exact fun v σ' ρ' F' H' I sm rv => q v F' H' I.fh I.base I.po rv
    | exc e ρ1 p1 =>
      simp only [z] at q
      exact fun cls dd σ' F' H' I sm x => q cls dd F' H' I.fh I.base I.po x
    | brk ρ1 p1 => simp only [z] at q; exact q.elim
    | ct ρ1 p1 => simp only [z] at q; exact q.elim
    | err => simp only [z] at q; exact q.elim
/-- a def that can be called by its name -/
structure DFn (P : Program) (w : World) (K : PySem.W.Frag) (mg : Str → Option Value) (base : Heap) (k : Nat) (x : Str) (sp : Sp) : Prop where
  ex : ∃ f fd ps, FnOk P w K mg base (L2.CX P w) k f fd ps sp ∧ mg x = some (.ref f) ∧ PySem.W.keepIn K (.ref f) = true ∧ Binds K fd ps []
theorem DFn.mono {j : Nat} {sp : Sp} (h : DFn P w K mg base k x sp) (e : k ≤ j) : DFn P w K mg base j x sp := by
  obtain ⟨f, fd, ps, F, r⟩ := h.ex
  exact ⟨f, fd, ps, F.mono e, r⟩
/-- one that is never called -/
theorem fn_none {G : Gb} {n : Nat} (F : FunD K x qual params body scope [] [] f fd) (hn : n = ps.length) : FnOk P w K mg base (L2.CX P w) k f fd ps (spN G n fun _ => failM) :=
  ⟨fun vs H Q E h => h.1.trans hn, fun A outer s H args us vs Q E hr he hb hv ⟨_, _, _, _, _, _, _, q⟩ => q.elim⟩
theorem fn_noneP {G : Gb} {n : Nat} (F : FunD K x qual params body scope [] [] f fd) (hn : n = ps.length) : FnOk P w K mg base (L2.CX P w) k f fd ps (spP G n fun _ => failM) :=
  ⟨fun vs H Q E h => h.1.trans hn, fun A outer s H args us vs Q E hr he hb hv ⟨_, _, _, _, _, _, _, _, _, _, _, _, q⟩ => q.elim⟩
end
section
variable {X : Cx} {T : List (Addr × Str)} {C : DC} {W : WX} {F F' H H' : Hp} {σ : L2.St} {ρ : Env'} {p : Pot} {e : Expr} {es : List Expr} {fl : List DE} {x : Str} {pos p0 : Pos} {n k : Nat} {g : List D → M D}
/-- f(e, ..) -/
theorem ek (B : Bd X W k) (h : DFn X.prog X.w X.K X.mg X.base k x (spN (gb X T) n g)) (ha : PA X (e :: es) (tA (gb X T) C W (dsN fl))) (hn : fl.length = n := by rfl) (hg : Gl X x := by rfl) (hdb : (x == ("__debug__" : Str)) = false := by decide)
    (he : starEach (e :: es) X.env = (false, eval e X.env) :: starEach es X.env := by rfl) (hpl : (backTo pos (starEach es X.env)).any (·.1) = false := by rfl) : PE X (.Call (.Name x p0) (e :: es) [] pos) (tE (gb X T) C W (dCall g fl)) := by
  obtain ⟨f, fd, ps, Fo, hm, hk, hb⟩ := h.ex
  refine imp (pe_callS (E := WE W) Fo B.hr hg hm hk hb (passAt B.tk) ha hdb he hpl) fun σ H Q ⟨F, ρ, p, I, q⟩ => ?_
  have hlen : ∀ ds p1, dsN fl ρ p = .ok ds p1 → ds.length = fl.length := fun ds p1 h => dsN_len _ _ _ _ _ h
  have q0 : post (gb X T) C W (fun F _ d v => Rep (gb X T) F d v) (bindM (dsN fl ρ) (fun xs => keep (g xs pot0)) p) F H σ ρ Q := q
  refine ⟨F, ρ, p, I, ?_⟩
  unfold bindM at q0
  cases z : dsN fl ρ p with
  | err => rw [z] at q0; exact q0
  | exc u p1 => rw [z] at q0; exact q0
  | ok ds p1 =>
    rw [z] at q0
    intro vs F1 H1 I1 e1 r1
    refine ⟨by rw [r1.length, hlen ds p1 z, hn], F1, ds, I1.fh, I1.nt, I1.tb, r1, ?_⟩
    have q1 : post (gb X T) C W (fun F _ d v => Rep (gb X T) F d v) (keep (g ds pot0) p1) F1 H1 σ ρ Q := post.ext e1 q0
    unfold keep at q1
    cases w : g ds pot0 with
    | err => rw [w] at q1; exact q1
    | ok d p2 =>
      rw [w] at q1
      exact fun v F' H' fh x po rv => q1 v F' H' (I1.ext x.weak fh (I1.po.weak x)) x.weak rv
    | exc u p2 =>
      rw [w] at q1
      exact fun cls dd F' H' fh x po rv => q1 cls dd F' H' (I1.ext x.weak fh (I1.po.weak x)) x.weak rv
/-- f(pot, e, ..) -/
theorem ekp {y : Str} {py : Pos} (B : Bd X W k) (h : DFn X.prog X.w X.K X.mg X.base k x (spP (gb X T) (n + 1) g)) (hpa : C.pa.isSome = true) (ha : PA X es (tA (gb X T) C W (dsN fl))) (hN : X.N[C.ps]? = some y := by rfl) (hv : Vis X.env.scope y := by first | exact Or.inl rfl | exact Or.inr (Or.inl rfl) | exact Or.inr (Or.inr rfl)) (hn : fl.length = n := by rfl) (hg : Gl X x := by rfl) (hdb : (x == ("__debug__" : Str)) = false := by decide)
    (hd : (y == ("__debug__" : Str)) = false := by decide) (hcd : (y == ("__classdict__" : Str)) = false := by decide)
    (he : starEach (.Name y py :: es) X.env = (false, eval (.Name y py) X.env) :: starEach es X.env := by rfl) (hpl : (backTo pos (starEach es X.env)).any (·.1) = false := by rfl) : PE X (.Call (.Name x p0) (.Name y py :: es) [] pos) (tE (gb X T) C W (dCallP g fl)) := by
  obtain ⟨f, fd, ps, Fo, hm, hk, hb⟩ := h.ex
  refine imp (pe_callS (E := WE W) Fo B.hr hg hm hk hb (passAt B.tk) (pa_cons (pe_var hN hv hd hcd) ha he) hdb he hpl) fun σ H Q ⟨F, ρ, p, I, q⟩ => ?_
  obtain ⟨a, ea⟩ := Option.isSome_iff_exists.mp hpa
  have hlen : ∀ ds p1, dsN fl ρ p = .ok ds p1 → ds.length = fl.length := fun ds p1 h => dsN_len _ _ _ _ _ h
  have q0 : post (gb X T) C W (fun F _ d v => Rep (gb X T) F d v) (bindM (dsN fl ρ) g p) F H σ ρ Q := q
  refine ⟨.ref a, (I.ps a ea).1, ?_⟩
  refine ⟨F, ρ, p, I, ?_⟩
  unfold bindM at q0
  cases z : dsN fl ρ p with
  | err => rw [z] at q0; exact q0
  | exc u p1 => rw [z] at q0; exact q0
  | ok ds p1 =>
    rw [z] at q0
    intro vs F1 H1 I1 e1 r1
    refine ⟨by rw [List.length_cons, r1.length, hlen ds p1 z, hn], F1, a, p1, vs, ds, rfl, I1.fh, I1.nt, I1.tb, I1.po a ea, r1, ?_⟩
    have q1 : post (gb X T) C W (fun F _ d v => Rep (gb X T) F d v) (g ds p1) F1 H1 σ ρ Q := post.ext e1 q0
    cases w : g ds p1 with
    | err => rw [w] at q1; exact q1
    | ok d p2 =>
      rw [w] at q1
      exact fun v F' H' fh x po rv => q1 v F' H' (I1.ext (by rw [ea]; exact x) fh (by rw [ea]; exact po)) (by rw [ea]; exact x) rv
    | exc u p2 =>
      rw [w] at q1
      exact fun cls dd F' H' fh x po rv => q1 cls dd F' H' (I1.ext (by rw [ea]; exact x) fh (by rw [ea]; exact po)) (by rw [ea]; exact x) rv
end
end DL
/-! DL11: errors: raised, caught. -/
namespace DL
set_option autoImplicit false
open PySem PySem.Spec L2 PyProof.Rows
/-- an own class without an __init__ -/
structure ExN (K : PySem.W.Frag) (mg : Str → Option Value) (x : Str) : Prop where
  ex : ∃ C, mg x = some (.ref C) ∧ PySem.W.excIn K C He.veBase "ValueError.__new__" = true ∧ PySem.W.keepIn K (.ref C) = true ∧ PySem.W.subIn K (.ref C) (.type "BaseException") = some true ∧ PySem.W.typeIn K (.ref C) = some (.type "type")
/-- .. with one that keeps what is passed -/
def spI (C : Addr) (fs : List Str) : Sp := fun vs H Q _ => ∃ a ws, vs = .ref a :: ws ∧ ws.length = fs.length ∧ H a = some (exo a C none) ∧ ∀ dx H', H dx = none → dx ≠ a → H' a = some (exo a C (some dx)) → H' dx = some (exd dx (fs.zip ws).reverse) → (∀ b, b ≠ a → b ≠ dx → H' b = H b) → Q .non H'
structure ExI (P : Program) (w : World) (K : PySem.W.Frag) (mg : Str → Option Value) (base : Heap) (x : Str) (fs : List Str) : Prop where
  ex : ∃ C fI fd ps, mg x = some (.ref C) ∧ OexC K C ∧ PySem.W.findIn K (.ref C) "__init__" = some (some (.ref fI)) ∧ PySem.W.typeIn K (.ref fI) = some (.type "function") ∧
    FnOk P w K mg base (L2.CX P w) 1 fI fd ps (spI C fs) ∧ Binds K fd ps []
section
variable {P : Program} {w : World} {K : PySem.W.Frag} {mg : Str → Option Value} {base : Heap} {qual : Str} {params : Arguments} {scope : Scope} {f C : Addr} {fd : FuncData} {x y g h : Str} {p1 p2 p3 p4 q1 q2 q3 q4 : Pos}
theorem ok_init1 (F : FunD K "__init__" qual params [.Assign [.Attribute (.Name "self" p1) g p2] (.Name x p3) p4] scope [] [] f fd) (S : FnScope ["self", x] ["self", x] scope) (T : OexC K C) (no : PySem.W.findIn K (.ref C) g = some none)
    (hl : scope.names.lookup ("self" : Str) = some .local) (hx : scope.names.lookup x = some .local) (hd : (x == ("__debug__" : Str)) = false) (hcd : (x == ("__classdict__" : Str)) = false) : FnOk P w K mg base (L2.CX P w) 1 f fd ["self", x] (spI C [g]) :=
  F.ok (k := 0) S (fun vs H Q E ⟨a, ws, e, hl, _⟩ => by subst e; match ws, hl with | [_], _ => rfl) fun cdv A outer sh H vs Q E hr ⟨a, ws, e, hw, ha, hq⟩ => by
    subst e
    match ws, hw with
    | [v], _ =>
      refine ⟨_, pss_one (ps_ost (pe_var (i := 0) rfl (.inl hl) (by decide) (by decide)) (pe_var (i := 1) rfl (.inl hx) hd hcd)), ?_⟩
      refine ⟨v, rfl, .ref a, rfl, a, C, rfl, T, no, .inl ⟨ha, fun dx n ne => ?_⟩⟩
      exact hq dx _ n ne upd_same (by rw [upd_ne ne, upd_same]; rfl) fun b h1 h2 => by rw [upd_ne h1, upd_ne h2]
theorem ok_init2 (F : FunD K "__init__" qual params [.Assign [.Attribute (.Name "self" p1) g p2] (.Name x p3) p4, .Assign [.Attribute (.Name "self" q1) h q2] (.Name y q3) q4] scope [] [] f fd) (S : FnScope ["self", x, y] ["self", x, y] scope) (T : OexC K C) (no : PySem.W.findIn K (.ref C) g = some none) (no2 : PySem.W.findIn K (.ref C) h = some none)
    (hl : scope.names.lookup ("self" : Str) = some .local) (hx : scope.names.lookup x = some .local) (hd : (x == ("__debug__" : Str)) = false) (hcd : (x == ("__classdict__" : Str)) = false) (hy : scope.names.lookup y = some .local) (hyd : (y == ("__debug__" : Str)) = false) (hycd : (y == ("__classdict__" : Str)) = false) : FnOk P w K mg base (L2.CX P w) 1 f fd ["self", x, y] (spI C [g, h]) :=
  F.ok (k := 0) S (fun vs H Q E ⟨a, ws, e, hl, _⟩ => by subst e; match ws, hl with | [_, _], _ => rfl) fun cdv A outer sh H vs Q E hr ⟨a, ws, e, hw, ha, hq⟩ => by
    subst e
    match ws, hw with
    | [v, u], _ =>
      refine ⟨_, pss_cons (ps_ost (pe_var (i := 0) rfl (.inl hl) (by decide) (by decide)) (pe_var (i := 1) rfl (.inl hx) hd hcd)) (pss_one (ps_ost (pe_var (i := 0) rfl (.inl hl) (by decide) (by decide)) (pe_var (i := 2) rfl (.inl hy) hyd hycd))), ?_⟩
      refine ⟨v, rfl, .ref a, rfl, a, C, rfl, T, no, .inl ⟨ha, fun dx n ne => ?_⟩⟩
      refine ⟨u, rfl, .ref a, rfl, a, C, rfl, T, no2, .inr ⟨dx, [(g, v)], upd_same, by rw [upd_ne ne, upd_same], (by decide : 1 ≤ 900), ?_⟩⟩
      exact hq dx _ n ne (by rw [upd_ne (Ne.symm ne), upd_same]) (by rw [upd_same]; rfl) fun b h1 h2 => by rw [upd_ne h2, upd_ne h1, upd_ne h2]
end
section
variable {X : Cx} {T : List (Addr × Str)} {C : DC} {W : WX} {F F' H H' : Hp} {σ : L2.St} {ρ : Env'} {p : Pot} {e : Expr} {es : List Expr} {fl : List DE} {x : Str} {pos p0 pos2 : Pos} {n k : Nat} {s : DS}
theorem pmk_own0 {Cl : Addr} {bmB : List Value} {B newId initId : String} (F : ExcBaseFacts B newId initId bmB) (q : PySem.W.excIn X.K Cl bmB newId = true) (gC : X.mg x = some (.ref Cl))
    (kC : PySem.W.keepIn X.K (.ref Cl) = true) (r : Raises X (.ref Cl)) (hg : Gl X x) (hdb : (x == ("__debug__" : Str)) = false := by decide) : PMk X (.Call (.Name x p0) [] [] pos) (fun σ H Q => Q (.ref Cl) none H) := by
  intro pins s σ H Q I h
  refine wpAny_Call_Name_kw (ld_glob I hg gC ?_ hdb)
  refine PySem.W.callWith_K0 I.kIn kC ?_
  obtain ⟨bm, N, nm, qn, bs, hdct, sn, sub, ab, col, dd, k0, k1, k2, k3, k5, mN, hC, hN, hni, T⟩ := exc_obj I.kIn q
  refine wpAny_call_exc_subT F T hC hN hni (fun h' e hm => ?_) (Nat.zero_le _)
  exact mk_of I hm r h (I.hok.gone hm.new)
/-- raise C() -/
theorem sraise0 (B : Bd X W k) (c : ExN X.K X.mg x) (hg : Gl X x := by rfl) (hdb : (x == ("__debug__" : Str)) = false := by decide) : PS X (.Raise (some (.Call (.Name x p0) [] [] pos)) none pos2) (tSS X T C W (sRaise x [] [])) := by
  obtain ⟨Cl, h1, h2, h3, h4, h5⟩ := c.ex
  exact impS (ps_raise B.calm B.tk (pmk_own0 F.excBase_ValueError h2 h1 h3 (raises_own h4 h5) hg hdb)) fun D σ H ⟨F, ρ, p, I, q⟩ => q (.ref Cl) none σ F H I (Same.refl F) ⟨⟨Cl, rfl, h1⟩, .inl ⟨rfl, rfl⟩⟩
theorem zip_fst {α β : Type} : ∀ {xs : List α} {ys : List β}, ys.length = xs.length → (xs.zip ys).map (·.1) = xs
  | [], _, _ => rfl
  | x :: xs, [], h => by cases h
  | x :: xs, y :: ys, h => by rw [List.zip_cons_cons, List.map_cons, zip_fst (Nat.succ.inj h)]
theorem zip_snd {α β : Type} : ∀ {xs : List α} {ys : List β}, ys.length = xs.length → (xs.zip ys).map (·.2) = ys
  | [], [], _ => rfl
  | [], y :: ys, h => by cases h
  | x :: xs, [], h => by cases h
  | x :: xs, y :: ys, h => by rw [List.zip_cons_cons, List.map_cons, zip_snd (Nat.succ.inj h)]
theorem Reps.rev {G : Gb} {xs : List D} {us : List V} (r : Reps G F xs us) : Reps G F xs.reverse us.reverse := by
  induction xs generalizing us with
  | nil =>
    unfold Reps at r
    subst r
    exact .nil
  | cons x xs ih =>
    obtain ⟨v, t, e, r1, r2⟩ := r.uncons
    subst e
    rw [List.reverse_cons, List.reverse_cons]
    exact (ih r2).app (.cons r1 .nil)
/-- raise C(e, ..) -/
theorem sraise {fs : List Str} (B : Bd X W k) (c : ExI X.prog X.w X.K X.mg X.base x fs) (ha : PA X (e :: es) (tA (gb X T) C W (dsN fl))) (hk : 2 ≤ k := by decide) (hn : fl.length = fs.length := by rfl) (hz : fs.length ≤ 1000 := by decide) (hg : Gl X x := by rfl) (hdb : (x == ("__debug__" : Str)) = false := by decide)
    (he : starEach (e :: es) X.env = (false, eval e X.env) :: starEach es X.env := by rfl) (hpl : (backTo pos (starEach es X.env)).any (·.1) = false := by rfl) : PS X (.Raise (some (.Call (.Name x p0) (e :: es) [] pos)) none pos2) (tSS X T C W (sRaise x fs fl)) := by
  obtain ⟨Cl, fI, fd, ps, h1, h2, h3, h4, h5, h6⟩ := c.ex
  refine impS (ps_raise B.calm B.tk (pmk_oex (CX := L2.CX X.prog X.w) h2 h3 h4 h5 (B.hr.mono hk) h6 .nil passL hg h1 ha hdb he hpl)) fun D σ H ⟨F, ρ, p, I, q⟩ => ?_
  have hlen : ∀ ds p1, dsN fl ρ p = .ok ds p1 → ds.length = fl.length := fun ds p1 h => dsN_len _ _ _ _ _ h
  have q0 : postS (gb X T) C W (runE ρ (dsN fl ρ p) fun ds p1 => .exc ⟨x, (fs.zip ds).reverse⟩ ρ p1) F D := q
  refine ⟨F, ρ, p, I, ?_⟩
  cases z : dsN fl ρ p with
  | err => rw [z] at q0; exact q0
  | exc u p1 =>
    rw [z] at q0
    exact fun cls dd F' H' I' e r => q0 cls dd σ F' H' I' e.ff r
  | ok ds p1 =>
    rw [z] at q0
    intro vs F1 H1 I1 e1 r1
    have l1 : vs.length = fs.length := by rw [r1.length, hlen ds p1 z, hn]
    have l2 : ds.length = fs.length := by rw [hlen ds p1 z, hn]
    refine ⟨by rw [l1]; exact hz, fun a na => ⟨a, vs ++ [], rfl, by rw [List.append_nil]; exact l1, upd_same, fun dx H' nd ne ea ed eb => ⟨rfl, dx, (fs.zip (vs ++ [])).reverse, ea, ed, ?_, ?_⟩⟩⟩
    · rw [upd_ne ne] at nd; exact nd
    · rw [upd_ne ne] at nd
      rw [List.append_nil] at ed ⊢
      have eH : upd (del H' a) dx (.xd (fs.zip vs).reverse) = upd H1 dx (.xd (fs.zip vs).reverse) := by
        funext b
        by_cases h1 : b = dx
        · rw [h1, upd_same, upd_same]
        · rw [upd_ne h1, upd_ne h1]
          by_cases h2 : b = a
          · rw [h2, del_same, na]
          · rw [del_ne h2, eb b h2 h1, upd_ne h2]
      rw [eH]
      have e2 := ext_newH (T := T) (pa := C.pa) (F := F1) (o := .xd (fs.zip vs).reverse) nd
      have I2 := I1.ext e2 (same_newH I1.fh nd) (I1.po.newH I1.fh nd)
      refine q0 (.ref Cl) (some dx) σ F1 _ I2 e1.ff ⟨⟨Cl, rfl, h1⟩, .inr ⟨dx, (fs.zip vs).reverse, rfl, upd_same, ?_, ?_⟩⟩
      · show (List.map (·.1) (fs.zip vs).reverse) = List.map (·.1) (fs.zip ds).reverse
        rw [List.map_reverse, List.map_reverse, zip_fst l1, zip_fst l2]
      · show Reps _ F1 (List.map (·.2) (fs.zip ds).reverse) (List.map (·.2) (fs.zip vs).reverse)
        rw [List.map_reverse, List.map_reverse, zip_snd l1, zip_snd l2]
        exact r1.rev
/-! ### try -/
/-- which error is which -/
def Exm (K : PySem.W.Frag) (mg : Str → Option Value) (cs : List Str) : Prop := ∀ x ∈ cs, ∀ y ∈ cs, ∀ cx cy, mg x = some (.ref cx) → mg y = some (.ref cy) → PySem.W.exmOne K (.ref cx) (.ref cy) = some (subC x y)
inductive DHds (X : Cx) (T : List (Addr × Str)) (C : DC) (cs : List Str) : List ExceptHandler → List (Value × (Addr → Value → Option Addr → TS)) → List (Str × DS) → Prop
  | nil : DHds X T C cs [] [] []
  | cons {x : Str} {cx : Addr} {h : DS} {b₀ : Stmt} {suite : List Stmt} {np pos' : Pos} {hds : List ExceptHandler} {l : List (Value × (Addr → Value → Option Addr → TS))} {r : List (Str × DS)} (hm : X.mg x = some (.ref cx)) (hg : Gl X x) (hdb : (x == ("__debug__" : Str)) = false) (hx : x ∈ cs)
      (hsu : ∀ (A : Around) (pn : List (Addr × Obj)), PSs { X with A := A, calm := false, pn := pn, xe := fun _ _ => False } (b₀ :: suite) (tSS X T C W0 h)) (t : DHds X T C cs hds l r) :
      DHds X T C cs (.ExceptHandler (some (.Name x np)) none (b₀ :: suite) pos' :: hds) ((.ref cx, fun _ _ _ => tSS X T C W0 h) :: l) ((x, h) :: r)
theorem DHds.ok {cs : List Str} {hds : List ExceptHandler} {l : List (Value × (Addr → Value → Option Addr → TS))} {r : List (Str × DS)} (h : DHds X T C cs hds l r) : HdsOk X hds l := by
  induction h with
  | nil => exact .nil
  | cons hm hg hdb hx hsu t ih => exact .cons ⟨hg, hdb, .inl hm⟩ (fun a oe cls d pn _ _ => hsu _ _) ih
theorem hOut_ok {G : Gb} {r : Out} {D : Ends} (h : postS G C W (hOut r) F D) : postS G C W0 r F D := by
  cases r with
  | exc e ρ p => exact h.elim
  | _ => exact h
theorem DHds.many {cs : List Str} {hds : List ExceptHandler} {l : List (Value × (Addr → Value → Option Addr → TS))} {r : List (Str × DS)} (h : DHds X T C cs hds l r) (hE : Exm X.K X.mg cs) {D : Ends} {e : Exc} {F F1 H1 : Hp} {cls : Value} {dd : Option Addr} {ρ : Env'} {p : Pot} {σ : L2.St} (hc : e.cls ∈ cs)
    (I : DInv (gb X T) C F1 H1 σ ρ p) (sm : Same F F1) (x : ExcR (gb X T) F1 H1 cls dd e) (q : postS (gb X T) C W (tryGo e ρ p r) F D) : wMany X.K W D l cls dd σ H1 := by
  induction h with
  | nil => exact q cls dd σ F1 H1 I sm x
  | @cons y cx h b₀ suite np pos' hds l r hm hg hdb hx hsu t ih =>
    obtain ⟨⟨Cl, e1, e2⟩, _⟩ := id x
    subst e1
    refine ⟨subC e.cls y, hE _ hc _ hx _ _ e2 hm, fun eb a na => ?_, fun eb => ih (by
      rw [tryGo, if_neg (by rw [eb]; exact Bool.false_ne_true)] at q; exact q)⟩
    rw [tryGo, if_pos eb] at q
    exact ⟨F1, ρ, p, I, postS.ext sm (hOut_ok q)⟩
/-- a try's body -/
theorem Bd.tr (B : Bd X W k) {W' : WX} {pn : List (Addr × Obj)} {xe : Value → Shared → Prop} (tk : Takes (X.tr pn xe) W') (hp : PassesOwn (model X.prog X.w) X.A X.env xe) : Bd (X.tr pn xe) W' k := ⟨B.calm, B.nd, B.hr, tk, hp⟩
theorem stry {body : List Stmt} {h₀ : ExceptHandler} {hds : List ExceptHandler} {l : List (Value × (Addr → Value → Option Addr → TS))} {r : List (Str × DS)} (cs : List Str) (B : Bd X W k) (hE : Exm X.K X.mg cs)
    (hb : ∀ (W' : WX) (pn : List (Addr × Obj)) (xe : Value → Shared → Prop), Bd (X.tr pn xe) W' k → PSs (X.tr pn xe) body (tSS X T C W' s)) (hh : DHds X T C cs (h₀ :: hds) l r) (hs : X.stack = X.env :: X.outer := by rfl) (hf : X.env.frame = some X.env.locals := by rfl) :
    PS X (.Try body (h₀ :: hds) [] [] pos) (tSS X T C W (sTry cs s r)) :=
  impS (ps_try_many (tb := fun W' => tSS X T C W' s) hs hf B.tk (fun W' pn xe tk hp => hb W' pn xe (B.tr tk hp)) hh.ok) fun D σ H ⟨F, ρ, p, I, q⟩ => by
    refine ⟨F, ρ, p, I, ?_⟩
    unfold sTry at q
    cases z : s ρ p with
    | exc e ρ1 p1 =>
      simp only [z] at q
      by_cases hc : e.cls ∈ cs
      · rw [if_pos hc] at q
        exact fun cls dd σ' F' H' I' sm x => hh.many hE hc I' sm x q
      · rw [if_neg hc] at q
        exact q.elim
    | nx ρ1 p1 => simp only [z] at q; exact q
    | ret d p1 => simp only [z] at q; exact q
    | brk ρ1 p1 => simp only [z] at q; exact q
    | ct ρ1 p1 => simp only [z] at q; exact q
    | err => simp only [z] at q; exact q
end
end DL
/-! DL12: errors that are looked at. -/
namespace DL
set_option autoImplicit false
open PySem PySem.Spec L2 PyProof.Rows
structure ExF (K : PySem.W.Frag) (mg : Str → Option Value) (x : Str) (fs : List Str) : Prop where
  ex : ∃ C, mg x = some (.ref C) ∧ XfC K C ∧ ∀ f ∈ fs, PySem.W.findIn K (.ref C) f = some none
section
variable {X : Cx} {T : List (Addr × Str)} {C : DC} {W : WX} {F F' H H' : Hp} {σ : L2.St} {ρ : Env'} {p : Pot} {x n : Str} {pos p0 pos2 : Pos} {k : Nat} {s : DS}
theorem look_rep {G : Gb} {f : Str} : ∀ {es : List (Str × D)} {fs : List (Str × V)} {d : D}, fs.map (·.1) = es.map (·.1) → Reps G F (es.map (·.2)) (fs.map (·.2)) → look f es = some d → ∃ v, fs.lookup f = some v ∧ Rep G F d v
  | [], fs, d, _, _, h => by cases h
  | (y, e) :: es, [], d, h, _, _ => by cases h
  | (y, e) :: es, (z, v) :: fs, d, h, r, l => by
    injection h with h1 h2
    obtain ⟨u, t, e1, r1, r2⟩ := r.uncons
    injection e1 with e1 e2
    have h1 : z = y := h1
    subst h1 e1 e2
    unfold look at l
    by_cases q : f = z
    · rw [if_pos q] at l
      cases l
      exact ⟨_, by rw [q]; simp [List.lookup], r1⟩
    · rw [if_neg q] at l
      obtain ⟨w, q1, q2⟩ := look_rep h2 r2 l
      refine ⟨w, ?_, q2⟩
      have : (f == z) = false := by simpa using q
      simp only [List.lookup, this]
      exact q1
theorem as_imp {cs : List Str} {i : Nat} {c : Str} {Cl : Addr} {kf : List (Str × D) → Option D} {ts : Addr → Value → Option Addr → TS} {D : Ends} (hE : Exm X.K X.mg cs) (hm : X.mg c = some (.ref Cl)) (hc : c ∈ cs)
    (hts : ∀ a cls dd e d F1 H1 σ' ρ' p' (R : VK) (D' : Ends), D'.rt = R → cls = .ref Cl → DInv (gb X T) C F1 H1 σ' ρ' p' → ExcR (gb X T) F1 H1 cls dd e → kf e.fs = some d → i < σ'.length → (∀ v F' H', DInv (gb X T) C F' H' σ' ρ' p' → Same F1 F' → Rep (gb X T) F' d v → R v H') → ts a cls dd D' (σ'.set i (some (.ref a))) H1)
    (I : DInv (gb X T) C F H σ ρ p) (q : postS (gb X T) C W (sTryAs cs s c i kf ρ p) F D) : tSS X T C (wAs X.K (.ref Cl) i ts W D) s D σ H := by
  refine ⟨F, ρ, p, I, ?_⟩
  unfold sTryAs at q
  cases z : s ρ p with
  | exc e ρ1 p1 =>
    simp only [z] at q
    by_cases hcs : e.cls ∈ cs ∧ i < ρ1.length
    · rw [if_pos hcs] at q
      intro cls dd σ' F' H' I' sm xr
      obtain ⟨⟨Ce, e1, e2⟩, _⟩ := id xr
      subst e1
      refine ⟨subC e.cls c, hE _ hcs.1 _ hc _ _ e2 hm, fun eb a na => ?_, fun eb => ?_⟩
      · by_cases h2 : e.cls = c
        · rw [if_pos h2] at q
          cases hk : kf e.fs with
          | none => rw [hk] at q; exact q.elim
          | some d =>
            rw [hk] at q
            have e3 : X.mg e.cls = some (.ref Ce) := e2
            rw [h2, hm] at e3
            injection e3 with e3
            injection e3 with e3
            subst e3
            exact hts a _ dd e d F' H' σ' ρ1 p1 D.rt _ rfl rfl I' xr hk (Nat.lt_of_lt_of_le hcs.2 I'.ln) fun v F2 H2 I2 s2 r2 => q v σ' ρ1 F2 H2 I2 (sm.trans s2) r2
        · rw [if_neg h2, if_pos eb] at q
          exact q.elim
      · have h2 : e.cls ≠ c := fun h => by
          rw [h] at eb
          unfold subC at eb
          simp at eb
        rw [if_neg h2, if_neg (by rw [eb]; exact Bool.false_ne_true)] at q
        exact q _ dd σ' F' H' I' sm xr
    · rw [if_neg hcs] at q
      exact q.elim
  | nx ρ1 p1 => simp only [z] at q; exact q
  | ret d p1 => simp only [z] at q; exact q
  | brk ρ1 p1 => simp only [z] at q; exact q
  | ct ρ1 p1 => simp only [z] at q; exact q
  | err => simp only [z] at q; exact q
/-- try: s, except c as n: return n.f -/
theorem stryas1 {body : List Stmt} {c f : Str} {np p1 p2 p3 p4 : Pos} (cs : List Str) (i : Nat) (B : Bd X W k) (hE : Exm X.K X.mg cs) (hc : c ∈ cs) (c0 : ExF X.K X.mg c [f])
    (hb : ∀ (W' : WX) (pn : List (Addr × Obj)) (xe : Value → Shared → Prop), Bd (X.tr pn xe) W' k → PSs (X.tr pn xe) body (tSS X T C W' s)) (hg : Gl X c := by rfl) (hdb : (c == ("__debug__" : Str)) = false := by decide)
    (hi : X.N[i]? = some n := by rfl) (hl : X.env.kindOf n = some .local := by rfl) (hnd : (n == ("__debug__" : Str)) = false := by decide) (hncd : (n == ("__classdict__" : Str)) = false := by decide) (hs : X.stack = X.env :: X.outer := by rfl) (hf : X.env.frame = some X.env.locals := by rfl)
    (hat : attributeBase (.Name n p1) f X.env (eval (.Name n p1) X.env) = eval (.Name n p1) X.env := by rfl) :
    PS X (.Try body [.ExceptHandler (some (.Name c np)) (some n) [.Return (some (.Attribute (.Name n p1) f p2)) p3] p4] [] [] pos) (tSS X T C W (sTryAs cs s c i (look f))) := by
  obtain ⟨Cl, h1, h2, h3⟩ := c0.ex
  refine impS (ps_try_as (tb := fun W' => tSS X T C W' s) hs hf B.nd hi hl ⟨hg, hdb, .inl h1⟩ B.tk (fun W' pn xe tk hp => hb W' pn xe (B.tr tk hp)) fun a oe cls d pn hz hv => pss_one (ps_ret (pe_xf h2 (h3 f List.mem_cons_self) hz hv (pe_var (i := i) hi (.inl hl) hnd hncd) hat))) fun D σ H ⟨F, ρ, p, I, q⟩ => ?_
  refine as_imp hE h1 hc (fun a cls dd e d F1 H1 σ' ρ' p' R D' eR ec I' xr hk hlt hR => ?_) I q
  obtain ⟨_, ⟨e1, e2⟩ | ⟨d0, fs, e1, e2, e3, e4⟩⟩ := xr
  · rw [e1] at hk; cases hk
  · obtain ⟨v, q1, q2⟩ := look_rep e3 e4 hk
    refine ⟨.ref a, List.getElem?_set_self hlt, rfl, ec, d0, fs, v, e1, e2, q1, ?_⟩
    show D'.rt v H1
    rw [eR]
    exact hR v F1 H1 I' (Same.refl F1) q2
/-- .. return (n.f, n.g) -/
theorem stryas2 {body : List Stmt} {c f g : Str} {np p1 p2 p3 p4 p5 p6 p7 : Pos} {kt : Nat} (cs : List Str) (i : Nat) (B : Bd X W k) (hE : Exm X.K X.mg cs) (hc : c ∈ cs) (c0 : ExF X.K X.mg c [f, g])
    (hb : ∀ (W' : WX) (pn : List (Addr × Obj)) (xe : Value → Shared → Prop), Bd (X.tr pn xe) W' k → PSs (X.tr pn xe) body (tSS X T C W' s)) (hg : Gl X c := by rfl) (hdb : (c == ("__debug__" : Str)) = false := by decide)
    (hi : X.N[i]? = some n := by rfl) (hl : X.env.kindOf n = some .local := by rfl) (hnd : (n == ("__debug__" : Str)) = false := by decide) (hncd : (n == ("__classdict__" : Str)) = false := by decide) (hs : X.stack = X.env :: X.outer := by rfl) (hf : X.env.frame = some X.env.locals := by rfl)
    (hat : attributeBase (.Name n p1) f X.env (eval (.Name n p1) X.env) = eval (.Name n p1) X.env := by rfl) (hat2 : attributeBase (.Name n p5) g X.env (eval (.Name n p5) X.env) = eval (.Name n p5) X.env := by rfl)
    (h1' : starEach [.Attribute (.Name n p1) f p2, .Attribute (.Name n p5) g p6] X.env = (false, eval (.Attribute (.Name n p1) f p2) X.env) :: starEach [.Attribute (.Name n p5) g p6] X.env := by rfl) (h2' : starEach [.Attribute (.Name n p5) g p6] X.env = (false, eval (.Attribute (.Name n p5) g p6) X.env) :: starEach [] X.env := by rfl) :
    PS X (.Try body [.ExceptHandler (some (.Name c np)) (some n) [.Return (some (.Tuple [.Attribute (.Name n p1) f p2, .Attribute (.Name n p5) g p6] kt p7)) p3] p4] [] [] pos) (tSS X T C W (sTryAs cs s c i (look2 f g))) := by
  obtain ⟨Cl, h1, h2, h3⟩ := c0.ex
  refine impS (ps_try_as (tb := fun W' => tSS X T C W' s) hs hf B.nd hi hl ⟨hg, hdb, .inl h1⟩ B.tk (fun W' pn xe tk hp => hb W' pn xe (B.tr tk hp)) fun a oe cls d pn hz hv => pss_one (ps_ret (pe_tup (pa_cons (pe_xf h2 (h3 f List.mem_cons_self) hz hv (pe_var (i := i) hi (.inl hl) hnd hncd) hat)
    (pa_cons (pe_xf h2 (h3 g (List.mem_cons_of_mem _ List.mem_cons_self)) hz hv (pe_var (i := i) hi (.inl hl) hnd hncd) hat2) pa_nil h2') h1')))) fun D σ H ⟨F, ρ, p, I, q⟩ => ?_
  refine as_imp hE h1 hc (fun a cls dd e d F1 H1 σ' ρ' p' R D' eR ec I' xr hk hlt hR => ?_) I q
  obtain ⟨_, ⟨e1, e2⟩ | ⟨d0, fs, e1, e2, e3, e4⟩⟩ := xr
  · rw [e1] at hk; cases hk
  · unfold look2 at hk
    cases hk1 : look f e.fs with
    | none => rw [hk1] at hk; cases hk
    | some da =>
      cases hk2 : look g e.fs with
      | none => rw [hk1, hk2] at hk; cases hk
      | some db =>
        rw [hk1, hk2] at hk
        cases hk
        obtain ⟨v, q1, q2⟩ := look_rep e3 e4 hk1
        obtain ⟨u, q3, q4⟩ := look_rep e3 e4 hk2
        refine ⟨.ref a, List.getElem?_set_self hlt, rfl, ec, d0, fs, v, e1, e2, q1, .ref a, List.getElem?_set_self hlt, rfl, ec, d0, fs, u, e1, e2, q3, lim_line (show 2 ≤ lim by decide), fun l n => ?_⟩
        show D'.rt (.ref l) (upd H1 l (.tup [v, u]))
        rw [eR]
        exact hR _ _ _ (I'.new n) (ext_new (T := T) (pa := C.pa) I'.fh n).ff (rep_pair I'.fh n q2 q4)
end
end DL
/-! DL13: a lambda handed to the def that tells which error comes. -/
namespace DL
set_option autoImplicit false
open PySem PySem.Spec L2 PyProof.Rows LamX
section
variable {X : Cx} {pins : List (Addr × Obj)} {σ : L2.St} {H HZ : Hp} {s s1 : Shared}
/-- work(), in the def that got the lambda: Z is that def's context, entered at s; the wish may look at that def's slots -/
theorem pe_act2 {CXg : CXT} {Eg : XK} {Ng : List Str} {qg : Str} {sg : Scope} {g f c' : Addr} {cdg pm ctv : Value} {params : Arguments} {body : Expr} {scope : Scope} {k i : Nat} {a : Str} {pn : List (Addr × Obj)} {xe : Value → Shared → Prop} {W : WX} {tb : XK → TE} {p1 p2 : Pos}
    (I : Inv X pins σ H s) (L : LamS X.env.scope scope) (hf : s.heap.get? f = some (PySem.W.kla_obj "<lambda>" (X.env.qual ++ "<lambda>") params body scope (cloFrom X.env.cells scope.names []) pm c' ctv)) (hfn : H f = none) (hfr : f ∉ frs X.stack)
    (hbind : bindArgs (PySem.W.kla_fn "<lambda>" (X.env.qual ++ "<lambda>") params body scope (cloFrom X.env.cells scope.names []) pm (.ref c') ctv) ⟨[], []⟩ = pure [])
    (tk : Takes ((cxOf CXg X.prog X.w X.K X.mg X.base Ng qg sg g cdg X.A X.stack s H Eg).tr pn xe) W) (hr : Room (k + 1) (X.A.deeper (envOfC qg sg s.heap.objs.size g cdg)))
    (hbody : ∀ (A : Around) (outer : List Env) (s : Shared) (H : Hp) (E : XK), Room k (A.deeper (lamEnv X scope s.heap.objs.size f c')) → PE (lamCx X A outer s H E scope f c') body (tb E))
    (hN : Ng[i]? = some a) (hv : Vis sg a) (hd : (a == ("__debug__" : Str)) = false := by decide) (hcd : (a == ("__classdict__" : Str)) = false := by decide) :
    PE ((cxOf CXg X.prog X.w X.K X.mg X.base Ng qg sg g cdg X.A X.stack s H Eg).tr pn xe) (.Call (.Name a p1) [] [] p2)
      (fun σZ HZ Q => σZ[i]? = some (some (.ref f)) ∧ HZ c' = some (CodeO c' (X.env.qual ++ "<lambda>")) ∧ tb (WE W σZ) σ HZ Q) := by
  refine ⟨fun pinsZ sZ σZ HZ Q IZ h => ?_⟩
  obtain ⟨hs, hc, ht⟩ := h
  refine wpAny_Call_Name_kw (thn ((pe_var (pos := p1) (i := i) hN hv hd hcd).run pinsZ sZ σZ HZ (fun v H1 => v = .ref f ∧ H1 = HZ) IZ ⟨.ref f, hs, rfl, rfl⟩) fun u s1 ⟨v, H1, I1, r1, q1⟩ => ?_)
  obtain ⟨ev, eH⟩ := q1
  subst ev
  rw [eH] at I1
  obtain rfl : u = Value.ref f := r1
  have of1 : s1.heap.get? f = some (PySem.W.kla_obj "<lambda>" (X.env.qual ++ "<lambda>") params body scope (cloFrom X.env.cells scope.names []) pm c' ctv) := I1.base.keep f _ hf hfn hfr (fun z => nomatch (show f ∈ ([] : List Addr) from z))
  refine PySem.W.callWith_F0 ⟨_, _, _, _, of1⟩ ?_
  have un : Un (frs X.stack) [] H HZ s.heap s1.heap := I1.base
  obtain ⟨⟨oc, vs, t, hoc, hdc, hvc⟩, _, _⟩ := I1.hok c' _ hc
  have rc : codeAny (model X.prog X.w) (X.A.deeper (envOfC qg sg s.heap.objs.size g cdg)) (.call (.ref f) ⟨[], []⟩) (CR (L2.CX X.prog X.w) (envOfC qg sg s.heap.objs.size g cdg :: X.stack) X.prog X.w HZ s1 Q (WE W σZ)) s1 := by
    refine PySem.W.kla_callFunE hr.depth of1 rfl L.co L.gen rfl ⟨c', oc, vs, t, rfl, hoc, hdc, hvc⟩ ?_
    rw [hbind]
    refine wpAny_pure (wpAny_newFunctionEnv (fun y hy => (L.own y hy).2) (fun y hy => absurd hy (by simp)) (fun h₁ hns hsb => ⟨I1.nolimit.fresh _ hsb, ?_⟩) L.kind)
    show codeAny _ _ (.expr body (lamEnv X scope s1.heap.objs.size f c')) _ _
    have kp : ∀ b o, s1.heap.get? b = some o → h₁.get? b = some o := fun b o e => hsb.extBut b o (Nat.ne_of_lt (Heap.lt_size e)) (Heap.get?_push_of_some _ e)
    have J : Inv (lamCx X (X.A.deeper (envOfC qg sg s.heap.objs.size g cdg)) (envOfC qg sg s.heap.objs.size g cdg :: X.stack) s1 HZ (WE W σZ) scope f c') [] σ HZ { s1 with heap := h₁, toks := s1.toks + ([] : List (Str × Value)).length } :=
      lam_start2 I L I1.env0 hr.hd un hns kp
    refine PySem.W.kla_codeExpr (wpAny_mono ((hbody _ _ s1 HZ (WE W σZ) (hr.deeper _)).run [] _ _ HZ Q J ht) (fun v s' hq => ?_) fun e s' hq => hq)
    obtain ⟨w', H', J', rv, q⟩ := hq
    exact ⟨w', H', J'.os, J'.bare, J'.base, J'.hok, rv, q⟩
  have hx : PassesAt (L2.CX X.prog X.w) ((cxOf CXg X.prog X.w X.K X.mg X.base Ng qg sg g cdg X.A X.stack s H Eg).tr pn xe) σZ (WE W σZ) := passAt tk σZ
  refine wpAny_call (codeAny_mono rc fun r s' hq => ?_)
  cases r with
  | error e => exact hx pinsZ HZ s1 e s' I1 hq
  | ok fl =>
    cases fl with
    | ret u => exact I1.after hq
    | next => exact False.elim hq
    | brk => exact False.elim hq
    | cont => exact False.elim hq
end
/-- try: work() / except C: return name == 'C' / ..; return False -/
def rzGo (e : Exc) (nm : Str) : List Str → Option Bool
  | [] => none
  | c :: r => if subC e.cls c then some (decide (nm = c)) else rzGo e nm r
def dRaises (cs hs : List Str) (nm : Str) (b : DE) : DE := fun ρ p => match b ρ p with
  | .ok _ p1 => .ok (.bl false) p1
  | .exc e p1 => if e.cls ∈ cs then (match rzGo e nm hs with
      | some b => .ok (.bl b) p1
      | none => .err) else .err
  | .err => .err
/-- the clauses of that def -/
inductive RHds (mg : Str → Option Value) (sg : Scope) (cs : List Str) : List ExceptHandler → List (Value × Str) → List Str → Prop
  | nil : RHds mg sg cs [] [] []
  | cons {x : Str} {cx : Addr} {np p1 p2 p3 p4 p5 : Pos} {j : Nat} {hds : List ExceptHandler} {l : List (Value × Str)} {r : List Str} (hm : mg x = some (.ref cx)) (hg : sg.names.lookup x = some .globalImplicit) (hdb : (x == ("__debug__" : Str)) = false) (hx : x ∈ cs) (t : RHds mg sg cs hds l r) :
      RHds mg sg cs (.ExceptHandler (some (.Name x np)) none [.Return (some (.Compare (.Name "name" p1) [.Eq] [.Constant (.str x) j p2] p3)) p4] p5 :: hds) ((.ref cx, x) :: l) (x :: r)
section
variable {X : Cx} {T : List (Addr × Str)} {C : DC} {W : WX} {F F' H H' : Hp} {σ : L2.St} {ρ : Env'} {p : Pot} {k : Nat} {b : DE}
def tHd (x : Str) : Addr → Value → Option Addr → TS := fun _ _ _ => tRet (tOp rEq (tVar 1) (tC (.str x)))
theorem RHds.ok {Z : Cx} {sg : Scope} {cs : List Str} {hds : List ExceptHandler} {l : List (Value × Str)} {r : List Str} (hZ : Z.env.scope = sg) (h1 : Z.N[1]? = some ("name" : Str)) (hl : sg.names.lookup ("name" : Str) = some .local) (h : RHds Z.mg sg cs hds l r) : HdsOk Z hds (l.map fun q => (q.1, tHd q.2)) := by
  subst hZ
  induction h with
  | nil => exact .nil
  | cons hm hg hdb hx t ih => exact .cons ⟨hg, hdb, .inl hm⟩ (fun a oe cls d pn _ _ => pss_one (ps_ret (pe_cmpR op_eq (pe_var (i := 1) h1 (.inl hl) (by decide) (by decide)) pe_str (nomark _)))) ih
theorem RHds.many {sg : Scope} {cs : List Str} {hds : List ExceptHandler} {l : List (Value × Str)} {r : List Str} (h : RHds X.mg sg cs hds l r) (hE : Exm X.K X.mg cs) {D : Ends} {e : Exc} {F1 H1 : Hp} {cls : Value} {dd : Option Addr} {σZ : L2.St} {nm : Str} {bb : Bool} (hc : e.cls ∈ cs)
    (x : ExcR (gb X T) F1 H1 cls dd e) (hn : σZ[1]? = some (some (.str nm))) (q : rzGo e nm r = some bb) (q2 : D.rt (.bl bb) H1) : wMany X.K (fun _ _ _ _ => False) D (l.map fun q => (q.1, tHd q.2)) cls dd σZ H1 := by
  induction h with
  | nil => cases q
  | @cons y cx np p1 p2 p3 p4 p5 j hds l r hm hg hdb hx t ih =>
    obtain ⟨⟨Cl, e1, e2⟩, _⟩ := id x
    subst e1
    refine ⟨subC e.cls y, hE _ hc _ hx _ _ e2 hm, fun eb a na => ?_, fun eb => ih ?_⟩
    · rw [rzGo, if_pos eb] at q
      refine ⟨.str nm, hn, rfl, ?_⟩
      have e5 : decide (V.str nm = V.str y) = bb := by
        rw [← Option.some.inj q]
        simp
      show D.rt (.bl (decide (V.str nm = V.str y))) H1
      rw [e5]
      exact q2
    · rw [rzGo, if_neg (by rw [eb]; exact Bool.false_ne_true)] at q
      exact q
/-- what is known of the def that is handed the lambda -/
structure RzD (K : PySem.W.Frag) (mg : Str → Option Value) (x : Str) (cs hs : List Str) : Prop where
  ex : ∃ (g : Addr) (bg : List Stmt) (sg : Scope) (fd : FuncData) (pa : Arguments) (hds : List ExceptHandler) (h0 : ExceptHandler) (l : List (Value × Str)) (q1 q2 q3 q4 q5 q6 : Pos) (j : Tok), FunD K x x pa bg sg [] [] g fd ∧ mg x = some (.ref g) ∧ Binds K fd ["work", "name"] [] ∧ FnScope ["work", "name"] ["work", "name"] sg ∧
    sg.names.lookup ("work" : Str) = some .local ∧ sg.names.lookup ("name" : Str) = some .local ∧ bg = [.Try [.Expr (.Call (.Name "work" q1) [] [] q2) q3] (h0 :: hds) [] [] q4, .Return (some (.Constant (.bool false) j q5)) q6] ∧ RHds mg sg cs (h0 :: hds) l hs
theorem ext_lam {T' : List (Addr × Str)} {pa : Option Addr} {H1 : Hp} (eN : ExtN H H1) (T1 : Tabs T' H1) : Ext T' pa F H F H1 := ⟨Same.refl F, fun _ _ => rfl, fun a o h _ n => eN a o h n, fun a ⟨o, h, n⟩ => ⟨o, eN a o h n, n⟩, fun _ => T1, fun n => n⟩
theorem same_lam {H1 : Hp} (nt : NoT F) (fh : Same F H) (eN : ExtN H H1) : Same F H1 := fun a o h => eN a o (fh a o h) fun ps e => nt a ps (by rw [h, e])
theorem pot_lam {pa : Option Addr} {H1 : Hp} (nt : NoT F) (fh : Same F H) (po : PotOk pa F H p) (eN : ExtN H H1) : PotOk pa F H1 p := fun a e => by
  obtain ⟨f, g, c, q1, q2⟩ := po a e
  exact ⟨f, g, c, eN _ _ q1 fun _ z => (nomatch z), q2⟩
/-- tell(lambda: b, 'nm') -/
theorem erz {x nm : Str} {c P : Addr} {params : Arguments} {body : Expr} {scope : Scope} {lpos p0 p1 pos : Pos} {j : Nat} (cs hs : List Str) (h : RzD X.K X.mg x cs hs) (B : Bd X W (k + 2)) (hE : Exm X.K X.mg cs)
    (TB : TabB X.base X.mg c P) (hcode : X.env.code = .ref c) (hmT : (P, X.env.qual ++ "<lambda>") ∈ T) (hu : ∀ p ∈ T, p.1 = P → p.2 = X.env.qual ++ "<lambda>")
    (hbody : ∀ (A : Around) (outer : List Env) (s : Shared) (H : Hp) (E : XK) (f c' : Addr), Bd (lamCx X A outer s H E scope f c') (WE' E) k → PE (lamCx X A outer s H E scope f c') body (tE (gb X T) C (WE' E) b))
    (L : lamSB X.env.scope scope = true := by rfl) (hg : Gl X x := by rfl) (hdef : defaultsOf params X.env = ([], []) := by rfl)
    (hbind : ∀ (q : Str) (cl : List (Str × Addr)) (pm cv ctv : Value), bindArgs (PySem.W.kla_fn "<lambda>" q params body scope cl pm cv ctv) ⟨[], []⟩ = pure [] := by intros; rfl)
    (hdb : (x == ("__debug__" : Str)) = false := by decide) (h1 : starEach [.Lambda params body scope lpos, .Constant (.str nm) j p1] X.env = (false, eval (.Lambda params body scope lpos) X.env) :: starEach [.Constant (.str nm) j p1] X.env := by rfl)
    (h2 : starEach [.Constant (.str nm) j p1] X.env = (false, eval (.Constant (.str nm) j p1) X.env) :: starEach [] X.env := by rfl) (h3 : (backTo pos (starEach [.Constant (.str nm) j p1] X.env)).any (·.1) = false := by rfl) :
    PE X (.Call (.Name x p0) [.Lambda params body scope lpos, .Constant (.str nm) j p1] [] pos) (tE (gb X T) C W (dRaises cs hs nm b)) := by
  have L := lamS_by L
  obtain ⟨g, bg, sg, fd, pa, hds, h0, l, q1, q2, q3, q4, q5, q6, j2, FD, hm, hb, Sg, hw, hn, ebg, hR⟩ := h.ex
  subst ebg
  have kp := FD.kp
  obtain ⟨oc, od, dV, kV, doc, pm, an, cdv, ct, osl, rfl, lk, hcg, _, _⟩ := FD.ex
  refine ⟨fun pins s σ H Q I ⟨F, ρ, p, J, q⟩ => ?_⟩
  refine wpAny_Call_Name_kw (ld_glob I hg hm ?_ hdb)
  refine PySem.W.callWith_K (h₀ := X.base) I.ok.mod.kin kp ?_ h1 h3
  rw [h1, h2]
  show wpAny _ _ (spliced ((false, eval (.Lambda params body scope lpos) X.env) :: (false, eval (.Constant (.str nm) j p1) X.env) :: backTo pos (starEach [] X.env))) _ _ s
  refine Calls.spliced_cons (lam_make2 I TB hcode hmT hu J.tb hdef (L.has I.ok) fun f c' pm' ctv H1 s' I1 eN T1 hf hfn hfr hco => ?_)
  refine Calls.spliced_cons (Calls.Constant_str ?_)
  refine Calls.spliced_nil ?_
  have I2 := I1.tok (s'.toks + 1)
  refine ⟨I2.kIn, ?_⟩
  -- the state at the call
  have xL : Ext T C.pa F H F H1 := ext_lam eN T1
  have J1 : DInv (gb X T) C F H1 σ ρ p := J.ext xL (same_lam J.nt J.fh eN) (pot_lam J.nt J.fh J.po eN)
  have q1' : post (gb X T) C W (fun F _ d v => Rep (gb X T) F d v) (dRaises cs hs nm b ρ p) F H1 σ ρ Q := post.ext xL q
  have rc : codeAny (model X.prog X.w) X.A (.call (.ref g) ⟨[.ref f, .str nm s'.toks], []⟩) (CR C8.CX0 X.stack X.prog X.w H1 { s' with toks := s'.toks + 1 } Q C8.E0) { s' with toks := s'.toks + 1 } := by
    refine run_ofS (N := ["work", "name"]) (ps := ["work", "name"]) (us := [.ref f, .str nm s'.toks]) (vs := [.ref f, .str nm]) lk hcg Sg B.hr I2.env0 ?_ (.cons rfl (.cons ⟨_, rfl⟩ .nil)) rfl fun hr' => ?_
    · have := hb { s' with toks := s'.toks + 1 } [.ref f, .str nm s'.toks] I2.kIn rfl
      rw [List.append_nil] at this
      exact this
    · refine ⟨_, pss_cons (ps_try_many (X := cxOf C8.CX0 X.prog X.w X.K X.mg X.base ["work", "name"] x sg g cdv X.A X.stack { s' with toks := s'.toks + 1 } H1 C8.E0) (Wout := fun _ _ _ _ => False)
        (tb := fun W' => tSeq (tDrop fun σZ HZ Q => σZ[0]? = some (some (.ref f)) ∧ HZ c' = some (CodeO c' (X.env.qual ++ "<lambda>")) ∧ tE (gb X T) C (WE' (WE W' σZ)) b σ HZ Q) (fun D σ H => D.nx σ H)) rfl rfl LamX.takes0 (fun W' pn xe tk hp => pss_one (ps_expr (pe_act2 (i := 0) (tb := fun E => tE (gb X T) C (WE' E) b) I2 L hf hfn hfr (hbind _ _ _ _ _) tk hr'
          (fun A outer s H E hr2 => hbody A outer s H E f c' ⟨rfl, B.nd, hr2, takes_of rfl rfl rfl rfl, passes_of rfl⟩) rfl (.inl hw)))) (hR.ok rfl rfl hn)) (pss_one (ps_ret pe_bl)), ?_⟩
      refine ⟨rfl, hco, F, ρ, p, J1, ?_⟩
      unfold dRaises at q1'
      cases z : b ρ p with
      | err => simp only [z] at q1'; exact q1'
      | ok d p1 =>
        simp only [z] at q1'
        exact fun v F' H' I' e r => q1' (.bl false) F' H' I' e (by unfold Rep; rfl)
      | exc e p1 =>
        simp only [z] at q1'
        intro cls dd F' H' I' e' xr
        by_cases hc : e.cls ∈ cs
        · rw [if_pos hc] at q1'
          cases w : rzGo e nm hs with
          | some bb =>
            rw [w] at q1'
            exact hR.many hE hc xr rfl w (q1' (.bl bb) F' H' I' e' (by unfold Rep; rfl))
          | none => rw [w] at q1'; exact q1'.elim
        · rw [if_neg hc] at q1'
          exact q1'.elim
  refine wpAny_call (codeAny_mono rc fun r s2 hq => ?_)
  cases r with
  | error e => exact (show False from hq).elim
  | ok fl =>
    cases fl with
    | ret u => exact I2.after hq
    | next => exact False.elim hq
    | brk => exact False.elim hq
    | cont => exact False.elim hq
end
end DL
/-! DL14: the pot; functions as values; powers. -/
namespace DL
set_option autoImplicit false
open PySem PySem.Spec L2 PyProof.Rows
section
variable {X : Cx} {T : List (Addr × Str)} {C : DC} {W : WX} {F F' H H' : Hp} {σ : L2.St} {ρ : Env'} {p : Pot} {k : Nat} {e : Expr} {es : List Expr} {f : DE} {fl : List DE} {y x : Str} {pos p0 p1 p2 py : Pos} {j : Tok}
theorem o_pow : OpR X (binaryOp .Pow) (rD (gb X T) C W pPow) := by
  intro pins s σ H x y v u Q I rx ry h
  obtain ⟨F, σ', ρ, p, d1, d2, J, l1, l2, q⟩ := h
  cases d1 with
  | int a =>
    cases d2 with
    | int b =>
      unfold pPow at q
      by_cases hz : 0 ≤ b ∧ b ≤ 1000000 ∧ a.natAbs < 18446744073709551616
      · simp only [hz, if_true, and_self] at q
        exact op_pow pins s σ H x y v u Q I rx ry ⟨a, b, l1.int, l2.int, hz, q.now J (by unfold Rep; rfl)⟩
      · simp only [hz, if_false] at q
        exact q.elim
    | _ => exact q.elim
  | _ => exact q.elim
theorem reps_ints {G : Gb} : ∀ (ns : List Int), Reps G F (ns.map .int) (ns.map .int)
  | [] => .nil
  | n :: ns => .cons (by unfold Rep; rfl) (reps_ints ns)
/-- pot[0] -/
theorem pp0 (hpa : C.pa.isSome = true) (hN : X.N[C.ps]? = some y := by rfl) (hv : Vis X.env.scope y := by first | exact Or.inl rfl | exact Or.inr (Or.inl rfl) | exact Or.inr (Or.inr rfl)) (hd : (y == ("__debug__" : Str)) = false := by decide) (hcd : (y == ("__classdict__" : Str)) = false := by decide)
    (hs : PlainIx (.Constant (.int 0) j p1) := by intro _ _; rfl) : PE X (.Subscript (.Name y py) (.Constant (.int 0) j p1) pos) (tE (gb X T) C W dP0) :=
  imp (pe_ix ix_list (pe_var hN hv hd hcd) pe_int hs) fun σ H Q ⟨F, ρ, p, I, q⟩ => by
    obtain ⟨a, ea⟩ := Option.isSome_iff_exists.mp hpa
    obtain ⟨f0, g, c, h1, h2⟩ := I.po a ea
    refine ⟨.ref a, (I.ps a ea).1, a, _, 0, _, rfl, rfl, SqL.of h1, rfl, ?_⟩
    have q : post (gb X T) C W (fun F _ d v => Rep (gb X T) F d v) (.ok (.lst (p.cells.map .int)) p) F H σ ρ Q := q
    refine q.now I ?_
    unfold Rep
    exact ⟨c, _, rfl, h2, by rw [List.length_map]; exact Nat.le_trans g.len (by decide), reps_ints _⟩
/-- pot[k] -/
theorem ppk (k : Nat) {i : Int} (hpa : C.pa.isSome = true) (hk : i = (k : Int) := by rfl) (hN : X.N[C.ps]? = some y := by rfl) (hv : Vis X.env.scope y := by first | exact Or.inl rfl | exact Or.inr (Or.inl rfl) | exact Or.inr (Or.inr rfl)) (hd : (y == ("__debug__" : Str)) = false := by decide) (hcd : (y == ("__classdict__" : Str)) = false := by decide)
    (hs : PlainIx (.Constant (.int i) j p1) := by intro _ _; rfl) : PE X (.Subscript (.Name y py) (.Constant (.int i) j p1) pos) (tE (gb X T) C W (dPk k)) :=
  imp (pe_ix ix_list (pe_var hN hv hd hcd) pe_int hs) fun σ H Q ⟨F, ρ, p, I, q⟩ => by
    subst hk
    obtain ⟨a, ea⟩ := Option.isSome_iff_exists.mp hpa
    obtain ⟨f0, g, c, h1, h2⟩ := I.po a ea
    unfold dPk at q
    have key : ∃ n, potAt k p = some n ∧ atI [V.ref c, .int p.i, .int p.m, .int p.g] (k : Int) = some (.int n) := by
      match k with
      | 0 => exact q.elim
      | 1 => exact ⟨_, rfl, rfl⟩
      | 2 => exact ⟨_, rfl, rfl⟩
      | 3 => exact ⟨_, rfl, rfl⟩
      | n + 4 => exact q.elim
    obtain ⟨n, e1, e2⟩ := key
    rw [e1] at q
    exact ⟨.ref a, (I.ps a ea).1, a, _, (k : Int), _, rfl, rfl, SqL.of h1, e2, q.now I (by unfold Rep; rfl)⟩
theorem ext_pot {T : List (Addr × Str)} {a : Addr} {xs ys : List V} (h : H a = some (.lst xs)) : Ext T (some a) F H F (upd H a (.lst ys)) := by
  refine ⟨Same.refl F, fun _ _ => rfl, fun b o hb n _ => ?_, fun b ⟨o, h1, h2⟩ => ?_, fun t => Tabs.updL t h, fun n => n⟩
  · rw [upd_ne (fun e => n (by rw [e]))]; exact hb
  · by_cases e : b = a
    · rw [e]; exact ⟨_, upd_same, fun _ z => nomatch z⟩
    · exact ⟨o, by rw [upd_ne e]; exact h1, h2⟩
/-- pot[k] = e -/
theorem spk (k : Nat) {i : Int} (hpa : C.pa.isSome = true) (he : PE X e (tE (gb X T) C W f)) (hk : i = (k : Int) := by rfl) (hN : X.N[C.ps]? = some y := by rfl) (hv : Vis X.env.scope y := by first | exact Or.inl rfl | exact Or.inr (Or.inl rfl) | exact Or.inr (Or.inr rfl)) (hd : (y == ("__debug__" : Str)) = false := by decide) (hcd : (y == ("__classdict__" : Str)) = false := by decide)
    (ha : ∀ v, assign (.Subscript (.Name y py) (.Constant (.int i) j p1) p2) X.env v = (do
      let ov ← holding [v] (eval (.Name y py) X.env)
      let iv ← holding [v, ov] (eval (.Constant (.int i) j p1) X.env)
      standAt p2
      holding [v, ov, iv] (setItem ov iv v)
      release [v, ov, iv] []) := by intro _; rfl)
    (hs : swapsWithSole [.Subscript (.Name y py) (.Constant (.int i) j p1) p2] e pos.line X.env = pure false := by rfl) (hw : swappedStores [.Subscript (.Name y py) (.Constant (.int i) j p1) p2] e X.env = pure none := by rfl)
    (h1' : (assignEach [.Subscript (.Name y py) (.Constant (.int i) j p1) p2] X.env).map (·.2) = [assign (.Subscript (.Name y py) (.Constant (.int i) j p1) p2) X.env] := by rfl) :
    PS X (.Assign [.Subscript (.Name y py) (.Constant (.int i) j p1) p2] e pos) (tSS X T C W (sPk k f)) :=
  impS (ps_asg he (pg_sub (pe_var hN hv hd hcd) pe_int set_list ha) hs hw h1') fun D σ H ⟨F, ρ, p, I, q⟩ => by
    subst hk
    refine tG_mono (fun v H1 z => ?_) (runE_imp I q)
    obtain ⟨F1, d, p1, I1, e1, r1, q1⟩ := z
    cases d with
    | int n =>
      unfold Rep at r1
      subst r1
      obtain ⟨a, ea⟩ := Option.isSome_iff_exists.mp hpa
      obtain ⟨f0, g, c, h1, h2⟩ := I1.po a ea
      simp only at q1
      have done : ∀ p2 : Pot, p2.cells = p1.cells → PotGood p2 → ∀ xs, xs = [V.ref c, .int p2.i, .int p2.m, .int p2.g] → postS (gb X T) C W (.nx ρ p2) F1 D → D.nx σ (upd H1 a (.lst xs)) := fun p2 ec gd xs ex q2 => by
        subst ex
        have x := ext_pot (F := F1) (T := T) (ys := [V.ref c, .int p2.i, .int p2.m, .int p2.g]) h1
        refine q2 σ F1 _ (I1.ext (by rw [ea]; exact x) (same_upL I1.fh f0) fun b eb => ?_) (Same.refl F1)
        have eb : some a = some b := by rw [← ea]; exact eb
        injection eb with eb
        subst eb
        exact ⟨f0, gd, c, upd_same, by rw [ec]; exact h2⟩
      match k with
      | 0 => exact q1.elim
      | 1 =>
        unfold potSet at q1
        by_cases h0 : 0 ≤ n
        · simp only [h0, if_true] at q1
          exact ⟨.ref a, (I1.ps a ea).1, a, _, 1, 1, rfl, rfl, h1, rfl, done { p1 with i := n.toNat } rfl ⟨g.len, g.nn, g.m0, g.m1, g.g0⟩ _ (by show [V.ref c, .int n, .int p1.m, .int p1.g] = [V.ref c, .int (n.toNat : Nat), .int p1.m, .int p1.g]; rw [Int.toNat_of_nonneg h0]) q1⟩
        · simp only [h0, if_false] at q1
          exact q1.elim
      | 2 =>
        unfold potSet at q1
        by_cases h0 : 0 ≤ n ∧ n < 2147483647
        · simp only [h0, if_true, and_self] at q1
          exact ⟨.ref a, (I1.ps a ea).1, a, _, 2, 2, rfl, rfl, h1, rfl, done { p1 with m := n } rfl ⟨g.len, g.nn, h0.1, h0.2, g.g0⟩ _ rfl q1⟩
        · simp only [h0, if_false] at q1
          exact q1.elim
      | 3 =>
        unfold potSet at q1
        by_cases h0 : 0 ≤ n
        · simp only [h0, if_true] at q1
          exact ⟨.ref a, (I1.ps a ea).1, a, _, 3, 3, rfl, rfl, h1, rfl, done { p1 with g := n } rfl ⟨g.len, g.nn, g.m0, g.m1, h0⟩ _ rfl q1⟩
        · simp only [h0, if_false] at q1
          exact q1.elim
      | n + 4 => exact q1.elim
    | _ => exact q1.elim
/-! ### functions as values -/
/-- each of them can be called -/
def FnT (X : Cx) (T : List (Addr × Str)) (k : Nat) (n : Nat) (fs : List (Str × (List D → M D))) : Prop := ∀ q ∈ fs, DFn X.prog X.w X.K X.mg X.base k q.1 (spN (gb X T) n q.2)
theorem ftn {k n : Nat} : FnT X T k n [] := fun q hq => nomatch hq
theorem ftc {k n : Nat} {g : List D → M D} {fs : List (Str × (List D → M D))} (h : DFn X.prog X.w X.K X.mg X.base k x (spN (gb X T) n g)) (r : FnT X T k n fs) : FnT X T k n ((x, g) :: fs) := fun q hq => by
  rcases List.mem_cons.mp hq with e | e
  · rw [e]; exact h
  · exact r q e
theorem look_mem {x : Str} {g : List D → M D} : ∀ {fs : List (Str × (List D → M D))}, lookF x fs = some g → (x, g) ∈ fs
  | [], h => by cases h
  | (y, g') :: r, h => by
    unfold lookF at h
    by_cases e : x = y
    · rw [if_pos e] at h
      cases h
      rw [e]
      exact List.mem_cons_self
    · rw [if_neg e] at h
      exact List.mem_cons_of_mem _ (look_mem h)
/-- w(e, ..), w a name of the def's own -/
theorem ekf (i : Nat) {n : Nat} {fs : List (Str × (List D → M D))} (B : Bd X W k) (hf : FnT X T k n fs) (ha : PA X (e :: es) (tA (gb X T) C W (dsN fl))) (hn : fl.length = n := by rfl) (hN : X.N[i]? = some y := by rfl) (hv : Vis X.env.scope y := by first | exact Or.inl rfl | exact Or.inr (Or.inl rfl) | exact Or.inr (Or.inr rfl)) (hd : (y == ("__debug__" : Str)) = false := by decide) (hcd : (y == ("__classdict__" : Str)) = false := by decide)
    (he : starEach (e :: es) X.env = (false, eval e X.env) :: starEach es X.env := by rfl) (hpl : (backTo pos (starEach es X.env)).any (·.1) = false := by rfl) : PE X (.Call (.Name y p0) (e :: es) [] pos) (tE (gb X T) C W (dCallF i fs fl)) := by
  refine ⟨fun pins s σ H Q I ⟨F, ρ, p, J, q⟩ => ?_⟩
  unfold dCallF at q
  have s1 := J.sl i
  cases z : nth ρ i with
  | fn x =>
    rw [z] at q s1
    obtain ⟨f0, e1, e2⟩ := s1
    simp only at q
    cases w : lookF x fs with
    | none => rw [w] at q; exact q.elim
    | some g =>
      rw [w] at q
      obtain ⟨f, fd, ps, Fo, hm, hk, hb⟩ := (hf (x, g) (look_mem w)).ex
      have ef : f = f0 := by
        have e2 : X.mg x = some (.ref f0) := e2
        have hm : X.mg x = some (.ref f) := hm
        rw [hm] at e2
        injection e2 with e2
        injection e2
      subst ef
      have q0 : post (gb X T) C W (fun F _ d v => Rep (gb X T) F d v) (bindM (dsN fl ρ) (fun xs => keep (g xs pot0)) p) F H σ ρ Q := q
      have hlen : ∀ ds p1, dsN fl ρ p = .ok ds p1 → ds.length = fl.length := fun ds p1 h => dsN_len _ _ _ _ _ h
      refine wpAny_Call_Name_kw (thn ((pe_var (pos := p0) (i := i) hN hv hd hcd).run pins s σ H (fun v H1 => v = .ref f ∧ H1 = H) I ⟨.ref f, e1, rfl, rfl⟩) fun u s1 ⟨v, H1, I1, r1, q1⟩ => ?_)
      obtain ⟨rfl, rfl⟩ := q1
      cases r1
      refine PySem.W.callWith_K (h₀ := X.base) I.ok.mod.kin hk (thn (ha.run pos pins s1 σ _ (fun vs H2 => spN (gb X T) n g vs H2 Q (WE W σ)) I1 ⟨F, ρ, p, J, ?_⟩) fun us s2 ⟨vs, H2, I2, r, q⟩ => ⟨I2.kIn, run_fnS Fo B.hr hb (passAt B.tk σ) I2 r q⟩) he hpl
      unfold bindM at q0
      cases z : dsN fl ρ p with
      | err => rw [z] at q0; exact q0
      | exc u p1 => rw [z] at q0; exact q0
      | ok ds p1 =>
        rw [z] at q0
        intro vs F1 H1 I1 e1 r1
        refine ⟨by rw [r1.length, hlen ds p1 z, hn], F1, ds, I1.fh, I1.nt, I1.tb, r1, ?_⟩
        have q1 : post (gb X T) C W (fun F _ d v => Rep (gb X T) F d v) (keep (g ds pot0) p1) F1 H1 σ ρ Q := post.ext e1 q0
        unfold keep at q1
        cases w : g ds pot0 with
        | err => rw [w] at q1; exact q1
        | ok d p2 =>
          rw [w] at q1
          exact fun v F' H' fh x po rv => q1 v F' H' (I1.ext x.weak fh (I1.po.weak x)) x.weak rv
        | exc u p2 =>
          rw [w] at q1
          exact fun cls dd F' H' fh x po rv => q1 cls dd F' H' (I1.ext x.weak fh (I1.po.weak x)) x.weak rv
  | un => rw [z] at q; exact q.elim
  | fz d => rw [z] at q; exact q.elim
  | ow d => rw [z] at q; exact q.elim
/-- names of functions, one behind the other -/
def FNs (X : Cx) (es : List Expr) (xs : List Str) : Prop := ∃ fs : List Addr, PA X es (fun _ H Q => Q (fs.map .ref) H) ∧ fs.length = xs.length ∧ ∀ (i : Nat) (x : Str) (f : Addr), xs[i]? = some x → fs[i]? = some f → X.mg x = some (.ref f)
theorem fnn : FNs X [] [] := ⟨[], pa_nil, rfl, fun i x f h => by simp at h⟩
theorem fnc {k n : Nat} {sp : Sp} {xs : List Str} (h : DFn X.prog X.w X.K X.mg X.base k x sp) (r : FNs X es xs) (hg : Gl X x := by rfl) (hd : (x == ("__debug__" : Str)) = false := by decide) (hs : starEach (.Name x p0 :: es) X.env = (false, eval (.Name x p0) X.env) :: starEach es X.env := by rfl) : FNs X (.Name x p0 :: es) (x :: xs) := by
  obtain ⟨f, fd, ps, _, hm, hk, _⟩ := h.ex
  obtain ⟨fs, r1, r2, r3⟩ := r
  refine ⟨f :: fs, pa_cons (pe_glob (v := .ref f) hg hm rfl hd) r1 hs, by rw [List.length_cons, List.length_cons, r2], fun i y g h1 h2 => ?_⟩
  cases i with
  | zero =>
    simp at h1 h2
    subst h1 h2
    exact hm
  | succ i =>
    rw [List.getElem?_cons_succ] at h1 h2
    exact r3 i y g h1 h2
theorem set_fn {G : Gb} {i : Nat} {x : Str} {f : Addr} (I : DInv G C F H σ ρ p) (hp : C.ps ≠ i) (hm : G.mg x = some (.ref f)) : DInv G C F H (σ.set i (some (.ref f))) (put ρ i (.fn x)) p := I.store hp ⟨f, rfl, hm⟩ fun z => nomatch z
/-- for w in [f, g, ..]: body -/
theorem sforfn (i : Nat) {w : Str} {px pl : Pos} {es : List Expr} {body : List Stmt} {xs : List Str} {s : DS} (B : Bd X W k) (h : FNs X es xs) (hb : PSs X body (tSS X T C W s)) (hz : xs.length ≤ lim := by decide) (hp : C.ps ≠ i := by first | (dsimp only; decide) | decide) (hxi : X.N[i]? = some w := by rfl) (hx : Loc X.env.scope w := by first | exact .inl rfl | exact .inr rfl)
    (hf : X.fn w = true ∨ X.env.scope.names.lookup w = some .local := by first | exact .inl rfl | exact .inr rfl) (hs : ∀ x, foldedSetIterable (.List es pl) X.env x = pure x := by intro _; rfl) :
    PS X (.For (.Name w px) (.List es pl) body [] pos) (tSS X T C W (fnGo i s xs)) := by
  obtain ⟨fs, h1, h2, h3⟩ := h
  refine impS (ps_for B.hp B.calm (pi_list (pe_lst h1)) (pg_name B.nd hxi hx hf) hb hs) fun D σ H ⟨F, ρ, p, I, q⟩ => ?_
  refine ⟨by rw [List.length_map, h2]; exact lim_line hz, fun l n => ⟨l, rfl, ⟨_, SqL.of upd_same⟩, ?_⟩⟩
  have I1 := I.new (o := .lst (fs.map .ref)) n
  have e1 := (ext_new (T := T) (pa := C.pa) (o := .lst (fs.map .ref)) I.fh n).ff
  refine ⟨fun j m σ' H' => m = xs.length - j ∧ ∃ F2 ρ2 p2, DInv (gb X T) C F2 H' σ' ρ2 p2 ∧ Same (upd F l (.lst (fs.map .ref))) F2 ∧ postS (gb X T) C W (fnGo i s (xs.drop j) ρ2 p2) F2 D, ⟨xs.length, rfl, _, ρ, p, I1, Same.refl _, postS.ext e1 q⟩, ?_⟩
  rintro j m σ' H' ⟨hm, F2, ρ2, p2, I2, sm, q2⟩
  have hl : H' l = some (.lst (fs.map .ref)) := I2.fh _ _ (sm _ _ upd_same)
  by_cases hlt : j < xs.length
  · have hd : xs[j]? = some xs[j] := List.getElem?_eq_getElem hlt
    have hlt2 : j < fs.length := by rw [h2]; exact hlt
    have hd2 : fs[j]? = some fs[j] := List.getElem?_eq_getElem hlt2
    have hd3 : (fs.map V.ref)[j]? = some (.ref fs[j]) := by rw [List.getElem?_map, hd2]; rfl
    rw [List.drop_eq_getElem_cons hlt, fnGo] at q2
    refine .inr ⟨⟨_, _, SqL.of hl, hd3⟩, fun σ3 H3 => ∃ F3 ρ3 p3, DInv (gb X T) C F3 H3 σ3 ρ3 p3 ∧ Same (upd F l (.lst (fs.map .ref))) F3 ∧ postS (gb X T) C W (fnGo i s (xs.drop (j + 1)) ρ3 p3) F3 D, fun σ3 H3 h => ⟨xs.length - (j + 1), by omega, rfl, h⟩, fun v H3 hy => ?_⟩
    obtain ⟨e3, hy⟩ := hy
    subst e3
    have hv := hy _ (SqL.of hl)
    rw [hd3] at hv
    cases hv
    have I4 := set_fn I2 hp (h3 j _ _ hd hd2)
    exact loop_body (rest := fnGo i s (xs.drop (j + 1))) I4 q2 fun F5 σ5 H5 ρ5 p5 I5 sm5 q5 => ⟨F5, ρ5, p5, I5, sm.trans sm5, q5⟩
  · have hle : xs.length ≤ j := Nat.le_of_not_lt hlt
    rw [List.drop_of_length_le hle] at q2
    exact .inl ⟨⟨_, SqL.of hl, by rw [List.length_map, h2]; exact hle⟩, q2 σ' F2 H' I2 (Same.refl F2)⟩
end
end DL
/-! DL15: what is owned; sorted, min, max of lists. -/
namespace DL
set_option autoImplicit false
open PySem PySem.Spec L2 PyProof.Rows
section
variable {G : Gb} {C : DC} {F H F' H' : Hp} {σ : L2.St} {ρ : Env'} {p : Pot} {i : Nat} {a : Addr} {d d' : D} {o : HO}
/-- a thing of one's own is written -/
theorem DInv.write (I : DInv G C F H σ ρ p) (hi : nth ρ i = .ow d) (ha : σ[i]? = some (some (.ref a))) (hp : C.ps ≠ i) (ho : ∀ ps, o ≠ .tbl ps) (hT : LamX.Tabs G.T H → LamX.Tabs G.T (upd H a o)) (w : Own G F (upd H a o) a d') :
    DInv G C F (upd H a o) σ (put ρ i (.ow d')) p := by
  have s := I.sl i
  rw [hi] at s
  obtain ⟨a', e1, fr, ow⟩ := s
  rw [ha] at e1
  cases e1
  have hlt : i < ρ.length := by
    rcases Nat.lt_or_ge i ρ.length with z | z
    · exact z
    · rw [nth_out ρ i z] at hi; cases hi
  have ow_i : isOw (nth ρ i) = true := by rw [hi]; rfl
  have key : ∀ j, j ≠ i → ∀ b, σ[j]? = some (some (.ref b)) → isOw (nth ρ j) = true → b ≠ a := fun j hj b hb h1 e => by
    subst e
    have := I.ds i j b (Ne.symm hj) ha ow_i hb
    rw [this] at h1
    cases h1
  refine ⟨⟨same_upL I.fh fr.f, ⟨I.base.ff, I.base.fr, fun b u q np nt => ?_, fun b t => ?_, fun t => hT (I.base.tb t), I.base.nt⟩, fun b e => ?_, hT I.tb, I.nt⟩, fun j => ?_, fun j k b hjk h1 h2 h3 => ?_, fun b e => ?_, by rw [put_length]; exact I.ln⟩
  · rw [upd_ne (fun e => fr.h0 ⟨u, by rw [← e]; exact q, nt⟩)]
    exact I.base.hh b u q np nt
  · by_cases e : b = a
    · rw [e]; exact ⟨o, upd_same, ho⟩
    · obtain ⟨u, q1, q2⟩ := I.base.dm b t
      exact ⟨u, by rw [upd_ne e]; exact q1, q2⟩
  · obtain ⟨f, g, c, q1, q2⟩ := I.po b e
    exact ⟨f, g, c, by rw [upd_ne (fun z => fr.np (by rw [← z]; exact e))]; exact q1, q2⟩
  · by_cases e : j = i
    · subst e
      rw [nth_put_same ρ j _ hlt]
      exact ⟨a, ha, ⟨fr.f, fr.h0, fr.np⟩, w⟩
    · rw [nth_put_ne ρ i j _ e]
      have sj := I.sl j
      cases z : nth ρ j with
      | un => trivial
      | fz d2 => rw [z] at sj; exact sj
      | fn x => rw [z] at sj; exact sj
      | ow d2 =>
        rw [z] at sj
        obtain ⟨b, q1, q2, q3⟩ := sj
        have nb : b ≠ a := key j e b q1 (by rw [z]; rfl)
        refine ⟨b, q1, ⟨q2.f, q2.h0, q2.np⟩, ?_⟩
        cases d2 with
        | lst ds =>
          obtain ⟨vs, h1, h2, h3⟩ := q3
          exact ⟨vs, by rw [upd_ne nb]; exact h1, h2, h3⟩
        | dct ks ds =>
          obtain ⟨h0, ⟨xs, h1, h2⟩ | ⟨kvs, h1, h2⟩⟩ := q3
          · exact ⟨h0, .inl ⟨xs, by rw [upd_ne nb]; exact h1, h2⟩⟩
          · exact ⟨h0, .inr ⟨kvs, by rw [upd_ne nb]; exact h1, h2⟩⟩
        | _ => exact q3.elim
  · have ow_eq : ∀ m, isOw (nth (put ρ i (.ow d')) m) = isOw (nth ρ m) := fun m => by
      by_cases e : m = i
      · rw [e, nth_put_same ρ i _ hlt, hi]; rfl
      · rw [nth_put_ne ρ i m _ e]
    rw [ow_eq] at h2 ⊢
    exact I.ds j k b hjk h1 h2 h3
  · obtain ⟨q1, q2⟩ := I.ps b e
    exact ⟨q1, by rw [nth_put_ne ρ i _ _ hp]; exact q2⟩
/-- a thing of one's own is frozen -/
theorem DInv.freeze (I : DInv G C F H σ ρ p) {ls : List D} (hi : nth ρ i = .ow (.lst ls)) : ∃ F', Same F F' ∧ DInv G C F' H σ (put ρ i (.fz (.lst ls))) p := by
  have s := I.sl i
  rw [hi] at s
  obtain ⟨a, ha, fr, ow⟩ := s
  have hlt : i < ρ.length := by
    rcases Nat.lt_or_ge i ρ.length with z | z
    · exact z
    · rw [nth_out ρ i z] at hi; cases hi
  obtain ⟨o, hH, ho⟩ := ow.there
  have fa := fr.f
  have sm : Same F (upd F a o) := fun b u q => by rw [upd_ne (ne_of_none q fa)]; exact q
  have hps : C.pa.isSome = true → C.ps ≠ i := fun h e => by
    obtain ⟨b, hb⟩ := Option.isSome_iff_exists.mp h
    have := (I.ps b hb).2
    rw [e, hi] at this
    cases this
  refine ⟨upd F a o, sm, ⟨⟨fun b u q => ?_, ⟨I.base.ff.trans sm, fun b t => ?_, I.base.hh, I.base.dm, I.base.tb, fun n => (I.base.nt n).upd ho⟩, fun b e => ?_, I.tb, I.nt.upd ho⟩, fun j => ?_, fun j k b hjk h1 h2 h3 => ?_, fun b e => ?_, by rw [put_length]; exact I.ln⟩⟩
  · by_cases e : b = a
    · rw [e, upd_same] at q; rw [e, hH, q]
    · rw [upd_ne e] at q; exact I.fh b u q
  · rw [upd_ne (fun e => fr.h0 (by rw [← e]; exact t))]; exact I.base.fr b t
  · obtain ⟨f, g, c, q1, q2⟩ := I.po b e
    exact ⟨by rw [upd_ne (fun z => fr.np (by rw [← z]; exact e))]; exact f, g, c, q1, sm _ _ q2⟩
  · by_cases e : j = i
    · subst e
      rw [nth_put_same ρ j _ hlt]
      refine ⟨.ref a, ha, ?_⟩
      obtain ⟨vs, h1, h2, h3⟩ := ow
      rw [hH] at h1
      cases h1
      unfold Rep
      exact ⟨a, vs, rfl, upd_same, h2, Reps.mono sm _ _ h3⟩
    · rw [nth_put_ne ρ i j _ e]
      have sj := I.sl j
      cases z : nth ρ j with
      | un => trivial
      | fz d2 => rw [z] at sj; obtain ⟨v, q1, q2⟩ := sj; exact ⟨v, q1, Rep.mono sm _ _ q2⟩
      | fn x => rw [z] at sj; exact sj
      | ow d2 =>
        rw [z] at sj
        obtain ⟨b, q1, q2, q3⟩ := sj
        have nb : b ≠ a := fun e' => by
          subst e'
          have := I.ds i j b (Ne.symm e) ha (by rw [hi]; rfl) q1
          rw [z] at this
          cases this
        refine ⟨b, q1, ⟨by rw [upd_ne nb]; exact q2.f, q2.h0, q2.np⟩, ?_⟩
        cases d2 with
        | lst ds =>
          obtain ⟨vs, h1, h2, h3⟩ := q3
          exact ⟨vs, h1, h2, Reps.mono sm _ _ h3⟩
        | dct ks ds =>
          obtain ⟨h0, ⟨xs, h1, h2, h3, h4⟩ | ⟨kvs, h1, h2, h3⟩⟩ := q3
          · exact ⟨h0, .inl ⟨xs, h1, h2, Reps.mono sm _ _ h3, Reps.mono sm _ _ h4⟩⟩
          · exact ⟨h0, .inr ⟨kvs, h1, h2, Reps.mono sm _ _ h3⟩⟩
        | _ => exact q3.elim
  · have ow_le : ∀ m, isOw (nth (put ρ i (.fz (.lst ls))) m) = true → isOw (nth ρ m) = true ∧ m ≠ i := fun m h => by
      by_cases e : m = i
      · rw [e, nth_put_same ρ i _ hlt] at h; cases h
      · rw [nth_put_ne ρ i m _ e] at h; exact ⟨h, e⟩
    obtain ⟨h2', hji⟩ := ow_le j h2
    have := I.ds j k b hjk h1 h2' h3
    by_cases e : k = i
    · rw [e, nth_put_same ρ i _ hlt]; rfl
    · rw [nth_put_ne ρ i k _ e]; exact this
  · obtain ⟨q1, q2⟩ := I.ps b e
    have hp : C.ps ≠ i := hps (by rw [e]; rfl)
    exact ⟨q1, by rw [nth_put_ne ρ i _ _ hp]; exact q2⟩
/-- .. a dict: it is locked -/
theorem DInv.freezeD (I : DInv G C F H σ ρ p) {ks ds : List D} (hi : nth ρ i = .ow (.dct ks ds)) (ha : σ[i]? = some (some (.ref a))) {u : HO} (hH : H a = some u) (hu : ∀ od ps, HO.frz od u ≠ .tbl ps) (od : Obj) (hT : LamX.Tabs G.T H → LamX.Tabs G.T (upd H a (.frz od u))) : DInv G C (upd F a (.frz od u)) (upd H a (.frz od u)) σ (put ρ i (.fz (.dct ks ds))) p := by
  have s := I.sl i
  rw [hi] at s
  obtain ⟨a', e1, fr, ow⟩ := s
  rw [ha] at e1
  cases e1
  have hlt : i < ρ.length := by
    rcases Nat.lt_or_ge i ρ.length with z | z
    · exact z
    · rw [nth_out ρ i z] at hi; cases hi
  have fa := fr.f
  have ho := hu od
  have sm : Same F (upd F a (.frz od u)) := fun b u q => by rw [upd_ne (ne_of_none q fa)]; exact q
  have hps : C.pa.isSome = true → C.ps ≠ i := fun h e => by
    obtain ⟨b, hb⟩ := Option.isSome_iff_exists.mp h
    have := (I.ps b hb).2
    rw [e, hi] at this
    cases this
  refine ⟨⟨fun b v q => ?_, ⟨I.base.ff.trans sm, fun b t => ?_, fun b v q np nt => ?_, fun b t => ?_, fun t => hT (I.base.tb t), fun n => (I.base.nt n).upd ho⟩, fun b e => ?_, hT I.tb, I.nt.upd ho⟩, fun j => ?_, fun j k b hjk h1 h2 h3 => ?_, fun b e => ?_, by rw [put_length]; exact I.ln⟩
  · by_cases e : b = a
    · rw [e, upd_same] at q ⊢; exact q
    · rw [upd_ne e] at q ⊢; exact I.fh b v q
  · rw [upd_ne (fun e => fr.h0 (by rw [← e]; exact t))]; exact I.base.fr b t
  · rw [upd_ne (fun e => fr.h0 ⟨v, by rw [← e]; exact q, nt⟩)]
    exact I.base.hh b v q np nt
  · by_cases e : b = a
    · rw [e]; exact ⟨_, upd_same, ho⟩
    · obtain ⟨u2, q1, q2⟩ := I.base.dm b t
      exact ⟨u2, by rw [upd_ne e]; exact q1, q2⟩
  · obtain ⟨f, g, c, q1, q2⟩ := I.po b e
    have nb : b ≠ a := fun z => fr.np (by rw [← z]; exact e)
    exact ⟨by rw [upd_ne nb]; exact f, g, c, by rw [upd_ne nb]; exact q1, sm _ _ q2⟩
  · by_cases e : j = i
    · subst e
      rw [nth_put_same ρ j _ hlt]
      refine ⟨.ref a, ha, ?_⟩
      unfold Rep
      obtain ⟨h0, ⟨xs, h1, h2, h3, h4⟩ | ⟨kvs, h1, h2, h3⟩⟩ := ow
      · rw [hH] at h1
        cases h1
        exact ⟨a, rfl, h0, .inl ⟨xs, ⟨od, upd_same⟩, h2, Reps.mono sm _ _ h3, Reps.mono sm _ _ h4⟩⟩
      · rw [hH] at h1
        cases h1
        exact ⟨a, rfl, h0, .inr ⟨kvs, ⟨od, upd_same⟩, h2, Reps.mono sm _ _ h3⟩⟩
    · rw [nth_put_ne ρ i j _ e]
      have sj := I.sl j
      cases z : nth ρ j with
      | un => trivial
      | fz d2 => rw [z] at sj; obtain ⟨v, q1, q2⟩ := sj; exact ⟨v, q1, Rep.mono sm _ _ q2⟩
      | fn x => rw [z] at sj; exact sj
      | ow d2 =>
        rw [z] at sj
        obtain ⟨b, q1, q2, q3⟩ := sj
        have nb : b ≠ a := fun e' => by
          subst e'
          have := I.ds i j b (Ne.symm e) ha (by rw [hi]; rfl) q1
          rw [z] at this
          cases this
        refine ⟨b, q1, ⟨by rw [upd_ne nb]; exact q2.f, q2.h0, q2.np⟩, ?_⟩
        cases d2 with
        | lst ds =>
          obtain ⟨vs, h1, h2, h3⟩ := q3
          exact ⟨vs, by rw [upd_ne nb]; exact h1, h2, Reps.mono sm _ _ h3⟩
        | dct ks ds =>
          obtain ⟨h0, ⟨xs, h1, h2, h3, h4⟩ | ⟨kvs, h1, h2, h3⟩⟩ := q3
          · exact ⟨h0, .inl ⟨xs, by rw [upd_ne nb]; exact h1, h2, Reps.mono sm _ _ h3, Reps.mono sm _ _ h4⟩⟩
          · exact ⟨h0, .inr ⟨kvs, by rw [upd_ne nb]; exact h1, h2, Reps.mono sm _ _ h3⟩⟩
        | _ => exact q3.elim
  · have ow_le : ∀ m, isOw (nth (put ρ i (.fz (.dct ks ds))) m) = true → isOw (nth ρ m) = true ∧ m ≠ i := fun m h => by
      by_cases e : m = i
      · rw [e, nth_put_same ρ i _ hlt] at h; cases h
      · rw [nth_put_ne ρ i m _ e] at h; exact ⟨h, e⟩
    obtain ⟨h2', hji⟩ := ow_le j h2
    have := I.ds j k b hjk h1 h2' h3
    by_cases e : k = i
    · rw [e, nth_put_same ρ i _ hlt]; rfl
    · rw [nth_put_ne ρ i k _ e]; exact this
  · obtain ⟨q1, q2⟩ := I.ps b e
    have hp : C.ps ≠ i := hps (by rw [e]; rfl)
    exact ⟨q1, by rw [nth_put_ne ρ i _ _ hp]; exact q2⟩
end
section
variable {X : Cx} {T : List (Addr × Str)} {C : DC} {W : WX} {F F' H H' : Hp} {σ : L2.St} {ρ : Env'} {p : Pot} {k : Nat} {e : Expr} {es : List Expr} {f : DE} {fl : List DE} {y x : Str} {pos p0 p1 p2 py : Pos} {rest : List Stmt} {t : DS}
/-- tables stay where a dict is written -/
theorem tabs_dict {pins : List (Addr × Obj)} {s : Shared} {a : Addr} {o o2 : HO} {ob : Obj} {es : Array DictEntry} {ep : Nat} (I : L2.Inv X pins σ H s) (t : LamX.Tabs T H) (ha : H a = some o) (hn : ∀ ps, o ≠ .tbl ps) (hg : s.heap.get? a = some ob) (hd : ob.data = .dict es ep) : LamX.Tabs T (upd H a o2) := fun p hp => by
  obtain ⟨ps, h1, h2, h3⟩ := t p hp
  refine ⟨ps, ?_, h2, fun pos cv hc => ?_⟩
  · rw [upd_ne (fun e => by rw [e, ha] at h1; cases h1; exact hn ps rfl)]
    exact h1
  · obtain ⟨c, e1, e2⟩ := h3 pos cv hc
    refine ⟨c, e1, ?_⟩
    rw [upd_ne (fun e => ?_)]
    · exact e2
    · subst e
      obtain ⟨⟨oc, vs, t, q1, q2, _⟩, _⟩ := I.hok c _ e2
      rw [hg] at q1
      cases q1
      rw [hd] at q2
      cases q2
/-- what a dict of one's own is -/
theorem own_dict {pins : List (Addr × Obj)} {s : Shared} {a : Addr} {ks ds : List D} (I : L2.Inv X pins σ H s) (x : Own (gb X T) F H a (.dct ks ds)) : ∃ u ob es ep, H a = some u ∧ Mut (some u) ∧ (∀ ps, u ≠ .tbl ps) ∧ s.heap.get? a = some ob ∧ ob.data = .dict es ep := by
  obtain ⟨_, ⟨xs, h1, _⟩ | ⟨kvs, h1, _⟩⟩ := x
  · obtain ⟨_, ys, _, o, es, ep, g1, _, g3, _⟩ := DTk.at I.hok (.of h1)
    exact ⟨_, o, es, ep, h1, True.intro, (fun _ z => nomatch z), g1, g3⟩
  · obtain ⟨_, _, vs, _, o, es, ep, g1, _, g3, _⟩ := dk_of I.hok h1
    exact ⟨_, o, es, ep, h1, True.intro, (fun _ z => nomatch z), g1, g3⟩
/-- from here on it stays as it is -/
theorem bfz (i : Nat) (y : PSs X rest (tSS X T C W t)) : PSs X rest (tSS X T C W (sSeq (sFz i) t)) := by
  refine ⟨fun pins s σ H D I w => ?_⟩
  obtain ⟨F, ρ, p, J, q⟩ := w
  unfold sSeq sFz at q
  cases z : nth ρ i with
  | ow d =>
    simp only [z] at q
    cases d with
    | lst ds =>
      obtain ⟨F', sm, J'⟩ := J.freeze z
      exact y.run pins s σ H D I ⟨F', _, p, J', postS.ext sm q⟩
    | dct ks ds =>
      have sl := J.sl i
      rw [z] at sl
      obtain ⟨a, ha, fr, ow⟩ := sl
      obtain ⟨u, ob, es, ep, hH, mu, hn, hg, hd⟩ := own_dict I ow
      obtain ⟨od, I2⟩ := I.lock hH mu
      have J2 := J.freezeD z ha hH (fun _ _ z => nomatch z) od fun t => tabs_dict I t hH hn hg hd
      exact y.run pins s σ _ D I2 ⟨_, _, p, J2, postS.ext (fun b u q => by rw [upd_ne (ne_of_none q fr.f)]; exact q) q⟩
    | _ =>
      have sl := J.sl i
      rw [z] at sl
      obtain ⟨_, _, _, ow⟩ := sl
      exact ow.elim
  | un => simp only [z] at q; exact q.elim
  | fz d => simp only [z] at q; exact q.elim
  | fn d => simp only [z] at q; exact q.elim
theorem ow_lst {G : Gb} {i : Nat} {ds : List D} (I : DInv G C F H σ ρ p) (z : nth ρ i = .ow (.lst ds)) : ∃ a vs, σ[i]? = some (some (.ref a)) ∧ H a = some (.lst vs) ∧ ds.length ≤ lim ∧ Reps G F ds vs ∧ F a = none := by
  have s := I.sl i
  rw [z] at s
  obtain ⟨a, h1, h2, vs, h3, h4, h5⟩ := s
  exact ⟨a, vs, h1, h3, h4, h5, h2.f⟩
theorem write_lst {G : Gb} {i : Nat} {ds es : List D} {a : Addr} {vs us : List V} (I : DInv G C F H σ ρ p) (z : nth ρ i = .ow (.lst ds)) (ha : σ[i]? = some (some (.ref a))) (hH : H a = some (.lst vs)) (hp : C.ps ≠ i) (l : es.length ≤ lim) (r : Reps G F es us) :
    DInv G C F (upd H a (.lst us)) σ (put ρ i (.ow (.lst es))) p := I.write z ha hp (fun _ h => nomatch h) (fun t => Tabs.updL t hH) ⟨us, upd_same, l, r⟩
/-- x.append(e) -/
theorem sapp (i : Nat) {pa pc : Pos} (he : PE X e (tE (gb X T) C W f)) (hp : C.ps ≠ i := by first | (dsimp only; decide) | decide) (hN : X.N[i]? = some x := by rfl) (hv : Vis X.env.scope x := by first | exact Or.inl rfl | exact Or.inr (Or.inl rfl) | exact Or.inr (Or.inr rfl)) (hd : (x == ("__debug__" : Str)) = false := by decide) (hcd : (x == ("__classdict__" : Str)) = false := by decide)
    (hbase : attributeBase (.Name x p0) "append" X.env (eval (.Name x p0) X.env) = eval (.Name x p0) X.env := by rfl) (hfew : ((backTo pc (starEach [e] X.env)).all (fun x => !x.1) && (backToKw pc (keywordEach [] X.env)).all (fun x => x.1.isSome) && decide ([e].length + ([] : List Keyword).length + (if ([] : List Keyword).isEmpty then 0 else 1) < 30)) = true := by rfl)
    (hline : (pa.endLine == pc.line) = true := by rfl) (hs : starEach [e] X.env = (false, eval e X.env) :: starEach [] X.env := by rfl) (hsw : swapsWith (.Call (.Attribute (.Name x p0) "append" pa) [e] [] pc) none pos.line X.env = pure false := by rfl) :
    PS X (.Expr (.Call (.Attribute (.Name x p0) "append" pa) [e] [] pc) pos) (tSS X T C W (sAppend i f)) :=
  impS (ps_expr (pe_bm PySem.F.plainAttrs_list PySem.F.slot_list_append PySem.F.type_list_append mt_append (pe_var hN hv hd hcd) (pa_cons he pa_nil hs) hbase hfew hline hs rfl) hsw) fun D σ H ⟨F, ρ, p, I, q⟩ => by
    unfold sAppend at q
    split at q
    · rename_i ds z
      obtain ⟨a, vs, h1, h2, h3, h4, _⟩ := ow_lst I z
      refine ⟨.ref a, h1, .inl ⟨rfl, _, SqL.of h2⟩, ?_⟩
      refine tG_mono (fun v H1 w => ?_) (runE_imp I q)
      obtain ⟨F1, d, p1, I1, e1, r1, q1⟩ := w
      obtain ⟨a', vs', g1, g2, g3, g4, _⟩ := ow_lst I1 z
      rw [h1] at g1
      cases g1
      by_cases hz : ds.length < lim
      · rw [if_pos hz] at q1
        have l1 : vs'.length = ds.length := g4.length
        refine ⟨a, vs', v, rfl, rfl, g2, ?_, ?_⟩
        · have := lim_line (n := vs'.length + 1) (by omega)
          omega
        · exact q1 σ F1 _ (write_lst I1 z h1 g2 hp (by rw [List.length_append, List.length_singleton]; omega) (g4.app (.cons r1 .nil))) (Same.refl F1)
      · rw [if_neg hz] at q1
        exact q1.elim
    · exact q.elim
/-- x.extend(e), e a list -/
theorem sext (i : Nat) {pa pc : Pos} (he : PE X e (tE (gb X T) C W f)) (hp : C.ps ≠ i := by first | (dsimp only; decide) | decide) (hN : X.N[i]? = some x := by rfl) (hv : Vis X.env.scope x := by first | exact Or.inl rfl | exact Or.inr (Or.inl rfl) | exact Or.inr (Or.inr rfl)) (hd : (x == ("__debug__" : Str)) = false := by decide) (hcd : (x == ("__classdict__" : Str)) = false := by decide)
    (hbase : attributeBase (.Name x p0) "extend" X.env (eval (.Name x p0) X.env) = eval (.Name x p0) X.env := by rfl) (hfew : ((backTo pc (starEach [e] X.env)).all (fun x => !x.1) && (backToKw pc (keywordEach [] X.env)).all (fun x => x.1.isSome) && decide ([e].length + ([] : List Keyword).length + (if ([] : List Keyword).isEmpty then 0 else 1) < 30)) = true := by rfl)
    (hline : (pa.endLine == pc.line) = true := by rfl) (hs : starEach [e] X.env = (false, eval e X.env) :: starEach [] X.env := by rfl) (hsw : swapsWith (.Call (.Attribute (.Name x p0) "extend" pa) [e] [] pc) none pos.line X.env = pure false := by rfl) :
    PS X (.Expr (.Call (.Attribute (.Name x p0) "extend" pa) [e] [] pc) pos) (tSS X T C W (sExtend i f)) :=
  impS (ps_expr (pe_bm PySem.F.plainAttrs_list PySem.F.slot_list_extend PySem.F.type_list_extend mt_extend (pe_var hN hv hd hcd) (pa_cons he pa_nil hs) hbase hfew hline hs rfl) hsw) fun D σ H ⟨F, ρ, p, I, q⟩ => by
    unfold sExtend at q
    split at q
    · rename_i ds z
      obtain ⟨a, vs, h1, h2, h3, h4, _⟩ := ow_lst I z
      refine ⟨.ref a, h1, .inl ⟨rfl, _, SqL.of h2⟩, ?_⟩
      refine tG_mono (fun v H1 w => ?_) (runE_imp I q)
      obtain ⟨F1, d, p1, I1, e1, r1, q1⟩ := w
      obtain ⟨a', vs', g1, g2, g3, g4, _⟩ := ow_lst I1 z
      rw [h1] at g1
      cases g1
      cases d with
      | lst ys =>
        simp only at q1
        unfold Rep at r1
        obtain ⟨b, zs, eb, hb, lb, rb⟩ := r1
        by_cases hz : ds.length + ys.length ≤ lim
        · rw [if_pos hz] at q1
          have l1 : vs'.length = ds.length := g4.length
          have l2 : zs.length = ys.length := rb.length
          refine ⟨a, b, vs', zs, rfl, by rw [eb], g2, I1.fh _ _ hb, lim_line (by omega), ?_⟩
          exact q1 σ F1 _ (write_lst I1 z h1 g2 hp (by rw [List.length_append]; omega) (g4.app rb)) (Same.refl F1)
        · rw [if_neg hz] at q1
          exact q1.elim
      | _ => exact q1.elim
    · exact q.elim
theorem reps_set {G : Gb} {d : D} {v : V} : ∀ {xs : List D} {us : List V} (n : Nat), Reps G F xs us → Rep G F d v → Reps G F (setN xs n d) (us.set n v)
  | [], us, n, r, _ => by
    unfold Reps at r
    subst r
    rw [setN, List.set_nil]
    exact .nil
  | x :: xs, us, 0, r, q => by
    obtain ⟨u, t, e, r1, r2⟩ := r.uncons
    subst e
    rw [setN, List.set_cons_zero]
    exact .cons q r2
  | x :: xs, us, n + 1, r, q => by
    obtain ⟨u, t, e, r1, r2⟩ := r.uncons
    subst e
    rw [setN, List.set_cons_succ]
    exact .cons r1 (reps_set n r2 q)
theorem setN_len : ∀ (xs : List D) (n : Nat) (d : D), (setN xs n d).length = xs.length
  | [], _, _ => rfl
  | _ :: _, 0, _ => rfl
  | x :: xs, n + 1, d => by rw [setN, List.length_cons, List.length_cons, setN_len]
/-- x[j] = e -/
theorem sst (i : Nat) {ix : Expr} {g : DE} {pt : Pos} (he : PE X e (tE (gb X T) C W f)) (hx : PE X ix (tE (gb X T) C W g)) (hp : C.ps ≠ i := by first | (dsimp only; decide) | decide) (hN : X.N[i]? = some x := by rfl) (hv : Vis X.env.scope x := by first | exact Or.inl rfl | exact Or.inr (Or.inl rfl) | exact Or.inr (Or.inr rfl)) (hd : (x == ("__debug__" : Str)) = false := by decide) (hcd : (x == ("__classdict__" : Str)) = false := by decide)
    (ha : ∀ v, assign (.Subscript (.Name x p0) ix pt) X.env v = (do
      let ov ← holding [v] (eval (.Name x p0) X.env)
      let iv ← holding [v, ov] (eval ix X.env)
      standAt pt
      holding [v, ov, iv] (setItem ov iv v)
      release [v, ov, iv] []) := by intro _; rfl)
    (hs : swapsWithSole [.Subscript (.Name x p0) ix pt] e pos.line X.env = pure false := by rfl) (hw : swappedStores [.Subscript (.Name x p0) ix pt] e X.env = pure none := by rfl)
    (h1' : (assignEach [.Subscript (.Name x p0) ix pt] X.env).map (·.2) = [assign (.Subscript (.Name x p0) ix pt) X.env] := by rfl) :
    PS X (.Assign [.Subscript (.Name x p0) ix pt] e pos) (tSS X T C W (sStore i g f)) :=
  impS (ps_asg he (pg_sub (pe_var hN hv hd hcd) hx set_list ha) hs hw h1') fun D σ H ⟨F, ρ, p, I, q⟩ => by
    refine tG_mono (fun v H1 w => ?_) (runE_imp I q)
    obtain ⟨F1, d, p1, I1, e1, r1, q1⟩ := w
    split at q1
    · rename_i ds z
      obtain ⟨a, vs, h1, h2, h3, h4, _⟩ := ow_lst I1 z
      refine ⟨.ref a, h1, ?_⟩
      refine tG_mono (fun u H2 w => ?_) (runE_imp I1 q1)
      obtain ⟨F2, j, p2, I2, e2, r2, q2⟩ := w
      cases j with
      | int n =>
        unfold Rep at r2
        simp only at q2
        by_cases hn : 0 ≤ n ∧ n < ds.length
        · rw [if_pos hn] at q2
          obtain ⟨a', vs', g1, g2, g3, g4, _⟩ := ow_lst I2 z
          rw [h1] at g1
          cases g1
          have l1 : vs'.length = ds.length := g4.length
          refine ⟨a, vs', n, n.toNat, rfl, r2, g2, ?_, ?_⟩
          · unfold ixN
            rw [if_pos hn.1, if_pos (by omega)]
          · exact q2 σ F2 _ (write_lst I2 z h1 g2 hp (by rw [setN_len]; exact g3) (reps_set _ g4 (Rep.mono e2.ff _ _ r1))) (Same.refl F2)
        · rw [if_neg hn] at q2
          exact q2.elim
      | _ => exact q2.elim
    · exact q1.elim
end
end DL
/-! DL16: sorted, min, max of lists. -/
namespace DL
set_option autoImplicit false
open PySem PySem.Spec L2 PyProof.Rows PySem.W
/-! ### sorting as one computes it -/
section
variable {α : Type} {le : α → α → Bool}
def insL (le : α → α → Bool) (x : α) : List α → List α
  | [] => [x]
  | y :: ys => if le x y then x :: y :: ys else y :: insL le x ys
def srtL (le : α → α → Bool) : List α → List α
  | [] => []
  | x :: xs => insL le x (srtL le xs)
theorem insL_mem {x y : α} : ∀ {l : List α}, y ∈ insL le x l ↔ y = x ∨ y ∈ l
  | [] => by simp [insL]
  | z :: l => by
    rw [insL]
    split
    · simp
    · simp only [List.mem_cons, insL_mem (l := l)]
      constructor
      · rintro (h | h | h)
        · exact .inr (.inl h)
        · exact .inl h
        · exact .inr (.inr h)
      · rintro (h | h | h)
        · exact .inr (.inl h)
        · exact .inl h
        · exact .inr (.inr h)
theorem srtL_mem {y : α} : ∀ {l : List α}, y ∈ srtL le l ↔ y ∈ l
  | [] => by simp [srtL]
  | x :: l => by rw [srtL, insL_mem, srtL_mem (l := l), List.mem_cons]
theorem insL_pw (O : TotalLe le) {x : α} : ∀ {l : List α}, l.Pairwise (fun a b => le a b = true) → (insL le x l).Pairwise (fun a b => le a b = true)
  | [], _ => by simp [insL]
  | y :: l, h => by
    rw [insL]
    by_cases e : le x y = true
    · rw [if_pos e]
      refine List.pairwise_cons.mpr ⟨fun z hz => ?_, h⟩
      rcases List.mem_cons.mp hz with q | q
      · rw [q]; exact e
      · exact O.trans _ _ _ e ((List.pairwise_cons.mp h).1 z q)
    · rw [if_neg e]
      refine List.pairwise_cons.mpr ⟨fun z hz => ?_, insL_pw O (List.pairwise_cons.mp h).2⟩
      rcases insL_mem.mp hz with q | q
      · rw [q]
        rcases O.total x y with t | t
        · exact absurd t e
        · exact t
      · exact (List.pairwise_cons.mp h).1 z q
theorem srtL_pw (O : TotalLe le) : ∀ l : List α, (srtL le l).Pairwise (fun a b => le a b = true)
  | [] => by simp [srtL]
  | x :: l => by rw [srtL]; exact insL_pw O (srtL_pw O l)
theorem insL_fil (O : TotalLe le) {x c : α} : ∀ {l : List α}, (insL le x l).filter (sameRank le c) = (x :: l).filter (sameRank le c)
  | [] => rfl
  | y :: l => by
    rw [insL]
    by_cases e : le x y = true
    · rw [if_pos e]
    · rw [if_neg e, List.filter_cons, insL_fil O (l := l)]
      by_cases hx : sameRank le c x = true
      · have hy : ¬ sameRank le c y = true := fun hy => by
          unfold sameRank at hx hy
          rw [Bool.and_eq_true] at hx hy
          exact e (O.trans _ _ _ hx.2 hy.1)
        rw [if_neg hy, List.filter_cons, List.filter_cons, if_pos hx, if_pos hx, List.filter_cons, if_neg hy]
      · rw [List.filter_cons, if_neg hx, List.filter_cons, if_neg hx, List.filter_cons]
theorem srtL_fil (O : TotalLe le) (c : α) : ∀ l : List α, (srtL le l).filter (sameRank le c) = l.filter (sameRank le c)
  | [] => rfl
  | x :: l => by rw [srtL, insL_fil O, List.filter_cons, List.filter_cons, srtL_fil O c l]
theorem srtL_eq (O : TotalLe le) (l : List α) : srtL le l = l.mergeSort le := sort_unique O (srtL_pw O l) fun c => srtL_fil O c l
end
theorem dle (x y : D) (h : y.alike x = true) : dataLe false D.py x y = !(y.lt x) := by
  show (!dataLt y.py x.py) = _
  rw [lt_py _ _ h]
theorem insD_eq {x : D} : ∀ {l : List D}, (∀ y ∈ l, y.alike x = true) → insD x l = insL (dataLe false D.py) x l
  | [], _ => rfl
  | y :: l, h => by
    rw [insD, insL, dle x y (h y List.mem_cons_self), insD_eq fun z hz => h z (List.mem_cons_of_mem _ hz)]
    cases y.lt x <;> rfl
theorem sortD_eq : ∀ {l : List D}, (∀ x ∈ l, ∀ y ∈ l, x.alike y = true) → sortD l = srtL (dataLe false D.py) l
  | [], _ => rfl
  | x :: l, h => by
    have ih := sortD_eq fun a ha b hb => h a (List.mem_cons_of_mem _ ha) b (List.mem_cons_of_mem _ hb)
    rw [sortD, srtL, ih]
    exact insD_eq fun y hy => h y (List.mem_cons_of_mem _ (srtL_mem.mp hy)) x List.mem_cons_self
theorem allAlike_of {xs : List D} (h : allAlike xs = true) : ∀ x ∈ xs, ∀ y ∈ xs, x.alike y = true := fun x hx y hy => List.all_eq_true.mp (List.all_eq_true.mp h x hx) y hy
theorem sortD_merge {l : List D} (h : allAlike l = true) : sortD l = l.mergeSort (dataLe false D.py) := (sortD_eq (allAlike_of h)).trans (srtL_eq (sortLe_total _ _ _) l)
theorem pys_map : ∀ l : List D, D.pys l = l.map D.py
  | [] => rfl
  | x :: l => by rw [D.pys, List.map_cons, pys_map l]
theorem plains_mem {n : Nat} : ∀ {l : List D}, D.plains n l = true → ∀ x ∈ l, x.plain n = true
  | [], _, x, h => nomatch h
  | y :: l, h, x, hx => by
    have h0 : D.plain n y = true ∧ D.plains n l = true := by simpa [D.plains] using h
    rcases List.mem_cons.mp hx with e | e
    · rw [e]; exact h0.1
    · exact plains_mem h0.2 x e
section
variable {X : Cx} {T : List (Addr × Str)} {C : DC} {W : WX} {G : Gb} {F F' H H' : Hp} {σ : L2.St} {ρ : Env'} {p : Pot} {k : Nat}
/-- the values of a list, each with its datum -/
def SR (G : Gb) (F : Hp) (u : Value) (d : D) : Prop := ∃ v, L2.RelV v u ∧ Rep G F d v
theorem each_rep : ∀ {xs : List D} {ws : List V} {us : List Value}, Reps G F xs ws → Vals ws us → EachIs (SR G F) us xs
  | [], ws, us, r, v => by
    unfold Reps at r
    subst r
    cases v
    exact .nil
  | x :: xs, ws, us, r, v => by
    obtain ⟨w, t, e, r1, r2⟩ := r.uncons
    subst e
    cases v with
    | cons v1 v2 => exact .cons ⟨w, v1, r1⟩ (each_rep r2 v2)
theorem rep_each : ∀ {xs : List D} {us : List Value}, EachIs (SR G F) us xs → ∃ ws, Reps G F xs ws ∧ Vals ws us
  | [], us, h => by cases h; exact ⟨[], .nil, .nil⟩
  | x :: xs, us, h => by
    cases h with
    | cons h1 h2 =>
      obtain ⟨v, r1, r2⟩ := h1
      obtain ⟨ws, q1, q2⟩ := rep_each h2
      exact ⟨v :: ws, .cons r2 q1, .cons r1 q2⟩
theorem each_reads {n : Nat} {pins : List (Addr × Obj)} {s : Shared} {σ' : L2.St} (I : L2.Inv X pins σ' H s) (fh : Same F H) : ∀ {xs : List D} {us : List Value}, D.plains n xs = true → EachIs (SR G F) us xs → EachIs (fun u d => ∃ as, Reads s.heap u d.py as) us xs
  | [], us, _, h => by cases h; exact .nil
  | x :: xs, us, hp, h => by
    have h0 : D.plain n x = true ∧ D.plains n xs = true := by simpa [D.plains] using hp
    cases h with
    | cons h1 h2 =>
      obtain ⟨v, r1, r2⟩ := h1
      exact .cons (Lent.reads (C := ⟨F, H, none, 0⟩) I fh h0.1 (.inl r2) r1) (each_reads I fh h0.2 h2)
theorem each_get {α β : Type} {R : α → β → Prop} : ∀ {as : List α} {bs : List β} {i : Nat} {a : α}, EachIs R as bs → as[i]? = some a → ∃ b, bs[i]? = some b ∧ R a b
  | _, _, i, a, .nil, h => by simp at h
  | _, _, 0, a, .cons h1 h2, h => by
    simp at h
    subst h
    exact ⟨_, by simp, h1⟩
  | _, _, i + 1, a, .cons h1 h2, h => by
    rw [List.getElem?_cons_succ] at h
    obtain ⟨b, q1, q2⟩ := each_get h2 h
    exact ⟨b, by rw [List.getElem?_cons_succ]; exact q1, q2⟩
theorem allAlike_py {xs : List D} (h : allAlike xs = true) : AllAlike (xs.map D.py) := by
  intro d hd d' hd'
  obtain ⟨b, hb, rfl⟩ := List.mem_map.mp hd
  obtain ⟨b', hb', rfl⟩ := List.mem_map.mp hd'
  rw [alike_py]
  exact allAlike_of h b hb b' hb'
theorem insD_len (x : D) : ∀ l : List D, (insD x l).length = l.length + 1
  | [] => rfl
  | y :: l => by
    rw [insD]
    split
    · rw [List.length_cons, insD_len x l]; rfl
    · rfl
theorem sortD_len : ∀ l : List D, (sortD l).length = l.length
  | [] => rfl
  | x :: l => by rw [sortD, insD_len, sortD_len l]; rfl
theorem c_sorted (hr : Room k X.A) : CallR X (.builtin "sorted") (rL (gb X T) C W (o1 pSorted)) := by
  intro pins s σ H vs us Q I r h
  obtain ⟨F, σ', ρ, p, ds, J, l, q⟩ := h
  obtain ⟨d, v, e, l1, q1⟩ := o1_inv l q
  subst e
  cases d with
  | lst xs =>
    obtain ⟨a, ws, e, h1, z, r1⟩ := l1.lst J.fh
    subst e
    unfold pSorted at q1
    dsimp only at q1
    by_cases hc : (allAlike xs && D.plains 8 xs && (xs.all isTup1 || xs.all noTup)) = true
    · rw [if_pos hc] at q1
      simp only [Bool.and_eq_true, Bool.or_eq_true] at hc
      obtain ⟨⟨hal, hpl⟩, hk⟩ := hc
      rw [Vals.ref1 r]
      obtain ⟨its, rv, pl, hz⟩ := I.list (SqL.of h1)
      have ea : EachIs (SR (gb X T) F) its xs := each_rep r1 rv
      have dep : ∀ b ∈ xs, b.py.depth ≤ 8 := fun b hb => (plain_py 8 b (plains_mem hpl b hb)).2
      refine sorted_data (R := SR (gb X T) F) (enc := D.py) pl.isList ea (each_reads I J.fh hpl ea) (allAlike_py hal) ?_ (lim_line z) (fun b hb => ?_) fun out lo eo => ?_
      · rcases hk with hk | hk
        · refine .inl fun d hd => ?_
          obtain ⟨b, hb, rfl⟩ := List.mem_map.mp hd
          have := List.all_eq_true.mp hk b hb
          cases b with
          | tup ys =>
            cases ys with
            | nil => cases this
            | cons y ys => exact ⟨y.py, D.pys ys, by rw [D.py, D.pys]⟩
          | _ => cases this
        · refine .inr fun d hd => ?_
          obtain ⟨b, hb, rfl⟩ := List.mem_map.mp hd
          have := List.all_eq_true.mp hk b hb
          cases b with
          | tup ys => cases this
          | non => cases this
          | bl _ => exact ⟨by simp [D.py], fun ys => by simp [D.py]⟩
          | int _ => exact ⟨by simp [D.py], fun ys => by simp [D.py]⟩
          | str _ => exact ⟨by simp [D.py], fun ys => by simp [D.py]⟩
          | lst _ => exact ⟨by simp [D.py], fun ys => by simp [D.py]⟩
          | dct _ _ => exact ⟨by simp [D.py], fun ys => by simp [D.py]⟩
      · have := dep b hb
        have := hr.un
        omega
      · rw [← sortD_merge hal] at eo
        obtain ⟨ws2, r2, v2⟩ := rep_each eo
        have hn : H (s.heap.objs.size + 1) = none := I.hok.fresh (Nat.le_succ _)
        obtain ⟨c, hcc⟩ := sortedAll_at s.heap its (List.toArray out)
        have len2 : ws2.length = xs.length := by rw [r2.length, sortD_len]
        have I2 : L2.Inv X pins σ (upd H (s.heap.objs.size + 1) (.lst ws2)) { s with heap := sortedAll s.heap its (List.toArray out) } :=
          I.laid (t' := s.toks) (fun b u hb => sortedAll_old hb) (Nat.le_succ _) ⟨by rw [len2]; exact lim_line z, out, c, v2, hcc⟩
        refine ⟨.ref (s.heap.objs.size + 1), _, I2, rfl, post_new q1 J hn fun F' sm e => ?_⟩
        unfold Rep
        exact ⟨_, ws2, rfl, e, by rw [sortD_len]; exact z, Reps.mono sm _ _ r2⟩
    · rw [if_neg hc] at q1
      exact q1.elim
  | _ => exact q1.elim
mutual
theorem reads_uniq {h : Heap} : ∀ (d : PyData) (v : Value) (as : List Addr) (d' : PyData) (as' : List Addr), d.plain = true → d'.plain = true → Reads h v d as → Reads h v d' as' → d = d'
  | .none, _, _, _, _, _, _, r, r' => by cases r; cases r'; rfl
  | .bool _, _, _, _, _, _, _, r, r' => by cases r; cases r'; rfl
  | .int _, _, _, _, _, _, _, r, r' => by cases r; cases r'; rfl
  | .str _, _, _, _, _, _, _, r, r' => by cases r; cases r'; rfl
  | .dict _, _, _, _, _, p, _, _, _ => by simp [PyData.plain] at p
  | .list xs, _, _, d', _, p, p', r, r' => by
    cases r with
    | list h1 h2 h3 h4 =>
      cases r' with
      | list g1 g2 g3 g4 =>
        rw [h1] at g1
        cases g1
        rw [h3] at g3
        cases g3
        rw [readsAll_uniq xs _ _ _ _ (by simpa [PyData.plain] using p) (by simpa [PyData.plain] using p') h4 g4]
      | tuple g1 g2 g3 g4 =>
        rw [h1] at g1
        cases g1
        rw [h2] at g2
        exact absurd (Value.type.inj g2) (by decide)
      | dict g1 g2 g3 g4 g5 =>
        rw [h1] at g1
        cases g1
        rw [h2] at g2
        exact absurd (Value.type.inj g2) (by decide)
  | .tuple xs, _, _, d', _, p, p', r, r' => by
    cases r with
    | tuple h1 h2 h3 h4 =>
      cases r' with
      | tuple g1 g2 g3 g4 =>
        rw [h1] at g1
        cases g1
        rw [h3] at g3
        cases g3
        rw [readsAll_uniq xs _ _ _ _ (by simpa [PyData.plain] using p) (by simpa [PyData.plain] using p') h4 g4]
      | list g1 g2 g3 g4 =>
        rw [h1] at g1
        cases g1
        rw [h2] at g2
        exact absurd (Value.type.inj g2) (by decide)
      | dict g1 g2 g3 g4 g5 =>
        rw [h1] at g1
        cases g1
        rw [h2] at g2
        exact absurd (Value.type.inj g2) (by decide)
theorem readsAll_uniq {h : Heap} : ∀ (ds : List PyData) (vs : List Value) (as : List Addr) (ds' : List PyData) (as' : List Addr), PyData.plainAll ds = true → PyData.plainAll ds' = true → ReadsAll h vs ds as → ReadsAll h vs ds' as' → ds = ds'
  | [], _, _, _, _, _, _, r, r' => by cases r; cases r'; rfl
  | d :: ds, _, _, ds', _, p, p', r, r' => by
    cases r with
    | cons h1 h2 =>
      cases r' with
      | cons g1 g2 =>
        have p0 : d.plain = true ∧ PyData.plainAll ds = true := by simpa [PyData.plainAll] using p
        rename_i d2 _ ds2 _
        have q0 := p'
        simp only [PyData.plainAll, Bool.and_eq_true] at q0
        rw [reads_uniq d _ _ _ _ p0.1 q0.1 h1 g1, readsAll_uniq ds _ _ _ _ p0.2 q0.2 h2 g2]
end
mutual
theorem py_inj : ∀ (n : Nat) (d e : D), d.plain n = true → e.plain n = true → d.py = e.py → d = e
  | n, .non, e, _, q, h => by cases e <;> simp [D.py] at h ⊢
  | n, .bl _, e, _, q, h => by cases e <;> simp [D.py] at h ⊢; exact h
  | n, .int _, e, _, q, h => by cases e <;> simp [D.py] at h ⊢; exact h
  | n, .str _, e, _, q, h => by cases e <;> simp [D.py] at h ⊢; exact h
  | n, .dct _ _, e, p, q, h => by cases n <;> simp [D.plain] at p
  | 0, .lst xs, e, p, q, h => by simp [D.plain] at p
  | 0, .tup xs, e, p, q, h => by simp [D.plain] at p
  | n + 1, .lst xs, e, p, q, h => by
    cases e with
    | lst ys =>
      simp only [D.py, PyData.list.injEq] at h
      rw [pys_inj n xs ys (by simpa [D.plain] using p) (by simpa [D.plain] using q) h]
    | _ => simp [D.py] at h
  | n + 1, .tup xs, e, p, q, h => by
    cases e with
    | tup ys =>
      simp only [D.py, PyData.tuple.injEq] at h
      rw [pys_inj n xs ys (by simpa [D.plain] using p) (by simpa [D.plain] using q) h]
    | _ => simp [D.py] at h
theorem pys_inj : ∀ (n : Nat) (xs ys : List D), D.plains n xs = true → D.plains n ys = true → D.pys xs = D.pys ys → xs = ys
  | n, [], ys, _, _, h => by cases ys <;> simp [D.pys] at h ⊢
  | n, x :: xs, ys, p, q, h => by
    cases ys with
    | nil => simp [D.pys] at h
    | cons y ys =>
      simp only [D.pys, List.cons.injEq] at h
      have p0 : D.plain n x = true ∧ D.plains n xs = true := by simpa [D.plains] using p
      have q0 : D.plain n y = true ∧ D.plains n ys = true := by simpa [D.plains] using q
      rw [py_inj n x y p0.1 q0.1 h.1, pys_inj n xs ys p0.2 q0.2 h.2]
end
theorem minD_mem : ∀ (xs : List D) (x : D), DL.minD x xs ∈ x :: xs
  | [], x => by simp [DL.minD]
  | y :: ys, x => by
    rw [DL.minD]
    have := minD_mem ys (if y.lt x then y else x)
    rcases List.mem_cons.mp this with e | e
    · rw [e]; split <;> simp
    · simp [e]
theorem maxD_mem : ∀ (xs : List D) (x : D), DL.maxD x xs ∈ x :: xs
  | [], x => by simp [DL.maxD]
  | y :: ys, x => by
    rw [DL.maxD]
    have := maxD_mem ys (if x.lt y then y else x)
    rcases List.mem_cons.mp this with e | e
    · rw [e]; split <;> simp
    · simp [e]
theorem minD_py : ∀ (xs : List D) (x : D), (∀ a ∈ x :: xs, ∀ b ∈ x :: xs, a.alike b = true) → PySem.W.minD x.py (D.pys xs) = (DL.minD x xs).py
  | [], x, _ => rfl
  | y :: ys, x, h => by
    have e : dataLt y.py x.py = y.lt x := lt_py _ _ (h y (by simp) x (by simp))
    have ih := minD_py ys (if y.lt x then y else x) fun a ha b hb => h a (by
      rcases List.mem_cons.mp ha with q | q
      · rw [q]; split <;> simp
      · simp [q]) b (by
      rcases List.mem_cons.mp hb with q | q
      · rw [q]; split <;> simp
      · simp [q])
    rw [DL.minD, ← ih, D.pys]
    unfold PySem.W.minD
    rw [List.foldl_cons, e]
    cases y.lt x <;> rfl
theorem maxD_py : ∀ (xs : List D) (x : D), (∀ a ∈ x :: xs, ∀ b ∈ x :: xs, a.alike b = true) → PySem.W.maxD x.py (D.pys xs) = (DL.maxD x xs).py
  | [], x, _ => rfl
  | y :: ys, x, h => by
    have e : dataLt x.py y.py = x.lt y := lt_py _ _ (h x (by simp) y (by simp))
    have ih := maxD_py ys (if x.lt y then y else x) fun a ha b hb => h a (by
      rcases List.mem_cons.mp ha with q | q
      · rw [q]; split <;> simp
      · simp [q]) b (by
      rcases List.mem_cons.mp hb with q | q
      · rw [q]; split <;> simp
      · simp [q])
    rw [DL.maxD, ← ih, D.pys]
    unfold PySem.W.maxD
    rw [List.foldl_cons, e]
    cases x.lt y <;> rfl
theorem not_non {d : D} (h : d.py = .none) : d = .non := by cases d <;> simp [D.py] at h ⊢
theorem best_out {n : Nat} {pins : List (Addr × Obj)} {s : Shared} {σ' : L2.St} {xs : List D} {ws : List V} {its : List Value} {m : D} {i : Nat} {u : Value} {h' : Heap} {tk : Nat} {bs : List Addr} (I : L2.Inv X pins σ' H s) (fh : Same F H) (hp : D.plains n xs = true) (r1 : Reps (gb X T) F xs ws) (rv : Vals ws its)
    (hm : m ∈ xs) (hu : its.toArray[i]? = some u) (rd : Reads h' u m.py bs) (kk : ∀ b o, s.heap.get? b = some o → h'.get? b = some o) : ∃ v, L2.RelV v u ∧ Rep (gb X T) F m v ∧ L2.Inv X pins σ' H { s with heap := h', toks := tk } := by
  have ea : EachIs (SR (gb X T) F) its xs := each_rep r1 rv
  obtain ⟨d, hd, v, q1, q2⟩ := each_get ea (i := i) (a := u) (by simpa using hu)
  have hd' : d ∈ xs := List.mem_of_getElem? hd
  obtain ⟨as, r0⟩ := Lent.reads (C := ⟨F, H, none, 0⟩) I fh (plains_mem hp d hd') (.inl q2) q1
  have r0' := PyProof.Rows.Reads.keeps kk r0
  have e := reads_uniq _ _ _ _ _ (plain_py n d (plains_mem hp d hd')).1 (plain_py n m (plains_mem hp m hm)).1 r0' rd
  have e2 := py_inj n d m (plains_mem hp d hd') (plains_mem hp m hm) e
  subst e2
  exact ⟨v, q1, q2, I.kept kk⟩
theorem alikeAll_py {x : D} {xs : List D} (hal : allAlike (x :: xs) = true) (hn : ∀ y ∈ x :: xs, y ≠ .non) : AlikeAll (x.py :: D.pys xs) := by
  have e : x.py :: D.pys xs = (x :: xs).map D.py := by rw [List.map_cons, pys_map]
  rw [e]
  refine ⟨allAlike_py hal, fun d hd h => ?_⟩
  obtain ⟨b, hb, rfl⟩ := List.mem_map.mp hd
  exact hn b hb (not_non h)
theorem c_min (hc : X.calm = true) (hr : Room k X.A) : CallR X (.builtin "min") (rL (gb X T) C W (o1 pMin)) := by
  intro pins s σ H vs us Q I r h
  obtain ⟨F, σ', ρ, p, ds, J, l, q⟩ := h
  obtain ⟨d, v, e, l1, q1⟩ := o1_inv l q
  subst e
  cases d with
  | lst xs =>
    obtain ⟨a, ws, e, h1, z, r1⟩ := l1.lst J.fh
    subst e
    cases xs with
    | nil => exact q1.elim
    | cons x xs =>
      unfold pMin at q1
      dsimp only at q1
      by_cases hcc : (allAlike (x :: xs) && D.plains 8 (x :: xs) && !x.eqv .non) = true
      · rw [if_pos hcc] at q1
        simp only [Bool.and_eq_true, Bool.not_eq_true'] at hcc
        obtain ⟨⟨hal, hpl⟩, hnn⟩ := hcc
        rw [Vals.ref1 r]
        obtain ⟨its, rv, pl, hz⟩ := I.list (SqL.of h1)
        have ea : EachIs (SR (gb X T) F) its (x :: xs) := each_rep r1 rv
        have nn : ∀ y ∈ x :: xs, y ≠ .non := fun y hy e => by
          have := allAlike_of hal x List.mem_cons_self y hy
          subst e
          cases x <;> simp [D.alike, D.eqv] at this hnn
        have er : EachIs (fun u d => ∃ as, Reads s.heap u d as) its ((x :: xs).map D.py) := each_map (R := fun u d => ∃ as, Reads s.heap u d as) D.py (each_reads I J.fh hpl ea)
        obtain ⟨as, ra⟩ := each_readsAll (enc := id) er
        rw [List.map_id, List.map_cons, ← pys_map] at ra
        refine min_list_data (I.ok.hd hc) pl.isList ra (alikeAll_py hal nn) ?_ fun i u h' tk bs hu rd kk => ?_
        · have := (plains_py 8 (x :: xs) hpl).2
          rw [D.pys] at this
          have := hr.un
          omega
        · rw [minD_py xs x (allAlike_of hal)] at rd
          obtain ⟨v, g1, g2, g3⟩ := best_out (T := T) (tk := tk) I J.fh hpl r1 rv (minD_mem xs x) hu rd kk
          exact ⟨v, H, g3, g1, post.flat q1 J g2⟩
      · rw [if_neg hcc] at q1
        exact q1.elim
  | _ => exact q1.elim
theorem c_max (hc : X.calm = true) (hr : Room k X.A) : CallR X (.builtin "max") (rL (gb X T) C W (o1 pMax)) := by
  intro pins s σ H vs us Q I r h
  obtain ⟨F, σ', ρ, p, ds, J, l, q⟩ := h
  obtain ⟨d, v, e, l1, q1⟩ := o1_inv l q
  subst e
  cases d with
  | lst xs =>
    obtain ⟨a, ws, e, h1, z, r1⟩ := l1.lst J.fh
    subst e
    cases xs with
    | nil => exact q1.elim
    | cons x xs =>
      unfold pMax at q1
      dsimp only at q1
      by_cases hcc : (allAlike (x :: xs) && D.plains 8 (x :: xs) && !x.eqv .non) = true
      · rw [if_pos hcc] at q1
        simp only [Bool.and_eq_true, Bool.not_eq_true'] at hcc
        obtain ⟨⟨hal, hpl⟩, hnn⟩ := hcc
        rw [Vals.ref1 r]
        obtain ⟨its, rv, pl, hz⟩ := I.list (SqL.of h1)
        have ea : EachIs (SR (gb X T) F) its (x :: xs) := each_rep r1 rv
        have nn : ∀ y ∈ x :: xs, y ≠ .non := fun y hy e => by
          have := allAlike_of hal x List.mem_cons_self y hy
          subst e
          cases x <;> simp [D.alike, D.eqv] at this hnn
        have er : EachIs (fun u d => ∃ as, Reads s.heap u d as) its ((x :: xs).map D.py) := each_map (R := fun u d => ∃ as, Reads s.heap u d as) D.py (each_reads I J.fh hpl ea)
        obtain ⟨as, ra⟩ := each_readsAll (enc := id) er
        rw [List.map_id, List.map_cons, ← pys_map] at ra
        refine max_list_data (I.ok.hd hc) pl.isList ra (alikeAll_py hal nn) ?_ fun i u h' tk bs hu rd kk => ?_
        · have := (plains_py 8 (x :: xs) hpl).2
          rw [D.pys] at this
          have := hr.un
          omega
        · rw [maxD_py xs x (allAlike_of hal)] at rd
          obtain ⟨v, g1, g2, g3⟩ := best_out (T := T) (tk := tk) I J.fh hpl r1 rv (maxD_mem xs x) hu rd kk
          exact ⟨v, H, g3, g1, post.flat q1 J g2⟩
      · rw [if_neg hcc] at q1
        exact q1.elim
  | _ => exact q1.elim
end
end DL
/-! DL17: the law's own def. -/
namespace DL
set_option autoImplicit false
open PySem PySem.Spec L2 PyProof.Rows
section
variable {X : Cx} {T : List (Addr × Str)} {C : DC} {W : WX} {F F' H H' : Hp} {σ : L2.St} {ρ : Env'} {p : Pot} {k : Nat} {e : Expr} {f : DE} {pos : Pos}
/-- -e -/
theorem eneg (he : PE X e (tE (gb X T) C W f)) : PE X (.UnaryOp .USub e pos) (tE (gb X T) C W (d1 pNeg f)) := imp (pe_un un_neg he) fun σ H Q ⟨F, ρ, p, I, q⟩ => by
  refine tG_mono (fun x H1 z => ?_) (tG_bind I q)
  obtain ⟨F1, d, p1, I1, e1, r1, q1⟩ := z
  cases d with
  | int a =>
    unfold Rep at r1
    exact ⟨a, r1, q1.now I1 (by unfold Rep; rfl)⟩
  | _ => exact q1.elim
theorem upd_upd {H : Hp} {a : Addr} {o o2 : HO} : upd (upd H a o) a o2 = upd H a o2 := by
  funext b
  by_cases e : b = a
  · rw [e, upd_same, upd_same]
  · rw [upd_ne e, upd_ne e, upd_ne e]
/-- a new dict is locked -/
def tLk (t : TE) : TE := fun σ H Q => t σ H fun x H1 => ∃ p u, x = .ref p ∧ H1 p = some u ∧ Mut (some u) ∧ ∀ o, Q x (upd H1 p (.frz o u))
theorem pe_lk {t : TE} (h : PE X e t) : PE X e (tLk t) := by
  refine ⟨fun pins s σ H Q I w => ?_⟩
  refine thn (h.run pins s σ H _ I w) fun v s1 ⟨x, H1, I1, r, p, u, ex, hp, mu, q⟩ => ?_
  obtain ⟨od, I2⟩ := I1.lock hp mu
  exact ⟨x, _, I2, r, q od⟩
/-- {} -/
theorem ed0 {p0 : Pos} : PE X (.Dict [] [] p0) (tE (gb X T) C W (dC (.dct [] []))) := imp (pe_lk pe_dnewK) fun σ H Q ⟨F, ρ, p, I, q⟩ => by
  intro l n
  refine ⟨l, _, rfl, upd_same, True.intro, fun o => ?_⟩
  rw [upd_upd]
  refine post_new (o := .frz o (.dK [])) q I n fun F' sm e => ?_
  unfold Rep
  exact ⟨l, rfl, Nat.zero_le _, .inr ⟨[], ⟨o, e⟩, rfl, .nil⟩⟩
end
def absI (z : Int) : Int := if z < 0 then -z else z
def potOf (ns : List Int) : Pot := ⟨ns.map absI, 0, 20011, 0⟩
def spPot (K : PySem.W.Frag) : Sp := fun vs H Q _ => ∃ (a : Addr) (ns : List Int), vs = [.ref a] ∧ SqL K H a (ns.map .int) ∧ ns.length ≤ 63 ∧
  ∀ pa c H', H pa = none → H c = none → c ≠ pa → (∀ b o, H b = some o → H' b = some o) → H' pa = some (.lst [.ref c, .int 0, .int 20011, .int 0]) → H' c = some (.lst ((ns.map absI).map .int)) → Q (.ref pa) H'
def spLaw (K : PySem.W.Frag) (T : List (Addr × Str)) : Sp := fun vs H Q _ => ∃ (a : Addr) (ns : List Int), vs = [.ref a] ∧ SqL K H a (ns.map .int) ∧ ns.length ≤ 63 ∧ LamX.Tabs T H ∧ ∀ H', Q (.bl true) H'
theorem good_potOf {ns : List Int} (h : ns.length ≤ 63) : PotGood (potOf ns) := by
  refine ⟨by show (ns.map absI).length ≤ 63; rw [List.length_map]; exact h, fun z hz => ?_, (by decide : (0 : Int) ≤ 20011), (by decide : (20011 : Int) < 2147483647), (by decide : (0 : Int) ≤ 0)⟩
  obtain ⟨y, _, e⟩ := List.mem_map.mp hz
  unfold absI at e
  split at e <;> omega
theorem nth_pad_un : ∀ (n i : Nat), nth (padN n []) i = .un := fun n i => by rw [nth_padN]; cases i <;> rfl
/-- reads a body that starts once the pot stands -/
def tPot (G : Gb) (W : WX) (i : Nat) (s : DS) : TS := fun D σ H => ∃ F0 H0 a, tS G ⟨F0, H0, some a, i⟩ W s D σ H
theorem pss_pot {X : Cx} {T : List (Addr × Str)} {W : WX} {i : Nat} {s : DS} {st : List Stmt} (h : ∀ F0 H0 a, PSs X st (tSS X T ⟨F0, H0, some a, i⟩ W s)) : PSs X st (tPot (gb X T) W i s) := ⟨fun pins sh σ H D I ⟨F0, H0, a, q⟩ => (h F0 H0 a).run pins sh σ H D I q⟩
section
variable {P : Program} {w : World} {K : PySem.W.Frag} {mg : Str → Option Value} {base : Heap} {qual : Str} {params : Arguments} {scope : Scope} {f fp : Addr} {fd fdp : FuncData} {N : List Str} {k : Nat} {T : List (Addr × Str)} {rest : List Stmt} {p1 p2 p3 p4 p5 : Pos} {s : DS} {psp : List Str}
/-- the law's def: pot = _law_pot(script), then the rest -/
theorem fn_law {oc dV kV doc pm ct : Value} {cdv : Value} {an od : Option Addr} {osl : Array (Option Value)} (lk : K.lookup f = some ⟨oc, od, .func (PySem.W.fnOf "law" qual params (.Assign [.Name "pot" p1] (.Call (.Name "_law_pot" p2) [.Name "script" p3] [] p4) p5 :: rest) scope dV kV doc pm an cdv ct), osl⟩)
    (hcd : PySem.W.codeIn K cdv qual = true) (S : FnScope ("script" :: "pot" :: N) ["script"] scope) (hs : scope.names.lookup ("script" : Str) = some .local) (hp : scope.names.lookup ("pot" : Str) = some .local ∨ scope.names.lookup ("pot" : Str) = some .cell) (hg : scope.names.lookup ("_law_pot" : Str) = some .globalImplicit)
    (Fp : FnOk P w K mg base (L2.CX P w) k fp fdp psp (spPot K)) (mp : mg "_law_pot" = some (.ref fp)) (kp : PySem.W.keepIn K (.ref fp) = true) (bp : Binds K fdp psp [])
    (hb : ∀ (A : Around) (outer : List Env) (sh : Shared) (F0 H0 H : Hp) (E : XK) (a : Addr), Bd (XD P w K mg base ("script" :: "pot" :: N) qual scope f cdv A outer sh H E) (WE' E) k → PSs (XD P w K mg base ("script" :: "pot" :: N) qual scope f cdv A outer sh H E) rest (tSS (XD P w K mg base ("script" :: "pot" :: N) qual scope f cdv A outer sh H E) T ⟨F0, H0, some a, 1⟩ (WE' E) s))
    (hl : ∀ ns : List Int, ns.length ≤ 63 → ∃ p', s (padN (N.length + 2) []) (potOf ns) = .ret (.bl true) p') :
    FnOk P w K mg base (L2.CX P w) (k + 1) f (PySem.W.fnOf "law" qual params (.Assign [.Name "pot" p1] (.Call (.Name "_law_pot" p2) [.Name "script" p3] [] p4) p5 :: rest) scope dV kV doc pm an cdv ct) ["script"] (spLaw K T) := by
  refine fn_of lk hcd S (fun vs H Q E ⟨a, ns, e, _⟩ => by subst e; rfl) fun A outer sh H vs Q E hr ⟨a, ns, e, hS, hlen, tb, hq⟩ => ?_
  subst e
  have B : Bd (XD P w K mg base ("script" :: "pot" :: N) qual scope f cdv A outer sh H E) (WE' E) k := bd_def S hr
  refine ⟨_, pss_cons (ps_set (i := 1) S.nd rfl hp (pe_call (E := fun _ _ _ => False) Fp B.hr hg mp kp bp .nil passL (pa_cons (pe_var (i := 0) rfl (.inl hs) (by decide) (by decide)) pa_nil)) rfl (.inl rfl)) (pss_pot fun F0 H0 b => hb A outer sh F0 H0 H E b B), ?_⟩
  refine ⟨.ref a, rfl, a, ns, rfl, hS, hlen, fun pa c H' n1 n2 ne ex e1 e2 => ?_⟩
  have hc : (fun b => if b = c then H' c else none : Hp) c = some (.lst ((ns.map absI).map .int)) := (if_pos rfl).trans e2
  have fh : Same (fun b => if b = c then H' c else none) H' := fun b o h => by
    have h : (if b = c then H' c else none) = some o := h
    by_cases z : b = c
    · rw [if_pos z] at h; rw [z]; exact h
    · rw [if_neg z] at h; cases h
  obtain ⟨p', hfin⟩ := hl ns hlen
  refine ⟨fun b => if b = c then H' c else none, H', pa, fun b => if b = c then H' c else none, padN (N.length + 2) [], potOf ns, ⟨⟨fh, Ext.refl _ _, fun b e => ?_, tb.ext ex, fun b ps h => ?_⟩, fun i => ?_, fun i j b _ _ h2 _ => ?_, fun b e => ?_, ?_⟩, ?_⟩
  · cases (show (some pa : Option Addr) = some b from e)
    exact ⟨if_neg (Ne.symm ne), good_potOf hlen, c, e1, hc⟩
  · have h : (if b = c then H' c else none) = some (.tbl ps) := h
    by_cases z : b = c
    · rw [if_pos z, e2] at h; cases h
    · rw [if_neg z] at h; cases h
  · rw [nth_pad_un]; trivial
  · rw [nth_pad_un] at h2; cases h2
  · cases (show (some pa : Option Addr) = some b from e)
    exact ⟨rfl, nth_pad_un _ _⟩
  · rw [padN_len _ _ (Nat.zero_le _), List.length_set, start_len (N := ("script" : Str) :: "pot" :: N) (vs := [V.ref a]) (Nat.succ_le_succ (Nat.zero_le _))]
    exact Nat.le_refl _
  · rw [hfin]
    intro v σ' ρ' F' H2 I sm r
    unfold Rep at r
    subst r
    exact hq H2
end
/-- what the pot's def does -/
def rAbs' : List V → Hp → VK → Prop := fun xs H Q => ∃ i, xs = [.int i] ∧ Q (.int (if i < 0 then -i else i)) H
def tPotB (K : PySem.W.Frag) : TS := tRet (tLst (tCons (tLc (iList K (L2.tSl (rSlL K) (tVar 0) tNoPart (tPart (tC (.int 63))))) (gName 1) tYes (tCB rAbs' (tCons (tVar 1) tNil)) [1]) (tCons (tC (.int 0)) (tCons (tC (.int 20011)) (tCons (tC (.int 0)) tNil)))))
theorem pot_run {K : PySem.W.Frag} {vs : List V} {H : Hp} {Q : VK} {E : XK} (h : spPot K vs H Q E) : tPotB K { nx := fun _ H' => Q .non H', rt := Q } (L2.start ["script", "cell"] vs) H := by
  obtain ⟨a, ns, e, hS, hlen, hq⟩ := h
  subst e
  refine ⟨.ref a, rfl, 63, rfl, a, ns.map .int, rfl, hS, fun l0 n0 => ⟨l0, rfl, ⟨_, SqL.of upd_same⟩, fun c nc => ?_⟩⟩
  have hcut : cutV (ns.map V.int) none (some 63) = ns.map .int := by
    unfold cutV
    have e1 : HT.sIx (ns.map V.int).length 0 none = 0 := rfl
    have e2 : HT.sIx (ns.map V.int).length (ns.map V.int).length (some 63) = (ns.map V.int).length := by
      rw [List.length_map]
      show min 63 ns.length = ns.length
      omega
    rw [e1, e2, List.drop_zero, Nat.sub_zero, List.take_of_length_le (Nat.le_refl _)]
  have ncl : c ≠ l0 := fun e => by rw [e, upd_same] at nc; cases nc
  have nH : H c = none := by rw [upd_ne ncl] at nc; exact nc
  rw [hcut] at nc ⊢
  refine lc_list (xs := ns.map V.int) (fun i H' => H' c = some (.lst (((ns.map absI).take i).map .int)) ∧ H' l0 = some (.lst (ns.map .int)) ∧ (∀ b o, H b = some o → H' b = some o) ∧ (∀ b, H' b = none → H b = none)) ?_ (fun i H' _ h => SqL.of h.2.1) (fun i x H' hx hP => ?_) (fun H' hP => ?_)
  · refine ⟨by rw [upd_same]; rfl, by rw [upd_ne (Ne.symm ncl), upd_same], fun b o hb => ?_, fun b hb => ?_⟩
    · rw [upd_ne (ne_of_none hb nH), upd_ne (ne_of_none hb n0)]; exact hb
    · by_cases e : b = c
      · rw [e, upd_same] at hb; cases hb
      · rw [upd_ne e] at hb
        by_cases e2 : b = l0
        · rw [e2, upd_same] at hb; cases hb
        · rw [upd_ne e2] at hb; exact hb
  · obtain ⟨h1, h2, h3, h4⟩ := hP
    rw [List.getElem?_map] at hx
    cases hn : ns[i]? with
    | none => rw [hn] at hx; cases hx
    | some z =>
      rw [hn] at hx
      cases hx
      have hlt : i < ns.length := by
        rcases Nat.lt_or_ge i ns.length with q | q
        · exact q
        · rw [List.getElem?_eq_none q] at hn; cases hn
      have tk : (ns.map absI).take (i + 1) = (ns.map absI).take i ++ [absI z] := by
        rw [List.take_succ, List.getElem?_map, hn]
        rfl
      refine ⟨rfl, .int z, rfl, z, rfl, _, h1, ?_, ?_, ?_, ?_, ?_⟩
      · rw [List.length_map, List.length_take, List.length_map, sizeLine_eq]
        omega
      · rw [upd_same, tk, List.map_append]
        rfl
      · rw [upd_ne (Ne.symm ncl)]; exact h2
      · intro b o hb
        rw [upd_ne (ne_of_none hb nH)]
        exact h3 b o hb
      · intro b hb
        by_cases e : b = c
        · rw [e, upd_same] at hb; cases hb
        · rw [upd_ne e] at hb; exact h4 b hb
  · obtain ⟨h1, h2, h3, h4⟩ := hP
    have tk : (ns.map absI).take (ns.map V.int).length = ns.map absI := by
      rw [List.take_of_length_le]
      rw [List.length_map, List.length_map]
      exact Nat.le_refl _
    rw [tk] at h1
    refine ⟨by rw [sizeLine_eq]; exact (by decide : 4 ≤ 16777216), fun pa npa => ?_⟩
    have np : c ≠ pa := fun e => by rw [← e, h1] at npa; cases npa
    refine hq pa c _ (h4 pa npa) nH np (fun b o hb => ?_) upd_same (by rw [upd_ne np]; exact h1)
    rw [upd_ne (ne_of_none (h3 b o hb) npa)]
    exact h3 b o hb
end DL
/-! DL18: what the head tells. -/
namespace DL
set_option autoImplicit false
open PySem PySem.Spec L2 PyProof.Rows
/-- the first def of a class -/
def inM (st : Stmt) : Stmt := match st with
  | .ClassDef _ _ _ (b :: _) _ _ _ _ _ _ _ => b
  | s => s
def oexB (K : PySem.W.Frag) (C : Addr) : Bool := match K.lookup C with
  | some ⟨.type "type", _, .cls cd, sl⟩ => (match cd.mro, sl.toList with
    | .ref C' :: bm, [_, _, _, _, some (.builtin n), _] => C' == C && n == "ValueError.__new__" && !cd.hasDel && cd.hasDict && PySem.HandSPX.refsVE bm
    | _, _ => false)
  | _ => false
theorem oexB_ok {K : PySem.W.Frag} {C : Addr} (q : oexB K C = true) : ∃ nm q N bs bm sn sub ab col dd k0 k1 k2 k3 k5, K.lookup C = some (excClassObj nm q C N bs bm true sn sub ab col dd k0 k1 k2 k3 k5 "ValueError.__new__") ∧ PySem.HandSPX.refsVE bm = true := by
  unfold oexB at q
  split at q
  · rename_i dd cd sl ho
    split at q
    · rename_i C' bm k0 k1 k2 k3 n k5 hm hs
      simp only [Bool.and_eq_true, beq_iff_eq, Bool.not_eq_true'] at q
      obtain ⟨⟨⟨⟨rfl, rfl⟩, hdel⟩, hdict⟩, ht⟩ := q
      obtain ⟨nm, bs, mro, ns, qn, hd, sn, sub, ab, col, del⟩ := cd
      dsimp only at hm hdel hdict
      subst hm hdel hdict
      have hsl : sl = #[k0, k1, k2, k3, some (.builtin "ValueError.__new__"), k5] := by
        obtain ⟨l⟩ := sl
        simp only at hs
        rw [hs]
      subst hsl
      exact ⟨nm, qn, ns, bs, bm, sn, sub, ab, col, dd, k0, k1, k2, k3, k5, ho, ht⟩
    · cases q
  · cases q
/-- an own class with an __init__ that keeps fs -/
def cliB (K : PySem.W.Frag) (x : Str) (fs : List Str) : Bool :=
  oexB K (He.ga K x) && (decide (PySem.W.findIn K (.ref (He.ga K x)) "__setattr__" = some (some (.builtin "object.__setattr__"))) && (decide (PySem.W.subIn K (.ref (He.ga K x)) (.type "BaseException") = some true) && (decide (PySem.W.typeIn K (.ref (He.ga K x)) = some (.type "type")) && (PySem.W.keepIn K (.ref (He.ga K x)) &&
    (decide (PySem.W.findIn K (.ref (He.ga K x)) "__init__" = some (some (.ref (He.ma K (He.ga K x) "__init__")))) && (decide (PySem.W.typeIn K (.ref (He.ma K (He.ga K x) "__init__")) = some (.type "function")) && (xfB K (He.ga K x) && fs.all fun f => decide (PySem.W.findIn K (.ref (He.ga K x)) f = some none))))))))
structure CliK (K : PySem.W.Frag) (x : Str) (fs : List Str) : Prop where
  o : OexC K (He.ga K x)
  i : PySem.W.findIn K (.ref (He.ga K x)) "__init__" = some (some (.ref (He.ma K (He.ga K x) "__init__")))
  t : PySem.W.typeIn K (.ref (He.ma K (He.ga K x) "__init__")) = some (.type "function")
  f : XfC K (He.ga K x)
  n : ∀ f ∈ fs, PySem.W.findIn K (.ref (He.ga K x)) f = some none
theorem cliB_ok {K : PySem.W.Frag} {x : Str} {fs : List Str} (h : cliB K x fs = true) : CliK K x fs := by
  unfold cliB at h
  simp only [Bool.and_eq_true, decide_eq_true_eq, List.all_eq_true] at h
  obtain ⟨h1, h2, h3, h4, h5, h6, h7, h8, h9⟩ := h
  exact ⟨⟨oexB_ok h1, h2, h3, h4, h5⟩, h6, h7, xfB_ok h8, h9⟩
def exmB (K : PySem.W.Frag) (cs : List Str) : Bool := cs.all fun x => cs.all fun y => decide (PySem.W.exmOne K (.ref (He.ga K x)) (.ref (He.ga K y)) = some (subC x y))
theorem exmB_ok {K : PySem.W.Frag} {mg : Str → Option Value} {cs : List Str} (h : exmB K cs = true) (g : ∀ x ∈ cs, mg x = some (.ref (He.ga K x))) : Exm K mg cs := fun x hx y hy cx cy ex ey => by
  have h1 := List.all_eq_true.mp (List.all_eq_true.mp h x hx) y hy
  have e1 := g x hx
  have e2 := g y hy
  rw [ex] at e1
  rw [ey] at e2
  injection e1 with e1
  injection e1 with e1
  injection e2 with e2
  injection e2 with e2
  rw [e1, e2]
  exact of_decide_eq_true h1
theorem exn_of {K : PySem.W.Frag} {mg : Str → Option Value} {x : Str} (g : mg x = some (.ref (He.ga K x))) (c : (He.Fa.exc x).ok K = true) : ExN K mg x := by
  obtain ⟨h1, h2, h3, h4⟩ := He.exc_ok c
  exact ⟨He.ga K x, g, h1, h2, h3, h4⟩
theorem exf_of {K : PySem.W.Frag} {mg : Str → Option Value} {x : Str} {fs : List Str} (g : mg x = some (.ref (He.ga K x))) (c : CliK K x fs) : ExF K mg x fs := ⟨He.ga K x, g, c.f, c.n⟩
end DL
/-! DL19: set(xs) of a list of ints. -/
namespace DL
set_option autoImplicit false
open PySem PySem.Spec L2 PyProof.Rows
/-- an empty set -/
abbrev ob0 (w : World) : Obj := { cls := .type "set", dict := none, data := .set #[] 0 (.fresh 0 0 (!w.params.followText "set-order")) }
abbrev obI (l : Addr) : Obj := { cls := .type "list_iterator", data := .fields #[.ref l, .int 0 0] }
section
variable {P : Program} {w : World} {A : Around} {E : Value → Shared → Prop} {s : Shared}
/-- the set at S holds these -/
def SetDone (w : World) (s : Shared) (S : Addr) (ns : List Int) (s2 : Shared) : Prop := ∃ h2 tk c, s2 = { s with heap := h2, toks := tk } ∧ SetR w h2 S (fun j => decide (j ∈ ns)) c ∧ c ≤ ns.length ∧ ∀ b o, b ≠ S → s.heap.get? b = some o → h2.get? b = some o
theorem fillI {S l : Addr} {its : Array Value} {ns : List Int} {R : Result → Shared → Prop} (hh : A.in1.handled = none) (hS : s.heap.get? S = some (ob0 w)) (hl : s.heap.IsList l its) (hne : S ≠ l) (hit : IntsAre its.toList ns) (hb : ns.length + 1 < scanBound)
    (hR : ∀ s2, SetDone w s S ns s2 → R (.ok (.ret .none)) s2) : codeAny (model P w) A (.builtin "set.update.loop" ⟨[.ref S, .ref s.heap.objs.size], []⟩) R { s with heap := s.heap.push (obI l) } := by
  obtain ⟨ol, e1, e2, e3⟩ := id hl
  have lt1 : S < s.heap.objs.size := Heap.lt_size hS
  have lt2 : l < s.heap.objs.size := Heap.lt_size e1
  have sz : its.size = ns.length := by have := IntsAre.length hit; rwa [Array.length_toList] at this
  have val : ∀ (i : Nat) (v : Value), its[i]? = some v → ∃ k t, ns[i]? = some k ∧ v = .int k t := fun i v hv => by
    have lt : i < ns.length := sz ▸ (Array.getElem?_eq_some_iff.mp hv).1
    obtain ⟨t, e⟩ := IntsAre.int_at hit i v (by rw [Array.getElem?_toList]; exact hv)
    exact ⟨ns[i], t, List.getElem?_eq_getElem lt, by rw [e, List.getD_eq_getElem?_getD, List.getElem?_eq_getElem lt]; rfl⟩
  have W := (Walks.list (prog := P) (w := w) hh s.heap.objs.size l (Nat.ne_of_lt lt2) its).toS
  refine set_update_ints W S (by simp only [List.mem_cons, List.not_mem_nil, or_false, not_or]; exact ⟨Nat.ne_of_lt lt1, hne⟩) ns sz hb val its.size 0 _ (by omega) (Nat.zero_le _) ⟨⟨obI l, Heap.get?_push_size _ rfl, rfl, rfl⟩, hl.push _⟩ ⟨0, Nat.le_refl 0, setR_new_at (Heap.get?_push_of_some _ hS)⟩ fun s2 c m hc r => hR s2 ?_
  obtain ⟨h2, g2, d2, t2, o2⟩ := s2
  have eg : g2 = s.gens := m.gens
  have ed : d2 = s.drawn := m.drawn
  have eo : o2 = s.os := m.os
  subst eg ed eo
  refine ⟨h2, t2, c, rfl, r, sz ▸ hc, fun b o hb e => m.heap b o ?_ (Heap.get?_push_of_some _ e)⟩
  simp only [List.mem_cons, List.not_mem_nil, or_false, not_or]
  exact ⟨hb, Nat.ne_of_lt (Heap.lt_size e)⟩
/-- set(xs), xs a list of ints -/
theorem call_setI {l : Addr} {its : Array Value} {ns : List Int} {Q : Value → Shared → Prop} (hh : A.handled = none) (hl : s.heap.IsList l its) (hit : IntsAre its.toList ns) (hb : ns.length + 1 < scanBound)
    (h : ∀ h2 tk c, SetR w h2 s.heap.objs.size (fun j => decide (j ∈ ns)) c → c ≤ ns.length → (∀ b o, s.heap.get? b = some o → h2.get? b = some o) → Q (.ref s.heap.objs.size) { s with heap := h2, toks := tk }) : wpAny (model P w) A (call (.type "set") [.ref l]) Q E s := by
  obtain ⟨c0, tl, x1⟩ := F.called_set.mro
  have x2 := F.called_set.made
  have x3 := F.called_set.sub
  have x4 := F.called_set.notType
  have x5 := F.called_set.canCreate
  have x6 := F.typeCall_set_1 (.ref l)
  refine wpAny_call (codeAny_of_tree ?_)
  refine (show wpAny _ _ (callAny (.type "set") _) _ _ _ from wpAny_pure ⟨Code.quiet_builtin _ (by decide +kernel), codeAny_builtin F.entry_type_call ?_⟩)
  rw [Around.under_plain (weight_type_call_type "set" [.ref l] []) rfl]
  repeat (any_goals (first | assumption | wp_step))
  refine codeAny_mono (code_set_led1 (.ref l) (E := E) (Q₁ := fun ob s1 => ob = .ref s.heap.objs.size ∧ s1 = { s with heap := s.heap.push (ob0 w) }) ⟨rfl, rfl⟩) fun r s1 hr => ?_
  match r, hr with
  | .error e, hr => exact hr
  | .ok (.ret ob), hr =>
    obtain ⟨e1, e2⟩ := hr
    subst e1 e2
    have y1 : (s.heap.push (ob0 w)).get? s.heap.objs.size = some (ob0 w) := Heap.get?_push_size _ rfl
    have y2 : Shared.TypeIs { s with heap := s.heap.push (ob0 w) } (.ref s.heap.objs.size) "set" := ⟨_, y1, rfl⟩
    have y3 := F.called_set.init.lookup
    have y4 := F.called_set.init.bind (.ref s.heap.objs.size)
    repeat (any_goals (first | assumption | wp_step))
    refine codeAny_mono (codeAny_call_builtin (R := wants (fun r s2 => r = .none ∧ SetDone w { s with heap := s.heap.push (ob0 w) } s.heap.objs.size ns s2) E) F.called_set.init.plain F.entry_set_init (check_set_init_1 y2 ?_)) fun r2 s2 hr2 => ?_
    · obtain ⟨ol, z1, z2, nl, z3⟩ := hl
      obtain ⟨q1, q2, q3, q4⟩ := ol
      simp only at z2 z3
      subst z2 z3
      have z4 : (s.heap.push (ob0 w)).get? l = some { cls := .type "list", dict := q2, data := .seq its nl, slots := q4 } := Heap.get?_push_of_some _ z1
      have z5 := F.sub_list_set
      have z6 := F.sub_list_frozenset
      have z7 : (Value.type "list" == Value.type "dict") = false := by decide
      have z8 : (s.heap.push (ob0 w)).IsList l its := ⟨_, z4, rfl, nl, rfl⟩
      have z9 : A.in1.in1.in1.handled = none := by simp [hh]
      unfold Builtin.«set.__init__» noKeywords Builtin.Frozenset.updateFrom
      generalize hPI : pyIter = PI
      wp_walk
      subst hPI
      refine wpAny_pyIter_list z8 (wpAny_bind (wpAny_runValue (fillI (s := { s with heap := s.heap.push (ob0 w) }) z9 y1 z8 (Nat.ne_of_gt (Heap.lt_size z1)) hit hb fun s2 d => ?_)))
      refine (show wpAny _ _ _ _ _ _ from wpAny_pure (show wpAny _ _ (ret Value.none) _ _ _ from wpAny_pure ⟨rfl, d⟩))
    · match r2, hr2 with
      | .error e, hr2 => exact hr2
      | .ok (.ret r), hr2 =>
        obtain ⟨e1, h2, tk, c, e2, d1, d2, d3⟩ := hr2
        subst e1 e2
        repeat (any_goals (first | assumption | wp_step))
        exact h _ _ _ d1 d2 fun b o e => d3 b o (Nat.ne_of_lt (Heap.lt_size e)) (Heap.get?_push_of_some _ e)
end
end DL
/-! DL20: sorted(set(xs)), len(set(xs)) of a list of ints. -/
namespace DL
set_option autoImplicit false
open PySem PySem.Spec L2 PyProof.Rows
/-- one number more, in its place, unless it is there -/
def insU (x : Int) : List Int → List Int
  | [] => [x]
  | y :: ys => if x < y then x :: y :: ys else if x = y then y :: ys else y :: insU x ys
def uniqS : List Int → List Int
  | [] => []
  | x :: xs => insU x (uniqS xs)
theorem mem_insU {x z : Int} : ∀ {ys : List Int}, z ∈ insU x ys ↔ z = x ∨ z ∈ ys
  | [] => by simp [insU]
  | y :: ys => by
    rw [insU]
    split
    · simp
    · split
      · rename_i h
        subst h
        simp
      · rw [List.mem_cons, mem_insU, List.mem_cons]
        constructor
        · rintro (h | h | h) <;> simp [h]
        · rintro (h | h | h) <;> simp [h]
theorem mem_uniqS {z : Int} : ∀ {xs : List Int}, z ∈ uniqS xs ↔ z ∈ xs
  | [] => Iff.rfl
  | x :: xs => by rw [uniqS, mem_insU, mem_uniqS, List.mem_cons]
theorem pw_insU {x : Int} : ∀ {ys : List Int}, ys.Pairwise (· < ·) → (insU x ys).Pairwise (· < ·)
  | [], _ => by simp [insU]
  | y :: ys, h => by
    rw [List.pairwise_cons] at h
    rw [insU]
    split
    · rename_i q
      refine List.pairwise_cons.mpr ⟨fun z hz => ?_, List.pairwise_cons.mpr h⟩
      rcases List.mem_cons.mp hz with e | e
      · omega
      · have := h.1 z e
        omega
    · split
      · exact List.pairwise_cons.mpr h
      · refine List.pairwise_cons.mpr ⟨fun z hz => ?_, pw_insU h.2⟩
        rcases mem_insU.mp hz with e | e
        · omega
        · exact h.1 z e
theorem pw_uniqS : ∀ xs : List Int, (uniqS xs).Pairwise (· < ·)
  | [] => List.Pairwise.nil
  | x :: xs => pw_insU (pw_uniqS xs)
theorem pw_same : ∀ {xs ys : List Int}, xs.Pairwise (· < ·) → ys.Pairwise (· < ·) → (∀ k, k ∈ xs ↔ k ∈ ys) → xs = ys
  | [], [], _, _, _ => rfl
  | [], y :: ys, _, _, h => by have := (h y).mpr List.mem_cons_self; cases this
  | x :: xs, [], _, _, h => by have := (h x).mp List.mem_cons_self; cases this
  | x :: xs, y :: ys, h1, h2, h => by
    rw [List.pairwise_cons] at h1 h2
    have e : x = y := by
      rcases List.mem_cons.mp ((h x).mp List.mem_cons_self) with e | e
      · exact e
      · rcases List.mem_cons.mp ((h y).mpr List.mem_cons_self) with e2 | e2
        · exact e2.symm
        · have := h2.1 x e
          have := h1.1 y e2
          omega
    subst e
    congr 1
    refine pw_same h1.2 h2.2 fun k => ?_
    constructor
    · intro hk
      rcases List.mem_cons.mp ((h k).mp (List.mem_cons_of_mem _ hk)) with e | e
      · have := h1.1 k hk
        omega
      · exact e
    · intro hk
      rcases List.mem_cons.mp ((h k).mpr (List.mem_cons_of_mem _ hk)) with e | e
      · have := h2.1 k hk
        omega
      · exact e
theorem nodup_pw {xs : List Int} (h : xs.Pairwise (· < ·)) : xs.Nodup := h.imp fun q e => by omega
theorem nodup_len {xs ys : List Int} (h1 : xs.Nodup) (h2 : ys.Nodup) (h : ∀ k, k ∈ xs ↔ k ∈ ys) : xs.length = ys.length :=
  ((List.perm_ext_iff_of_nodup h1 h2).mpr h).length_eq
def pSortSet : D → Option D
  | .lst xs => (match intsOf xs with
    | some ns => if ns.length < 64 then some (.lst ((uniqS ns).map .int)) else none
    | none => none)
  | _ => none
def pLenSet : D → Option D
  | .lst xs => (match intsOf xs with
    | some ns => if ns.length < 64 then some (.int (uniqS ns).length) else none
    | none => none)
  | _ => none
theorem intsOf_eq : ∀ {xs : List D} {ns : List Int}, intsOf xs = some ns → xs = ns.map .int
  | [], ns, h => by cases h; rfl
  | .int a :: r, ns, h => by
    rw [intsOf, Option.map_eq_some_iff] at h
    obtain ⟨l, h1, h2⟩ := h
    subst h2
    rw [List.map_cons, ← intsOf_eq h1]
  | .non :: _, _, h => by cases h
  | .bl _ :: _, _, h => by cases h
  | .str _ :: _, _, h => by cases h
  | .tup _ :: _, _, h => by cases h
  | .lst _ :: _, _, h => by cases h
  | .dct _ _ :: _, _, h => by cases h
theorem reps_intsV {G : Gb} {F : Hp} : ∀ {ns : List Int} {us : List V}, Reps G F (ns.map .int) us → us = ns.map V.int
  | [], us, r => by
    unfold Reps at r
    exact r
  | n :: ns, us, r => by
    obtain ⟨v, t, e, r1, r2⟩ := r.uncons
    unfold Rep at r1
    rw [e, r1, reps_intsV r2]
    rfl
theorem uniq_len_le : ∀ xs : List Int, (uniqS xs).length ≤ xs.length
  | [] => Nat.le_refl _
  | x :: xs => by
    have h : ∀ ys : List Int, (insU x ys).length ≤ ys.length + 1 := by
      intro ys
      induction ys with
      | nil => exact Nat.le_refl _
      | cons y ys ih =>
        rw [insU]
        split
        · simp
        · split
          · simp
          · simp; omega
    rw [uniqS, List.length_cons]
    exact Nat.le_trans (h _) (Nat.succ_le_succ (uniq_len_le xs))
/-- set(xs), xs a list of ints -/
def rSetI (K : PySem.W.Frag) (w : World) : List V → Hp → VK → Prop := fun vs H Q => ∃ (l : Addr) (ns : List Int), vs = [V.ref l] ∧ SqL K H l (ns.map V.int) ∧ ns.length < 64 ∧ ∀ a, H a = none → Q (.ref a) (upd H a (SetO w a (fun j => decide (j ∈ ns)) (uniqS ns).length))
section
variable {X : Cx} {T : List (Addr × Str)} {C : DC} {W : WX} {F F' H H' : Hp} {σ : L2.St} {ρ : Env'} {p : Pot} {e : Expr} {f : DE} {pos : Pos}
theorem cr_setI (hc : X.calm = true) : CallR X (.type "set") (rSetI X.K X.w) := by
  intro pins s σ H xs us Q I r h
  obtain ⟨l, ns, rfl, hl, hf, q⟩ := h
  rw [Vals.ref1 r]
  obtain ⟨its, rv, pl, hz⟩ := I.list hl
  have hn : H s.heap.objs.size = none := I.hok.fresh (Nat.le_refl _)
  refine call_setI (P := X.prog) (w := X.w) (ns := ns) (I.ok.hd hc) pl.isList (by simpa using rv.ints) (by unfold scanBound; omega) fun h2 tk c R hcn k => ?_
  have ec : c = (uniqS ns).length := by
    obtain ⟨o, es, ep, t, ho, hex, hdt, g, nd, hm, hb, hft, hn2, hr, hl2⟩ := R
    rw [← hn2, ← Array.length_toList, ← List.length_map (f := keyOf)]
    refine nodup_len nd (nodup_pw (pw_uniqS ns)) fun k => ?_
    rw [← hm k, decide_eq_true_eq, mem_uniqS]
  subst ec
  exact ⟨.ref s.heap.objs.size, upd H s.heap.objs.size (SetO X.w s.heap.objs.size _ _), I.laid (t' := tk) k (Nat.le_refl _) (setO_new R), rfl, q _ hn⟩
theorem cr_lenSet : CallR X (.builtin "len") (fun vs H Q => ∃ (a : Addr) (S : Int → Bool) (n : Nat), vs = [V.ref a] ∧ H a = some (SetO X.w a S n) ∧ n < 64 ∧ Q (.int n) H) := by
  intro pins s σ H vs us Q I r h
  obtain ⟨a, S, n, rfl, ha, h64, q⟩ := h
  rw [Vals.ref1 r]
  obtain ⟨o, es, ep, t, ho, hex, hdt, g, nd, hm, hb, hft, hn2, hr, hl2⟩ := setO_get I ha
  exact call_len_set ho hex hdt hft (by rw [hn2]; omega) ⟨.int n, H, I.tok _, ⟨_, by rw [hn2]⟩, q⟩
/-- sorted(set(e)) -/
theorem ess {p0 p1 p2 : Pos} (ha : PE X e (tE (gb X T) C W f)) (hm : X.mg "sorted" = none) (hm2 : X.mg "set" = none) (hc : X.calm = true) (hg : Gl X "sorted" := by rfl) (hg2 : Gl X "set" := by rfl)
    (he : starEach [.Call (.Name "set" p1) [e] [] p2] X.env = (false, eval (.Call (.Name "set" p1) [e] [] p2) X.env) :: starEach [] X.env := by rfl) (he2 : starEach [e] X.env = (false, eval e X.env) :: starEach [] X.env := by rfl) :
    PE X (.Call (.Name "sorted" p0) [.Call (.Name "set" p1) [e] [] p2] [] pos) (tE (gb X T) C W (d1 pSortSet f)) :=
  imp (pe_callB (cr_sortedSet hc) hg hm boot_sorted (pa_cons (pe_callTy (cr_setI hc) hg2 hm2 boot_set (pa_cons ha pa_nil he2) (by decide) (by decide) he2 rfl) pa_nil he) (by decide) (by decide) he rfl) fun σ H Q ⟨F, ρ, p, I, q⟩ => by
    refine tG_mono (fun x H1 z => ?_) (tG_bind I q)
    obtain ⟨F1, d, p1, I1, e1, r1, q1⟩ := z
    cases d with
    | lst xs =>
      unfold pSortSet at q1
      dsimp only at q1
      cases hi : intsOf xs with
      | none => rw [hi] at q1; exact q1.elim
      | some ns =>
        rw [hi] at q1
        dsimp only at q1
        by_cases h64 : ns.length < 64
        · rw [if_pos h64] at q1
          have hx := intsOf_eq hi
          subst hx
          unfold Rep at r1
          obtain ⟨a, vs, ea, h1, hl, r⟩ := r1
          have hv := reps_intsV r
          subst ea hv
          refine ⟨a, ns, rfl, SqL.of (I1.fh _ _ h1), h64, fun b hb => ?_⟩
          have I2 := I1.new (o := SetO X.w b (fun j => decide (j ∈ ns)) (uniqS ns).length) hb (by intro ps hp; cases hp)
          have hlu := uniq_len_le ns
          refine ⟨b, _, _, rfl, upd_same, by omega, fun ms c hp hms hml hcn => ?_⟩
          have em : ms = uniqS ns := pw_same hp (pw_uniqS ns) fun k => by rw [hms k, decide_eq_true_eq, mem_uniqS]
          subst em
          refine post_new (post.ext (ext_new (T := (gb X T).T) (pa := C.pa) (o := SetO X.w b (fun j => decide (j ∈ ns)) (uniqS ns).length) I1.fh hb (by intro ps hp; cases hp)) q1) I2 hcn fun F3 sm e3 => ?_
          unfold Rep
          exact ⟨c, _, rfl, e3, by show _ ≤ 16777216; rw [List.length_map]; omega, reps_ints _⟩
        · rw [if_neg h64] at q1; exact q1.elim
    | _ => exact q1.elim
/-- len(set(e)) -/
theorem els {p0 p1 p2 : Pos} (ha : PE X e (tE (gb X T) C W f)) (hm : X.mg "len" = none) (hm2 : X.mg "set" = none) (hc : X.calm = true) (hg : Gl X "len" := by rfl) (hg2 : Gl X "set" := by rfl)
    (he : starEach [.Call (.Name "set" p1) [e] [] p2] X.env = (false, eval (.Call (.Name "set" p1) [e] [] p2) X.env) :: starEach [] X.env := by rfl) (he2 : starEach [e] X.env = (false, eval e X.env) :: starEach [] X.env := by rfl) :
    PE X (.Call (.Name "len" p0) [.Call (.Name "set" p1) [e] [] p2] [] pos) (tE (gb X T) C W (d1 pLenSet f)) :=
  imp (pe_callB cr_lenSet hg hm PySem.boot_len (pa_cons (pe_callTy (cr_setI hc) hg2 hm2 boot_set (pa_cons ha pa_nil he2) (by decide) (by decide) he2 rfl) pa_nil he) (by decide) (by decide) he rfl) fun σ H Q ⟨F, ρ, p, I, q⟩ => by
    refine tG_mono (fun x H1 z => ?_) (tG_bind I q)
    obtain ⟨F1, d, p1, I1, e1, r1, q1⟩ := z
    cases d with
    | lst xs =>
      unfold pLenSet at q1
      dsimp only at q1
      cases hi : intsOf xs with
      | none => rw [hi] at q1; exact q1.elim
      | some ns =>
        rw [hi] at q1
        dsimp only at q1
        by_cases h64 : ns.length < 64
        · rw [if_pos h64] at q1
          have hx := intsOf_eq hi
          subst hx
          unfold Rep at r1
          obtain ⟨a, vs, ea, h1, hl, r⟩ := r1
          have hv := reps_intsV r
          subst ea hv
          refine ⟨a, ns, rfl, SqL.of (I1.fh _ _ h1), h64, fun b hb => ?_⟩
          have x2 := ext_new (T := (gb X T).T) (pa := C.pa) (o := SetO X.w b (fun j => decide (j ∈ ns)) (uniqS ns).length) I1.fh hb (by intro ps hp; cases hp)
          have I2 := I1.new (o := SetO X.w b (fun j => decide (j ∈ ns)) (uniqS ns).length) hb (by intro ps hp; cases hp)
          have hlu := uniq_len_le ns
          exact ⟨b, _, _, rfl, upd_same, by omega, (post.ext x2 q1).now I2 (by unfold Rep; rfl)⟩
        · rw [if_neg h64] at q1; exact q1.elim
    | _ => exact q1.elim
end
end DL
/-! DL21: list(range(..)), tuple(range(..)). -/
namespace DL
set_option autoImplicit false
open PySem PySem.Spec L2 PyProof.Rows
def dRngL (it : DI) : DE := fun ρ => bindM (it ρ) fun xs => retM (.lst xs)
def dRngT (it : DI) : DE := fun ρ => bindM (it ρ) fun xs => retM (.tup xs)
theorem intsD_m : ∀ (lo : Int) (n : Nat), intsD lo n = (List.range n).map fun (k : Nat) => D.int (lo + (k : Nat))
  | _, 0 => rfl
  | lo, n + 1 => by
    rw [intsD, intsD_m (lo + 1) n, List.range_succ_eq_map, List.map_cons, List.map_map]
    congr 1
    · simp
    · apply List.map_congr_left
      intro k _
      show D.int (lo + 1 + (k : Int)) = D.int (lo + ((k + 1 : Nat) : Int))
      congr 1
      omega
theorem reps_map2 {α : Type} {G : Gb} {F : Hp} (f : α → D) (g : α → V) (h : ∀ x, Rep G F (f x) (g x)) : ∀ xs : List α, Reps G F (xs.map f) (xs.map g)
  | [] => Reps.nil
  | x :: xs => Reps.cons (h x) (reps_map2 f g h xs)
theorem reps_rg {G : Gb} {F : Hp} (a b : Int) : Reps G F (intsD a (b - a).toNat) (rgV a b) := by
  rw [intsD_m]
  exact reps_map2 _ _ (fun k => by unfold Rep; rfl) _
section
variable {X : Cx} {T : List (Addr × Str)} {C : DC} {W : WX} {F F' H H' : Hp} {σ : L2.St} {ρ : Env'} {p : Pot} {e e2 : Expr} {f g : DE} {pos p0 p1 p2 : Pos}
theorem elr1 (he : PE X e (tE (gb X T) C W f)) (hm : X.mg "range" = none) (hm2 : X.mg "list" = none) (hc : X.calm = true) (hg : Gl X "range" := by rfl) (hg2 : Gl X "list" := by rfl)
    (na : starEach [e] X.env = (false, eval e X.env) :: starEach [] X.env := by rfl) (na2 : starEach [.Call (.Name "range" p1) [e] [] p2] X.env = (false, eval (.Call (.Name "range" p1) [e] [] p2) X.env) :: starEach [] X.env := by rfl) :
    PE X (.Call (.Name "list" p0) [.Call (.Name "range" p1) [e] [] p2] [] pos) (tE (gb X T) C W (dRngL (itR1 f))) :=
  imp (pe_listRg hc hg2 hm2 (prg_1 hg hm he na) na2) fun σ H Q ⟨F, ρ, p, I, q⟩ => by
    unfold dRngL itR1 at q
    rw [bindM_assoc] at q
    refine tG_mono (fun v H1 z => ?_) (tG_bind I q)
    obtain ⟨F1, d, p1, I1, e1, r1, q1⟩ := z
    cases d with
    | int n =>
      unfold Rep at r1
      subst r1
      dsimp only at q1
      by_cases hn : -1000000000 ≤ n ∧ n ≤ (lim : Int)
      · rw [if_pos hn] at q1
        have hl : n ≤ 16777216 := hn.2
        have h0 := hn.1
        refine ⟨n, rfl, ⟨by omega, by omega, by omega, by omega, by omega⟩, fun b hb => post_new q1 I1 hb fun F' sm eb => ?_⟩
        have hr := reps_rg (G := gb X T) (F := F') 0 n
        rw [show (n - 0) = n by omega] at hr
        unfold Rep
        exact ⟨b, _, rfl, eb, by rw [intsD_m, List.length_map, List.length_range]; show _ ≤ 16777216; omega, hr⟩
      · rw [if_neg hn] at q1
        exact q1.elim
    | _ => exact q1.elim
theorem etr1 (he : PE X e (tE (gb X T) C W f)) (hm : X.mg "range" = none) (hm2 : X.mg "tuple" = none) (hc : X.calm = true) (hg : Gl X "range" := by rfl) (hg2 : Gl X "tuple" := by rfl)
    (na : starEach [e] X.env = (false, eval e X.env) :: starEach [] X.env := by rfl) (na2 : starEach [.Call (.Name "range" p1) [e] [] p2] X.env = (false, eval (.Call (.Name "range" p1) [e] [] p2) X.env) :: starEach [] X.env := by rfl) :
    PE X (.Call (.Name "tuple" p0) [.Call (.Name "range" p1) [e] [] p2] [] pos) (tE (gb X T) C W (dRngT (itR1 f))) :=
  imp (pe_tupRg hc hg2 hm2 (prg_1 hg hm he na) na2) fun σ H Q ⟨F, ρ, p, I, q⟩ => by
    unfold dRngT itR1 at q
    rw [bindM_assoc] at q
    refine tG_mono (fun v H1 z => ?_) (tG_bind I q)
    obtain ⟨F1, d, p1, I1, e1, r1, q1⟩ := z
    cases d with
    | int n =>
      unfold Rep at r1
      subst r1
      dsimp only at q1
      by_cases hn : -1000000000 ≤ n ∧ n ≤ (lim : Int)
      · rw [if_pos hn] at q1
        have hl : n ≤ 16777216 := hn.2
        have h0 := hn.1
        refine ⟨n, rfl, ⟨by omega, by omega, by omega, by omega, by omega⟩, fun b hb => post_new q1 I1 hb fun F' sm eb => ?_⟩
        have hr := reps_rg (G := gb X T) (F := F') 0 n
        rw [show (n - 0) = n by omega] at hr
        unfold Rep
        exact ⟨b, _, rfl, eb, by rw [intsD_m, List.length_map, List.length_range]; show _ ≤ 16777216; omega, hr⟩
      · rw [if_neg hn] at q1
        exact q1.elim
    | _ => exact q1.elim
end
end DL
/-! DL22: dicts: what stands at a key. -/
namespace DL
set_option autoImplicit false
open PySem PySem.Spec L2 PyProof.Rows
def isSim : D → Bool
  | .int _ => true
  | .str _ => true
  | _ => false
def isTp : D → Bool
  | .tup xs => D.plain 8 (.tup xs) && (toNKs xs).isSome
  | _ => false
/-- such a key can stand among these -/
def keyOk (k : D) (ks : List D) : Bool := (isSim k && ks.all isSim) || (isTp k && ks.all isTp)
def hasK (k : D) (ks : List D) : Bool := ks.any fun x => D.eqv x k
def lookK {β : Type} (k : D) : List D → List β → Option β
  | x :: xs, u :: us => if D.eqv x k then some u else lookK k xs us
  | _, _ => none
def setK {β : Type} (k : D) (v : β) : List D → List β → List β
  | x :: xs, u :: us => (if D.eqv x k then v else u) :: setK k v xs us
  | _, us => us
def putKs (k : D) (ks : List D) : List D := if hasK k ks then ks else ks ++ [k]
def putVs {β : Type} (k : D) (v : β) (ks : List D) (us : List β) : List β := if hasK k ks then setK k v ks us else us ++ [v]
/-! ### keys -/
mutual
theorem nk_eqv : ∀ {x y : D} {a b : NestedKey}, toNK x = some a → toNK y = some b → D.eqv x y = decide (a = b)
  | .non, .non, _, _, h, h2 => by cases h; cases h2; simp [D.eqv]
  | .non, .bl _, _, _, h, h2 => by cases h; cases h2; simp [D.eqv]
  | .non, .int _, _, _, h, h2 => by cases h; cases h2; simp [D.eqv]
  | .non, .str _, _, _, h, h2 => by cases h; cases h2; simp [D.eqv]
  | .bl _, .non, _, _, h, h2 => by cases h; cases h2; simp [D.eqv]
  | .bl a, .bl b, _, _, h, h2 => by cases h; cases h2; cases a <;> cases b <;> simp [D.eqv]
  | .bl a, .int j, _, _, h, h2 => by cases h; cases h2; simp only [D.eqv, NestedKey.num.injEq]; rfl
  | .bl _, .str _, _, _, h, h2 => by cases h; cases h2; simp [D.eqv]
  | .int _, .non, _, _, h, h2 => by cases h; cases h2; simp [D.eqv]
  | .int i, .bl b, _, _, h, h2 => by cases h; cases h2; simp only [D.eqv, NestedKey.num.injEq]; rfl
  | .int i, .int j, _, _, h, h2 => by cases h; cases h2; simp only [D.eqv, NestedKey.num.injEq]; rfl
  | .int _, .str _, _, _, h, h2 => by cases h; cases h2; simp [D.eqv]
  | .str _, .non, _, _, h, h2 => by cases h; cases h2; simp [D.eqv]
  | .str _, .bl _, _, _, h, h2 => by cases h; cases h2; simp [D.eqv]
  | .str _, .int _, _, _, h, h2 => by cases h; cases h2; simp [D.eqv]
  | .str x, .str y, _, _, h, h2 => by
    cases h; cases h2
    simp only [D.eqv, NestedKey.text.injEq]
    rw [Bool.eq_iff_iff, beq_iff_eq, decide_eq_true_eq]
  | .tup xs, .non, _, _, h, h2 => by
    cases h2
    simp only [toNK, Option.map_eq_some_iff] at h
    obtain ⟨l, _, e⟩ := h
    subst e
    simp [D.eqv]
  | .tup xs, .bl _, _, _, h, h2 => by
    cases h2
    simp only [toNK, Option.map_eq_some_iff] at h
    obtain ⟨l, _, e⟩ := h
    subst e
    simp [D.eqv]
  | .tup xs, .int _, _, _, h, h2 => by
    cases h2
    simp only [toNK, Option.map_eq_some_iff] at h
    obtain ⟨l, _, e⟩ := h
    subst e
    simp [D.eqv]
  | .tup xs, .str _, _, _, h, h2 => by
    cases h2
    simp only [toNK, Option.map_eq_some_iff] at h
    obtain ⟨l, _, e⟩ := h
    subst e
    simp [D.eqv]
  | .non, .tup ys, _, _, h, h2 => by
    cases h
    simp only [toNK, Option.map_eq_some_iff] at h2
    obtain ⟨l, _, e⟩ := h2
    subst e
    simp [D.eqv]
  | .bl _, .tup ys, _, _, h, h2 => by
    cases h
    simp only [toNK, Option.map_eq_some_iff] at h2
    obtain ⟨l, _, e⟩ := h2
    subst e
    simp [D.eqv]
  | .int _, .tup ys, _, _, h, h2 => by
    cases h
    simp only [toNK, Option.map_eq_some_iff] at h2
    obtain ⟨l, _, e⟩ := h2
    subst e
    simp [D.eqv]
  | .str _, .tup ys, _, _, h, h2 => by
    cases h
    simp only [toNK, Option.map_eq_some_iff] at h2
    obtain ⟨l, _, e⟩ := h2
    subst e
    simp [D.eqv]
  | .tup xs, .tup ys, _, _, h, h2 => by
    simp only [toNK, Option.map_eq_some_iff] at h h2
    obtain ⟨l, h3, e⟩ := h
    obtain ⟨l2, h4, e2⟩ := h2
    subst e e2
    rw [D.eqv, nks_eqv h3 h4]
    simp only [NestedKey.tup.injEq]
  | .lst _, _, _, _, h, _ => by simp [toNK] at h
  | .dct _ _, _, _, _, h, _ => by simp [toNK] at h
  | _, .lst _, _, _, _, h => by simp [toNK] at h
  | _, .dct _ _, _, _, _, h => by simp [toNK] at h
theorem nks_eqv : ∀ {xs ys : List D} {as bs : List NestedKey}, toNKs xs = some as → toNKs ys = some bs → D.eqvs xs ys = decide (as = bs)
  | [], [], _, _, h, h2 => by cases h; cases h2; simp [D.eqvs]
  | [], y :: ys, _, bs, h, h2 => by
    cases h
    rw [toNKs] at h2
    split at h2
    · cases h2; simp [D.eqvs]
    · cases h2
  | x :: xs, [], _, _, h, h2 => by
    cases h2
    rw [toNKs] at h
    split at h
    · cases h; simp [D.eqvs]
    · cases h
  | x :: xs, y :: ys, _, _, h, h2 => by
    rw [toNKs] at h h2
    split at h
    · rename_i k ks h3 h4
      cases h
      split at h2
      · rename_i k2 ks2 h5 h6
        cases h2
        rw [D.eqvs, nk_eqv h3 h5, nks_eqv h4 h6]
        simp only [List.cons.injEq, Bool.decide_and]
      · cases h2
    · cases h
end
theorem sim_eqv (a b : Key) : D.eqv (keyD a) (keyD b) = decide (a = b) := by
  cases a with
  | inl i => cases b with
    | inl j => simp only [keyD, D.eqv, Sum.inl.injEq]; rfl
    | inr y => simp [keyD, D.eqv]
  | inr x => cases b with
    | inl j => simp [keyD, D.eqv]
    | inr y =>
      simp only [keyD, D.eqv, Sum.inr.injEq]
      rw [Bool.eq_iff_iff, beq_iff_eq, decide_eq_true_eq]
mutual
theorem nk_depth : ∀ {n : Nat} {x : D} {a : NestedKey}, toNK x = some a → D.plain n x = true → a.depth ≤ n
  | n, .non, _, h, _ => by cases h; simp [NestedKey.depth]
  | n, .bl _, _, h, _ => by cases h; simp [NestedKey.depth]
  | n, .int _, _, h, _ => by cases h; simp [NestedKey.depth]
  | n, .str _, _, h, _ => by cases h; simp [NestedKey.depth]
  | 0, .tup xs, _, _, p => by simp [D.plain] at p
  | n + 1, .tup xs, _, h, p => by
    simp only [toNK, Option.map_eq_some_iff] at h
    obtain ⟨l, h1, e⟩ := h
    subst e
    rw [D.plain] at p
    rw [NestedKey.depth]
    have := nks_depth h1 p
    omega
  | n, .lst _, _, h, _ => by simp [toNK] at h
  | n, .dct _ _, _, h, _ => by simp [toNK] at h
theorem nks_depth : ∀ {n : Nat} {xs : List D} {as : List NestedKey}, toNKs xs = some as → D.plains n xs = true → NestedKey.depthAll as ≤ n
  | n, [], _, h, _ => by cases h; simp [NestedKey.depthAll]
  | n, x :: xs, _, h, p => by
    rw [toNKs] at h
    split at h
    · rename_i k ks h3 h4
      cases h
      rw [D.plains, Bool.and_eq_true] at p
      rw [NestedKey.depthAll]
      have := nk_depth h3 p.1
      have := nks_depth h4 p.2
      omega
    · cases h
end
section
variable {X : Cx} {G : Gb} {F H : Hp} {pins : List (Addr × Obj)} {σ : L2.St} {s : Shared}
mutual
theorem rep_nk (I : Inv X pins σ H s) (fh : Same F H) : ∀ {x : D} {a : NestedKey} {v : V} {u : Value}, toNK x = some a → Rep G F x v → RelV v u → NestedIs s.heap a u
  | .non, _, v, u, h, r, rv => by
    cases h
    unfold Rep at r
    subst r
    cases (show u = Value.none from rv)
    exact .none
  | .bl b, _, v, u, h, r, rv => by
    cases h
    unfold Rep at r
    subst r
    cases (show u = Value.bool b from rv)
    exact .bool rfl
  | .int i, _, v, u, h, r, rv => by
    cases h
    unfold Rep at r
    subst r
    obtain ⟨t, e⟩ := (show ∃ t, u = Value.int i t from rv)
    subst e
    exact .int i t
  | .str x, _, v, u, h, r, rv => by
    cases h
    unfold Rep at r
    subst r
    obtain ⟨t, e⟩ := (show ∃ t, u = Value.str x t from rv)
    subst e
    exact .text x t
  | .tup xs, _, v, u, h, r, rv => by
    simp only [toNK, Option.map_eq_some_iff] at h
    obtain ⟨l, h1, e⟩ := h
    subst e
    unfold Rep at r
    obtain ⟨b, vs, e2, q, z, rs⟩ := r
    subst e2
    cases (show u = Value.ref b from rv)
    obtain ⟨its, rvs, ⟨o, g1, g2, n, g3⟩, _⟩ := I.tuple (SqT.of (fh _ _ q))
    exact .tup g1 g2 g3 (by simpa using rep_nks I fh h1 rs rvs)
  | .lst _, _, _, _, h, _, _ => by simp [toNK] at h
  | .dct _ _, _, _, _, h, _, _ => by simp [toNK] at h
theorem rep_nks (I : Inv X pins σ H s) (fh : Same F H) : ∀ {xs : List D} {as : List NestedKey} {vs : List V} {us : List Value}, toNKs xs = some as → Reps G F xs vs → Vals vs us → NestedAll s.heap as us
  | [], _, vs, us, h, r, rv => by
    cases h
    unfold Reps at r
    subst r
    cases rv
    exact .nil
  | x :: xs, _, vs, us, h, r, rv => by
    rw [toNKs] at h
    split at h
    · rename_i k ks h3 h4
      cases h
      obtain ⟨v, t, e, r1, r2⟩ := r.uncons
      subst e
      cases rv with
      | cons a b => exact .cons (rep_nk I fh h3 r1 a) (rep_nks I fh h4 r2 b)
    · cases h
end
end
end DL
/-! DL23: dicts are read. -/
namespace DL
set_option autoImplicit false
open PySem PySem.Spec L2 PyProof.Rows
/-- the dict at a, in the heap itself -/
def HDt (P : Program) (w : World) (h : Heap) (a : Addr) (ks : List D) (us : List V) : Prop :=
  ∃ ys : List (NestedKey × Addr × Value), h.DictOfH (nestedKind P w) a ys ∧ toNKs ks = some (ys.map (·.1)) ∧ Vals us (ys.map (·.2.2))
def HDs (P : Program) (w : World) (h : Heap) (a : Addr) (ks : List D) (us : List V) : Prop :=
  ∃ vs : List (Key × Value), h.DictOf (mixKind P w) a vs ∧ ks = vs.map (fun p => keyD p.1) ∧ Vals us (vs.map (·.2))
section
variable {P : Program} {w : World} {h : Heap} {a : Addr} {ks : List D} {us : List V}
/-- an empty dict is both -/
theorem HDs.nil (x : HDs P w h a [] us) : HDt P w h a [] us := by
  obtain ⟨vs, ⟨o, es, ep, g1, g2, g3, g4, g5, g6⟩, e, r⟩ := x
  have ev : vs = [] := List.map_eq_nil_iff.mp e.symm
  subst ev
  have ee : es.toList = [] := by
    generalize es.toList = l at g5
    cases g5
    rfl
  exact ⟨[], ⟨o, es, ep, g1, g2, g3, ee, fun x hx => (by cases hx), List.nodup_nil⟩, rfl, r⟩
theorem HDt.nil (x : HDt P w h a [] us) : HDs P w h a [] us := by
  obtain ⟨ys, ⟨o, es, ep, g1, g2, g3, g4, g5, g6⟩, e, r⟩ := x
  have ev : ys = [] := by
    cases e2 : ys with
    | nil => rfl
    | cons a b => rw [e2] at e; cases e
  subst ev
  have ee : es.toList = [] := g4
  refine ⟨[], ⟨o, es, ep, g1, g2, g3, fun e he => ?_, ?_, List.nodup_nil⟩, rfl, r⟩
  · have : e ∈ es.toList := Array.mem_toList_iff.mpr he
    rw [ee] at this
    cases this
  · rw [ee]
    exact .nil
theorem HDs.sim {x : HDs P w h a ks us} : ks.all isSim = true := by
  obtain ⟨vs, _, e, _⟩ := x
  subst e
  rw [List.all_map, List.all_eq_true]
  intro p _
  show isSim (keyD p.1) = true
  cases p.1 <;> rfl
theorem sim_not_tp {x : D} (h : isSim x = true) : isTp x = false := by
  cases x <;> first | rfl | cases h
/-- of such keys -/
theorem to_t (x : HDt P w h a ks us ∨ HDs P w h a ks us) (hk : ks.all isTp = true) : HDt P w h a ks us := by
  rcases x with x | x
  · exact x
  · cases ks with
    | nil => exact x.nil
    | cons k r =>
      have h1 := HDs.sim (x := x)
      rw [List.all_cons, Bool.and_eq_true] at h1 hk
      have := sim_not_tp h1.1
      rw [hk.1] at this
      cases this
theorem nks_head {k : D} {r : List D} {l : List NestedKey} (h : toNKs (k :: r) = some l) : ∃ n m, toNK k = some n ∧ toNKs r = some m ∧ l = n :: m := by
  rw [toNKs] at h
  split at h
  · rename_i n m h1 h2
    cases h
    exact ⟨n, m, h1, h2, rfl⟩
  · cases h
theorem to_s (x : HDt P w h a ks us ∨ HDs P w h a ks us) (hk : ks.all isSim = true) : HDs P w h a ks us := by
  rcases x with x | x
  · cases ks with
    | nil => exact x.nil
    | cons k r =>
      exfalso
      obtain ⟨ys, ⟨o, es, ep, g1, g2, g3, g4, g5, g6⟩, e, _⟩ := x
      cases ys with
      | nil =>
        obtain ⟨n, m, _, _, e2⟩ := nks_head e
        cases e2
      | cons y ys =>
        obtain ⟨n, m, e1, _, e2⟩ := nks_head e
        rw [List.map_cons] at e2
        injection e2 with e3 e4
        have hi := (g5 y List.mem_cons_self).1
        rw [e3] at hi
        rw [List.all_cons, Bool.and_eq_true] at hk
        cases k with
        | int i => cases e1; cases hi
        | str x => cases e1; cases hi
        | _ => cases hk.1
  · exact x
end
/-! ### what is found -/
theorem look_t {k : D} {nk : NestedKey} (hk : toNK k = some nk) : ∀ {ks : List D} {ys : List (NestedKey × Addr × Value)}, toNKs ks = some (ys.map (·.1)) → (atKey ys nk).map (·.2) = lookK k ks (ys.map (·.2.2))
  | [], ys, h => by
    cases ys with
    | nil => rfl
    | cons y ys => cases h
  | x :: xs, ys, h => by
    obtain ⟨n, m, h1, h2, e⟩ := nks_head h
    cases ys with
    | nil => cases e
    | cons y ys =>
      rw [List.map_cons] at e
      injection e with e1 e2
      subst e1 e2
      have ih := look_t hk (ks := xs) (ys := ys) h2
      rw [List.map_cons, lookK, nk_eqv h1 hk, ← ih]
      unfold atKey
      rw [List.find?_cons]
      by_cases q : y.1 = nk
      · simp [q]
      · simp [q]
theorem look_s (key : Key) : ∀ vs : List (Key × Value), valueAt vs key = lookK (keyD key) (vs.map fun p => keyD p.1) (vs.map (·.2))
  | [] => rfl
  | p :: vs => by
    rw [List.map_cons, List.map_cons, lookK, sim_eqv, ← look_s key vs]
    unfold valueAt
    rw [List.find?_cons]
    by_cases q : p.1 = key
    · simp [q]
    · simp [q]
theorem look_vals {k : D} : ∀ {ks : List D} {us : List V} {vs : List Value}, Vals us vs → RelO (lookK k ks us) (lookK k ks vs)
  | [], _, _, _ => by cases ‹Vals _ _› <;> exact True.intro
  | x :: xs, _, _, .nil => True.intro
  | x :: xs, _, _, .cons a b => by
    rw [lookK, lookK]
    split
    · exact a
    · exact look_vals b
theorem look_reps {G : Gb} {F : Hp} {k d : D} : ∀ {ks ds : List D} {us : List V}, Reps G F ds us → lookK k ks ds = some d → ∃ v, lookK k ks us = some v ∧ Rep G F d v
  | [], ds, us, _, h => by cases ds <;> cases h
  | x :: xs, [], us, _, h => by cases h
  | x :: xs, y :: ys, us, r, h => by
    obtain ⟨v, t, e, r1, r2⟩ := r.uncons
    subst e
    rw [lookK] at h ⊢
    split at h
    · rename_i q
      cases h
      rw [if_pos q]
      exact ⟨v, rfl, r1⟩
    · rename_i q
      rw [if_neg q]
      exact look_reps r2 h
theorem look_none {G : Gb} {F : Hp} {k : D} : ∀ {ks ds : List D} {us : List V}, Reps G F ds us → lookK k ks ds = none → lookK k ks us = none
  | [], ds, us, _, h => by cases us <;> rfl
  | x :: xs, [], us, r, h => by unfold Reps at r; subst r; rfl
  | x :: xs, y :: ys, us, r, h => by
    obtain ⟨v, t, e, r1, r2⟩ := r.uncons
    subst e
    rw [lookK] at h ⊢
    split at h
    · cases h
    · rename_i q
      rw [if_neg q]
      exact look_none r2 h
theorem look_has {β : Type} {k : D} : ∀ {ks : List D} {us : List β}, us.length = ks.length → (lookK k ks us).isSome = hasK k ks
  | [], us, _ => by cases us <;> rfl
  | x :: xs, [], h => by cases h
  | x :: xs, u :: us, h => by
    rw [lookK]
    unfold hasK
    rw [List.any_cons]
    split
    · rename_i q
      rw [q]
      rfl
    · rename_i q
      rw [Bool.not_eq_true] at q
      rw [q, Bool.false_or]
      exact look_has (by simpa using h)
/-- how the dict at a is read with the key u -/
structure Kat (P : Program) (w : World) (s : Shared) (a : Addr) (u : Value) (o : Option Value) : Prop where
  get : ∀ {A : Around} {E Q : Value → Shared → Prop} {v : Value}, A.units + 9 < cLine → o = some v → (∀ t, Q v { s with toks := t }) → wpAny (model P w) A (getItem (.ref a) u) Q E s
  isin : ∀ {A : Around} {E Q : Value → Shared → Prop}, A.units + 9 < cLine → (∀ t, Q (.bool o.isSome) { s with toks := t }) → wpAny (model P w) A (compareOp .In u (.ref a)) Q E s
  notin : ∀ {A : Around} {E Q : Value → Shared → Prop}, A.units + 9 < cLine → (∀ t, Q (.bool (!o.isSome)) { s with toks := t }) → wpAny (model P w) A (compareOp .NotIn u (.ref a)) Q E s
  getor : ∀ {A : Around} {E Q : Value → Shared → Prop} (r : Value), A.units + 9 < cLine → (∀ t, Q (o.getD r) { s with toks := t }) → wpAny (model P w) A (call (.builtin "dict.get") [.ref a, u, r]) Q E s
section
variable {P : Program} {w : World} {s : Shared} {a : Addr} {ks : List D} {us : List V} {u : Value}
theorem room9 {A : Around} (h : A.units + 9 < cLine) : (nestedKind P w).room A.in1 := by
  show A.units + 1 + 8 < cLine
  omega
theorem kat_t {nk : NestedKey} {b : Addr} {ys : List (NestedKey × Addr × Value)} (hd : (a == sysModules) = false) (dd : s.heap.DictOfH (nestedKind P w) a ys) (hk : (nestedKind P w).is s.heap nk b) : Kat P w s a (.ref b) ((atKey ys nk).map (·.2)) where
  get := fun hu e q => by
    obtain ⟨p, h1, h2⟩ := Option.map_eq_some_iff.mp e
    subst h2
    exact wpAny_getItem_heap (room9 hu) hk dd h1 (q _)
  isin := fun hu q => wpAny_in_heap (room9 hu) hk hd dd (by rw [Option.isSome_map] at q; exact q _)
  notin := fun hu q => wpAny_notIn_heap (room9 hu) hk hd dd (by rw [Option.isSome_map] at q; exact q _)
  getor := fun r hu q => getOr_keyed (room9 hu) hk hd ⟨ys, dd, rfl⟩ (by rw [valueAt_pairsH]; exact q _)
theorem kat_s {key : Key} {vs : List (Key × Value)} (hd : (a == sysModules) = false) (dd : s.heap.DictOf (mixKind P w) a vs) (hk : (mixKind P w).is key u = true) : Kat P w s a u (valueAt vs key) where
  get := fun hu e q => wpAny_getItem_of hk dd.mapOf e (q _)
  isin := fun hu q => wpAny_in_of hk hd dd.mapOf (q _)
  notin := fun hu q => wpAny_notIn_of hk hd dd.mapOf (q _)
  getor := fun r hu q => call_meetsIn PySem.F.slot_dict_get dd.typeIs PySem.F.entry_dict_get (PySem.F.args_dict_get_3 _ _ _) (meets_dict_get_default (mixKind P w) a hk hd r) ⟨_, dd.mapOf, q _⟩
end
section
variable {X : Cx} {T : List (Addr × Str)} {C : DC} {F H : Hp} {pins : List (Addr × Obj)} {σ : L2.St} {s : Shared}
theorem keys_is {G : Gb} (I : L2.Inv X pins σ H s) (fh : Same F H) : ∀ {ks : List D} {xs : List (NestedKey × Addr × V)} {ys : List (NestedKey × Addr × Value)}, ks.all isTp = true → Reps G F ks (xs.map fun x => .ref x.2.1) → toNKs ks = some (xs.map (·.1)) →
    Paired (fun (p : NestedKey × Addr × V) (q : NestedKey × Addr × Value) => p.1 = q.1 ∧ p.2.1 = q.2.1 ∧ RelV p.2.2 q.2.2) xs ys → ∀ y ∈ ys, (nestedKind X.prog X.w).is s.heap y.1 y.2.1
  | ks, _, _, _, _, _, .nil, y, hy => by cases hy
  | [], x :: xs, y :: ys, hk, r, hn, .cons _ _, _, _ => by cases hn
  | k :: ks, x :: xs, y :: ys, hk, r, hn, .cons p q, z, hz => by
    rw [List.all_cons, Bool.and_eq_true] at hk
    obtain ⟨v, t, e, r1, r2⟩ := r.uncons
    rw [List.map_cons] at e
    injection e with e1 e2
    subst e1 e2
    obtain ⟨n, m, h1, h2, e3⟩ := nks_head hn
    rw [List.map_cons] at e3
    injection e3 with e4 e5
    subst e4 e5
    rcases List.mem_cons.mp hz with e | e
    · subst e
      obtain ⟨p1, p2, p3⟩ := p
      rw [← p1, ← p2]
      refine ⟨rep_nk I fh h1 r1 rfl, ?_⟩
      cases k with
      | tup l =>
        have := hk.1
        unfold isTp at this
        rw [Bool.and_eq_true] at this
        exact nk_depth h1 this.1
      | _ => cases hk.1
    · exact keys_is I fh hk.2 r2 h2 q z e
theorem vals_of_paired {xs : List (NestedKey × Addr × V)} {ys : List (NestedKey × Addr × Value)} (h : Paired (fun (p : NestedKey × Addr × V) (q : NestedKey × Addr × Value) => p.1 = q.1 ∧ p.2.1 = q.2.1 ∧ RelV p.2.2 q.2.2) xs ys) : Vals (xs.map (·.2.2)) (ys.map (·.2.2)) ∧ xs.map (·.1) = ys.map (·.1) := by
  induction h with
  | nil => exact ⟨.nil, rfl⟩
  | cons p q ih => exact ⟨.cons p.2.2 ih.1, by rw [List.map_cons, List.map_cons, p.1, ih.2]⟩
theorem vals_of_kv {kvs : List (Key × V)} {vs : List (Key × Value)} (h : KV kvs vs) : Vals (kvs.map (·.2)) (vs.map (·.2)) ∧ kvs.map (fun p => keyD p.1) = vs.map (fun p => keyD p.1) := by
  unfold KV at h
  induction h with
  | nil => exact ⟨.nil, rfl⟩
  | cons p q ih => exact ⟨.cons p.2 ih.1, by rw [List.map_cons, List.map_cons, p.1, ih.2]⟩
theorem Lent.hd {ks ds : List D} {v : V} (I : L2.Inv X pins σ H s) (fh : Same F H) (l : Lent (gb X T) C F H (.dct ks ds) v) (hk : ks.all isTp = true ∨ ks.all isSim = true) :
    ∃ a us, v = .ref a ∧ (a == sysModules) = false ∧ ks.length ≤ lim ∧ Reps (gb X T) F ds us ∧ (HDt X.prog X.w s.heap a ks us ∨ HDs X.prog X.w s.heap a ks us) := by
  obtain ⟨a, e, z, y⟩ := l.dct fh
  rcases y with ⟨xs, h1, h2, h3, h4⟩ | ⟨kvs, h1, h2, h3⟩
  · obtain ⟨hsys, ys, pr, o, es, ep, g1, g2, g3, g4, g5⟩ := DTk.at I.hok h1
    obtain ⟨vr, e1⟩ := vals_of_paired pr
    refine ⟨a, _, e, hsys, z, h4, .inl ⟨ys, ⟨o, es, ep, g1, g2, g3, g4, ?_, g5⟩, by rw [← e1]; exact h2, vr⟩⟩
    rcases hk with hk | hk
    · exact keys_is I fh hk h3 h2 pr
    · cases ks with
      | nil =>
        cases xs with
        | nil => cases pr; intro x hx; cases hx
        | cons x xs => cases h2
      | cons k r =>
        exfalso
        rw [List.all_cons, Bool.and_eq_true] at hk
        obtain ⟨v, t, e2, r1, r2⟩ := h3.uncons
        cases xs with
        | nil => cases e2
        | cons x xs =>
          rw [List.map_cons] at e2
          injection e2 with e3 e4
          subst e3
          cases k with
          | int i => unfold Rep at r1; cases r1
          | str i => unfold Rep at r1; cases r1
          | _ => cases hk.1
  · obtain ⟨z2, hsys, vs, rel, dd⟩ := dk_rd I.hok h1
    obtain ⟨vr, e1⟩ := vals_of_kv rel
    exact ⟨a, _, e, hsys, z, h3, .inr ⟨vs, dd, by rw [h2, e1], vr⟩⟩
theorem HD.at {P : Program} {w : World} {h : Heap} {a : Addr} {ks : List D} {us : List V} (x : HDt P w h a ks us ∨ HDs P w h a ks us) : ∃ o, h.get? a = some o ∧ o.cls = .type "dict" ∧ o.dict = none := by
  rcases x with ⟨_, ⟨o, _, _, h1, h2, _⟩, _⟩ | ⟨_, ⟨o, _, _, h1, h2, _⟩, _⟩
  · exact ⟨o, h1, h2.1, h2.2.1⟩
  · exact ⟨o, h1, h2.1, h2.2.1⟩
/-- a dict is read -/
theorem Lent.kat {ks ds : List D} {v y : V} {k : D} {u : Value} (I : L2.Inv X pins σ H s) (fh : Same F H) (l : Lent (gb X T) C F H (.dct ks ds) v) (lk : Lent (gb X T) C F H k y) (ry : RelV y u) (hk : keyOk k ks = true) :
    ∃ a us o, v = .ref a ∧ Reps (gb X T) F ds us ∧ us.length = ks.length ∧ Kat X.prog X.w s a u o ∧ RelO (lookK k ks us) o ∧ s.TypeIs (.ref a) "dict" ∧ (∀ b, Value.ref a = .ref b → ∃ ob, s.heap.get? b = some ob ∧ ob.dict = none) := by
  have hks : ks.all isTp = true ∨ ks.all isSim = true := by
    unfold keyOk at hk
    rw [Bool.or_eq_true, Bool.and_eq_true, Bool.and_eq_true] at hk
    rcases hk with hk | hk
    · exact .inr hk.2
    · exact .inl hk.2
  obtain ⟨a, us, e, hsys, z, r, hd⟩ := l.hd I fh hks
  obtain ⟨o, g1, g2, g3⟩ := HD.at hd
  have fin : s.TypeIs (.ref a) "dict" ∧ (∀ b, Value.ref a = .ref b → ∃ ob, s.heap.get? b = some ob ∧ ob.dict = none) := ⟨⟨o, g1, g2⟩, fun b e => by cases e; exact ⟨o, g1, g3⟩⟩
  unfold keyOk at hk
  rw [Bool.or_eq_true, Bool.and_eq_true, Bool.and_eq_true] at hk
  rcases hk with ⟨k1, k2⟩ | ⟨k1, k2⟩
  · obtain ⟨vs, dd, e1, vr⟩ := to_s hd k2
    have hkey : ∃ key, k = keyD key ∧ (mixKind X.prog X.w).is key u = true := by
      cases k with
      | int i =>
        have := lk.int
        subst this
        exact ⟨.inl i, rfl, kV_is (k := .inl i) ry⟩
      | str x =>
        have := lk.str
        subst this
        exact ⟨.inr x, rfl, kV_is (k := .inr x) ry⟩
      | _ => cases k1
    obtain ⟨key, ek, hkey⟩ := hkey
    subst ek
    refine ⟨a, us, _, e, r, by rw [vr.length, e1]; simp, kat_s hsys dd hkey, ?_, fin⟩
    rw [look_s, e1]
    exact look_vals vr
  · obtain ⟨ys, dd, e1, vr⟩ := to_t hd k2
    cases k with
    | tup l =>
      unfold isTp at k1
      rw [Bool.and_eq_true, Option.isSome_iff_exists] at k1
      obtain ⟨k3, m, k4⟩ := k1
      have hnk : toNK (.tup l) = some (.tup m) := by rw [toNK, k4]; rfl
      rcases lk with lk | ⟨b, _, _, lk⟩
      · have hi := rep_nk I fh hnk lk ry
        unfold Rep at lk
        obtain ⟨b, vs, eb, _⟩ := lk
        subst eb
        cases (show u = Value.ref b from ry)
        refine ⟨a, us, _, e, r, ?_, kat_t hsys dd ⟨hi, nk_depth hnk k3⟩, ?_, fin⟩
        · rw [vr.length, List.length_map]
          have : ∀ {ks : List D} {l : List NestedKey}, toNKs ks = some l → l.length = ks.length := by
            intro ks
            induction ks with
            | nil => intro l h; cases h; rfl
            | cons k ks ih =>
              intro l h
              obtain ⟨n, m, _, h2, e⟩ := nks_head h
              subst e
              rw [List.length_cons, List.length_cons, ih h2]
          have := this e1
          rwa [List.length_map] at this
        · rw [look_t hnk e1]
          exact look_vals vr
      · cases lk
    | _ => cases k1
end
end DL
/-! DL24: d[k], k in d, d.get(k, x). -/
namespace DL
set_option autoImplicit false
open PySem PySem.Spec L2 PyProof.Rows
def pIx (x y : D) : Option D := match x with
  | .dct ks ds => if keyOk y ks then lookK y ks ds else none
  | _ => pIdx x y
def pInX (x y : D) : Option D := match y with
  | .dct ks _ => if keyOk x ks then some (.bl (hasK x ks)) else none
  | _ => pIn x y
def pNotInX (x y : D) : Option D := match y with
  | .dct ks _ => if keyOk x ks then some (.bl (!hasK x ks)) else none
  | _ => pNotIn x y
def dGet (f g h : DE) : DE := fun ρ => bindM (f ρ) fun x => match x with
  | .dct ks ds => bindM (g ρ) fun k => bindM (h ρ) fun z => if keyOk k ks then retM ((lookK k ks ds).getD z) else failM
  | _ => failM
section
variable {X : Cx} {T : List (Addr × Str)} {C : DC} {W : WX} {F H : Hp} {σ : L2.St} {ρ : Env'} {p : Pot} {a b e e2 o : Expr} {f g h : DE} {pos : Pos}
theorem i_ix (hr : Room 0 X.A) : IxR X (rD (gb X T) C W pIx) := by
  intro value slice pins s σ H x y v u Q I rx ry h hs
  obtain ⟨F, σ', ρ, p, d1, d2, J, l1, l2, q⟩ := h
  cases d1 with
  | dct ks ds =>
    unfold pIx at q
    dsimp only at q
    by_cases hk : keyOk d2 ks = true
    · rw [if_pos hk] at q
      obtain ⟨ad, us, o, e, rr, hl, kat, rel, ty, nd⟩ := l1.kat I J.fh l2 ry hk
      subst e
      cases rx
      cases hq : lookK d2 ks ds with
      | none => rw [hq] at q; exact q.elim
      | some d =>
        rw [hq] at q
        obtain ⟨v', hv, rv⟩ := look_reps rr hq
        rw [hv] at rel
        cases o with
        | none => exact rel.elim
        | some w' =>
          have un := hr.un
          exact subscriptTail_builtinR (x := w') ty PySem.F.slot_dict_getitem.lookup (kat.get (by omega) rfl fun t => ⟨rfl, v', H, I.tok _, rel, post.flat q J rv⟩) hs
    · rw [if_neg hk] at q
      exact q.elim
  | _ => exact i_idx value slice pins s σ H x y v u Q I rx ry ⟨F, σ', ρ, p, _, d2, J, l1, l2, q⟩ hs
theorem exd {a b : Expr} (hr : Room 0 X.A) (ha : PE X a (tL (gb X T) C W f)) (hb : PE X b (tL (gb X T) C W g)) (hs : PlainIx b := by intro _ _; rfl) : PE X (.Subscript a b pos) (tE (gb X T) C W (d2 pIx f g)) := imp (pe_ix (i_ix hr) ha hb hs) fun _ _ _ z => bin_imp z
theorem o_inX (hr : Room 0 X.A) : OpR X (compareOp .In) (rD (gb X T) C W pInX) := by
  intro pins s σ H x y v u Q I rx ry h
  obtain ⟨F, σ', ρ, p, d1, d2, J, l1, l2, q⟩ := h
  cases d2 with
  | dct ks ds =>
    unfold pInX at q
    dsimp only at q
    by_cases hk : keyOk d1 ks = true
    · rw [if_pos hk] at q
      obtain ⟨ad, us, o, e, rr, hl, kat, rel, ty, nd⟩ := l2.kat I J.fh l1 rx hk
      subst e
      cases ry
      have un := hr.un
      have eo : o.isSome = hasK d1 ks := by rw [← rel.isSome_eq, look_has hl]
      refine kat.isin (by omega) fun t => ⟨.bl o.isSome, H, I.tok _, rfl, ?_⟩
      rw [eo]
      exact post.flat q J (by unfold Rep; rfl)
    · rw [if_neg hk] at q
      exact q.elim
  | _ => exact o_in hr pins s σ H x y v u Q I rx ry ⟨F, σ', ρ, p, d1, _, J, l1, l2, q⟩
theorem o_notinX (hr : Room 0 X.A) : OpR X (compareOp .NotIn) (rD (gb X T) C W pNotInX) := by
  intro pins s σ H x y v u Q I rx ry h
  obtain ⟨F, σ', ρ, p, d1, d2, J, l1, l2, q⟩ := h
  cases d2 with
  | dct ks ds =>
    unfold pNotInX at q
    dsimp only at q
    by_cases hk : keyOk d1 ks = true
    · rw [if_pos hk] at q
      obtain ⟨ad, us, o, e, rr, hl, kat, rel, ty, nd⟩ := l2.kat I J.fh l1 rx hk
      subst e
      cases ry
      have un := hr.un
      have eo : o.isSome = hasK d1 ks := by rw [← rel.isSome_eq, look_has hl]
      refine kat.notin (by omega) fun t => ⟨.bl (!o.isSome), H, I.tok _, rfl, ?_⟩
      rw [eo]
      exact post.flat q J (by unfold Rep; rfl)
    · rw [if_neg hk] at q
      exact q.elim
  | _ => exact o_notin hr pins s σ H x y v u Q I rx ry ⟨F, σ', ρ, p, d1, _, J, l1, l2, q⟩
theorem Lent.dty {ks ds : List D} {v : V} {pins : List (Addr × Obj)} {s : Shared} (I : L2.Inv X pins σ H s) (fh : Same F H) (l : Lent (gb X T) C F H (.dct ks ds) v) : ∃ a, v = .ref a ∧ s.TypeIs (.ref a) "dict" ∧ (∀ b, Value.ref a = .ref b → ∃ ob, s.heap.get? b = some ob ∧ ob.dict = none) := by
  obtain ⟨a, e, z, y⟩ := l.dct fh
  have : ∃ o, s.heap.get? a = some o ∧ o.cls = .type "dict" ∧ o.dict = none := by
    rcases y with ⟨xs, h1, _⟩ | ⟨kvs, h1, _⟩
    · obtain ⟨_, ys, _, o, es, ep, g1, g2, _⟩ := DTk.at I.hok h1
      exact ⟨o, g1, g2.1, g2.2.1⟩
    · obtain ⟨_, _, vs, _, o, es, ep, g1, g2, _⟩ := dk_rd I.hok h1
      exact ⟨o, g1, g2.1, g2.2.1⟩
  obtain ⟨o, g1, g2, g3⟩ := this
  exact ⟨a, e, ⟨o, g1, g2⟩, fun b e => by cases e; exact ⟨o, g1, g3⟩⟩
/-- d.get(k, x) -/
theorem egt {apos cpos : Pos} (hr : Room 0 X.A) (ho : PE X o (tL (gb X T) C W f)) (he : PE X e (tL (gb X T) C W g)) (hz : PE X e2 (tE (gb X T) C W h)) (m : M2 X o "get" apos e e2 cpos := by exact ⟨rfl, rfl, rfl, rfl⟩) :
    PE X (.Call (.Attribute o "get" apos) [e, e2] [] cpos) (tE (gb X T) C W (dGet f g h)) := by
  refine ⟨fun pins s σ H Q I z => ?_⟩
  obtain ⟨F, ρ, p, J, q⟩ := z
  refine wpAny_Call_method m.base m.few m.line PySem.F.plainAttrs_dict PySem.F.slot_dict_get PySem.F.type_dict_get (thn (ho.run pins s σ H _ I (tG_bind J q)) fun u s1 ⟨x, H1, I1, rx, F1, d, p1, J1, e1, l1, q1⟩ => ?_)
  cases d with
  | dct ks ds =>
    obtain ⟨ad, ea, t1, t2⟩ := l1.dty I1 J1.fh
    subst ea
    obtain rfl : u = Value.ref ad := rx
    refine ⟨t1, t2, ?_⟩
    rw [m.trees]
    refine Calls.callWith_builtin rfl (Calls.evalArgs_plain (Calls.spliced_cons (thn (he.run pins s1 σ H1 _ I1 (tG_bind J1 q1)) fun iv s2 ⟨y, H2, I2, ry, F2, k, p2, J2, e2, l2, q2⟩ => Calls.spliced_cons (thn (hz.run pins s2 σ H2 _ I2 (tG_bind J2 q2)) fun fv s3 ⟨z, H3, I3, rz, F3, dz, p3, J3, e3, r3, q3⟩ => Calls.spliced_nil ?_))))
    by_cases hk : keyOk k ks = true
    · rw [if_pos hk] at q3
      obtain ⟨a', us, o, ea, rr, hl, kat, rel, ty, nd⟩ := ((l1.ext e2).ext e3).kat I3 J3.fh (l2.ext e3) ry hk
      cases ea
      have un := hr.un
      refine kat.getor fv (by omega) fun t => ⟨(lookK k ks us).getD z, H3, I3.tok _, rel.getD rz, post.flat q3 J3 ?_⟩
      cases hq : lookK k ks ds with
      | none =>
        rw [look_none rr hq]
        exact r3
      | some d =>
        obtain ⟨v', hv, rv⟩ := look_reps rr hq
        rw [hv]
        exact rv
    · rw [if_neg hk] at q3
      exact q3.elim
  | _ => exact q1.elim
end
end DL
/-! DL25: d[k] = e of a dict of one's own. -/
namespace DL
set_option autoImplicit false
open PySem PySem.Spec L2 PyProof.Rows
abbrev PX (p : NestedKey × Addr × V) (q : NestedKey × Addr × Value) : Prop := p.1 = q.1 ∧ p.2.1 = q.2.1 ∧ RelV p.2.2 q.2.2
theorem dtk_new {P : Program} {w : World} {H : Hp} {h : Heap} {a : Addr} {xs : List (NestedKey × Addr × V)} {ys : List (NestedKey × Addr × Value)} (hsys : (a == sysModules) = false) (pr : Paired PX xs ys) (dd : h.DictOfH (nestedKind P w) a ys) : ObjOk P w H h a (DTk P w a xs) := by
  obtain ⟨o, es, ep, g1, g2, g3, g4, _, g6⟩ := dd
  refine ⟨⟨hsys, ys, pr, o, es, ep, g1, g2, g3, g4, g6⟩, ⟨o, g1⟩, fun h1 h2 q k => ?_⟩
  obtain ⟨q1, ys2, q2, o2, es2, ep2, q3, q4⟩ := q
  exact ⟨q1, ys2, q2, o2, es2, ep2, k o2 q3, q4⟩
theorem nks_snoc {k : D} {nk : NestedKey} (hk : toNK k = some nk) : ∀ {ks : List D} {l : List NestedKey}, toNKs ks = some l → toNKs (ks ++ [k]) = some (l ++ [nk])
  | [], l, h => by
    cases h
    rw [List.nil_append, List.nil_append, toNKs, hk]
    rfl
  | x :: xs, l, h => by
    obtain ⟨n, m, h1, h2, e⟩ := nks_head h
    subst e
    rw [List.cons_append, toNKs, h1, nks_snoc hk h2]
    rfl
theorem nks_len : ∀ {ks : List D} {l : List NestedKey}, toNKs ks = some l → l.length = ks.length
  | [], l, h => by cases h; rfl
  | x :: xs, l, h => by
    obtain ⟨n, m, _, h2, e⟩ := nks_head h
    subst e
    rw [List.length_cons, List.length_cons, nks_len h2]
theorem has_t {k : D} {nk : NestedKey} (hk : toNK k = some nk) {ks : List D} {ys : List (NestedKey × Addr × Value)} (h : toNKs ks = some (ys.map (·.1))) : (atKey ys nk).isSome = hasK k ks := by
  have e := look_t hk h
  rw [← look_has (us := ys.map (·.2.2)) (by have := nks_len h; simpa using this), ← e, Option.isSome_map]
def putV (nk : NestedKey) (v : V) (x : NestedKey × Addr × V) : NestedKey × Addr × V := if x.1 = nk then (x.1, x.2.1, v) else x
theorem putV_1 (nk : NestedKey) (v : V) (x : NestedKey × Addr × V) : (putV nk v x).1 = x.1 ∧ (putV nk v x).2.1 = x.2.1 := by
  unfold putV
  split <;> exact ⟨rfl, rfl⟩
theorem paired_put {nk : NestedKey} {v : V} {r : Value} (rv : RelV v r) {xs : List (NestedKey × Addr × V)} {ys : List (NestedKey × Addr × Value)} (h : Paired PX xs ys) : Paired PX (xs.map (putV nk v)) (ys.map (putAt nk r)) := by
  induction h with
  | nil => exact .nil
  | @cons p q ps qs a b ih =>
    rw [List.map_cons, List.map_cons]
    refine .cons ?_ ih
    obtain ⟨h1, h2, h3⟩ := a
    unfold putV putAt
    by_cases e : p.1 = nk
    · rw [if_pos e, if_pos (h1.symm.trans e)]
      exact ⟨h1, h2, rv⟩
    · rw [if_neg e, if_neg (fun z => e (h1.trans z))]
      exact ⟨h1, h2, h3⟩
section
variable {G : Gb} {F : Hp}
theorem reps_setK {k d : D} {v : V} {nk : NestedKey} (hk : toNK k = some nk) (r : Rep G F d v) : ∀ {ks ds : List D} {xs : List (NestedKey × Addr × V)}, toNKs ks = some (xs.map (·.1)) → Reps G F ds (xs.map (·.2.2)) → Reps G F (setK k d ks ds) ((xs.map (putV nk v)).map (·.2.2))
  | [], ds, xs, h, r2 => by
    cases xs with
    | nil => unfold setK; exact r2
    | cons x xs => cases h
  | x :: ks, [], xs, h, r2 => by
    cases xs with
    | nil =>
      obtain ⟨_, _, _, _, e⟩ := nks_head h
      cases e
    | cons x xs => unfold Reps at r2; cases r2
  | x :: ks, y :: ds, xs, h, r2 => by
    obtain ⟨n, m, h1, h2, e⟩ := nks_head h
    cases xs with
    | nil => cases e
    | cons z xs =>
      rw [List.map_cons] at e
      injection e with e1 e2
      subst e1 e2
      obtain ⟨v2, t, e3, r3, r4⟩ := r2.uncons
      rw [List.map_cons] at e3
      injection e3 with e4 e5
      subst e4 e5
      rw [setK, List.map_cons, List.map_cons, nk_eqv h1 hk]
      refine .cons ?_ (reps_setK hk r h2 r4)
      unfold putV
      by_cases q : z.1 = nk
      · rw [if_pos (decide_eq_true q), if_pos q]
        exact r
      · rw [if_neg (by simpa using q), if_neg q]
        exact r3
theorem putK_keys (key : Key) (v : V) : ∀ kvs : List (Key × V), (kvs.any fun kv => decide (kv.1 = key)) = hasK (keyD key) (kvs.map fun p => keyD p.1)
  | [] => rfl
  | p :: kvs => by
    unfold hasK
    rw [List.map_cons, List.any_cons, List.any_cons, sim_eqv, putK_keys key v kvs]
    rfl
theorem putK_1 (key : Key) (v : V) (kvs : List (Key × V)) : (putK kvs key v).map (fun p => keyD p.1) = putKs (keyD key) (kvs.map fun p => keyD p.1) := by
  unfold putK putKs
  rw [putK_keys key v]
  split
  · rw [List.map_map]
    refine List.map_congr_left fun p _ => ?_
    show keyD (if p.1 = key then (p.1, v) else p).1 = keyD p.1
    split <;> rfl
  · rw [List.map_append]
    rfl
theorem putK_2 {d : D} {v : V} (key : Key) (r : Rep G F d v) {kvs : List (Key × V)} {ds : List D} (r2 : Reps G F ds (kvs.map (·.2))) : Reps G F (putVs (keyD key) d (kvs.map fun p => keyD p.1) ds) ((putK kvs key v).map (·.2)) := by
  unfold putK putVs
  rw [putK_keys key v]
  split
  · rename_i hh
    clear hh
    induction kvs generalizing ds with
    | nil => exact r2
    | cons p kvs ih =>
      cases ds with
      | nil => unfold Reps at r2; cases r2
      | cons y ds =>
        obtain ⟨v2, t, e3, r3, r4⟩ := r2.uncons
        rw [List.map_cons] at e3
        injection e3 with e4 e5
        subst e4 e5
        rw [List.map_cons, setK, List.map_cons, List.map_cons, sim_eqv]
        refine .cons ?_ (ih r4)
        by_cases q : p.1 = key
        · rw [if_pos (decide_eq_true q), if_pos q]
          exact r
        · rw [if_neg (by simpa using q), if_neg q]
          exact r3
  · rw [List.map_append]
    exact r2.app (.cons r .nil)
end
theorem putKs_len (k : D) (ks : List D) : (putKs k ks).length ≤ ks.length + 1 := by
  unfold putKs
  split
  · omega
  · simp
section
variable {X : Cx} {T : List (Addr × Str)} {C : DC} {F H : Hp} {pins : List (Addr × Obj)} {σ : L2.St} {s : Shared} {A : Around} {E : Value → Shared → Prop}
theorem d_store {a : Addr} {ks ds : List D} {k d : D} {y v : V} {u r : Value} {Q : Unit → Shared → Prop} (hu : A.units + 9 < cLine) (I : L2.Inv X pins σ H s) (fh : Same F H) (ow : Own (gb X T) F H a (.dct ks ds)) (hk : keyOk k ks = true) (lk : Rep (gb X T) F k y) (ry : RelV y u) (rd : Rep (gb X T) F d v) (rv : RelV v r) (hl : ks.length < lim)
    (h : ∀ ob s', L2.Inv X pins σ (upd H a ob) s' → (∀ ps, ob ≠ .tbl ps) → (LamX.Tabs T H → LamX.Tabs T (upd H a ob)) → Own (gb X T) F (upd H a ob) a (.dct (putKs k ks) (putVs k d ks ds)) → Q () s') :
    wpAny (model X.prog X.w) A (setItem (.ref a) u r) Q E s := by
  have hl1 : ks.length < 16777216 := hl
  obtain ⟨z, x⟩ := ow
  have zl : (putKs k ks).length ≤ lim := by
    have := putKs_len k ks
    show _ ≤ 16777216
    omega
  unfold keyOk at hk
  rw [Bool.or_eq_true, Bool.and_eq_true, Bool.and_eq_true] at hk
  rcases hk with ⟨k1, k2⟩ | ⟨k1, k2⟩
  · -- an int, a text
    have hkey : ∃ key, k = keyD key ∧ y = kV key := by
      cases k with
      | int i => exact ⟨.inl i, rfl, by unfold Rep at lk; exact lk⟩
      | str x => exact ⟨.inr x, rfl, by unfold Rep at lk; exact lk⟩
      | _ => cases k1
    obtain ⟨key, ek, ey⟩ := hkey
    subst ek ey
    have fin : ∀ kvs : List (Key × V), H a = some (.dK kvs) → ks = kvs.map (fun p => keyD p.1) → Reps (gb X T) F ds (kvs.map (·.2)) → wpAny (model X.prog X.w) A (setItem (.ref a) u r) Q E s := fun kvs e1 e2 e3 => by
      subst e2
      rw [List.length_map] at hl1
      obtain ⟨_, _, vs, _, o, es, ep, g1, g2, g3, _⟩ := dk_of I.hok e1
      refine d_setItem (by omega) I (DPut.k e1 (by rw [sizeLine_eq]; omega)) ry rv fun s' I' => h _ s' I' (fun _ q => nomatch q) (fun t => tabs_dict I t e1 (fun _ q => nomatch q) g1 g3) ⟨zl, .inr ⟨_, upd_same, ?_, ?_⟩⟩
      · exact (putK_1 key v kvs).symm
      · exact putK_2 key rd e3
    rcases x with ⟨xs, h1, h2, h3, h4⟩ | ⟨kvs, h1, h2, h3⟩
    · cases ks with
      | cons k0 r0 =>
        exfalso
        rw [List.all_cons, Bool.and_eq_true] at k2
        obtain ⟨v0, t, e2, r1, r2⟩ := h3.uncons
        cases xs with
        | nil => cases e2
        | cons x xs =>
          rw [List.map_cons] at e2
          injection e2 with e3 e4
          subst e3
          cases k0 with
          | int i => unfold Rep at r1; cases r1
          | str i => unfold Rep at r1; cases r1
          | _ => cases k2.1
      | nil =>
        cases xs with
        | cons x xs => cases h2
        | nil =>
          obtain ⟨hsys, ys, pr, o, es, ep, g1, g2, g3, g4, g5⟩ := DTk.at I.hok (.of h1)
          cases pr
          obtain ⟨vs, dd, e1, vr⟩ := HDt.nil (P := X.prog) (w := X.w) (us := []) ⟨[], ⟨o, es, ep, g1, g2, g3, g4, fun x hx => (by cases hx), g5⟩, rfl, .nil⟩
          have ev : vs = [] := List.map_eq_nil_iff.mp e1.symm
          subst ev
          have eds : ds = [] := by
            cases ds with
            | nil => rfl
            | cons y ds => unfold Reps at h4; obtain ⟨_, _, e, _⟩ := h4; cases e
          subst eds
          refine wpAny_setItem_pairs (hsz := Nat.zero_le _) (kV_is ry) dd fun h' dd' hs => h (.dK [(key, v)]) _ (d_write I (by rw [h1]; exact True.intro) hs (let ⟨q, _, _, hq, _⟩ := dd'; ⟨q, hq⟩) (dk_new (vs := [(key, r)]) (by rw [sizeLine_eq]; simp) hsys (.cons ⟨rfl, rv⟩ .nil) dd')) (fun _ q => nomatch q) (fun t => tabs_dict I t h1 (fun _ q => nomatch q) g1 g3) ⟨zl, .inr ⟨_, upd_same, rfl, .cons rd .nil⟩⟩
    · exact fin kvs h1 h2 h3
  · -- a tuple
    cases k with
    | tup l =>
      unfold isTp at k1
      rw [Bool.and_eq_true, Option.isSome_iff_exists] at k1
      obtain ⟨k3, m, k4⟩ := k1
      have hnk : toNK (.tup l) = some (.tup m) := by rw [toNK, k4]; rfl
      have hi := rep_nk I fh hnk lk ry
      have lk0 := lk
      unfold Rep at lk
      obtain ⟨b, vs, eb, _⟩ := lk
      subst eb
      cases (show u = Value.ref b from ry)
      have his : (nestedKind X.prog X.w).is s.heap (.tup m) b := ⟨hi, nk_depth hnk k3⟩
      have fin : ∀ (o0 : HO) (xs : List (NestedKey × Addr × V)) (ys : List (NestedKey × Addr × Value)), H a = some o0 → Mut (some o0) → (∀ ps, o0 ≠ .tbl ps) → (a == sysModules) = false → s.heap.DictOfH (nestedKind X.prog X.w) a ys → Paired PX xs ys → toNKs ks = some (xs.map (·.1)) → Reps (gb X T) F ks (xs.map fun x => .ref x.2.1) → Reps (gb X T) F ds (xs.map (·.2.2)) → wpAny (model X.prog X.w) A (setItem (.ref a) (.ref b) r) Q E s := fun o0 xs ys e1 mu hn hsys dd pr e2 r1 r2 => by
        have hly : ys.length ≤ sizeLine := by
          rw [← Paired.length pr, ← List.length_map (f := fun x : NestedKey × Addr × V => x.1), nks_len e2, sizeLine_eq]
          omega
        obtain ⟨o, es, ep, g1, g2, g3, _⟩ := dd
        have e3 : toNKs ks = some (ys.map (·.1)) := by rw [← (vals_of_paired pr).2]; exact e2
        have hh := has_t hnk e3
        refine wpAny_setItem_heap (hsz := hly) (room9 hu) his ⟨o, es, ep, g1, g2, g3, ‹_›⟩ fun h' dd' hs => ?_
        have he : ∃ q, h'.get? a = some q := let ⟨q, _, _, hq, _⟩ := dd'; ⟨q, hq⟩
        unfold storedH at dd'
        by_cases q : hasK (.tup l) ks = true
        · rw [hh, if_pos q] at dd'
          refine h (DTk X.prog X.w a (xs.map (putV (.tup m) v))) _ (d_write I (by rw [e1]; exact mu) hs he (dtk_new hsys (paired_put rv pr) dd')) (fun _ q => nomatch q) (fun t => tabs_dict I t e1 hn g1 g3) ⟨zl, .inl ⟨_, upd_same, ?_, ?_, ?_⟩⟩
          · unfold putKs
            rw [if_pos q, e2, List.map_map]
            congr 1
            exact List.map_congr_left fun x _ => ((putV_1 _ _ x).1).symm
          · unfold putKs
            rw [if_pos q, List.map_map]
            have : xs.map ((fun x : NestedKey × Addr × V => V.ref x.2.1) ∘ putV (.tup m) v) = xs.map fun x => V.ref x.2.1 := List.map_congr_left fun x _ => by
              show V.ref (putV _ _ x).2.1 = _
              rw [(putV_1 _ _ x).2]
            rw [this]
            exact r1
          · unfold putVs
            rw [if_pos q]
            exact reps_setK hnk rd e2 r2
        · rw [hh, if_neg q] at dd'
          refine h (DTk X.prog X.w a (xs ++ [(.tup m, b, v)])) _ (d_write I (by rw [e1]; exact mu) hs he (dtk_new hsys (Paired.snoc pr ⟨rfl, rfl, rv⟩) dd')) (fun _ q => nomatch q) (fun t => tabs_dict I t e1 hn g1 g3) ⟨zl, .inl ⟨_, upd_same, ?_, ?_, ?_⟩⟩
          · unfold putKs
            rw [if_neg q, List.map_append]
            exact nks_snoc hnk e2
          · unfold putKs
            rw [if_neg q, List.map_append]
            exact r1.app (.cons lk0 .nil)
          · unfold putVs
            rw [if_neg q, List.map_append]
            exact r2.app (.cons rd .nil)
      rcases x with ⟨xs, h1, h2, h3, h4⟩ | ⟨kvs, h1, h2, h3⟩
      · obtain ⟨hsys, ys, pr, o, es, ep, g1, g2, g3, g4, g5⟩ := DTk.at I.hok (.of h1)
        exact fin _ xs ys h1 True.intro (fun _ q => nomatch q) hsys ⟨o, es, ep, g1, g2, g3, g4, keys_is I fh k2 h3 h2 pr, g5⟩ pr h2 h3 h4
      · obtain ⟨z2, hsys, vs, rel, dd⟩ := dk_of I.hok h1
        cases ks with
        | cons k0 r0 =>
          exfalso
          cases kvs with
          | nil => cases h2
          | cons p kvs =>
            rw [List.map_cons] at h2
            injection h2 with e1 e2
            subst e1
            rw [List.all_cons, Bool.and_eq_true] at k2
            have := k2.1
            cases hp : p.1 <;> rw [hp] at this <;> cases this
        | nil =>
          have ek : kvs = [] := List.map_eq_nil_iff.mp h2.symm
          subst ek
          obtain ⟨vr, e1⟩ := vals_of_kv rel
          obtain ⟨ys, dd2, e2, vr2⟩ := HDs.nil (P := X.prog) (w := X.w) ⟨vs, dd, by rw [← e1]; rfl, vr⟩
          have ey : ys = [] := by
            cases ys with
            | nil => rfl
            | cons y ys => cases e2
          subst ey
          exact fin _ [] [] h1 True.intro (fun _ q => nomatch q) hsys dd2 .nil rfl .nil h3
    | _ => cases k1
end
end DL
/-! DL26: x = {}, x[k] = e. -/
namespace DL
set_option autoImplicit false
open PySem PySem.Spec L2 PyProof.Rows
/-- x[k] = e of an owned list or dict -/
def sStoreX (i : Nat) (ix f : DE) : DS := fun ρ p => match nth ρ i with
  | .ow (.dct ks ds) => runE ρ (f ρ p) fun d p1 => runE ρ (ix ρ p1) fun k p2 => if keyOk k ks = true ∧ ks.length < lim then .nx (put ρ i (.ow (.dct (putKs k ks) (putVs k d ks ds)))) p2 else .err
  | _ => sStore i ix f ρ p
section
variable {X : Cx} {T : List (Addr × Str)} {C : DC} {W : WX} {F H : Hp} {σ : L2.St} {ρ : Env'} {p : Pot} {e : Expr} {f : DE} {x : Str} {pos p0 : Pos}
theorem sownd (i : Nat) {x : Str} {pos' : Pos} (hN : X.N.Nodup) (hp : C.ps ≠ i := by first | (dsimp only; decide) | decide) (hi : X.N[i]? = some x := by rfl) (hx : Loc X.env.scope x := by first | exact .inl rfl | exact .inr rfl)
    (hs : swapsWith (.Dict [] [] p0) (some (.Name x pos')) pos.line X.env = pure false := by rfl) (hf : X.fn x = true ∨ X.env.scope.names.lookup x = some .local := by first | exact .inl rfl | exact .inr rfl) :
    PS X (.Assign [.Name x pos'] (.Dict [] [] p0) pos) (tSS X T C W (sOwn i (dC (.dct [] [])))) := impS (ps_set hN hi hx pe_dnewK hs hf) fun D σ H ⟨F, ρ, p, I, q⟩ => by
  intro l n
  exact q _ F _ (I.own hp n ⟨Nat.zero_le _, .inr ⟨[], upd_same, rfl, .nil⟩⟩) (Same.refl F)
/-- x[k] = e -/
theorem sstx (i : Nat) {ix : Expr} {g : DE} {pt : Pos} (hr : Room 0 X.A) (he : PE X e (tE (gb X T) C W f)) (hx : PE X ix (tE (gb X T) C W g)) (hp : C.ps ≠ i := by first | (dsimp only; decide) | decide) (hN : X.N[i]? = some x := by rfl) (hv : Vis X.env.scope x := by first | exact Or.inl rfl | exact Or.inr (Or.inl rfl) | exact Or.inr (Or.inr rfl)) (hd : (x == ("__debug__" : Str)) = false := by decide) (hcd : (x == ("__classdict__" : Str)) = false := by decide)
    (ha : ∀ v, assign (.Subscript (.Name x p0) ix pt) X.env v = (do
      let ov ← holding [v] (eval (.Name x p0) X.env)
      let iv ← holding [v, ov] (eval ix X.env)
      standAt pt
      holding [v, ov, iv] (setItem ov iv v)
      release [v, ov, iv] []) := by intro _; rfl)
    (hs : swapsWithSole [.Subscript (.Name x p0) ix pt] e pos.line X.env = pure false := by rfl) (hw : swappedStores [.Subscript (.Name x p0) ix pt] e X.env = pure none := by rfl)
    (h1' : (assignEach [.Subscript (.Name x p0) ix pt] X.env).map (·.2) = [assign (.Subscript (.Name x p0) ix pt) X.env] := by rfl)
    (hs2 : swapsWith e (some (.Subscript (.Name x p0) ix pt)) pos.line X.env = pure false := by rfl) :
    PS X (.Assign [.Subscript (.Name x p0) ix pt] e pos) (tSS X T C W (sStoreX i g f)) := by
  refine ⟨fun pins s σ H D I z => ?_⟩
  obtain ⟨F, ρ, p, J, q⟩ := z
  unfold sStoreX at q
  have old : postS (gb X T) C W (sStore i g f ρ p) F D → wpAny (model X.prog X.w) X.A (exec (.Assign [.Subscript (.Name x p0) ix pt] e pos) X.env) (SP X pins D) X.xe s := fun q => (sst (T := T) (C := C) (W := W) i he hx hp hN hv hd hcd ha hs hw h1').run pins s σ H D I ⟨F, ρ, p, J, q⟩
  split at q
  · rename_i ks ds hz
    refine wpAny_Assign_Subscript (thn (he.run pins s σ H _ I (runE_imp J q)) fun r s1 ⟨v, H1, I1, rv, F1, d, p1, J1, e1, r1, q1⟩ => ?_) hs2
    have s0 := J1.sl i
    rw [hz] at s0
    obtain ⟨a, h1, h2, h3⟩ := s0
    refine thn ((pe_var (pos := p0) hN hv hd hcd).run pins s1 σ H1 (fun x H => x = .ref a ∧ H = H1) I1 ⟨.ref a, h1, rfl, rfl⟩) fun u s2 ⟨x2, H2, I2, ru, e2, e3⟩ => ?_
    subst e2 e3
    obtain rfl : u = Value.ref a := ru
    refine thn (hx.run pins s2 σ H2 _ I2 (runE_imp J1 q1)) fun iv s3 ⟨y, H3, I3, ry, F3, k, p3, J3, e3, r3, q3⟩ => ?_
    by_cases hk : keyOk k ks = true ∧ ks.length < lim
    · rw [if_pos hk] at q3
      have s3' := J3.sl i
      rw [hz] at s3'
      obtain ⟨a3, g1, g2, g3⟩ := s3'
      rw [h1] at g1
      cases g1
      have un := hr.un
      refine d_store (T := T) (A := X.A) (by omega) I3 J3.fh g3 hk.1 r3 ry (Rep.mono e3.ff _ _ r1) rv hk.2 fun ob s' I' hn hT ow => ?_
      exact ⟨σ, _, I', q3 σ F3 _ (J3.write hz h1 hp hn hT ow) (Same.refl F3)⟩
    · rw [if_neg hk] at q3
      exact q3.elim
  · exact old q
end
end DL
/-! DL27: list(range(a, b)), x[::-1]; what is new and one's own. -/
namespace DL
set_option autoImplicit false
open PySem PySem.Spec L2 PyProof.Rows
def pRev : D → Option D
  | .lst xs => some (.lst xs.reverse)
  | _ => none
/-- [..] * n, new -/
def pRepN : D → D → Option D
  | .lst xs, .int n => if -1000000000 < n ∧ n < 1000000000 ∧ xs.length * n.toNat ≤ lim then some (.lst (reps xs n.toNat)) else none
  | _, _ => none
section
variable {X : Cx} {T : List (Addr × Str)} {C : DC} {W : WX} {F F' H H' : Hp} {σ : L2.St} {ρ : Env'} {p : Pot} {e e2 : Expr} {es : List Expr} {f g : DE} {fl : List DE} {pos p0 p1 p2 p3 : Pos}
theorem elr2 (he : PE X e (tE (gb X T) C W f)) (he2 : PE X e2 (tE (gb X T) C W g)) (hm : X.mg "range" = none) (hm2 : X.mg "list" = none) (hc : X.calm = true) (hg : Gl X "range" := by rfl) (hg2 : Gl X "list" := by rfl)
    (na : starEach [e, e2] X.env = (false, eval e X.env) :: starEach [e2] X.env := by rfl) (nb : starEach [e2] X.env = (false, eval e2 X.env) :: starEach [] X.env := by rfl) (hp : (backTo p2 (starEach [e2] X.env)).any (·.1) = false := by rfl)
    (na2 : starEach [.Call (.Name "range" p1) [e, e2] [] p2] X.env = (false, eval (.Call (.Name "range" p1) [e, e2] [] p2) X.env) :: starEach [] X.env := by rfl) :
    PE X (.Call (.Name "list" p0) [.Call (.Name "range" p1) [e, e2] [] p2] [] pos) (tE (gb X T) C W (dRngL (itR2 f g))) :=
  imp (pe_listRg hc hg2 hm2 (prg_2 hg hm he he2 na nb hp) na2) fun σ H Q ⟨F, ρ, p, I, q⟩ => by
    unfold dRngL itR2 at q
    rw [bindM_assoc] at q
    refine tG_mono (fun v H1 z => ?_) (tG_bind I q)
    obtain ⟨F1, d, p1, I1, e1, r1, q1⟩ := z
    rw [bindM_assoc] at q1
    refine tG_mono (fun v2 H2 z => ?_) (tG_bind I1 q1)
    obtain ⟨F2, d2, p2, I2, e2, r2, q2⟩ := z
    cases d with
    | int a =>
      cases d2 with
      | int b =>
        unfold Rep at r1 r2
        subst r1 r2
        dsimp only at q2
        by_cases hn : (-1000000000 ≤ a ∧ a ≤ 1000000000) ∧ (-1000000000 ≤ b ∧ b ≤ 1000000000) ∧ b - a ≤ (lim : Int)
        · rw [if_pos hn] at q2
          obtain ⟨⟨h1, h2⟩, ⟨h3, h4⟩, h5⟩ := hn
          have h5' : b - a ≤ 16777216 := h5
          refine ⟨a, b, rfl, rfl, ⟨by omega, by omega, by omega, by omega, by omega⟩, fun c hc2 => post_new q2 I2 hc2 fun F' sm eb => ?_⟩
          unfold Rep
          exact ⟨c, _, rfl, eb, by rw [intsD_m, List.length_map, List.length_range]; show _ ≤ 16777216; omega, reps_rg a b⟩
        · rw [if_neg hn] at q2
          exact q2.elim
      | _ => exact q2.elim
    | _ => cases d2 <;> exact q2.elim
/-- e[::-1] -/
theorem erev {k : Nat} (he : PE X e (tL (gb X T) C W f)) : PE X (.Subscript e (.Slice none none (some (.UnaryOp .USub (.Constant (.int 1) k p1) p2)) p3) pos) (tE (gb X T) C W (d1 pRev f)) :=
  imp (pe_revL he) fun σ H Q ⟨F, ρ, p, I, q⟩ => by
    refine tG_mono (fun v H1 z => ?_) (tG_bind I q)
    obtain ⟨F1, d, p1, I1, e1, l1, q1⟩ := z
    cases d with
    | lst xs =>
      obtain ⟨a, ws, ea, h1, z, r1⟩ := l1.lst I1.fh
      subst ea
      refine ⟨a, ws, rfl, SqL.of h1, fun c hc => post_new q1 I1 hc fun F' sm eb => ?_⟩
      unfold Rep
      exact ⟨c, _, rfl, eb, by rw [List.length_reverse]; exact z, (Reps.mono sm _ _ r1).rev⟩
    | _ => exact q1.elim
/-- an expression that makes a thing of one's own -/
def tNw (G : Gb) (C : DC) (W : WX) (f : DE) : TE := fun σ H Q => tG G C W (fun F H' d (ob : Addr → HO) => ∀ a, H' a = none → Own G F (upd H' a (ob a)) a d) f σ H fun ob H' => ∀ a, H' a = none → Q (.ref a) (upd H' a (ob a))
/-- x = e -/
theorem sownn (i : Nat) {x : Str} {pos' : Pos} (hN : X.N.Nodup) (he : PE X e (tNw (gb X T) C W f)) (hp : C.ps ≠ i := by first | (dsimp only; decide) | decide) (hi : X.N[i]? = some x := by rfl) (hx : Loc X.env.scope x := by first | exact .inl rfl | exact .inr rfl)
    (hs : swapsWith e (some (.Name x pos')) pos.line X.env = pure false := by rfl) (hf : X.fn x = true ∨ X.env.scope.names.lookup x = some .local := by first | exact .inl rfl | exact .inr rfl) :
    PS X (.Assign [.Name x pos'] e pos) (tSS X T C W (sOwn i f)) := impS (ps_set hN hi hx he hs hf) fun D σ H ⟨F, ρ, p, I, q⟩ => by
  refine ⟨F, ρ, p, I, ?_⟩
  unfold sOwn runE at q
  cases z : f ρ p with
  | ok d p1 =>
    rw [z] at q
    intro ob F1 H1 I1 e1 r1 a n
    exact q _ F1 _ (I1.own hp n (r1 a n)) e1.ff
  | exc u p1 =>
    rw [z] at q
    exact fun cls dd F' H' I' e r => q cls dd σ F' H' I' e.ff r
  | err => rw [z] at q; exact q.elim
theorem nd0 : PE X (.Dict [] [] p0) (tNw (gb X T) C W (dC (.dct [] []))) := imp pe_dnewK fun σ H Q ⟨F, ρ, p, I, q⟩ => fun l n => q.now I (b := fun _ => HO.dK []) (fun a n => ⟨Nat.zero_le _, .inr ⟨[], upd_same, rfl, .nil⟩⟩) l n
/-- [..] * n -/
theorem nmul (ha : PE X e (tL (gb X T) C W f)) (hb : PE X e2 (tL (gb X T) C W g)) : PE X (.BinOp e .Mult e2 pos) (tNw (gb X T) C W (d2 pRepN f g)) :=
  imp (pe_op op_rep ha hb) fun σ H Q ⟨F, ρ, p, I, q⟩ => by
    refine tG_mono (fun v H1 z => ?_) (tG_bind I q)
    obtain ⟨F1, d, p1, I1, e1, l1, q1⟩ := z
    refine tG_mono (fun v2 H2 z => ?_) (tG_bind I1 q1)
    obtain ⟨F2, d2, p2, I2, e2, l2, q2⟩ := z
    cases d with
    | lst xs =>
      cases d2 with
      | int n =>
        unfold pRepN at q2
        by_cases hz : -1000000000 < n ∧ n < 1000000000 ∧ xs.length * n.toNat ≤ lim
        · simp only [hz, and_self, if_true] at q2
          obtain ⟨h1, h2, h3⟩ := hz
          obtain ⟨a, vs, e1, g1, z1, r1⟩ := (l1.ext e2).lst I2.fh
          have n1 := r1.length
          refine ⟨a, n, vs, e1, l2.int, g1, by omega, by omega, by rw [n1]; exact lim_line h3, fun l nl => ?_⟩
          exact q2.now I2 (b := fun _ => HO.lst _) (fun a n => ⟨_, upd_same, by rw [reps_len]; exact h3, reps_of r1 _⟩) l nl
        · simp only [hz, if_false] at q2
          exact q2.elim
      | _ => exact q2.elim
    | _ => exact q2.elim
/-- list(x) -/
theorem nlist (ha : PE X e (tL (gb X T) C W f)) (hm : X.mg "list" = none) (hg : Gl X "list" := by rfl) (he : starEach [e] X.env = (false, eval e X.env) :: starEach [] X.env := by rfl) :
    PE X (.Call (.Name "list" p0) [e] [] pos) (tNw (gb X T) C W (d1 pList f)) :=
  imp (pe_callTy call_list_of hg hm boot_list (pa_cons ha pa_nil he) (by decide) (by decide) he rfl) fun σ H Q ⟨F, ρ, p, I, q⟩ => by
    refine tG_mono (fun v H1 z => ?_) (tG_bind I q)
    obtain ⟨F1, d, p1, I1, e1, l1, q1⟩ := z
    cases d with
    | lst xs =>
      obtain ⟨a, ws, e, h1, z, r1⟩ := l1.lst I1.fh
      subst e
      exact ⟨a, ws, rfl, .inl (SqL.of h1), fun l n => q1.now I1 (b := fun _ => HO.lst ws) (fun a n => ⟨_, upd_same, z, r1⟩) l n⟩
    | tup xs =>
      obtain ⟨a, ws, e, h1, f1, z, r1⟩ := l1.tup I1.fh
      subst e
      exact ⟨a, ws, rfl, .inr (SqT.of h1), fun l n => q1.now I1 (b := fun _ => HO.lst ws) (fun a n => ⟨_, upd_same, z, r1⟩) l n⟩
    | _ => exact q1.elim
end
end DL
/-! DL28: range(a, b, -1). -/
namespace DL
set_option autoImplicit false
open PySem PySem.Spec L2 PyProof.Rows
def downD (hi : Int) : Nat → List D
  | 0 => []
  | n + 1 => .int hi :: downD (hi - 1) n
def itR3 (f g : DE) : DI := fun ρ => bindM (f ρ) fun x => bindM (g ρ) fun y => match x, y with
  | .int a, .int b => if (-1000000000 ≤ a ∧ a ≤ 1000000000) ∧ (-1000000000 ≤ b ∧ b ≤ 1000000000) ∧ a - b ≤ (lim : Int) then retM (downD a (a - b).toNat) else failM
  | _, _ => failM
theorem down_len : ∀ (hi : Int) (n : Nat), (downD hi n).length = n
  | _, 0 => rfl
  | hi, n + 1 => by rw [downD, List.length_cons, down_len]
theorem down_at : ∀ (hi : Int) (n i : Nat) (d : D), (downD hi n)[i]? = some d → i < n ∧ d = .int (hi + (i : Nat) * (-1))
  | hi, 0, i, d, h => by simp [downD] at h
  | hi, n + 1, 0, d, h => by
    simp [downD] at h
    exact ⟨by omega, by rw [← h]; simp⟩
  | hi, n + 1, i + 1, d, h => by
    rw [downD, List.getElem?_cons_succ] at h
    obtain ⟨h1, h2⟩ := down_at (hi - 1) n i d h
    refine ⟨by omega, ?_⟩
    rw [h2]
    congr 1
    omega
section
variable {X : Cx} {T : List (Addr × Str)} {C : DC} {W : WX} {F H : Hp} {σ : L2.St} {ρ : Env'} {p : Pot} {e e2 tg : Expr} {f g : DE} {G : Gb} {pos p0 p1 p2 : Pos} {j : Tok}
theorem y_rngC {lo : Int} {n : Nat} : Yields G C F (Itc lo (-1) n) (downD lo n) := by
  intro F1 H1 sm fh tb i
  refine ⟨fun d hd => ?_, fun hle => by rw [down_len] at hle; exact hle⟩
  obtain ⟨h1, h2⟩ := down_at _ _ _ _ hd
  refine ⟨h1, fun v H' hy => ?_⟩
  obtain ⟨e1, e2⟩ := hy
  subst e1 e2 h2
  exact ⟨F1, Ext.refl _ _, fh, by unfold Rep; rfl, fun p h => h⟩
theorem ir3 (he : PE X e (tE (gb X T) C W f)) (he2 : PE X e2 (tE (gb X T) C W g)) (hg : Gl X "range") (hm : X.mg "range" = none)
    (h3 : starEach [.UnaryOp .USub (.Constant (.int 1) j p1) p2] X.env = (false, eval (.UnaryOp .USub (.Constant (.int 1) j p1) p2) X.env) :: starEach [] X.env := by rfl)
    (h2 : starEach [e2, .UnaryOp .USub (.Constant (.int 1) j p1) p2] X.env = (false, eval e2 X.env) :: starEach [.UnaryOp .USub (.Constant (.int 1) j p1) p2] X.env := by rfl)
    (h1 : starEach [e, e2, .UnaryOp .USub (.Constant (.int 1) j p1) p2] X.env = (false, eval e X.env) :: starEach [e2, .UnaryOp .USub (.Constant (.int 1) j p1) p2] X.env := by rfl)
    (hpl : (backTo pos (starEach [e2, .UnaryOp .USub (.Constant (.int 1) j p1) p2] X.env)).any (·.1) = false := by rfl) :
    PI X tg (.Call (.Name "range" p0) [e, e2, .UnaryOp .USub (.Constant (.int 1) j p1) p2] [] pos) (tI (gb X T) C W (itR3 f g)) :=
  impI (pi_range3 hg hm (pa_cons he (pa_cons he2 (pa_cons (eneg (T := T) (C := C) (W := W) (ei (i := 1) (j := j) (pos := p1))) pa_nil h3) h2) h1) h1 hpl) fun σ H R ⟨F, ρ, p, I, q⟩ => by
    refine tG_mono (fun v H1 z => ?_) (tG_bind I q)
    obtain ⟨F1, d, p1, I1, e1, r1, q1⟩ := z
    refine tG_mono (fun v2 H2 z => ?_) (tG_bind I1 q1)
    obtain ⟨F2, d2, p2, I2, e2, r2, q2⟩ := z
    cases d with
    | int a =>
      cases d2 with
      | int b =>
        unfold Rep at r1 r2
        subst r1 r2
        dsimp only at q2
        by_cases hn : (-1000000000 ≤ a ∧ a ≤ 1000000000) ∧ (-1000000000 ≤ b ∧ b ≤ 1000000000) ∧ a - b ≤ (lim : Int)
        · rw [if_pos hn] at q2
          obtain ⟨⟨h1, h2⟩, ⟨h3, h4⟩, h5⟩ := hn
          have h5' : a - b ≤ 16777216 := h5
          refine ⟨F2, ρ, p2, I2, fun v3 F3 H3 I3 e3 r3 => ?_⟩
          unfold Rep at r3
          subst r3
          exact ⟨a, b, -1, (a - b).toNat, rfl, RgC.neg (by omega) (by omega) (by omega) (by omega), (q2.ext e3).now I3 ⟨y_rngC, by rw [down_len]; show _ ≤ 16777216; omega⟩⟩
        · rw [if_neg hn] at q2
          exact q2.elim
      | _ => exact q2.elim
    | _ => cases d2 <;> exact q2.elim
end
end DL
/-! DL29: dict(pairs). -/
namespace DL
set_option autoImplicit false
open PySem PySem.Spec L2 PyProof.Rows
def pairsD : List D → Option (List (D × D))
  | [] => some []
  | .tup [k, d] :: r => (pairsD r).map ((k, d) :: ·)
  | _ => none
def putOne (a : List D × List D) (p : D × D) : List D × List D := (putKs p.1 a.1, putVs p.1 p.2 a.1 a.2)
def pDict : D → Option D
  | .lst xs => (match pairsD xs with
    | some ps => if ((ps.all fun p => isTp p.1) || ps.all fun p => isSim p.1) = true then some (.dct (ps.foldl putOne ([], [])).1 (ps.foldl putOne ([], [])).2) else none
    | none => none)
  | _ => none
theorem pairsD_cons {x : D} {r : List D} {ps : List (D × D)} (h : pairsD (x :: r) = some ps) : ∃ k d qs, x = .tup [k, d] ∧ pairsD r = some qs ∧ ps = (k, d) :: qs := by
  unfold pairsD at h
  split at h
  · rename_i heq
    cases heq
  · rename_i k d r2 heq
    injection heq with e1 e2
    subst e1 e2
    rw [Option.map_eq_some_iff] at h
    obtain ⟨qs, h1, h2⟩ := h
    exact ⟨k, d, qs, rfl, h1, h2.symm⟩
  · cases h
section
variable {G : Gb} {F : Hp}
/-- keys and values of a dict keyed by tuples -/
structure RT (G : Gb) (F : Hp) (ks ds : List D) (xs : List (NestedKey × Addr × V)) : Prop where
  n : toNKs ks = some (xs.map (·.1))
  k : Reps G F ks (xs.map fun x => .ref x.2.1)
  v : Reps G F ds (xs.map (·.2.2))
def storedX (ks : List D) (k : D) (xs : List (NestedKey × Addr × V)) (nk : NestedKey) (b : Addr) (v : V) : List (NestedKey × Addr × V) := if hasK k ks then xs.map (putV nk v) else xs ++ [(nk, b, v)]
theorem RT.put {ks ds : List D} {xs : List (NestedKey × Addr × V)} (h : RT G F ks ds xs) {k d : D} {nk : NestedKey} {b : Addr} {v : V} (hnk : toNK k = some nk) (rk : Rep G F k (.ref b)) (rd : Rep G F d v) : RT G F (putKs k ks) (putVs k d ks ds) (storedX ks k xs nk b v) := by
  unfold storedX putKs putVs
  by_cases q : hasK k ks = true
  · rw [if_pos q, if_pos q, if_pos q]
    refine ⟨?_, ?_, reps_setK hnk rd h.n h.v⟩
    · rw [h.n, List.map_map]
      congr 1
      exact List.map_congr_left fun x _ => ((putV_1 _ _ x).1).symm
    · rw [List.map_map]
      have : xs.map ((fun x : NestedKey × Addr × V => V.ref x.2.1) ∘ putV nk v) = xs.map fun x => V.ref x.2.1 := List.map_congr_left fun x _ => by
        show V.ref (putV _ _ x).2.1 = _
        rw [(putV_1 _ _ x).2]
      rw [this]
      exact h.k
  · rw [if_neg q, if_neg q, if_neg q]
    refine ⟨?_, ?_, ?_⟩
    · rw [List.map_append]
      exact nks_snoc hnk h.n
    · rw [List.map_append]
      exact h.k.app (.cons rk .nil)
    · rw [List.map_append]
      exact h.v.app (.cons rd .nil)
theorem paired_stored {ks ds : List D} {xs : List (NestedKey × Addr × V)} {ys : List (NestedKey × Addr × Value)} (h : RT G F ks ds xs) (pr : Paired PX xs ys) {k : D} {nk : NestedKey} (hnk : toNK k = some nk) (b : Addr) {v : V} {u : Value} (rv : RelV v u) : Paired PX (storedX ks k xs nk b v) (storedH ys nk b u) := by
  have e3 : toNKs ks = some (ys.map (·.1)) := by rw [← (vals_of_paired pr).2]; exact h.n
  have hh := has_t hnk e3
  unfold storedX storedH
  rw [hh]
  by_cases q : hasK k ks = true
  · rw [if_pos q, if_pos q]; exact paired_put rv pr
  · rw [if_neg q, if_neg q]; exact Paired.snoc pr ⟨rfl, rfl, rv⟩
end
section
variable {X : Cx} {T : List (Addr × Str)} {F H : Hp} {pins : List (Addr × Obj)} {σ : L2.St} {s : Shared}
/-- what the pairs are in the heap -/
structure PT (w : NestedKey × Addr × V) (u : NestedKey × Addr × Value) (t : Addr) (h : Heap) : Prop where
  e : PX w u
  p : PairAt h t (.ref u.2.1) u.2.2
theorem pairs_t (I : L2.Inv X pins σ H s) (fh : Same F H) : ∀ {xs : List D} {ps : List (D × D)} {vs : List V} {us : List Value}, pairsD xs = some ps → (ps.all fun p => isTp p.1) = true → Reps (gb X T) F xs vs → Vals vs us →
    ∃ (ts : List Addr) (ws : List (NestedKey × Addr × V)) (zs : List (NestedKey × Addr × Value)), us = ts.map Value.ref ∧ ts.length = zs.length ∧ Paired PX ws zs ∧ (∀ (j : Nat) (z : NestedKey × Addr × Value), zs[j]? = some z → ∃ t : Addr, ts[j]? = some t ∧ PairAt s.heap t (.ref z.2.1) z.2.2 ∧ (nestedKind X.prog X.w).is s.heap z.1 z.2.1) ∧
      ∀ (ks ds : List D) (xs : List (NestedKey × Addr × V)) (ys : List (NestedKey × Addr × Value)), RT (gb X T) F ks ds xs → Paired PX xs ys → ∃ xs', RT (gb X T) F (ps.foldl putOne (ks, ds)).1 (ps.foldl putOne (ks, ds)).2 xs' ∧ Paired PX xs' (storedAllH ys zs)
  | [], ps, vs, us, h, _, r, rv => by
    cases h
    unfold Reps at r
    subst r
    cases rv
    exact ⟨[], [], [], rfl, rfl, .nil, fun j z hz => (by simp at hz), fun ks ds xs ys h1 h2 => ⟨xs, h1, h2⟩⟩
  | x :: xs, ps, vs, us, h, ht, r, rv => by
    obtain ⟨k, d, qs, e1, h1, e2⟩ := pairsD_cons h
    subst e1 e2
    rw [List.all_cons, Bool.and_eq_true] at ht
    obtain ⟨v, t, e3, r1, r2⟩ := r.uncons
    subst e3
    cases rv with
    | cons a b =>
      obtain ⟨ts, ws, zs, f1, f2, f3, f4, f5⟩ := pairs_t I fh h1 ht.2 r2 b
      unfold Rep at r1
      obtain ⟨pa, pv, g1, g2, g3, g4⟩ := r1
      obtain ⟨ky, t2, g5, g6, g7⟩ := g4.uncons
      obtain ⟨dv, t3, g8, g9, g10⟩ := g7.uncons
      unfold Reps at g10
      subst g1 g10 g8 g5
      cases (show _ = Value.ref pa from a)
      have hk := ht.1
      cases k with
      | tup l =>
        dsimp only at hk
        unfold isTp at hk
        rw [Bool.and_eq_true, Option.isSome_iff_exists] at hk
        obtain ⟨k3, m, k4⟩ := hk
        have hnk : toNK (.tup l) = some (.tup m) := by rw [toNK, k4]; rfl
        have g6' := g6
        unfold Rep at g6
        obtain ⟨b0, _, eb, _⟩ := g6
        subst eb
        obtain ⟨its, rvs, itup, _⟩ := I.tuple (SqT.of (fh _ _ g2))
        cases rvs with
        | cons q1 q2 =>
          cases q2 with
          | cons q3 q4 =>
            cases q4
            cases (show _ = Value.ref b0 from q1)
            rename_i dvv
            have hi := rep_nk I fh hnk g6' (u := .ref b0) rfl
            refine ⟨pa :: ts, (.tup m, b0, dv) :: ws, (.tup m, b0, dvv) :: zs, by rw [f1]; rfl, by rw [List.length_cons, List.length_cons, f2], .cons ⟨rfl, rfl, q3⟩ f3, fun j z hz => ?_, fun ks ds xs ys p1 p2 => ?_⟩
            · cases j with
              | zero =>
                rw [List.getElem?_cons_zero] at hz
                cases hz
                refine ⟨pa, rfl, .inl ?_, ⟨hi, nk_depth hnk k3⟩⟩
                obtain ⟨o, i1, i2, n, i3⟩ := itup
                exact ⟨o, i1, i2, n, i3⟩
              | succ j =>
                rw [List.getElem?_cons_succ] at hz
                obtain ⟨t, j1, j2⟩ := f4 j z hz
                exact ⟨t, by rw [List.getElem?_cons_succ]; exact j1, j2⟩
            · have st := p1.put hnk g6' g9 (d := d)
              have sp := paired_stored p1 p2 hnk b0 q3
              exact f5 _ _ _ _ st sp
      | _ => cases hk
/-- dict(xs), the keys tuples -/
theorem call_dictT {a : Addr} {xs : List D} {ps : List (D × D)} {vs : List V} {Q : VK} (hc : X.calm = true) (hu : X.A.units + 12 < cLine) (I : L2.Inv X pins σ H s) (fh : Same F H) (hx : H a = some (.lst vs)) (hl : xs.length ≤ lim) (r : Reps (gb X T) F xs vs) (h : pairsD xs = some ps) (ht : (ps.all fun p => isTp p.1) = true)
    (q : ∀ p xs', H p = none → RT (gb X T) F (ps.foldl putOne ([], [])).1 (ps.foldl putOne ([], [])).2 xs' → Q (.ref p) (upd H p (DTk X.prog X.w p xs'))) :
    wpAny (model X.prog X.w) X.A (call (.type "dict") [.ref a]) (EP X pins σ Q) X.xe s := by
  obtain ⟨its, rv, pl, hz⟩ := I.list (SqL.of hx)
  obtain ⟨ts, ws, zs, f1, f2, f3, f4, f5⟩ := pairs_t I fh h ht r rv
  obtain ⟨o, n, ho, hcl, hdt, hdat⟩ := pl
  have sz : its.toArray.size = zs.length := by rw [List.size_toArray, f1, List.length_map, f2]
  let qs : List (Value × Value) := zs.map fun z => (.ref z.2.1, z.2.2)
  have lq : qs.length = zs.length := List.length_map _
  have hzs : zs.length ≤ sizeLine := by
    rw [← sz, List.size_toArray, ← rv.length]
    exact hz
  have ok : PlainSeq "list" s.heap a its.toArray ∧ PairItems s.heap its.toArray (fun j => ts.getD j 0) qs := by
    refine ⟨⟨o, n, ho, hcl, hdt, hdat⟩, by rw [sz, lq], fun j k v e => ?_⟩
    rw [List.getElem?_map, Option.map_eq_some_iff] at e
    obtain ⟨z, e1, e2⟩ := e
    obtain ⟨t, e3, e4, e5⟩ := f4 j z e1
    cases e2
    have : ts.getD j 0 = t := by rw [List.getD_eq_getElem?_getD, e3]; rfl
    refine ⟨?_, by show PairAt s.heap (ts.getD j 0) _ _; rw [this]; exact e4⟩
    show its.toArray[j]? = some (.ref (ts.getD j 0))
    rw [f1, this]
    simp [e3]
  refine call_dict_pairsH (knd := nestedKind X.prog X.w) (ps := zs) (PairArg.list a its.toArray (fun j => ts.getD j 0) qs) (I.ok.hd hc) (by show X.A.units + 1 + 1 + 8 < cLine; omega) ok ⟨lq.symm, fun i key v hr => ?_⟩ (fun h' hk x hx => ?_) (by rw [lq]; exact hzs) fun h' tk hd' hk => ?_
  · have e : qs[i]? = some (key, v) := hr
    rw [List.getElem?_map, Option.map_eq_some_iff] at e
    obtain ⟨z, e1, e2⟩ := e
    cases e2
    exact ⟨z.1, z.2.1, e1, rfl⟩
  · obtain ⟨j, hj⟩ := List.getElem?_of_mem hx
    obtain ⟨t, _, _, e5⟩ := f4 j x hj
    exact nestedKind_stays.stays (fun b o vs n e _ => hk b o (Nat.ne_of_lt (Heap.lt_size e)) (by simp) e) e5
  · obtain ⟨xs', g1, g2⟩ := f5 [] [] [] [] ⟨rfl, .nil, .nil⟩ .nil
    have hm : (s.heap.objs.size == sysModules) = false := beq_eq_false_iff_ne.mpr (Nat.ne_of_gt I.big)
    have hn : H s.heap.objs.size = none := I.hok.fresh (Nat.le_refl _)
    exact ⟨.ref s.heap.objs.size, upd H s.heap.objs.size (DTk X.prog X.w s.heap.objs.size xs'), I.laid (t' := tk) (fun b o e => hk b o (by simp) e) (Nat.le_refl _) (dtk_new hm g2 hd'), rfl, q _ xs' hn g1⟩
theorem pairs_s (fh : Same F H) : ∀ {xs : List D} {ps : List (D × D)} {vs : List V}, pairsD xs = some ps → (ps.all fun p => isSim p.1) = true → Reps (gb X T) F xs vs →
    ∃ (as : List Addr) (kvs : List (Key × V)), vs = as.map V.ref ∧ Paired (fun p (kv : Key × V) => SqT X.K H p [kV kv.1, kv.2]) as kvs ∧
      ∀ (ks ds : List D) (acc : List (Key × V)), ks = acc.map (fun p => keyD p.1) → Reps (gb X T) F ds (acc.map (·.2)) → (ps.foldl putOne (ks, ds)).1 = (mergeK acc kvs).map (fun p => keyD p.1) ∧ Reps (gb X T) F (ps.foldl putOne (ks, ds)).2 ((mergeK acc kvs).map (·.2))
  | [], ps, vs, h, _, r => by
    cases h
    unfold Reps at r
    subst r
    exact ⟨[], [], rfl, .nil, fun ks ds acc h1 h2 => ⟨h1, h2⟩⟩
  | x :: xs, ps, vs, h, ht, r => by
    obtain ⟨k, d, qs, e1, h1, e2⟩ := pairsD_cons h
    subst e1 e2
    rw [List.all_cons, Bool.and_eq_true] at ht
    obtain ⟨v, t, e3, r1, r2⟩ := r.uncons
    subst e3
    obtain ⟨as, kvs, f1, f2, f3⟩ := pairs_s fh h1 ht.2 r2
    unfold Rep at r1
    obtain ⟨pa, pv, g1, g2, g3, g4⟩ := r1
    obtain ⟨ky, t2, g5, g6, g7⟩ := g4.uncons
    obtain ⟨dv, t3, g8, g9, g10⟩ := g7.uncons
    unfold Reps at g10
    subst g1 g10 g8 g5
    have hkey : ∃ key, k = keyD key ∧ ky = kV key := by
      have := ht.1
      cases k with
      | int i => exact ⟨.inl i, rfl, by unfold Rep at g6; exact g6⟩
      | str x => exact ⟨.inr x, rfl, by unfold Rep at g6; exact g6⟩
      | _ => cases this
    obtain ⟨key, ek, ey⟩ := hkey
    subst ek ey
    refine ⟨pa :: as, (key, dv) :: kvs, by rw [f1]; rfl, .cons (SqT.of (fh _ _ g2)) f2, fun ks ds acc p1 p2 => ?_⟩
    refine f3 _ _ (putK acc key dv) ?_ ?_
    · rw [putK_1, ← p1]
    · have := putK_2 (G := gb X T) (F := F) (d := d) (v := dv) key g9 p2
      rw [← p1] at this
      exact this
/-- what a new dict is -/
def DOb (G : Gb) (F : Hp) (p : Addr) (ob : HO) (ks ds : List D) : Prop := ks.length ≤ lim ∧ ((∃ xs, ob = DTk G.P G.w p xs ∧ toNKs ks = some (xs.map (·.1)) ∧ Reps G F ks (xs.map fun x => .ref x.2.1) ∧ Reps G F ds (xs.map (·.2.2))) ∨ (∃ kvs, ob = .dK kvs ∧ ks = kvs.map (fun p => keyD p.1) ∧ Reps G F ds (kvs.map (·.2))))
theorem put_len : ∀ (ps : List (D × D)) (a : List D × List D), (ps.foldl putOne a).1.length ≤ a.1.length + ps.length
  | [], a => Nat.le_refl _
  | p :: ps, a => by
    rw [List.foldl_cons, List.length_cons]
    have h1 := put_len ps (putOne a p)
    have h2 : (putOne a p).1.length ≤ a.1.length + 1 := putKs_len p.1 a.1
    omega
theorem pairs_len : ∀ {xs : List D} {ps : List (D × D)}, pairsD xs = some ps → ps.length = xs.length
  | [], _, h => by cases h; rfl
  | x :: xs, _, h => by
    obtain ⟨k, d, qs, _, h1, e⟩ := pairsD_cons h
    subst e
    rw [List.length_cons, List.length_cons, pairs_len h1]
theorem call_dictD {a : Addr} {xs : List D} {vs : List V} {ks ds : List D} {Q : VK} (hc : X.calm = true) (hu : X.A.units + 12 < cLine) (I : L2.Inv X pins σ H s) (fh : Same F H) (hx : H a = some (.lst vs)) (hl : xs.length ≤ lim) (r : Reps (gb X T) F xs vs) (h : pDict (.lst xs) = some (.dct ks ds))
    (q : ∀ p ob, H p = none → (∀ ps, ob ≠ .tbl ps) → DOb (gb X T) F p ob ks ds → Q (.ref p) (upd H p ob)) :
    wpAny (model X.prog X.w) X.A (call (.type "dict") [.ref a]) (EP X pins σ Q) X.xe s := by
  unfold pDict at h
  dsimp only at h
  cases hp : pairsD xs with
  | none => rw [hp] at h; cases h
  | some ps =>
    rw [hp] at h
    dsimp only at h
    split at h
    · rename_i hk
      cases h
      have hlen : (ps.foldl putOne ([], [])).1.length ≤ lim := by
        have := put_len ps ([], [])
        rw [pairs_len hp] at this
        have h2 : xs.length ≤ 16777216 := hl
        show _ ≤ 16777216
        have h3 : (([] : List D), ([] : List D)).1.length = 0 := rfl
        omega
      rw [Bool.or_eq_true] at hk
      rcases hk with hk | hk
      · exact call_dictT hc hu I fh hx hl r hp hk fun p xs' hn rt => q p _ hn (fun _ q => nomatch q) ⟨hlen, .inl ⟨xs', rfl, rt.n, rt.k, rt.v⟩⟩
      · obtain ⟨as, kvs, f1, f2, f3⟩ := pairs_s fh hp hk r
        obtain ⟨g1, g2⟩ := f3 [] [] [] rfl .nil
        subst f1
        exact call_dictP hc pins s σ H [.ref a] [.ref a] Q I (.cons rfl .nil) ⟨a, as, kvs, rfl, SqL.of hx, f2, fun p hn => q p _ hn (fun _ q => nomatch q) ⟨hlen, .inr ⟨_, rfl, g1, g2⟩⟩⟩
    · cases h
end
section
variable {X : Cx} {T : List (Addr × Str)} {C : DC} {W : WX} {F H : Hp} {σ : L2.St} {ρ : Env'} {p : Pot} {e : Expr} {f : DE} {pos p0 : Pos}
theorem pDict_dct {xs : List D} {d : D} (h : pDict (.lst xs) = some d) : ∃ ks ds, d = .dct ks ds := by
  unfold pDict at h
  dsimp only at h
  split at h
  · split at h
    · cases h
      exact ⟨_, _, rfl⟩
    · cases h
  · cases h
theorem c_dict (hc : X.calm = true) (hr : Room 0 X.A) : CallR X (.type "dict") (rL (gb X T) C W (o1 pDict)) := by
  intro pins s σ H vs us Q I r h
  obtain ⟨F, σ', ρ, p, ds, J, l, q⟩ := h
  obtain ⟨d, v, e, l1, q1⟩ := o1_inv l q
  subst e
  cases d with
  | lst xs =>
    obtain ⟨a, ws, e, h1, z, r1⟩ := l1.lst J.fh
    subst e
    rw [Vals.ref1 r]
    cases hq : pDict (.lst xs) with
    | none => rw [hq] at q1; exact q1.elim
    | some d =>
      rw [hq] at q1
      obtain ⟨ks, ds, e⟩ := pDict_dct hq
      subst e
      have un := hr.un
      refine thn (call_dictD (Q := fun x H' => ∃ p ob, x = .ref p ∧ H p = none ∧ H' = upd H p ob ∧ Mut (some ob) ∧ DOb (gb X T) F p ob ks ds) hc (by omega) I J.fh h1 z r1 hq fun p ob hn _ dob => ⟨p, ob, rfl, hn, rfl, ?_, dob⟩) fun v s1 ⟨x, H1, I1, r2, p, ob, ex, hn, eH, mu, dob⟩ => ?_
      · obtain ⟨_, ⟨xs', e1, _⟩ | ⟨kvs, e1, _⟩⟩ := dob <;> subst e1 <;> exact True.intro
      · subst ex eH
        obtain ⟨od, I2⟩ := I1.lock upd_same mu
        rw [upd_upd] at I2
        refine ⟨.ref p, _, I2, r2, post_new (o := .frz od ob) q1 J hn fun F' sm e => ?_⟩
        unfold Rep
        obtain ⟨hl, hd⟩ := dob
        refine ⟨p, rfl, hl, ?_⟩
        rcases hd with ⟨xs', e1, e2, e3, e4⟩ | ⟨kvs, e1, e2, e3⟩
        · subst e1
          exact .inl ⟨xs', ⟨od, e⟩, e2, Reps.mono sm _ _ e3, Reps.mono sm _ _ e4⟩
        · subst e1
          exact .inr ⟨kvs, ⟨od, e⟩, e2, Reps.mono sm _ _ e3⟩
  | _ => exact q1.elim
/-- dict(pairs), one's own -/
theorem ndict (ha : PE X e (tL (gb X T) C W f)) (hm : X.mg "dict" = none) (hc : X.calm = true) (hr : Room 0 X.A) (hg : Gl X "dict" := by rfl) (he : starEach [e] X.env = (false, eval e X.env) :: starEach [] X.env := by rfl) :
    PE X (.Call (.Name "dict" p0) [e] [] pos) (tNw (gb X T) C W (d1 pDict f)) := by
  have hcr : CallR X (.type "dict") (fun vs H Q => ∃ (F : Hp) (σ : L2.St) (ρ : Env') (p : Pot) (a : Addr) (xs : List D) (vs' : List V) (ks ds : List D), vs = [.ref a] ∧ DInv (gb X T) C F H σ ρ p ∧ H a = some (.lst vs') ∧ xs.length ≤ lim ∧ Reps (gb X T) F xs vs' ∧ pDict (.lst xs) = some (.dct ks ds) ∧ ∀ p ob, H p = none → DOb (gb X T) F p ob ks ds → Q (.ref p) (upd H p ob)) := by
    intro pins s σ H vs us Q I r h
    obtain ⟨F, σ', ρ, p, a, xs, vs', ks, ds, e, J, h1, h2, h3, h4, q⟩ := h
    subst e
    rw [Vals.ref1 r]
    have un := hr.un
    exact call_dictD hc (by omega) I J.fh h1 h2 h3 h4 fun p ob hn _ dob => q p ob hn dob
  refine imp (pe_callTy hcr hg hm (by decide +kernel) (pa_cons ha pa_nil he) (by decide) (by decide) he rfl) fun σ H Q ⟨F, ρ, p, I, q⟩ => ?_
  refine tG_mono (fun v H1 z => ?_) (tG_bind I q)
  obtain ⟨F1, d, p1, I1, e1, l1, q1⟩ := z
  cases d with
  | lst xs =>
    obtain ⟨a, ws, e, h1, z, r1⟩ := l1.lst I1.fh
    subst e
    cases hq : pDict (.lst xs) with
    | none => rw [hq] at q1; exact q1.elim
    | some d =>
      rw [hq] at q1
      obtain ⟨ks, ds, e⟩ := pDict_dct hq
      subst e
      refine ⟨F1, σ, ρ, p1, a, xs, ws, ks, ds, rfl, I1, h1, z, r1, hq, fun p ob hn dob => ?_⟩
      obtain ⟨hl, hd⟩ := dob
      rcases hd with ⟨xs', e1, e2, e3, e4⟩ | ⟨kvs, e1, e2, e3⟩
      · subst e1
        exact q1.now I1 (b := fun a => DTk (gb X T).P (gb X T).w a xs') (fun a n => ⟨hl, .inl ⟨xs', upd_same, e2, e3, e4⟩⟩) p hn
      · subst e1
        exact q1.now I1 (b := fun _ => HO.dK kvs) (fun a n => ⟨hl, .inr ⟨kvs, upd_same, e2, e3⟩⟩) p hn
  | _ => exact q1.elim
end
end DL
/-! DL30: for x in a dict. -/
namespace DL
set_option autoImplicit false
open PySem PySem.Spec L2 PyProof.Rows
/-- the keys of a locked dict keyed by tuples -/
def ItD (P : Program) (w : World) (d : Addr) (o : Obj) (xs : List (NestedKey × Addr × V)) : It :=
  ⟨fun i H => H d = some (.frz o (DTk P w d xs)) ∧ i < xs.length, fun i H x H' => H' = H ∧ ∃ y, xs[i]? = some y ∧ x = .ref y.2.1, fun i H => H d = some (.frz o (DTk P w d xs)) ∧ xs.length ≤ i⟩
section
variable {X : Cx} {pins : List (Addr × Obj)} {σ : L2.St} {H : Hp} {s : Shared} {d : Addr} {o : Obj} {xs : List (NestedKey × Addr × V)}
theorem frzD (I : L2.Inv X pins σ H s) (h : H d = some (.frz o (DTk X.prog X.w d xs))) : (d == sysModules) = false ∧ s.heap.get? d = some o ∧ o.ExactDict ∧ ∃ (es : Array DictEntry) (ep : Nat), o.data = .dict es ep ∧ es.size = xs.length ∧
    ∀ (i : Nat) (y : NestedKey × Addr × V), xs[i]? = some y → ∃ en : DictEntry, es[i]? = some en ∧ en.key = .ref y.2.1 := by
  obtain ⟨hg, ⟨hsys, ys, pr, o', es, ep, h1, h2, h3, h4, _⟩, _⟩ := I.hok d _ h
  rw [hg] at h1
  cases h1
  refine ⟨hsys, hg, h2, es, ep, h3, ?_, fun i y e => ?_⟩
  · have l1 : es.size = ys.length := size_of_entries h4
    have l2 : xs.length = ys.length := Paired.length pr
    omega
  · obtain ⟨z, hz, e1, e2, _⟩ := paired_get pr e
    have q := entry_at h4 i
    rw [hz] at q
    refine ⟨_, q, ?_⟩
    show Value.ref z.2.1 = .ref y.2.1
    rw [e2]
end
theorem turn_keysD {P : Program} {w : World} {K : PySem.W.Frag} {tg : Expr} {d : Addr} {o : Obj} {es : Array DictEntry} {ep : Nat} {xs : List (NestedKey × Addr × V)} (it : Addr) (hod : o.data = .dict es ep) : Turn P w K tg (ItD P w d o xs) [it] it (fun i h => h.IsKeyIter it d i xs.length ep) where
  mem := List.mem_singleton.mpr rfl
  obj := fun i h st b hb => by
    cases List.mem_singleton.mp hb
    obtain ⟨oi, q1, q2, q3⟩ := st
    exact ⟨oi, q1, fun v z => by rw [q3] at z; cases z⟩
  keep := fun i h h' st k => st.at fun oi e => k it (List.mem_singleton.mpr rfl) oi e
  item := fun X hP hw hK hc i pins s σ H E I hf st hg => by
    subst hP hw hK
    obtain ⟨hd, hi⟩ := id hg
    obtain ⟨w0, w1, w2, w3, w4, w5⟩ := hf it (List.mem_singleton.mpr rfl)
    obtain ⟨k1, k2, k3, es2, ep2, hdt, k4, k5⟩ := frzD I hd
    obtain ⟨z1, z2⟩ := dict_ep hod hdt
    subst z1 z2
    obtain ⟨en, hen, hkey⟩ := k5 i xs[i] (List.getElem?_eq_getElem hi)
    refine next_key_item st k2 hdt k4 hen fun h' st' sb => ?_
    have J : L2.Inv X pins σ H { s with heap := h' } := I.turned (t' := s.toks) (fun c oc hc e => (sb.2 c hc).trans e) w0 w1 w3 w4 w5
    obtain ⟨oi, q1, q2, q3⟩ := id st'
    exact ⟨en.key, rfl, go_of (s := { s with heap := h' }) q1 q2 q3 (by decide) ⟨.ref xs[i].2.1, H, J, hkey, ⟨rfl, xs[i], List.getElem?_eq_getElem hi, rfl⟩, st', fun b hb => (hf b hb).1⟩⟩
  done := fun X hP hw hK hc i pins s σ H E I hf st hg => by
    subst hP hw hK
    obtain ⟨hd, hi⟩ := id hg
    obtain ⟨w0, w1, w2, w3, w4, w5⟩ := hf it (List.mem_singleton.mpr rfl)
    obtain ⟨k1, k2, k3, es2, ep2, hdt, k4, k5⟩ := frzD I hd
    obtain ⟨z1, z2⟩ := dict_ep hod hdt
    subst z1 z2
    exact next_key_end (I.ok.hd hc) st k2 hdt k4 hi fun h2 eb => ⟨rfl, I.turned (t' := s.toks) (fun c oc hc e => eb c oc hc e) w0 w1 w3 w4 w5⟩
  self := fun A i s Q E st h => wpAny_pyIter_keyiter st h
def iKeysX (P : Program) (w : World) (td : TE) : TI := fun σ H R => td σ H fun x H1 => ∃ d o, x = .ref d ∧ ((∃ kvs, H1 d = some (.frz o (.dK kvs)) ∧ R (Itk d o kvs) H1) ∨ ∃ xs, H1 d = some (.frz o (DTk P w d xs)) ∧ R (ItD P w d o xs) H1)
section
variable {X : Cx} {T : List (Addr × Str)} {C : DC} {W : WX} {F H : Hp} {σ : L2.St} {ρ : Env'} {p : Pot} {tg e : Expr} {td : TE} {f : DE} {G : Gb}
theorem pi_keysX (he : PE X e td) : PI X tg e (iKeysX X.prog X.w td) := by
  refine ⟨fun pins s σ H R I h => ?_⟩
  refine thn (he.run pins s σ H _ I h) fun u s1 ⟨x, H1, I1, rx, d, o, ex, q⟩ => ?_
  subst ex
  obtain rfl : u = Value.ref d := rx
  rcases q with ⟨kvs, hd, q⟩ | ⟨xs, hd, q⟩
  · obtain ⟨hs, hgd, hx, es, ep, vs, hdt, hsz, kv, hm⟩ := I1.frzK hd
    refine iter_keys hs hgd hx hdt (pi_one (tk := s1.toks) I1 _ (turn_keys _ hdt) ⟨_, Heap.get?_push_size _ rfl, rfl, ?_⟩ q)
    rw [hsz]
    rfl
  · obtain ⟨hs, hgd, hx, es, ep, hdt, hsz, ent⟩ := frzD I1 hd
    refine iter_keys hs hgd hx hdt (pi_one (tk := s1.toks) I1 _ (turn_keysD _ hdt) ⟨_, Heap.get?_push_size _ rfl, rfl, ?_⟩ q)
    rw [hsz]
    rfl
theorem y_keysK {d : Addr} {o : Obj} {kvs : List (Key × V)} (h : F d = some (.frz o (.dK kvs))) : Yields G C F (Itk d o kvs) (kvs.map fun p => keyD p.1) := by
  intro F1 H1 sm fh tb i
  have hH := fh _ _ (sm _ _ h)
  refine ⟨fun dd hd => ?_, fun hle => ⟨hH, by rw [List.length_map] at hle; exact hle⟩⟩
  rw [List.getElem?_map, Option.map_eq_some_iff] at hd
  obtain ⟨p, h1, h2⟩ := hd
  refine ⟨⟨hH, (List.getElem?_eq_some_iff.mp h1).1⟩, fun v H' hy => ?_⟩
  obtain ⟨e1, k, w, e2, e3⟩ := hy
  rw [h1] at e2
  cases e2
  subst e1 e3 h2
  refine ⟨F1, Ext.refl _ _, fh, ?_, fun p h => h⟩
  cases k <;> (unfold keyD Rep; rfl)
theorem y_keysD {d : Addr} {o : Obj} {xs : List (NestedKey × Addr × V)} {ks : List D} (h : F d = some (.frz o (DTk G.P G.w d xs))) (r : Reps G F ks (xs.map fun x => .ref x.2.1)) : Yields G C F (ItD G.P G.w d o xs) ks := by
  intro F1 H1 sm fh tb i
  have hH := fh _ _ (sm _ _ h)
  have hl := r.length
  rw [List.length_map] at hl
  refine ⟨fun dd hd => ?_, fun hle => ⟨hH, by omega⟩⟩
  have hi : i < ks.length := (List.getElem?_eq_some_iff.mp hd).1
  refine ⟨⟨hH, by omega⟩, fun v H' hy => ?_⟩
  obtain ⟨e1, y, e2, e3⟩ := hy
  subst e1 e3
  obtain ⟨v2, g1, g2⟩ := reps_at r hd
  rw [List.getElem?_map, e2] at g1
  cases g1
  exact ⟨F1, Ext.refl _ _, fh, Rep.mono sm _ _ g2, fun p h => h⟩
/-- for x in a dict -/
theorem ik (he : PE X e (tE (gb X T) C W f)) : PI X tg e (tI (gb X T) C W (itK f)) := impI (pi_keysX he) fun σ H R ⟨F, ρ, p, I, q⟩ => by
  refine tG_mono (fun v H1 z => ?_) (tG_bind I q)
  obtain ⟨F1, d, p1, I1, e1, r1, q1⟩ := z
  cases d with
  | dct ks ds =>
    unfold Rep at r1
    obtain ⟨a, ea, hl, r⟩ := r1
    subst ea
    rcases r with ⟨xs, ⟨o, h1⟩, h2, h3, h4⟩ | ⟨kvs, ⟨o, h1⟩, h2, h3⟩
    · exact ⟨a, o, rfl, .inr ⟨xs, I1.fh _ _ h1, q1.now I1 ⟨y_keysD h1 h3, hl⟩⟩⟩
    · subst h2
      exact ⟨a, o, rfl, .inl ⟨kvs, I1.fh _ _ h1, q1.now I1 ⟨y_keysK h1, hl⟩⟩⟩
  | _ => exact q1.elim
end
end DL
/-! DL31: a thing of one's own is lent to a call whose result is no thing. -/
namespace DL
set_option autoImplicit false
open PySem PySem.Spec L2 PyProof.Rows
/-- in f the slot i is frozen; what comes is no thing -/
def dLend (i : Nat) (f : DE) : DE := fun ρ p => match nth ρ i with
  | .ow d => (match f (put ρ i (.fz d)) p with
    | .ok r p1 => if r.flat then .ok r p1 else .err
    | _ => .err)
  | _ => .err
section
variable {G : Gb} {C : DC} {F F1 H H1 : Hp} {σ : L2.St} {ρ : Env'} {p p1 : Pot} {i : Nat} {a : Addr} {d : D}
theorem Ext.unlend {T : List (Addr × Str)} {F2 H2 : Hp} {u : HO} (fr : F a = none) (hF : ∀ b, b ≠ a → F2 b = F b) (hH : H a = some u) (hH2 : ∀ b, b ≠ a → H2 b = H b) (h2 : H2 a = some u ∨ ∃ od, H2 a = some (.frz od u)) (e : Ext T none F2 H2 F1 H1) (hn : ∀ ps, u ≠ .tbl ps) (hT : LamX.Tabs T H → LamX.Tabs T (upd H1 a u)) : Ext T none F H F (upd H1 a u) := by
  refine ⟨Same.refl F, fun b t => rfl, fun b o q np nt => ?_, fun b t => ?_, hT, fun n => n⟩
  · by_cases z : b = a
    · subst z
      rw [upd_same]
      rw [hH] at q
      exact q
    · rw [upd_ne z]
      exact e.hh b o (by rw [hH2 b z]; exact q) np nt
  · by_cases z : b = a
    · subst z
      exact ⟨u, upd_same, hn⟩
    · obtain ⟨o, q1, q2⟩ := t
      exact ⟨o, by rw [upd_ne z]; exact e.hh b o (by rw [hH2 b z]; exact q1) (fun w => nomatch w) q2, q2⟩
end
section
variable {G : Gb} {C : DC} {F H F' H' : Hp} {σ : L2.St} {ρ : Env'} {p : Pot} {i : Nat} {a : Addr} {d d' : D} {o : HO}
theorem DInv.freeze' (I : DInv G C F H σ ρ p) {ls : List D} (hi : nth ρ i = .ow (.lst ls)) (ha0 : σ[i]? = some (some (.ref a))) : ∃ F', Same F F' ∧ DInv G C F' H σ (put ρ i (.fz (.lst ls))) p ∧ ∀ b, b ≠ a → F' b = F b := by
  have s := I.sl i
  rw [hi] at s
  obtain ⟨a', ha, fr, ow⟩ := s
  rw [ha0] at ha
  cases ha
  have ha := ha0
  have hlt : i < ρ.length := by
    rcases Nat.lt_or_ge i ρ.length with z | z
    · exact z
    · rw [nth_out ρ i z] at hi; cases hi
  obtain ⟨o, hH, ho⟩ := ow.there
  have fa := fr.f
  have sm : Same F (upd F a o) := fun b u q => by rw [upd_ne (ne_of_none q fa)]; exact q
  have hps : C.pa.isSome = true → C.ps ≠ i := fun h e => by
    obtain ⟨b, hb⟩ := Option.isSome_iff_exists.mp h
    have := (I.ps b hb).2
    rw [e, hi] at this
    cases this
  refine ⟨upd F a o, sm, ⟨⟨fun b u q => ?_, ⟨I.base.ff.trans sm, fun b t => ?_, I.base.hh, I.base.dm, I.base.tb, fun n => (I.base.nt n).upd ho⟩, fun b e => ?_, I.tb, I.nt.upd ho⟩, fun j => ?_, fun j k b hjk h1 h2 h3 => ?_, fun b e => ?_, by rw [put_length]; exact I.ln⟩, fun b nb => upd_ne nb⟩
  · by_cases e : b = a
    · rw [e, upd_same] at q; rw [e, hH, q]
    · rw [upd_ne e] at q; exact I.fh b u q
  · rw [upd_ne (fun e => fr.h0 (by rw [← e]; exact t))]; exact I.base.fr b t
  · obtain ⟨f, g, c, q1, q2⟩ := I.po b e
    exact ⟨by rw [upd_ne (fun z => fr.np (by rw [← z]; exact e))]; exact f, g, c, q1, sm _ _ q2⟩
  · by_cases e : j = i
    · subst e
      rw [nth_put_same ρ j _ hlt]
      refine ⟨.ref a, ha, ?_⟩
      obtain ⟨vs, h1, h2, h3⟩ := ow
      rw [hH] at h1
      cases h1
      unfold Rep
      exact ⟨a, vs, rfl, upd_same, h2, Reps.mono sm _ _ h3⟩
    · rw [nth_put_ne ρ i j _ e]
      have sj := I.sl j
      cases z : nth ρ j with
      | un => trivial
      | fz d2 => rw [z] at sj; obtain ⟨v, q1, q2⟩ := sj; exact ⟨v, q1, Rep.mono sm _ _ q2⟩
      | fn x => rw [z] at sj; exact sj
      | ow d2 =>
        rw [z] at sj
        obtain ⟨b, q1, q2, q3⟩ := sj
        have nb : b ≠ a := fun e' => by
          subst e'
          have := I.ds i j b (Ne.symm e) ha (by rw [hi]; rfl) q1
          rw [z] at this
          cases this
        refine ⟨b, q1, ⟨by rw [upd_ne nb]; exact q2.f, q2.h0, q2.np⟩, ?_⟩
        cases d2 with
        | lst ds =>
          obtain ⟨vs, h1, h2, h3⟩ := q3
          exact ⟨vs, h1, h2, Reps.mono sm _ _ h3⟩
        | dct ks ds =>
          obtain ⟨h0, ⟨xs, h1, h2, h3, h4⟩ | ⟨kvs, h1, h2, h3⟩⟩ := q3
          · exact ⟨h0, .inl ⟨xs, h1, h2, Reps.mono sm _ _ h3, Reps.mono sm _ _ h4⟩⟩
          · exact ⟨h0, .inr ⟨kvs, h1, h2, Reps.mono sm _ _ h3⟩⟩
        | _ => exact q3.elim
  · have ow_le : ∀ m, isOw (nth (put ρ i (.fz (.lst ls))) m) = true → isOw (nth ρ m) = true ∧ m ≠ i := fun m h => by
      by_cases e : m = i
      · rw [e, nth_put_same ρ i _ hlt] at h; cases h
      · rw [nth_put_ne ρ i m _ e] at h; exact ⟨h, e⟩
    obtain ⟨h2', hji⟩ := ow_le j h2
    have := I.ds j k b hjk h1 h2' h3
    by_cases e : k = i
    · rw [e, nth_put_same ρ i _ hlt]; rfl
    · rw [nth_put_ne ρ i k _ e]; exact this
  · obtain ⟨q1, q2⟩ := I.ps b e
    have hp : C.ps ≠ i := hps (by rw [e]; rfl)
    exact ⟨q1, by rw [nth_put_ne ρ i _ _ hp]; exact q2⟩
end
section
variable {X : Cx} {T : List (Addr × Str)} {C : DC} {W : WX} {F F' H H' : Hp} {σ : L2.St} {ρ : Env'} {p : Pot} {k : Nat} {e : Expr} {f : DE} {pos : Pos}
theorem Own.upd_same' {G : Gb} {F H H1 : Hp} {a : Addr} {d : D} {u : HO} (x : Own G F H a d) (h : H a = some u) : Own G F (upd H1 a u) a d := by
  cases d with
  | lst ds =>
    obtain ⟨vs, h1, r⟩ := x
    rw [h] at h1
    cases h1
    exact ⟨vs, upd_same, r⟩
  | dct ks ds =>
    obtain ⟨h0, ⟨xs, h1, r⟩ | ⟨kvs, h1, r⟩⟩ := x
    · rw [h] at h1
      cases h1
      exact ⟨h0, .inl ⟨xs, upd_same, r⟩⟩
    · rw [h] at h1
      cases h1
      exact ⟨h0, .inr ⟨kvs, upd_same, r⟩⟩
  | _ => exact x.elim
/-- an expression to which a dict of one's own is lent -/
theorem elend (i : Nat) (hpa : C.pa = none) (h : PE X e (tE (gb X T) C W f)) : PE X e (tE (gb X T) C W (dLend i f)) := by
  refine ⟨fun pins s σ H Q I w => ?_⟩
  obtain ⟨F, ρ, p, J, q⟩ := w
  have J0 := J
  obtain ⟨F0c, H0c, pac, psc⟩ := C
  cases hpa
  unfold dLend at q
  cases z : nth ρ i with
  | un => simp only [z] at q; exact q.elim
  | fz d => simp only [z] at q; exact q.elim
  | fn d => simp only [z] at q; exact q.elim
  | ow d =>
    simp only [z] at q
    have sl := J.sl i
    rw [z] at sl
    obtain ⟨a, ha, fr, ow⟩ := sl
    -- what is left to show once the call is back
    have fin : ∀ (u : HO) (F2 H2 : Hp), H a = some u → (∀ ps, u ≠ .tbl ps) → (∀ b, b ≠ a → F2 b = F b) → (∀ b, b ≠ a → H2 b = H b) → (H2 a = some u ∨ ∃ od, H2 a = some (.frz od u)) →
        ∀ (F1 H1 : Hp) (r : D) (x : V) (p1 : Pot), f (put ρ i (.fz d)) p = .ok r p1 → DInv (gb X T) ⟨F0c, H0c, none, psc⟩ F1 H1 σ (put ρ i (.fz d)) p1 → Ext T none F2 H2 F1 H1 → Rep (gb X T) F1 r x → (LamX.Tabs T H1 → LamX.Tabs T (upd H1 a u)) → Q x (upd H1 a u) := by
      intro u F2 H2 hH hn hF hH2 h2 F1 H1 r x p1 hf J1 ex rr hT
      rw [hf] at q
      dsimp only at q
      by_cases fl : r.flat = true
      · rw [if_pos fl] at q
        have sF : ∀ b o, F b = some o → b ≠ a := fun b o h e => by rw [e, fr.f] at h; cases h
        have e3 : Ext T none F H F (upd H1 a u) := Ext.unlend fr.f hF hH hH2 h2 ex hn (fun _ => hT J1.tb)
        have fh3 : Same F (upd H1 a u) := fun b o h => by
          have nb := sF b o h
          rw [upd_ne nb]
          exact J1.fh b o (ex.ff b o (by rw [hF b nb]; exact h))
        refine q x F (upd H1 a u) ⟨⟨fh3, ⟨J.base.ff, J.base.fr, fun b o h np nt => ?_, fun b t => ?_, fun t => hT (J1.base.tb t), J.base.nt⟩, potok_none, hT J1.tb, J.nt⟩, fun j => ?_, J.ds, J.ps, J.ln⟩ e3 (rr.flat fl)
        · rw [upd_ne (fun w => fr.h0 ⟨o, by rw [← w]; exact h, nt⟩)]
          exact J1.base.hh b o h np nt
        · by_cases w : b = a
          · rw [w]; exact ⟨u, upd_same, hn⟩
          · obtain ⟨o, q1, q2⟩ := J1.base.dm b t
            exact ⟨o, by rw [upd_ne w]; exact q1, q2⟩
        · by_cases w : j = i
          · subst w
            rw [z]
            exact ⟨a, ha, ⟨fr.f, fr.h0, fr.np⟩, ow.upd_same' hH⟩
          · have sj := J.sl j
            cases zj : nth ρ j with
            | un => trivial
            | fz d2 => rw [zj] at sj; exact sj
            | fn y => rw [zj] at sj; exact sj
            | ow d2 =>
              rw [zj] at sj
              obtain ⟨b, q1, q2, q3⟩ := sj
              have nb : b ≠ a := fun e' => by
                subst e'
                have := J.ds i j b (Ne.symm w) ha (by rw [z]; rfl) q1
                rw [zj] at this
                cases this
              exact ⟨b, q1, ⟨q2.f, q2.h0, q2.np⟩, q3.ext (C := ⟨F0c, H0c, none, psc⟩) (fun w => nomatch w) e3⟩
      · rw [if_neg fl] at q
        exact q.elim
    cases d with
    | dct ks ds =>
      obtain ⟨u, ob, es, ep, hH, mu, hn, hg, hd⟩ := own_dict I ow
      obtain ⟨od, I2⟩ := I.lock hH mu
      have J2 := J.freezeD z ha hH (fun _ _ z => nomatch z) od fun t => tabs_dict I t hH hn hg hd
      have fa := fr.f
      have key : tG (gb X T) ⟨F0c, H0c, none, psc⟩ W (fun F _ d v => Rep (gb X T) F d v) f σ (upd H a (.frz od u)) (fun x H1 => ∃ F1 r p1, f (put ρ i (.fz (.dct ks ds))) p = .ok r p1 ∧ DInv (gb X T) ⟨F0c, H0c, none, psc⟩ F1 H1 σ (put ρ i (.fz (.dct ks ds))) p1 ∧ Ext T none (upd F a (.frz od u)) (upd H a (.frz od u)) F1 H1 ∧ Rep (gb X T) F1 r x) := by
        refine ⟨_, _, p, J2, ?_⟩
        cases hf : f (put ρ i (.fz (.dct ks ds))) p with
        | ok r p1 => exact fun x F1 H1 J1 e r1 => ⟨F1, r, p1, rfl, J1, e, r1⟩
        | exc c p1 => rw [hf] at q; exact q.elim
        | err => rw [hf] at q; exact q.elim
      refine thn (h.run pins s σ _ _ I2 key) fun v s1 ⟨x, H1, I1, r, F1, r0, p1, hf, J1, ex, rr⟩ => ?_
      have h1 : H1 a = some (.frz od u) := ex.hh a _ upd_same (fun w => nomatch w) (fun _ w => nomatch w)
      refine ⟨x, upd H1 a u, I1.unlock h1 (I.nofrz hH mu), r, ?_⟩
      refine fin u _ _ hH hn (fun b nb => upd_ne nb) (fun b nb => upd_ne nb) (.inr ⟨od, upd_same⟩) F1 H1 r0 x p1 hf J1 ex rr fun t => ?_
      have hg1 : s1.heap.get? a = some od := (I1.hok a _ h1).1
      have hod : od = ob := by
        have := (I2.hok a _ upd_same).1
        rw [hg] at this
        exact (Option.some.inj this).symm
      exact tabs_dict I1 t h1 (fun _ w => nomatch w) hg1 (by rw [hod]; exact hd)
    | lst ls =>
      obtain ⟨o, hH, hn⟩ := ow.there
      obtain ⟨vs, hv, ll, rl⟩ := ow
      rw [hH] at hv
      cases hv
      have fa := fr.f
      have sm : Same F (upd F a (.lst vs)) := fun b u q => by rw [upd_ne (ne_of_none q fa)]; exact q
      obtain ⟨F2, J2, hF2⟩ : ∃ F2, DInv (gb X T) ⟨F0c, H0c, none, psc⟩ F2 H σ (put ρ i (.fz (.lst ls))) p ∧ ∀ b, b ≠ a → F2 b = F b := by
        obtain ⟨F2, _, J2, hx⟩ := J.freeze' z ha
        exact ⟨F2, J2, hx⟩
      have key : tG (gb X T) ⟨F0c, H0c, none, psc⟩ W (fun F _ d v => Rep (gb X T) F d v) f σ H (fun x H1 => ∃ F1 r p1, f (put ρ i (.fz (.lst ls))) p = .ok r p1 ∧ DInv (gb X T) ⟨F0c, H0c, none, psc⟩ F1 H1 σ (put ρ i (.fz (.lst ls))) p1 ∧ Ext T none F2 H F1 H1 ∧ Rep (gb X T) F1 r x) := by
        refine ⟨_, _, p, J2, ?_⟩
        cases hf : f (put ρ i (.fz (.lst ls))) p with
        | ok r p1 => exact fun x F1 H1 J1 e r1 => ⟨F1, r, p1, rfl, J1, e, r1⟩
        | exc c p1 => rw [hf] at q; exact q.elim
        | err => rw [hf] at q; exact q.elim
      refine thn (h.run pins s σ _ _ I key) fun v s1 ⟨x, H1, I1, r, F1, r0, p1, hf, J1, ex, rr⟩ => ?_
      have h1 : H1 a = some (.lst vs) := ex.hh a _ hH (fun w => nomatch w) (fun _ w => nomatch w)
      have hu : upd H1 a (.lst vs) = H1 := by
        funext b
        by_cases w : b = a
        · rw [w, upd_same, h1]
        · rw [upd_ne w]
      have := fin (.lst vs) _ _ hH hn hF2 (fun b _ => rfl) (.inl hH) F1 H1 r0 x p1 hf J1 ex rr (by rw [hu]; exact fun t => t)
      rw [hu] at this
      exact ⟨x, H1, I1, r, this⟩
    | _ => exact ow.elim
end
end DL
/-! DL32: a tuple times a number; the place in a list. -/
namespace DL
set_option autoImplicit false
open PySem PySem.Spec L2 PyProof.Rows
/-- (..) * k -/
def pMulT : D → D → Option D
  | .tup xs, .int k => if xs ≠ [] ∧ 2 ≤ k ∧ k ≤ 1000 ∧ xs.length ≤ 1000 then some (.tup (reps xs k.toNat)) else none
  | _, _ => none
/-- xs.index(d) -/
def placeD (d : D) : List D → Option Nat
  | [] => none
  | x :: xs => if D.eqv x d then some 0 else (placeD d xs).map (· + 1)
mutual
/-- no text, no dict in it -/
def D.clean : D → Bool
  | .non => true
  | .bl _ => true
  | .int _ => true
  | .tup xs => D.cleans xs
  | .lst xs => D.cleans xs
  | _ => false
def D.cleans : List D → Bool
  | [] => true
  | x :: xs => D.clean x && D.cleans xs
end
mutual
theorem clean_lay : ∀ d : D, d.clean = true → d.py.canLay0 = true
  | .non, _ => by simp [D.py, PyData.canLay0]
  | .bl _, _ => by simp [D.py, PyData.canLay0]
  | .int _, _ => by simp [D.py, PyData.canLay0]
  | .str _, h => by simp [D.clean] at h
  | .dct _ _, h => by simp [D.clean] at h
  | .tup xs, h => by
    rw [D.py, PyData.canLay0]
    exact cleans_lay xs (by simpa [D.clean] using h)
  | .lst xs, h => by
    rw [D.py, PyData.canLay0]
    exact cleans_lay xs (by simpa [D.clean] using h)
theorem cleans_lay : ∀ xs : List D, D.cleans xs = true → PyData.canLayAll0 (D.pys xs) = true
  | [], _ => by simp [D.pys, PyData.canLayAll0]
  | x :: xs, h => by
    rw [D.cleans, Bool.and_eq_true] at h
    rw [D.pys, PyData.canLayAll0, clean_lay x h.1, cleans_lay xs h.2]
    rfl
end
def pIndex : D → D → Option D
  | .lst xs, d => if (d.pl && D.plains 9 xs) && (d.clean && D.cleans xs) then (placeD d xs).map fun k => .int (k : Nat) else none
  | _, _ => none
def dIndex (f g : DE) : DE := fun ρ => bindM (f ρ) fun x => match x with
  | .lst xs => bindM (g ρ) fun d => liftM (pIndex (.lst xs) d)
  | _ => failM
section
variable {X : Cx} {T : List (Addr × Str)} {C : DC} {W : WX} {G : Gb} {F F' H H' : Hp} {σ : L2.St} {ρ : Env'} {p : Pot} {k : Nat} {e o : Expr} {f g : DE} {pos : Pos}
theorem o_mulT : OpR X (binaryOp .Mult) (rD (gb X T) C W pMulT) := by
  intro pins s σ H x y v u Q I rx ry h
  obtain ⟨F, σ', ρ, p, d1, d2, J, l1, l2, q⟩ := h
  cases d1 with
  | tup xs =>
    cases d2 with
    | int n =>
      unfold pMulT at q
      dsimp only at q
      by_cases hz : xs ≠ [] ∧ 2 ≤ n ∧ n ≤ 1000 ∧ xs.length ≤ 1000
      · rw [if_pos hz] at q
        obtain ⟨h1, h2, h3, h4⟩ := hz
        obtain ⟨a, vs, e1, q1, _, z1, r1⟩ := l1.tup J.fh
        have n1 := r1.length
        refine op_repT pins s σ H x y v u Q I rx ry ⟨a, n, vs, e1, l2.int, SqT.of q1, ?_, h2, h3, by omega, fun l nl => ?_⟩
        · intro e
          rw [e] at n1
          exact h1 (List.length_eq_zero_iff.mp n1.symm)
        refine post_new q J nl fun F' sm e => ?_
        unfold Rep
        refine ⟨l, _, rfl, e, ?_, Reps.mono sm _ _ (reps_of r1 _)⟩
        rw [reps_len]
        have : xs.length * n.toNat ≤ 1000 * 1000 := Nat.mul_le_mul h4 (by omega)
        show _ ≤ 16777216
        omega
      · rw [if_neg hz] at q
        exact q.elim
    | _ => exact q.elim
  | _ => exact q.elim
theorem placeD_at {d : D} : ∀ {xs : List D} {k : Nat}, placeD d xs = some k → ∃ z, xs[k]? = some z ∧ D.eqv z d = true ∧ ∀ (m : Nat) (z' : D), m < k → xs[m]? = some z' → D.eqv z' d = false
  | [], k, h => by cases h
  | x :: xs, k, h => by
    rw [placeD] at h
    cases q : D.eqv x d with
    | true =>
      rw [q, if_pos rfl] at h
      cases h
      exact ⟨x, rfl, q, fun m z' hm _ => absurd hm (Nat.not_lt_zero m)⟩
    | false =>
      rw [q, if_neg (by decide), Option.map_eq_some_iff] at h
      obtain ⟨j, h1, h2⟩ := h
      subst h2
      obtain ⟨z, a, b, c⟩ := placeD_at h1
      refine ⟨z, by rw [List.getElem?_cons_succ]; exact a, b, fun m z' hm hz => ?_⟩
      cases m with
      | zero =>
        rw [List.getElem?_cons_zero] at hz
        cases hz
        exact q
      | succ m =>
        rw [List.getElem?_cons_succ] at hz
        exact c m z' (by omega) hz
theorem pys_get : ∀ (xs : List D) (k : Nat), (D.pys xs)[k]? = (xs[k]?).map D.py
  | [], k => by simp [D.pys]
  | x :: xs, 0 => by rw [D.pys]; rfl
  | x :: xs, k + 1 => by rw [D.pys, List.getElem?_cons_succ, List.getElem?_cons_succ, pys_get xs k]
theorem exi {apos cpos : Pos} (hr : Room 0 X.A) (ho : PE X o (tL (gb X T) C W f)) (he : PE X e (tL (gb X T) C W g))
    (hbase : attributeBase o "index" X.env (eval o X.env) = eval o X.env := by rfl) (hfew : ((backTo cpos (starEach [e] X.env)).all (fun x => !x.1) && (backToKw cpos (keywordEach [] X.env)).all (fun x => x.1.isSome) && decide ([e].length + ([] : List Keyword).length + (if ([] : List Keyword).isEmpty then 0 else 1) < 30)) = true := by rfl)
    (hline : (apos.endLine == cpos.line) = true := by rfl) (hs : starEach [e] X.env = (false, eval e X.env) :: starEach [] X.env := by rfl) :
    PE X (.Call (.Attribute o "index" apos) [e] [] cpos) (tE (gb X T) C W (dIndex f g)) := by
  have un := hr.un
  refine imp (pe_bm PySem.F.plainAttrs_list PySem.F.slot_list_index PySem.F.type_list_index (mt_indexD (by omega)) ho (pa_cons he pa_nil hs) hbase hfew hline hs rfl) fun σ H Q ⟨F, ρ, p, I, q⟩ => ?_
  refine tG_mono (fun x H1 z => ?_) (tG_bind I q)
  obtain ⟨F1, d1, p1, I1, e1, l1, q1⟩ := z
  cases d1 with
  | lst xs =>
    obtain ⟨a, ws, ea, h1, z1, r1⟩ := l1.lst I1.fh
    subst ea
    refine ⟨.inl ⟨rfl, _, SqL.of h1⟩, ?_⟩
    refine tG_mono (fun y H2 z => ?_) (tG_bind I1 q1)
    obtain ⟨F2, d2, p2, I2, e2, l2, q2⟩ := z
    unfold pIndex at q2
    cases hp : ((d2.pl && D.plains 9 xs) && (d2.clean && D.cleans xs)) with
    | false => simp only [hp] at q2; exact q2.elim
    | true =>
      simp only [hp, if_true] at q2
      obtain ⟨p34, p56⟩ := Bool.and_eq_true_iff.mp hp
      obtain ⟨p3, p4⟩ := Bool.and_eq_true_iff.mp p34
      obtain ⟨p5, p6⟩ := Bool.and_eq_true_iff.mp p56
      cases hk : placeD d2 xs with
      | none => simp only [hk] at q2; exact q2.elim
      | some j =>
        simp only [hk, Option.map_some] at q2
        obtain ⟨z, g1, g2, g3⟩ := placeD_at hk
        have l1' := l1.ext e2
        have dx := l1'.dp (K := X.K) I2.fh (lst_plain p4)
        have dy := l2.dp (K := X.K) I2.fh p3
        rw [D.py] at dx
        have k1 := plain_py 10 (.lst xs) (lst_plain p4)
        have k2 := plain_py 9 d2 p3
        have c1 := clean_lay (.lst xs) (by simpa [D.clean] using p6)
        have c2 := clean_lay d2 p5
        rw [D.py] at k1 c1
        refine ⟨a, y, d2.py, D.pys xs, j, z.py, rfl, rfl, dx, dy, ?_, ?_, ?_, by rw [eqv_py]; exact g2, fun m z' hm hz => ?_, post.flat q2 I2 (by unfold Rep; rfl)⟩
        · exact Bool.and_eq_true_iff.mpr ⟨c1, decide_eq_true (by omega)⟩
        · exact Bool.and_eq_true_iff.mpr ⟨c2, decide_eq_true (by omega)⟩
        · rw [pys_get, g1]
          rfl
        · rw [pys_get, Option.map_eq_some_iff] at hz
          obtain ⟨w, hw, ew⟩ := hz
          subst ew
          rw [eqv_py]
          exact g3 m w hm hw
  | _ => exact q1.elim
end
end DL
/-! DL33: great numbers are multiplied. -/
namespace DL
set_option autoImplicit false
open PySem PySem.Spec L2 PyProof.Rows
def pMulW : D → D → Option D
  | .int a, .int b => if a.natAbs.log2 + b.natAbs.log2 < 1000000 then some (.int (a * b)) else none
  | _, _ => none
section
variable {X : Cx} {T : List (Addr × Str)} {C : DC} {W : WX}
theorem o_mulW : OpR X (binaryOp .Mult) (rD (gb X T) C W pMulW) := by
  intro pins s σ H x y v u Q I rx ry h
  obtain ⟨F, σ', ρ, p, d1, d2, J, l1, l2, q⟩ := h
  cases d1 with
  | int a =>
    cases d2 with
    | int b =>
      unfold pMulW at q
      dsimp only at q
      by_cases hz : a.natAbs.log2 + b.natAbs.log2 < 1000000
      · rw [if_pos hz] at q
        exact op_mulW pins s σ H x y v u Q I rx ry ⟨a, b, l1.int, l2.int, hz, post.flat q J (by unfold Rep; rfl)⟩
      · rw [if_neg hz] at q
        exact q.elim
    | _ => exact q.elim
  | _ => exact q.elim
end
theorem pMulW_ok {a b : Int} {m n : Nat} (ha : a.natAbs < 2 ^ m) (hb : b.natAbs < 2 ^ n) (h : m + n ≤ 900000) : pMulW (.int a) (.int b) = some (.int (a * b)) := by
  have h1 : a.natAbs.log2 ≤ m := by
    rcases Nat.eq_zero_or_pos a.natAbs with e | e
    · rw [e]; simp
    · exact Nat.le_of_lt ((Nat.log2_lt (by omega)).mpr ha)
  have h2 : b.natAbs.log2 ≤ n := by
    rcases Nat.eq_zero_or_pos b.natAbs with e | e
    · rw [e]; simp
    · exact Nat.le_of_lt ((Nat.log2_lt (by omega)).mpr hb)
  unfold pMulW
  dsimp only
  rw [if_pos (by omega)]
end DL
/-! DL34: sorted(set(t)), t a tuple of pairs of numbers. -/
namespace DL
set_option autoImplicit false
open PySem PySem.Spec L2 PyProof.Rows
abbrev obT (l : Addr) : Obj := { cls := .type "tuple_iterator", data := .fields #[.ref l, .int 0 0] }
section
variable {P : Program} {w : World} {A : Around} {E : Value → Shared → Prop} {s : Shared}
/-- the set at S holds these -/
def SetPairs (P : Program) (w : World) (s : Shared) (S : Addr) (ks : List (Addr × List Int)) (s2 : Shared) : Prop := ∃ h2 tk L es ep t, s2 = { s with heap := h2, toks := tk } ∧ SetTR P w h2 S L es ep t ∧ Got ks ks.length L ∧ ∀ b o, b ≠ S → s.heap.get? b = some o → h2.get? b = some o
theorem free_of {h : Heap} {b : Addr} (hb : h.objs.size ≤ b) : h.get? b = none := by
  cases q : h.get? b with
  | none => rfl
  | some o => exact absurd (Nat.lt_of_lt_of_le (Heap.lt_size q) hb) (Nat.lt_irrefl _)
theorem fillT {h0 : Heap} {l : Addr} {its : Array Value} {ks : List (Addr × List Int)} {R : Result → Shared → Prop} (hh : A.in1.handled = none) (hu : A.in1.units < cLine) (e0 : s.heap = h0.push (ob0 w)) (hl : h0.IsTuple l its) (hit : its.toList = ks.map fun p => Value.ref p.1) (hk : ∀ p ∈ ks, IsT P w h0 p.2 p.1) (hb : ks.length < 64)
    (hR : ∀ s2, SetPairs P w s h0.objs.size ks s2 → R (.ok (.ret .none)) s2) : codeAny (model P w) A (.builtin "set.update.loop" ⟨[.ref h0.objs.size, .ref s.heap.objs.size], []⟩) R { s with heap := s.heap.push (obT l) } := by
  have sz1 : s.heap.objs.size = h0.objs.size + 1 := by rw [e0]; exact Heap.size_push ..
  have lt2 : l < h0.objs.size := by
    obtain ⟨ol, q, _⟩ := hl
    exact Heap.lt_size q
  have hl1 : s.heap.IsTuple l its := by rw [e0]; exact hl.push _
  have hS : s.heap.get? h0.objs.size = some (ob0 w) := by rw [e0]; exact Heap.get?_push_size _ rfl
  have sz : its.size = ks.length := by
    have := congrArg List.length hit
    rwa [Array.length_toList, List.length_map] at this
  have val : ∀ (i : Nat) (v : Value), its[i]? = some v → ∃ p, ks[i]? = some p ∧ v = .ref p.1 := fun i v hv => by
    rw [← Array.getElem?_toList, hit, List.getElem?_map] at hv
    cases q : ks[i]? with
    | none => rw [q] at hv; cases hv
    | some p => rw [q] at hv; cases hv; exact ⟨p, rfl, rfl⟩
  have keep0 : ∀ b o, h0.get? b = some o → (s.heap.push (obT l)).get? b = some o := fun b o q => Heap.get?_push_of_some _ (by rw [e0]; exact Heap.get?_push_of_some _ q)
  have W := (Walks.tuple (prog := P) (w := w) hh s.heap.objs.size l (by rw [sz1]; exact Nat.ne_of_lt (Nat.lt_succ_of_lt lt2)) its).toS
  refine set_update_tups W h0.objs.size (by simp only [List.mem_cons, List.not_mem_nil, or_false, not_or]; exact ⟨by rw [sz1]; exact Nat.ne_of_lt (Nat.lt_succ_self _), Nat.ne_of_gt lt2⟩) ks sz hb val h0 hk (free_of (Nat.le_refl _)) (fun b q => free_of (by rw [List.mem_singleton.mp q, sz1]; exact Nat.le_succ _)) hu its.size 0 _ (by omega) (Nat.zero_le _) ⟨⟨obT l, Heap.get?_push_size _ rfl, rfl, rfl⟩, hl1.push _⟩ keep0 ⟨[], #[], 0, _, setTR_fresh (Heap.get?_push_of_some _ hS), Got.zero ks⟩ fun s2 L es ep t m r g kp => hR s2 ?_
  obtain ⟨h2, g2, d2, t2, o2⟩ := s2
  have eg : g2 = s.gens := m.gens
  have ed : d2 = s.drawn := m.drawn
  have eo : o2 = s.os := m.os
  subst eg ed eo
  rw [sz] at g
  refine ⟨h2, t2, L, es, ep, t, rfl, r, g, fun b o hb2 q => m.heap b o ?_ (Heap.get?_push_of_some _ q)⟩
  simp only [List.mem_cons, List.not_mem_nil, or_false, not_or]
  exact ⟨hb2, Nat.ne_of_lt (Heap.lt_size q)⟩
/-- set(t) -/
theorem call_setP {l : Addr} {its : Array Value} {ks : List (Addr × List Int)} {Q : Value → Shared → Prop} (hh : A.handled = none) (hu : A.units + 9 < cLine) (hl : s.heap.IsTuple l its) (hit : its.toList = ks.map fun p => Value.ref p.1) (hk : ∀ p ∈ ks, IsT P w s.heap p.2 p.1) (hb : ks.length < 64)
    (h : ∀ h2 tk L es ep t, SetTR P w h2 s.heap.objs.size L es ep t → Got ks ks.length L → (∀ b o, s.heap.get? b = some o → h2.get? b = some o) → Q (.ref s.heap.objs.size) { s with heap := h2, toks := tk }) : wpAny (model P w) A (call (.type "set") [.ref l]) Q E s := by
  obtain ⟨c0, tl, x1⟩ := F.called_set.mro
  have x2 := F.called_set.made
  have x3 := F.called_set.sub
  have x4 := F.called_set.notType
  have x5 := F.called_set.canCreate
  have x6 := F.typeCall_set_1 (.ref l)
  refine wpAny_call (codeAny_of_tree ?_)
  refine (show wpAny _ _ (callAny (.type "set") _) _ _ _ from wpAny_pure ⟨Code.quiet_builtin _ (by decide +kernel), codeAny_builtin F.entry_type_call ?_⟩)
  rw [Around.under_plain (weight_type_call_type "set" [.ref l] []) rfl]
  repeat (any_goals (first | assumption | wp_step))
  refine codeAny_mono (code_set_led1 (.ref l) (E := E) (Q₁ := fun ob s1 => ob = .ref s.heap.objs.size ∧ s1 = { s with heap := s.heap.push (ob0 w) }) ⟨rfl, rfl⟩) fun r s1 hr => ?_
  match r, hr with
  | .error e, hr => exact hr
  | .ok (.ret ob), hr =>
    obtain ⟨e1, e2⟩ := hr
    subst e1 e2
    have y1 : (s.heap.push (ob0 w)).get? s.heap.objs.size = some (ob0 w) := Heap.get?_push_size _ rfl
    have y2 : Shared.TypeIs { s with heap := s.heap.push (ob0 w) } (.ref s.heap.objs.size) "set" := ⟨_, y1, rfl⟩
    have y3 := F.called_set.init.lookup
    have y4 := F.called_set.init.bind (.ref s.heap.objs.size)
    repeat (any_goals (first | assumption | wp_step))
    refine codeAny_mono (codeAny_call_builtin (R := wants (fun r s2 => r = .none ∧ SetPairs P w { s with heap := s.heap.push (ob0 w) } s.heap.objs.size ks s2) E) F.called_set.init.plain F.entry_set_init (check_set_init_1 y2 ?_)) fun r2 s2 hr2 => ?_
    · obtain ⟨ol, z1, z2, nl, z3⟩ := id hl
      obtain ⟨q1, q2, q3, q4⟩ := ol
      simp only at z2 z3
      subst z2 z3
      have z4 : (s.heap.push (ob0 w)).get? l = some { cls := .type "tuple", dict := q2, data := .seq its nl, slots := q4 } := Heap.get?_push_of_some _ z1
      have z5 := F.sub_tuple_set
      have z6 := F.sub_tuple_frozenset
      have z7 : (Value.type "tuple" == Value.type "dict") = false := by decide
      have z8 : (s.heap.push (ob0 w)).IsTuple l its := ⟨_, z4, rfl, nl, rfl⟩
      have z9 : A.in1.in1.in1.handled = none := by simp [hh]
      have z10 : A.in1.in1.in1.units < cLine := by
        have e : A.in1.in1.in1.units = A.units + 3 := rfl
        omega
      unfold Builtin.«set.__init__» noKeywords Builtin.Frozenset.updateFrom
      generalize hPI : pyIter = PI
      wp_walk
      subst hPI
      refine wpAny_pyIter_tuple z8 (wpAny_bind (wpAny_runValue (fillT (s := { s with heap := s.heap.push (ob0 w) }) (h0 := s.heap) z9 z10 rfl hl hit hk hb fun s2 d => ?_)))
      refine (show wpAny _ _ _ _ _ _ from wpAny_pure (show wpAny _ _ (ret Value.none) _ _ _ from wpAny_pure ⟨rfl, d⟩))
    · match r2, hr2 with
      | .error e, hr2 => exact hr2
      | .ok (.ret r), hr2 =>
        obtain ⟨e1, h2, tk, L, es, ep, t, e2, d1, d2, d3⟩ := hr2
        subst e1 e2
        repeat (any_goals (first | assumption | wp_step))
        exact h _ _ _ _ _ _ d1 d2 fun b o e => d3 b o (Nat.ne_of_lt (Heap.lt_size e)) (Heap.get?_push_of_some _ e)
end
/-- set(t), t a tuple of tuples of ints -/
def rSetP (K : PySem.W.Frag) (P : Program) (w : World) : List V → Hp → VK → Prop := fun vs H Q => ∃ (l : Addr) (ks : List (Addr × List Int)), vs = [V.ref l] ∧ SqT K H l (ks.map fun p => V.ref p.1) ∧ (∀ p ∈ ks, SqT K H p.1 (p.2.map V.int)) ∧ ks.length < 64 ∧
  ∀ a L, H a = none → (∀ p ∈ L, p ∈ ks) → (∀ p ∈ ks, p.2 ∈ L.map (·.2)) → Q (.ref a) (upd H a (SetTO P w a L))
theorem cr_setP {X : Cx} (hc : X.calm = true) (hu : X.A.units + 64 < cLine) : CallR X (.type "set") (rSetP X.K X.prog X.w) := by
  intro pins s σ H xs us Q I r h
  obtain ⟨l, ks, rfl, hl, hk, hf, q⟩ := h
  rw [Vals.ref1 r]
  obtain ⟨its, rv, ⟨o, z1, z2, nl, z3⟩, hz⟩ := I.tuple hl
  refine call_setP (P := X.prog) (w := X.w) (ks := ks) (I.ok.hd hc) (by omega) ⟨o, z1, z2, nl, z3⟩ (by simpa using refs_of_vals rv) (fun p hp => I.isT (hk p hp)) hf fun h' tk L es ep t R g k => ?_
  exact ⟨.ref s.heap.objs.size, upd H s.heap.objs.size (SetTO X.prog X.w s.heap.objs.size L), I.laid (t' := tk) k (Nat.le_refl _) (setTO_new R.t0), rfl, q _ L (I.hok.fresh (Nat.le_refl _)) (fun p hp => List.mem_of_mem_take (g.sub p hp)) fun p hp => g.all p (by rw [List.take_length]; exact hp)⟩
/-! pairs -/
def pr2 : D → Option (Int × Int)
  | .tup [.int a, .int b] => if (0 ≤ a ∧ a < 1000) ∧ 0 ≤ b ∧ b < 1000 then some (a, b) else none
  | _ => none
def prs2 : List D → Option (List (Int × Int))
  | [] => some []
  | d :: ds => match pr2 d, prs2 ds with
    | some p, some ps => some (p :: ps)
    | _, _ => none
def cd2 (p : Int × Int) : Int := p.1 * 1000 + p.2
abbrev row2 (p : Int × Int) : List Int := [p.1, p.2]
abbrev un2 (c : Int) : Int × Int := (c / 1000, c % 1000)
def pSortSetT : D → Option D
  | .tup xs => match prs2 xs with
    | some ps => if ps.length < 64 then some (.lst ((uniqS (ps.map cd2)).map fun c => .tup [.int (c / 1000), .int (c % 1000)])) else none
    | none => none
  | _ => none
structure In2 (p : Int × Int) : Prop where
  a0 : 0 ≤ p.1
  a1 : p.1 < 1000
  b0 : 0 ≤ p.2
  b1 : p.2 < 1000
theorem pr2_of {d : D} {p : Int × Int} (h : pr2 d = some p) : d = .tup [.int p.1, .int p.2] ∧ In2 p := by
  unfold pr2 at h
  split at h
  · split at h
    · rename_i q
      cases h
      exact ⟨rfl, q.1.1, q.1.2, q.2.1, q.2.2⟩
    · cases h
  · cases h
theorem un_cd {p : Int × Int} (h : In2 p) : un2 (cd2 p) = p := by
  obtain ⟨a, b⟩ := p
  obtain ⟨h1, h2, h3, h4⟩ := h
  show ((a * 1000 + b) / 1000, (a * 1000 + b) % 1000) = (a, b)
  simp only at h1 h2 h3 h4
  congr 1 <;> omega
theorem code_cd (p : Int × Int) : TS.code 1000 (row2 p) = cd2 p := by
  show p.1 * 1000 ^ 1 + (p.2 * 1000 ^ 0 + 0) = p.1 * 1000 + p.2
  omega
theorem prs_all : ∀ {xs : List D} {ps : List (Int × Int)}, prs2 xs = some ps → ∀ p ∈ ps, In2 p
  | [], ps, h => by cases h; intro p hp; cases hp
  | d :: ds, ps, h => by
    unfold prs2 at h
    split at h
    · rename_i p qs h1 h2
      cases h
      intro q hq
      rcases List.mem_cons.mp hq with e | e
      · rw [e]; exact (pr2_of h1).2
      · exact prs_all h2 q e
    · cases h
theorem reps_prs {G : Gb} {F : Hp} : ∀ {xs : List D} {ps : List (Int × Int)} {us : List V}, prs2 xs = some ps → Reps G F xs us → ∃ ks : List (Addr × List Int), us = ks.map (fun p => V.ref p.1) ∧ ks.map (·.2) = ps.map row2 ∧ ∀ p ∈ ks, F p.1 = some (.tup (p.2.map V.int))
  | [], ps, us, h, r => by
    cases h
    unfold Reps at r
    exact ⟨[], r, rfl, fun p hp => by cases hp⟩
  | d :: ds, ps, us, h, r => by
    unfold prs2 at h
    split at h
    · rename_i p qs h1 h2
      cases h
      obtain ⟨v, t, e, r1, r2⟩ := r.uncons
      obtain ⟨ks, k1, k2, k3⟩ := reps_prs h2 r2
      obtain ⟨e1, _⟩ := pr2_of h1
      subst e1
      unfold Rep at r1
      obtain ⟨a, vs, ea, hf, _, r3⟩ := r1
      obtain ⟨v1, t1, e3, r4, r5⟩ := r3.uncons
      obtain ⟨v2, t2, e4, r6, r7⟩ := r5.uncons
      unfold Rep at r4 r6
      unfold Reps at r7
      subst r7 r4 r6
      subst e4
      subst e3
      refine ⟨(a, row2 p) :: ks, by rw [e, ea, k1]; rfl, by rw [List.map_cons, List.map_cons, k2], fun q hq => ?_⟩
      rcases List.mem_cons.mp hq with e5 | e5
      · rw [e5]; exact hf
      · exact k3 q e5
    · cases h
/-- what is laid out in order -/
theorem sorted_is {ps : List (Int × Int)} (hp : ∀ p ∈ ps, In2 p) {L' : List (Addr × List Int)} (hin : ∀ q ∈ L', q.2 ∈ ps.map row2) (hall : ∀ p ∈ ps, row2 p ∈ L'.map (·.2)) (nd : (L'.map (·.2)).Nodup) (pw : L'.Pairwise fun q r => TS.code 1000 q.2 ≤ TS.code 1000 r.2) : L'.map (·.2) = (uniqS (ps.map cd2)).map fun c => row2 (un2 c) := by
  have at_ : ∀ q ∈ L', ∃ p ∈ ps, q.2 = row2 p := fun q hq => by
    obtain ⟨p, h1, h2⟩ := List.mem_map.mp (hin q hq)
    exact ⟨p, h1, h2.symm⟩
  have e : L'.map (fun q => TS.code 1000 q.2) = uniqS (ps.map cd2) := by
    refine pw_same ?_ (pw_uniqS _) fun k => ?_
    · rw [List.pairwise_map]
      have nd2 : L'.Pairwise fun q r => q.2 ≠ r.2 := List.pairwise_map.mp nd
      refine List.Pairwise.imp_of_mem (fun {q r} hq hr h => ?_) (pw.and nd2)
      obtain ⟨p, p1, p2⟩ := at_ q hq
      obtain ⟨p', p3, p4⟩ := at_ r hr
      refine Int.lt_iff_le_and_ne.mpr ⟨h.1, fun hc => h.2 ?_⟩
      rw [p2, p4, code_cd, code_cd] at hc
      have := congrArg un2 hc
      rw [un_cd (hp _ p1), un_cd (hp _ p3)] at this
      rw [p2, p4, this]
    · rw [mem_uniqS, List.mem_map, List.mem_map]
      constructor
      · rintro ⟨q, hq, e⟩
        obtain ⟨p, p1, p2⟩ := at_ q hq
        rw [p2, code_cd] at e
        exact ⟨p, p1, e⟩
      · rintro ⟨p, hp1, e⟩
        obtain ⟨q, hq, e2⟩ := List.mem_map.mp (hall p hp1)
        exact ⟨q, hq, by rw [e2, code_cd, e]⟩
  rw [← e, List.map_map]
  refine List.map_congr_left fun q hq => ?_
  obtain ⟨p, p1, p2⟩ := at_ q hq
  show q.2 = row2 (un2 (TS.code 1000 q.2))
  rw [p2, code_cd, un_cd (hp _ p1)]
theorem rep_pr2 {G : Gb} {F : Hp} {a : Addr} (p : Int × Int) (h : F a = some (.tup [.int p.1, .int p.2])) : Rep G F (.tup [.int p.1, .int p.2]) (.ref a) := by
  unfold Rep
  refine ⟨a, _, rfl, h, by show (2 : Nat) ≤ lim; decide, ?_⟩
  exact Reps.cons (by unfold Rep; rfl) (Reps.cons (by unfold Rep; rfl) Reps.nil)
section
variable {X : Cx} {T : List (Addr × Str)} {C : DC} {W : WX} {F F' H H' : Hp} {σ : L2.St} {ρ : Env'} {p : Pot} {e : Expr} {f : DE} {pos : Pos}
/-- sorted(set(t)) -/
theorem esst {p0 p1 p2 : Pos} (ha : PE X e (tE (gb X T) C W f)) (hm : X.mg "sorted" = none) (hm2 : X.mg "set" = none) (hc : X.calm = true) (hr : Room 0 X.A) (hg : Gl X "sorted" := by rfl) (hg2 : Gl X "set" := by rfl)
    (he : starEach [.Call (.Name "set" p1) [e] [] p2] X.env = (false, eval (.Call (.Name "set" p1) [e] [] p2) X.env) :: starEach [] X.env := by rfl) (he2 : starEach [e] X.env = (false, eval e X.env) :: starEach [] X.env := by rfl) :
    PE X (.Call (.Name "sorted" p0) [.Call (.Name "set" p1) [e] [] p2] [] pos) (tE (gb X T) C W (d1 pSortSetT f)) :=
  imp (pe_callB (cr_sortedT hc) hg hm boot_sorted (pa_cons (pe_callTy (cr_setP hc (by have := hr.un; omega)) hg2 hm2 boot_set (pa_cons ha pa_nil he2) (by decide) (by decide) he2 rfl) pa_nil he) (by decide) (by decide) he rfl) fun σ H Q ⟨F, ρ, p, I, q⟩ => by
    refine tG_mono (fun x H1 z => ?_) (tG_bind I q)
    obtain ⟨F1, d, p1, I1, e1, r1, q1⟩ := z
    cases d with
    | tup xs =>
      unfold pSortSetT at q1
      dsimp only at q1
      cases hi : prs2 xs with
      | none => rw [hi] at q1; exact q1.elim
      | some ps =>
        rw [hi] at q1
        dsimp only at q1
        by_cases h64 : ps.length < 64
        · rw [if_pos h64] at q1
          unfold Rep at r1
          obtain ⟨a, vs, ea, h1, hl, r⟩ := r1
          obtain ⟨ks, k1, k2, k3⟩ := reps_prs hi r
          have hps := prs_all hi
          subst ea k1
          have kl : ks.length = ps.length := by
            have := congrArg List.length k2
            rwa [List.length_map, List.length_map] at this
          refine ⟨a, ks, rfl, SqT.of (I1.fh _ _ h1), fun p hp => SqT.of (I1.fh _ _ (k3 p hp)), by omega, fun b L hb hL1 hL2 => ?_⟩
          have I2 := I1.new (o := SetTO X.prog X.w b L) hb (by intro ps hp; cases hp)
          have x2 := ext_new (T := (gb X T).T) (pa := C.pa) (o := SetTO X.prog X.w b L) I1.fh hb (by intro ps hp; cases hp)
          have at_ : ∀ q ∈ L, ∃ p ∈ ps, q.2 = row2 p := fun q hq => by
            have : q.2 ∈ ks.map (·.2) := List.mem_map.mpr ⟨q, hL1 q hq, rfl⟩
            rw [k2] at this
            obtain ⟨p, h1, h2⟩ := List.mem_map.mp this
            exact ⟨p, h1, h2.symm⟩
          refine ⟨b, L, 2, 1000, rfl, upd_same, fun p hp => SqT.of (I2.fh _ _ (x2.ff _ _ (k3 p (hL1 p hp)))), by decide, fun q hq => ?_, fun L' c pm nd h64' pw hcn => ?_⟩
          · obtain ⟨p, p1, p2⟩ := at_ q hq
            rw [p2]
            have z := hps p p1
            refine ⟨rfl, fun m hm => ?_⟩
            rcases List.mem_cons.mp hm with e | e
            · rw [e]; exact ⟨z.a0, z.a1⟩
            · rw [List.mem_singleton.mp e]; exact ⟨z.b0, z.b1⟩
          · have hs := sorted_is hps (L' := L') (fun q hq => by
              obtain ⟨p, p1, p2⟩ := at_ q (pm.mem_iff.mp hq)
              exact List.mem_map.mpr ⟨p, p1, p2.symm⟩) (fun p hp => by
              have : row2 p ∈ ks.map (·.2) := by rw [k2]; exact List.mem_map.mpr ⟨p, hp, rfl⟩
              obtain ⟨k, hk1, hk2⟩ := List.mem_map.mp this
              rw [← hk2]
              exact (pm.map (·.2)).mem_iff.mpr (hL2 k hk1)) nd pw
            have hlen : (uniqS (ps.map cd2)).length = L'.length := by
              have := congrArg List.length hs
              rwa [List.length_map, List.length_map, eq_comm] at this
            refine post_new (post.ext x2 q1) I2 hcn fun F3 sm e3 => ?_
            unfold Rep
            refine ⟨c, _, rfl, e3, by rw [List.length_map, hlen]; show _ ≤ 16777216; omega, ?_⟩
            have hF : ∀ q ∈ L', F3 q.1 = some (.tup (q.2.map V.int)) := fun q hq => sm _ _ (x2.ff _ _ (k3 q (hL1 q (pm.mem_iff.mp hq))))
            clear e3 hlen nd pw pm h64' q1
            generalize uniqS (ps.map cd2) = cs at hs
            induction L' generalizing cs with
            | nil =>
              cases cs with
              | nil => exact Reps.nil
              | cons c cs => cases hs
            | cons q L' ih =>
              cases cs with
              | nil => cases hs
              | cons c cs =>
                rw [List.map_cons, List.map_cons] at hs
                injection hs with hs1 hs2
                rw [List.map_cons, List.map_cons]
                refine Reps.cons (rep_pr2 (un2 c) ?_) (ih (fun r hr => hF r (List.mem_cons_of_mem _ hr)) cs hs2)
                have := hF q List.mem_cons_self
                rw [hs1] at this
                exact this
        · rw [if_neg h64] at q1; exact q1.elim
    | _ => exact q1.elim
end
end DL
/-! DL35: x >= y of any data that can be ordered. -/
namespace DL
set_option autoImplicit false
open PySem PySem.Spec L2 PyProof.Rows
def pGeX (x y : D) : Option D := if x.alike y && x.pl && y.pl && !x.eqv .non then some (.bl (!x.lt y)) else none
section
variable {X : Cx} {T : List (Addr × Str)} {C : DC} {W : WX}
theorem o_geX (hr : Room 0 X.A) : OpR X (compareOp .GtE) (rD (gb X T) C W pGeX) := by
  intro pins s σ H x y v u Q I rx ry h
  obtain ⟨F, σ', ρ, p, d1, d2, J, l1, l2, q⟩ := h
  unfold pGeX at q
  by_cases hc : (d1.alike d2 && d1.pl && d2.pl && !d1.eqv .non) = true
  · rw [if_pos hc] at q
    simp only [Bool.and_eq_true, Bool.not_eq_true'] at hc
    obtain ⟨⟨⟨h0, h1⟩, h2⟩, h3⟩ := hc
    obtain ⟨as, ra⟩ := l1.reads I J.fh h1 rx
    obtain ⟨bs, rb⟩ := l2.reads I J.fh h2 ry
    have k1 := plain_py _ _ h1
    have k2 := plain_py _ _ h2
    have un := hr.un
    refine PySem.W.ge_data ra rb (by rw [alike_py]; exact h0) (fun e => ?_) (by omega) ⟨.bl _, H, I, rfl, ?_⟩
    · rw [← eqv_py, e, D.py] at h3
      cases h3
    · rw [lt_py _ _ h0]
      exact post.flat q J (by unfold Rep; rfl)
  · rw [if_neg hc] at q
    exact q.elim
end
end DL
/-! DLF: denotations of the defs that several laws share. -/
namespace DL
set_option autoImplicit false
open PySem
def s__law_draw : DS := sSeq (sIf (d2 pLt (dV 1) (dC (.int 2))) (sSeq (sRet (dC (.int 0))) (sPass)) (sPass)) (sSeq (sIf (d2 pGt (dPk 3) (dC (.int 0))) (sSeq (sSet 2 (d2 pMod (dB (o1 pInt) [dPk 3]) (dV 1))) (sSeq (sPk 3 (d2 pDiv (dPk 3) (dV 1))) (sSeq (sRet (dV 2)) (sPass)))) (sPass)) (sSeq (sSet 3 (dC (.int 0))) (sSeq (sIf (d2 pLt (dPk 1) (dB (o1 pLen) [dP0])) (sSeq (sSet 3 (d2 pIdx (dP0) (dPk 1))) (sSeq (sPk 1 (d2 pAdd (dPk 1) (dC (.int 1)))) (sSeq (sIf (d2 pGe (dV 3) (d2 pPow (dC (.int 10)) (dC (.int 18)))) (sSeq (sPk 3 (d2 pDiv (dV 3) (dV 1))) (sSeq (sRet (d2 pMod (dB (o1 pInt) [dV 3]) (dV 1))) (sPass))) (sPass)) (sPass)))) (sPass)) (sSeq (sPk 2 (d2 pMod (dB (o1 pInt) [d2 pAdd (d2 pAdd (d2 pMul (dPk 2) (dC (.int 48271))) (dV 3)) (dC (.int 12345))]) (dC (.int 2147483647)))) (sSeq (sRet (d2 pMod (dB (o1 pInt) [d2 pAdd (d2 pDiv (d2 pMul (dPk 2) (dPk 2)) (dC (.int 64))) (d2 pDiv (dPk 2) (dC (.int 7)))]) (dV 1))) (sPass))))))
def g__law_draw : List D → M D := dDefP 4 s__law_draw
def s__law_pick : DS := sSeq (sRet (d2 pIdx (dV 1) (dCallP g__law_draw [dB (o1 pLen) [dV 1]]))) (sPass)
def g__law_pick : List D → M D := dDefP 2 s__law_pick
def s__law_same (g : List D → M D) : DS := sSeq (sIf (dOr (dIsi .tuple (dV 1)) (dIsi .list (dV 1))) (sSeq (sIf (dOr (d2 pNe (dIsi .tuple (dV 1)) (dIsi .tuple (dV 0))) (d2 pNe (dIsi .list (dV 1)) (dIsi .list (dV 0)))) (sSeq (sRet (dC (.bl false))) (sPass)) (sPass)) (sSeq (sIf (d2 pNe (dB (o1 pLen) [dV 0]) (dB (o1 pLen) [dV 1])) (sSeq (sRet (dC (.bl false))) (sPass)) (sPass)) (sSeq (sRet (d2 pEq (dCmp (itR1 (dB (o1 pLen) [dV 1])) (.nm 2) (some (dNot (dCall g [d2 pIdx (dV 0) (dV 2), d2 pIdx (dV 1) (dV 2)]))) (dV 2) [2]) (dLst []))) (sPass)))) (sPass)) (sSeq (sIf (d2 pIs (dV 1) (dC .non)) (sSeq (sRet (d2 pIs (dV 0) (dC .non))) (sPass)) (sPass)) (sSeq (sIf (dIsi .str (dV 1)) (sSeq (sRet (dAnd (dIsi .str (dV 0)) (d2 pEq (dV 0) (dV 1)))) (sPass)) (sPass)) (sSeq (sRet (dAnd (dIsi .int (dV 0)) (dAnd (d2 pEq (dIsi .bool (dV 0)) (dIsi .bool (dV 1))) (d2 pEq (dV 0) (dV 1))))) (sPass))))
def g__law_same : Nat → List D → M D
  | 0 => fun _ => failM
  | n + 1 => dDef 3 (s__law_same (g__law_same n))
def s__law_odd : DS := sSeq (sIf (dIsi .int (dV 1)) (sSeq (sRet (dCallP g__law_pick [dLst [d2 pAdd (dV 1) (dC (.int 1)), d2 pSub (dV 1) (dC (.int 1)), dC (.int 10), d1 pNeg (dC (.int 10)), dC (.int 100), dC (.bl true), dC .non, dB (o1 pStr) [dV 1], dTup [dV 1]]])) (sPass)) (sPass)) (sSeq (sIf (dIsi .str (dV 1)) (sSeq (sRet (dCallP g__law_pick [dLst [d2 pAdd (dV 1) (dC (.str "a")), dSl (dV 1) (anIx (dC (.int 1))) noIx, dC (.str ""), dC (.str "A"), dC (.int 0), dC .non, dTup [dV 1], dLst [dV 1], dC (.str "abcdefghi")]])) (sPass)) (sPass)) (sSeq (sIf (dIsi .tuple (dV 1)) (sSeq (sSet 2 (dLst [d2 pAdd (dV 1) (dSl (dV 1) (anIx (d1 pNeg (dC (.int 1)))) noIx), dSl (dV 1) (anIx (dC (.int 1))) noIx, dB (o1 pList) [dV 1], dTup [], dC .non, dC (.int 3), dC (.str "x"), dTup [dV 1], dSl (dV 1) noIx (anIx (d1 pNeg (dC (.int 1)))), d2 pAdd (dV 1) (dTup [dC (.int 1)])])) (sSeq (sRet (dCallP g__law_pick [dV 2])) (sPass))) (sPass)) (sSeq (sRet (dCallP g__law_pick [dLst [dC .non, dC (.int 0), dC (.str "ab"), dC (.dct [] []), dC (.bl true)]])) (sPass))))
def g__law_odd : List D → M D := dDefP 3 s__law_odd
def s_is_number : DS := sSeq (sRet (dAnd (dIsi .int (dV 0)) (dAnd (dNot (dIsi .bool (dV 0))) (dChain pLe pLe (dV 1) (dV 0) (dV 2))))) (sPass)
def g_is_number : List D → M D := dDef 3 s_is_number
def s_is_row : DS := sSeq (sIf (dOr (dNot (dIsi .tuple (dV 0))) (dNot (dChain pLe pLe (dV 1) (dB (o1 pLen) [dV 0]) (dV 2)))) (sSeq (sRet (dC (.bl false))) (sPass)) (sPass)) (sSeq (sRet (dB (o1 pAll) [dCmp (itV (dV 0)) (.nm 5) none (dCall g_is_number [dV 5, dV 3, dV 4]) [5]])) (sPass))
def g_is_row : List D → M D := dDef 6 s_is_row
def s_do_rise : DS := sSeq (sRet (dB (o1 pAll) [dCmp (itR1 (d2 pSub (dB (o1 pLen) [dV 0]) (dC (.int 1)))) (.nm 1) none (d2 pLt (d2 pIdx (dV 0) (dV 1)) (d2 pIdx (dV 0) (d2 pAdd (dV 1) (dC (.int 1))))) [1]])) (sPass)
def g_do_rise : List D → M D := dDef 2 s_do_rise
def s_is_ascending : DS := sSeq (sRet (dAnd (dCall g_is_row [dV 0, dC (.int 0), d2 pAdd (d2 pSub (dV 2) (dV 1)) (dC (.int 1)), dV 1, dV 2]) (dCall g_do_rise [dV 0]))) (sPass)
def g_is_ascending : List D → M D := dDef 3 s_is_ascending
def s_is_sizes : DS := sSeq (sRet (dAnd (dCall g_is_ascending [dV 0, dC (.int 1), dC (.int 12)]) (d2 pGt (dB (o1 pLen) [dV 0]) (dC (.int 0))))) (sPass)
def g_is_sizes : List D → M D := dDef 1 s_is_sizes
def s_need_sizes : DS := sSeq (sIf (dNot (dCall g_is_number [dV 0, dC (.int 1), dV 2])) (sSeq (sRaise "BadNumber" ["value"] [dV 0]) (sPass)) (sPass)) (sSeq (sIf (dNot (dCall g_is_sizes [dV 1])) (sSeq (sRaise "NoSizes" [] []) (sPass)) (sPass)) (sPass))
def g_need_sizes : List D → M D := dDef 3 s_need_sizes
def s_is_course : DS := sSeq (sIf (dOr (dNot (dCall g_is_number [dV 0, dC (.int 1), dC (.int 12)])) (dOr (dNot (dCall g_is_sizes [dV 1])) (dNot (dCall g_is_row [dV 2, dC (.int 1), dV 0, dC (.int 1), dV 0])))) (sSeq (sRet (dC (.bl false))) (sPass)) (sPass)) (sSeq (sRet (dAnd (dB (o1 pAll) [dCmp (itV (dV 2)) (.nm 3) none (d2 pIn (dV 3) (dV 1)) [3]]) (d2 pEq (dB (o1 pSum) [dV 2]) (dV 0)))) (sPass))
def g_is_course : List D → M D := dDef 4 s_is_course
def b_all_courses_1 : DS := sSeq (sSet 6 (d2 pSub (dV 0) (dB (o1 pSum) [dV 5]))) (sSeq (sIf (d2 pEq (dV 6) (dC (.int 0))) (sSeq (sAppend 2 (dV 5)) (sPass)) (sSeq (sExtend 4 (dCmp (itV (dV 1)) (.nm 7) (some (d2 pLe (dV 7) (dV 6))) (d2 pAdd (dV 5) (dTup [dV 7])) [7])) (sPass))) (sSeq sPass (sKill [5, 6])))
def b_all_courses_2 : DS := sSeq (sOwn 4 (dLst [])) (sSeq (sSeq (sFor (itV (dV 3)) (.nm 5) (b_all_courses_1)) (sKill [5, 6])) (sSeq (sFz 4) (sSeq (sSet 3 (dV 4)) (sSeq sPass (sKill [4, 5, 6])))))
def s_all_courses : DS := sSeq (sOwn 2 (dLst [])) (sSeq (sSet 3 (dLst [dTup []])) (sSeq (whileGo (d2 pGt (dB (o1 pLen) [dV 3]) (dC (.int 0))) (b_all_courses_2) 200) (sSeq (sRet (dB (o1 pSorted) [dO 2])) (sPass))))
def g_all_courses : List D → M D := dDef 8 s_all_courses
def b_sums_1 : DS := sSeq (sIf (dB (o1 pAny) [dCmp (itV (dV 1)) (.nm 4) none (d2 pIn (d2 pSub (dV 3) (dV 4)) (dO 2)) [4]]) (sSeq (sAppend 2 (dV 3)) (sPass)) (sPass)) (sSeq sPass (sKill [3]))
def s_sums : DS := sSeq (sExpr (dCall g_need_sizes [dV 0, dV 1, dC (.int 12)])) (sSeq (sOwn 2 (dLst [dC (.int 0)])) (sSeq (sSeq (sFor (itR2 (dC (.int 1)) (d2 pAdd (dV 0) (dC (.int 1)))) (.nm 3) (b_sums_1)) (sKill [3])) (sSeq (sRet (dB (o1 pTuple) [dO 2])) (sPass))))
def g_sums : List D → M D := dDef 5 s_sums
def b_first_course_1 : DS := sSeq (sSet 2 (d2 pAdd (dV 2) (dB (o1 pTuple) [dSl (dCmp (itV (dV 1)) (.nm 5) (some (dAnd (d2 pLe (dV 5) (dV 3)) (d2 pIn (d2 pSub (dV 3) (dV 5)) (dV 4)))) (dV 5) [5]) noIx (anIx (dC (.int 1)))]))) (sSeq (sSet 3 (d2 pSub (dV 0) (dB (o1 pSum) [dV 2]))) (sPass))
def s_first_course : DS := sSeq (sSet 2 (dTup [])) (sSeq (sSet 3 (dV 0)) (sSeq (sSet 4 (dCall g_sums [dV 0, dV 1])) (sSeq (sIf (d2 pNotIn (dV 0) (dV 4)) (sSeq (sRet (dC .non)) (sPass)) (sPass)) (sSeq (whileGo (d2 pGt (dV 3) (dC (.int 0))) (b_first_course_1) 200) (sSeq (sRet (dV 2)) (sPass))))))
def g_first_course : List D → M D := dDef 6 s_first_course
def s__law_bent (g : List D → M D) : DS := sSeq (sIf (dAnd (dIsi2 .list .tuple (dV 1)) (dAnd (d2 pGt (dB (o1 pLen) [dV 1]) (dC (.int 0))) (dAnd (d2 pGt (dV 2) (dC (.int 0))) (d2 pGt (dCallP g__law_draw [dC (.int 5)]) (dC (.int 0)))))) (sSeq (sSet 3 (dCallP g__law_draw [dB (o1 pLen) [dV 1]])) (sSeq (sSet 4 (dCallP g [d2 pIdx (dV 1) (dV 3), d2 pSub (dV 2) (dC (.int 1))])) (sSeq (sIf (dIsi .list (dV 1)) (sSeq (sRet (d2 pAdd (d2 pAdd (dSl (dV 1) noIx (anIx (dV 3))) (dLst [dV 4])) (dSl (dV 1) (anIx (d2 pAdd (dV 3) (dC (.int 1)))) noIx))) (sPass)) (sPass)) (sSeq (sRet (d2 pAdd (d2 pAdd (dSl (dV 1) noIx (anIx (dV 3))) (dTup [dV 4])) (dSl (dV 1) (anIx (d2 pAdd (dV 3) (dC (.int 1)))) noIx))) (sPass))))) (sPass)) (sSeq (sRet (dCallP g__law_odd [dV 1])) (sPass))
def g__law_bent : Nat → List D → M D
  | 0 => fun _ => failM
  | n + 1 => dDefP 5 (s__law_bent (g__law_bent n))
def s__law_within : DS := sSeq (sRet (dAnd (dIsi .int (dV 0)) (dAnd (dNot (dIsi .bool (dV 0))) (dChain pLe pLe (dV 1) (dV 0) (dV 2))))) (sPass)
def g__law_within : List D → M D := dDef 3 s__law_within
def s__law_is_rise : DS := sSeq (sRet (d2 pEq (dCmp (itR1 (d2 pSub (dB (o1 pLen) [dV 0]) (dC (.int 1)))) (.nm 1) (some (d2 pGeX (d2 pIdx (dV 0) (dV 1)) (d2 pIdx (dV 0) (d2 pAdd (dV 1) (dC (.int 1)))))) (dV 1) [1]) (dLst []))) (sPass)
def g__law_is_rise : List D → M D := dDef 2 s__law_is_rise
def b__law_comps_1 : DS := sSeq (sExtend 5 (dCmp (itV (dV 1)) (.nm 7) (some (d2 pLe (d2 pAdd (dB (o1 pSum) [dV 6]) (dV 7)) (dV 0))) (d2 pAdd (dV 6) (dTup [dV 7])) [7])) (sSeq sPass (sKill [6]))
def b__law_comps_2 : DS := sSeq (sOwn 5 (dLst [])) (sSeq (sSeq (sFor (itV (dV 2)) (.nm 6) (b__law_comps_1)) (sKill [6])) (sSeq (sFz 5) (sSeq (sSet 3 (d2 pAdd (dV 3) (dCmp (itV (dV 5)) (.nm 6) (some (d2 pEq (dB (o1 pSum) [dV 6]) (dV 0))) (dV 6) [6]))) (sSeq (sSet 2 (dCmp (itV (dV 5)) (.nm 6) (some (d2 pLt (dB (o1 pSum) [dV 6]) (dV 0))) (dV 6) [6])) (sSeq sPass (sKill [4, 5, 6]))))))
def s__law_comps : DS := sSeq (sPar [2, 3] [dLst [dTup []], dLst []]) (sSeq (sSeq (sFor (itR1 (dV 0)) (.nm 4) (b__law_comps_2)) (sKill [4, 5, 6])) (sSeq (sRet (dB (o1 pSorted) [dV 3])) (sPass)))
def g__law_comps : List D → M D := dDef 8 s__law_comps
def s__law_sizes : DS := sSeq (sSet 2 (dCmp (itR2 (dC (.int 1)) (d2 pAdd (dV 1) (dC (.int 1)))) (.nm 3) (some (d2 pGt (dCallP g__law_draw [dC (.int 2)]) (dC (.int 0)))) (dV 3) [3])) (sSeq (sRet (dIf (d2 pNe (dV 2) (dLst [])) (dB (o1 pTuple) [dV 2]) (dTup [d2 pAdd (dC (.int 1)) (dCallP g__law_draw [dV 1])]))) (sPass))
def g__law_sizes : List D → M D := dDefP 4 s__law_sizes
def b_is_why_none_1 : DS := sSeq (sIf (dB (o1 pAny) [dCmp (itV (dV 1)) (.nm 4) none (dAnd (d2 pLe (d2 pAdd (dV 3) (dV 4)) (dV 0)) (d2 pNotIn (d2 pAdd (dV 3) (dV 4)) (dV 2))) [4]]) (sSeq (sRet (dC (.bl false))) (sPass)) (sPass)) (sSeq sPass (sKill [3]))
def s_is_why_none : DS := sSeq (sIf (dOr (dNot (dCall g_is_number [dV 0, dC (.int 1), dC (.int 12)])) (dOr (dNot (dCall g_is_sizes [dV 1])) (dNot (dCall g_is_row [dV 2, dC (.int 1), dV 0, dC (.int 0), d2 pSub (dV 0) (dC (.int 1))])))) (sSeq (sRet (dC (.bl false))) (sPass)) (sPass)) (sSeq (sIf (dOr (dNot (dCall g_do_rise [dV 2])) (d2 pNe (d2 pIdx (dV 2) (dC (.int 0))) (dC (.int 0)))) (sSeq (sRet (dC (.bl false))) (sPass)) (sPass)) (sSeq (sSeq (sFor (itV (dV 2)) (.nm 3) (b_is_why_none_1)) (sKill [3])) (sSeq (sRet (dC (.bl true))) (sPass))))
def g_is_why_none : List D → M D := dDef 5 s_is_why_none
def s_joints_of : DS := sSeq (sRet (dB (o1 pTuple) [dCmp (itR2 (dC (.int 1)) (dB (o1 pLen) [dV 0])) (.nm 1) none (dB (o1 pSum) [dSl (dV 0) noIx (anIx (dV 1))]) [1]])) (sPass)
def g_joints_of : List D → M D := dDef 2 s_joints_of
def s_are_rows : DS := sSeq (sIf (dOr (dNot (dIsi .tuple (dV 0))) (dNot (dChain pLe pLe (dC (.int 1)) (dB (o1 pLen) [dV 0]) (dC (.int 6))))) (sSeq (sRet (dC (.bl false))) (sPass)) (sPass)) (sSeq (sIf (dNot (dB (o1 pAll) [dCmp (itV (dV 0)) (.nm 2) none (dCall g_is_row [dV 2, dC (.int 1), dC (.int 12), dC (.int 1), dC (.int 12)]) [2]])) (sSeq (sRet (dC (.bl false))) (sPass)) (sPass)) (sSeq (sSet 1 (dB (o1 pSum) [d2 pIdx (dV 0) (dC (.int 0))])) (sSeq (sRet (dAnd (d2 pLe (dV 1) (dC (.int 12))) (dB (o1 pAll) [dCmp (itV (dV 0)) (.nm 2) none (d2 pEq (dB (o1 pSum) [dV 2]) (dV 1)) [2]]))) (sPass))))
def g_are_rows : List D → M D := dDef 3 s_are_rows
def s_need_rows : DS := sSeq (sIf (dNot (dCall g_are_rows [dV 0])) (sSeq (sRaise "NoRows" [] []) (sPass)) (sPass)) (sPass)
def g_need_rows : List D → M D := dDef 1 s_need_rows
def s_are_bonded : DS := sSeq (sSet 2 (dCall g_joints_of [dV 1])) (sSeq (sRet (dNot (dB (o1 pAny) [dCmp (itV (dCall g_joints_of [dV 0])) (.nm 3) none (d2 pIn (dV 3) (dV 2)) [3]]))) (sPass))
def g_are_bonded : List D → M D := dDef 4 s_are_bonded
def s_is_bond : DS := sSeq (sRet (dAnd (dCall g_are_rows [dV 0]) (dB (o1 pAll) [dCmp (itZ (dV 0) (dSl (dV 0) (anIx (dC (.int 1))) noIx)) (.tp [1, 2]) none (dCall g_are_bonded [dV 1, dV 2]) [1, 2]]))) (sPass)
def g_is_bond : List D → M D := dDef 3 s_is_bond
def b_stones_of_1 : DS := sSeq (sExtend 1 (dCmp (itR1 (dB (o1 pLen) [dV 3])) (.nm 4) none (dTup [dV 2, dV 4]) [4])) (sSeq sPass (sKill [2, 3]))
def s_stones_of : DS := sSeq (sOwn 1 (dLst [])) (sSeq (sSeq (sFor (itE (dV 0)) (.tp [2, 3]) (b_stones_of_1)) (sKill [2, 3])) (sSeq (sFz 1) (sSeq (sRet (dV 1)) (sPass))))
def g_stones_of : List D → M D := dDef 5 s_stones_of
def s_span_of : DS := sSeq (sSet 2 (d2 pIdx (dV 0) (d2 pIdx (dV 1) (dC (.int 0))))) (sSeq (sSet 3 (dB (o1 pSum) [dSl (dV 2) noIx (anIx (d2 pIdx (dV 1) (dC (.int 1))))])) (sSeq (sRet (dTup [dV 3, d2 pAdd (dV 3) (d2 pIdx (dV 2) (d2 pIdx (dV 1) (dC (.int 1))))])) (sPass)))
def g_span_of : List D → M D := dDef 4 s_span_of
def s_is_over : DS := sSeq (sIf (d2 pNe (d2 pIdx (dV 1) (dC (.int 0))) (d2 pAdd (d2 pIdx (dV 2) (dC (.int 0))) (dC (.int 1)))) (sSeq (sRet (dC (.bl false))) (sPass)) (sPass)) (sSeq (sSet 3 (dCall g_span_of [dV 0, dV 1])) (sSeq (sSet 4 (dCall g_span_of [dV 0, dV 2])) (sSeq (sRet (dAnd (d2 pLt (d2 pIdx (dV 3) (dC (.int 0))) (d2 pIdx (dV 4) (dC (.int 1)))) (d2 pLt (d2 pIdx (dV 4) (dC (.int 0))) (d2 pIdx (dV 3) (dC (.int 1)))))) (sPass))))
def g_is_over : List D → M D := dDef 5 s_is_over
def s__law_joints : DS := sSeq (sRet (dCmp (itR2 (dC (.int 1)) (dB (o1 pLen) [dV 0])) (.nm 1) none (dB (o1 pSum) [dSl (dV 0) noIx (anIx (dV 1))]) [1])) (sPass)
def g__law_joints : List D → M D := dDef 2 s__law_joints
def s__law_bonded : DS := sSeq (sRet (d2 pEq (dCmp (itV (dCall g__law_joints [dV 0])) (.nm 2) (some (d2 pIn (dV 2) (dCall g__law_joints [dV 1]))) (dV 2) [2]) (dLst []))) (sPass)
def g__law_bonded : List D → M D := dDef 3 s__law_bonded
def b__law_built_1 : DS := sSeq (sSet 7 (d2 pAdd (dV 7) (dTup [dB (o2 pMin2) [d2 pSub (dV 4) (dB (o1 pSum) [dV 7]), d2 pAdd (dC (.int 1)) (dCallP g__law_draw [dC (.int 4)])]]))) (sPass)
def b__law_built_2 : DS := sSeq (sSet 7 (dTup [])) (sSeq (whileGo (d2 pLt (dB (o1 pSum) [dV 7]) (dV 4)) (b__law_built_1) 200) (sSeq (sAppend 5 (dV 7)) (sSeq sPass (sKill [6, 7]))))
def s__law_built : DS := sSeq (sPar [3, 4] [d2 pAdd (dC (.int 1)) (dCallP g__law_draw [dV 1]), d2 pAdd (dC (.int 1)) (dCallP g__law_draw [dV 2])]) (sSeq (sOwn 5 (dLst [])) (sSeq (sSeq (sFor (itR1 (dV 3)) (.nm 6) (b__law_built_2)) (sKill [6, 7])) (sSeq (sRet (dB (o1 pTuple) [dO 5])) (sPass))))
def g__law_built : List D → M D := dDefP 8 s__law_built
def b__law_are_rows_1 : DS := sSeq (sIf (dOr (dNot (dIsi .tuple (dV 1))) (dOr (d2 pEq (dV 1) (dTup [])) (d2 pNe (dCmp (itV (dV 1)) (.nm 2) (some (dNot (dCall g__law_within [dV 2, dC (.int 1), dC (.int 12)]))) (dV 2) [2]) (dLst [])))) (sSeq (sRet (dC (.bl false))) (sPass)) (sPass)) (sSeq sPass (sKill [1]))
def s__law_are_rows : DS := sSeq (sIf (dOr (dNot (dIsi .tuple (dV 0))) (dNot (dChain pLe pLe (dC (.int 1)) (dB (o1 pLen) [dV 0]) (dC (.int 6))))) (sSeq (sRet (dC (.bl false))) (sPass)) (sPass)) (sSeq (sSeq (sFor (itV (dV 0)) (.nm 1) (b__law_are_rows_1)) (sKill [1])) (sSeq (sRet (dAnd (d2 pLe (dB (o1 pSum) [d2 pIdx (dV 0) (dC (.int 0))]) (dC (.int 12))) (d2 pEq (dCmp (itV (dV 0)) (.nm 1) (some (d2 pNe (dB (o1 pSum) [dV 1]) (dB (o1 pSum) [d2 pIdx (dV 0) (dC (.int 0))]))) (dV 1) [1]) (dLst [])))) (sPass)))
def g__law_are_rows : List D → M D := dDef 3 s__law_are_rows
def b__law_stones_1 : DS := sSeq (sExtend 1 (dCmp (itR1 (dB (o1 pLen) [dV 3])) (.nm 4) none (dTup [dV 2, dV 4]) [4])) (sSeq sPass (sKill [2, 3]))
def s__law_stones : DS := sSeq (sOwn 1 (dLst [])) (sSeq (sSeq (sFor (itE (dV 0)) (.tp [2, 3]) (b__law_stones_1)) (sKill [2, 3])) (sSeq (sFz 1) (sSeq (sRet (dV 1)) (sPass))))
def g__law_stones : List D → M D := dDef 5 s__law_stones
def s__law_cells : DS := sSeq (sSet 2 (dB (o1 pSum) [dSl (d2 pIdx (dV 0) (d2 pIdx (dV 1) (dC (.int 0)))) noIx (anIx (d2 pIdx (dV 1) (dC (.int 1))))])) (sSeq (sRet (dRngL (itR2 (dV 2) (d2 pAdd (dV 2) (d2 pIdx (d2 pIdx (dV 0) (d2 pIdx (dV 1) (dC (.int 0)))) (d2 pIdx (dV 1) (dC (.int 1)))))))) (sPass))
def g__law_cells : List D → M D := dDef 3 s__law_cells
def s__law_shared : DS := sSeq (sIf (d2 pNe (d2 pIdx (dV 1) (dC (.int 0))) (d2 pAdd (d2 pIdx (dV 2) (dC (.int 0))) (dC (.int 1)))) (sSeq (sRet (dC (.int 0))) (sPass)) (sPass)) (sSeq (sRet (dB (o1 pLen) [dCmp (itV (dCall g__law_cells [dV 0, dV 1])) (.nm 3) (some (d2 pIn (dV 3) (dCall g__law_cells [dV 0, dV 2]))) (dV 3) [3]])) (sPass))
def g__law_shared : List D → M D := dDef 4 s__law_shared
def b__law_all_built_1 : DS := sSeq (sExtend 6 (dCmp (itV (dV 3)) (.nm 8) (some (dOr (d2 pEq (dV 7) (dTup [])) (dCall g__law_bonded [d2 pIdx (dV 7) (d1 pNeg (dC (.int 1))), dV 8]))) (d2 pAdd (dV 7) (dTup [dV 8])) [8])) (sSeq sPass (sKill [7]))
def b__law_all_built_2 : DS := sSeq (sOwn 6 (dLst [])) (sSeq (sSeq (sFor (itV (dV 4)) (.nm 7) (b__law_all_built_1)) (sKill [7])) (sSeq (sFz 6) (sSeq (sSet 4 (dV 6)) (sSeq sPass (sKill [5, 6, 7])))))
def s__law_all_built : DS := sSeq (sPar [3, 4] [dCall g__law_comps [dV 0, dV 1], dLst [dTup []]]) (sSeq (sSeq (sFor (itR1 (dV 2)) (.nm 5) (b__law_all_built_2)) (sKill [5, 6, 7])) (sSeq (sRet (dV 4)) (sPass)))
def g__law_all_built : List D → M D := dDef 9 s__law_all_built
def s_is_heap : DS := sSeq (sRet (dAnd (dCall g_is_row [dV 0, dC (.int 1), dC (.int 6), dC (.int 0), dC (.int 9)]) (d2 pLe (dB (o1 pSum) [dV 0]) (dC (.int 14))))) (sPass)
def g_is_heap : List D → M D := dDef 1 s_is_heap
def s_need_heap : DS := sSeq (sIf (dNot (dCall g_is_heap [dV 0])) (sSeq (sRaise "NoHeap" [] []) (sPass)) (sPass)) (sSeq (sIf (dNot (dCall g_is_number [dV 1, dC (.int 1), dC (.int 6)])) (sSeq (sRaise "BadNumber" ["value"] [dV 1]) (sPass)) (sPass)) (sSeq (sIf (dNot (dCall g_is_number [dV 2, dC (.int 1), dC (.int 4)])) (sSeq (sRaise "BadNumber" ["value"] [dV 2]) (sPass)) (sPass)) (sPass)))
def g_need_heap : List D → M D := dDef 3 s_need_heap
def s_without : DS := sSeq (sRet (d2 pAdd (d2 pAdd (dSl (dV 0) noIx (anIx (d2 pSub (dV 1) (dC (.int 1))))) (dTup [d2 pSub (d2 pIdx (dV 0) (d2 pSub (dV 1) (dC (.int 1)))) (dC (.int 1))])) (dSl (dV 0) (anIx (dV 1)) noIx))) (sPass)
def g_without : List D → M D := dDef 2 s_without
def b_courses_from_1 : DS := sSeq (sSet 7 (d2 pSub (dV 1) (dB (o1 pSum) [dV 5]))) (sSeq (sIf (d2 pEq (dV 7) (dC (.int 0))) (sSeq (sAppend 2 (dTup [dV 5, dV 6])) (sPass)) (sSeq (sSet 8 (dCmp (itE (dV 6)) (.tp [10, 9]) (some (dAnd (d2 pGt (dV 9) (dC (.int 0))) (d2 pLt (dV 10) (dV 7)))) (d2 pAdd (dV 10) (dC (.int 1))) [9, 10])) (sSeq (sExtend 4 (dCmp (itV (dV 8)) (.nm 11) none (dTup [d2 pAdd (dV 5) (dTup [dV 11]), dCall g_without [dV 6, dV 11]]) [11])) (sPass)))) (sSeq sPass (sKill [5, 6, 7, 8])))
def b_courses_from_2 : DS := sSeq (sOwn 4 (dLst [])) (sSeq (sSeq (sFor (itV (dV 3)) (.tp [5, 6]) (b_courses_from_1)) (sKill [5, 6, 7, 8])) (sSeq (sFz 4) (sSeq (sSet 3 (dV 4)) (sSeq sPass (sKill [4, 5, 6, 7, 8])))))
def s_courses_from : DS := sSeq (sOwn 2 (dLst [])) (sSeq (sSet 3 (dLst [dTup [dTup [], dV 0]])) (sSeq (whileGo (d2 pGt (dB (o1 pLen) [dV 3]) (dC (.int 0))) (b_courses_from_2) 200) (sSeq (sRet (dB (o1 pSorted) [dO 2])) (sPass))))
def g_courses_from : List D → M D := dDef 12 s_courses_from
def b_next_states_1 : DS := sSeq (sIf (dOr (d2 pEq (dV 2) (dC (.int 0))) (dCall g_are_bonded [dV 3, dV 6])) (sSeq (sAppend 5 (dTup [d2 pAdd (dV 2) (dC (.int 1)), dV 6, dV 7])) (sPass)) (sPass)) (sSeq sPass (sKill [6, 7]))
def s_next_states : DS := sSeq (sUnpack [2, 3, 4] (dV 0)) (sSeq (sOwn 5 (dLst [])) (sSeq (sSeq (sFor (itV (dCall g_courses_from [dV 4, dV 1])) (.tp [6, 7]) (b_next_states_1)) (sKill [6, 7])) (sSeq (sFz 5) (sSeq (sRet (dV 5)) (sPass)))))
def g_next_states : List D → M D := dDef 8 s_next_states
def b_all_states_1 : DS := sSeq (sSet 6 (d2 pIdx (dO 4) (dV 5))) (sSeq (sIf (d2 pNotInX (dV 6) (dO 3)) (sSeq (sStoreX 3 (dV 6) (dIf (d2 pLt (d2 pIdx (dV 6) (dC (.int 0))) (dV 2)) (dCall g_next_states [dV 6, dV 1]) (dLst []))) (sSeq (sExtend 4 (d2 pIx (dO 3) (dV 6))) (sPass))) (sPass)) (sSeq (sSet 5 (d2 pAddI (dV 5) (dC (.int 1)))) (sSeq sPass (sKill [6]))))
def s_all_states : DS := sSeq (sOwn 3 (dC (.dct [] []))) (sSeq (sOwn 4 (dLst [dTup [dC (.int 0), dTup [], dV 0]])) (sSeq (sSet 5 (dC (.int 0))) (sSeq (whileGo (d2 pLt (dV 5) (dB (o1 pLen) [dO 4])) (b_all_states_1) 200) (sSeq (sFz 3) (sSeq (sRet (dV 3)) (sPass))))))
def g_all_states : List D → M D := dDef 7 s_all_states
def b_builds_of_1 : DS := sSeq (sStoreX 4 (dV 5) (dIf (d2 pEq (d2 pIdx (dV 5) (dC (.int 0))) (dV 2)) (dC (.int 1)) (dB (o1 pSum) [dCmp (itV (d2 pIx (dV 3) (dV 5))) (.nm 6) none (d2 pIx (dO 4) (dV 6)) [6]]))) (sSeq sPass (sKill [5]))
def s_builds_of : DS := sSeq (sSet 3 (dCall g_all_states [dV 0, dV 1, dV 2])) (sSeq (sOwn 4 (dC (.dct [] []))) (sSeq (sSeq (sFor (itV (d1 pRev (dB (o1 pSorted) [dB (o1 pList) [dV 3]]))) (.nm 5) (b_builds_of_1)) (sKill [5])) (sSeq (sFz 4) (sSeq (sRet (dV 4)) (sPass)))))
def g_builds_of : List D → M D := dDef 7 s_builds_of
def b_first_build_1 : DS := sSeq (sSet 4 (d2 pIdx (dCmp (itV (dCall g_next_states [dV 4, dV 1])) (.nm 6) (some (d2 pGt (d2 pIx (dV 3) (dV 6)) (dC (.int 0)))) (dV 6) [6]) (dC (.int 0)))) (sSeq (sSet 5 (d2 pAdd (dV 5) (dTup [d2 pIdx (dV 4) (dC (.int 1))]))) (sPass))
def s_first_build : DS := sSeq (sExpr (dCall g_need_heap [dV 0, dV 1, dV 2])) (sSeq (sSet 3 (dCall g_builds_of [dV 0, dV 1, dV 2])) (sSeq (sSet 4 (dTup [dC (.int 0), dTup [], dV 0])) (sSeq (sIf (d2 pEq (d2 pIx (dV 3) (dV 4)) (dC (.int 0))) (sSeq (sRet (dC .non)) (sPass)) (sPass)) (sSeq (sSet 5 (dTup [])) (sSeq (whileGo (d2 pLt (dB (o1 pLen) [dV 5]) (dV 2)) (b_first_build_1) 200) (sSeq (sRet (dV 5)) (sPass)))))))
def g_first_build : List D → M D := dDef 7 s_first_build
def s__law_heap : DS := sSeq (sRet (dB (o1 pTuple) [dCmp (itR1 (d2 pAdd (dC (.int 1)) (dCallP g__law_draw [dV 1]))) (.nm 2) none (dCallP g__law_draw [dC (.int 4)]) [2]])) (sPass)
def g__law_heap : List D → M D := dDefP 3 s__law_heap
def s__law_is_heap : DS := sSeq (sIf (dOr (dNot (dIsi .tuple (dV 0))) (dNot (dChain pLe pLe (dC (.int 1)) (dB (o1 pLen) [dV 0]) (dC (.int 6))))) (sSeq (sRet (dC (.bl false))) (sPass)) (sPass)) (sSeq (sRet (dAnd (d2 pEq (dCmp (itV (dV 0)) (.nm 1) (some (dNot (dCall g__law_within [dV 1, dC (.int 0), dC (.int 9)]))) (dV 1) [1]) (dLst [])) (d2 pLe (dB (o1 pSum) [dV 0]) (dC (.int 14))))) (sPass))
def g__law_is_heap : List D → M D := dDef 2 s__law_is_heap
def s_dead_ends : DS := sSeq (sExpr (dCall g_need_heap [dV 0, dV 1, dV 2])) (sSeq (sSet 3 (dCall g_all_states [dV 0, dV 1, dV 2])) (sSeq (sRet (dIf (dB (o1 pAny) [dCmp (itK (dV 3)) (.nm 4) none (d2 pEq (d2 pIdx (dV 4) (dC (.int 0))) (dV 2)) [4]]) (dC .non) (dB (o1 pTuple) [dB (o1 pSorted) [dB (o1 pList) [dV 3]]]))) (sPass)))
def g_dead_ends : List D → M D := dDef 5 s_dead_ends
def s_is_state : DS := sSeq (sIf (dOr (dNot (dIsi .tuple (dV 3))) (dOr (d2 pNe (dB (o1 pLen) [dV 3]) (dC (.int 3))) (dNot (dCall g_is_number [d2 pIdx (dV 3) (dC (.int 0)), dC (.int 0), d2 pSub (dV 2) (dC (.int 1))])))) (sSeq (sRet (dC (.bl false))) (sPass)) (sPass)) (sSeq (sIf (dOr (dNot (dCall g_is_row [d2 pIdx (dV 3) (dC (.int 1)), dC (.int 0), dV 1, dC (.int 1), dV 1])) (d2 pNe (dB (o1 pSum) [d2 pIdx (dV 3) (dC (.int 1))]) (dIf (d2 pGt (d2 pIdx (dV 3) (dC (.int 0))) (dC (.int 0))) (dV 1) (dC (.int 0))))) (sSeq (sRet (dC (.bl false))) (sPass)) (sPass)) (sSeq (sRet (dCall g_is_row [d2 pIdx (dV 3) (dC (.int 2)), dB (o1 pLen) [dV 0], dB (o1 pLen) [dV 0], dC (.int 0), dC (.int 9)])) (sPass)))
def g_is_state : List D → M D := dDef 4 s_is_state
def b_are_dead_ends_1 : DS := sSeq (sIf (dB (o1 pAny) [dCmp (itV (dCall g_next_states [dV 4, dV 1])) (.nm 5) none (d2 pNotIn (dV 5) (dV 3)) [5]]) (sSeq (sRet (dC (.bl false))) (sPass)) (sPass)) (sSeq sPass (sKill [4]))
def s_are_dead_ends : DS := sSeq (sIf (dOr (dNot (dCall g_is_heap [dV 0])) (dOr (dNot (dCall g_is_number [dV 1, dC (.int 1), dC (.int 6)])) (dNot (dCall g_is_number [dV 2, dC (.int 1), dC (.int 4)])))) (sSeq (sRet (dC (.bl false))) (sPass)) (sPass)) (sSeq (sIf (dOr (dNot (dIsi .tuple (dV 3))) (dNot (dB (o1 pAll) [dCmp (itV (dV 3)) (.nm 6) none (dCall g_is_state [dV 0, dV 1, dV 2, dV 6]) [6]]))) (sSeq (sRet (dC (.bl false))) (sPass)) (sPass)) (sSeq (sIf (dOr (dNot (dCall g_do_rise [dV 3])) (d2 pNotIn (dTup [dC (.int 0), dTup [], dV 0]) (dV 3))) (sSeq (sRet (dC (.bl false))) (sPass)) (sPass)) (sSeq (sSeq (sFor (itV (dV 3)) (.nm 4) (b_are_dead_ends_1)) (sKill [4])) (sSeq (sRet (dC (.bl true))) (sPass)))))
def g_are_dead_ends : List D → M D := dDef 7 s_are_dead_ends
def s_is_lost : DS := sSeq (sIf (dNot (dIsi .tuple (dV 1))) (sSeq (sRet (dC (.bl false))) (sPass)) (sPass)) (sSeq (sSet 2 (dCall g_stones_of [dV 0])) (sSeq (sSet 3 (dB (o1 pAll) [dCmp (itV (dV 1)) (.nm 4) none (dAnd (dIsi .tuple (dV 4)) (d2 pEq (dB (o1 pLen) [dV 4]) (dC (.int 2)))) [4]])) (sSeq (sSet 3 (dAnd (dV 3) (dB (o1 pAll) [dCmp (itV (dV 1)) (.nm 4) none (dAnd (dCall g_is_number [d2 pIdx (dV 4) (dC (.int 0)), dC (.int 0), dC (.int 99)]) (dCall g_is_number [d2 pIdx (dV 4) (dC (.int 1)), dC (.int 0), dC (.int 99)])) [4]]))) (sSeq (sRet (dAnd (dV 3) (dAnd (dCall g_do_rise [dV 1]) (dB (o1 pAll) [dCmp (itV (dV 1)) (.nm 4) none (d2 pIn (dV 4) (dV 2)) [4]])))) (sPass)))))
def g_is_lost : List D → M D := dDef 5 s_is_lost
def s_holds : DS := sSeq (sIf (d2 pEq (d2 pIdx (dV 1) (dC (.int 0))) (dC (.int 0))) (sSeq (sRet (dC (.bl true))) (sPass)) (sPass)) (sSeq (sUnpack [3, 4] (dCall g_span_of [dV 0, dV 1])) (sSeq (sSet 5 (dCmp (itV (dCall g_stones_of [dV 0])) (.nm 8) (some (dAnd (d2 pNotInX (dV 8) (dV 2)) (dCall g_is_over [dV 0, dV 1, dV 8]))) (dCall g_span_of [dV 0, dV 8]) [8])) (sSeq (sIf (d2 pEq (dB (o1 pLen) [dV 5]) (dC (.int 0))) (sSeq (sRet (dC (.bl false))) (sPass)) (sPass)) (sSeq (sSet 6 (dB (o1 pMin) [dCmp (itV (dV 5)) (.nm 9) none (dB (o2 pMax2) [dV 3, d2 pIdx (dV 9) (dC (.int 0))]) [9]])) (sSeq (sSet 7 (dB (o1 pMax) [dCmp (itV (dV 5)) (.nm 9) none (dB (o2 pMin2) [dV 4, d2 pIdx (dV 9) (dC (.int 1))]) [9]])) (sSeq (sRet (dChain pLe pLe (d2 pMul (dC (.int 2)) (dV 6)) (d2 pAdd (dV 3) (dV 4)) (d2 pMul (dC (.int 2)) (dV 7)))) (sPass)))))))
def g_holds : List D → M D := dDef 10 s_holds
def b_fallen_1 : DS := sSeq (sIf (dAnd (d2 pNotInX (dV 4) (dO 2)) (dNot (dLend 2 (dCall g_holds [dV 0, dV 4, dV 2])))) (sSeq (sStoreX 2 (dV 4) (dC (.bl true))) (sSeq (sAppend 3 (dV 4)) (sPass))) (sPass)) (sSeq sPass (sKill [4]))
def s_fallen : DS := sSeq (sOwn 2 (d1 pDict (dCmp (itV (dV 1)) (.nm 4) none (dTup [dV 4, dC (.bl true)]) [4]))) (sSeq (sOwn 3 (dLst [])) (sSeq (sSeq (sFor (itV (dCall g_stones_of [dV 0])) (.nm 4) (b_fallen_1)) (sKill [4])) (sSeq (sRet (dB (o1 pTuple) [dO 3])) (sPass))))
def g_fallen : List D → M D := dDef 5 s_fallen
def s_weak_of : DS := sSeq (sRet (dCmp (itV (dCall g_stones_of [dV 0])) (.nm 1) (some (d2 pGt (dB (o1 pLen) [dCall g_fallen [dV 0, dTup [dV 1]]]) (dC (.int 0)))) (dV 1) [1])) (sPass)
def g_weak_of : List D → M D := dDef 2 s_weak_of
def s_is_firm : DS := sSeq (sRet (dAnd (dCall g_are_rows [dV 0]) (d2 pEq (dB (o1 pLen) [dCall g_weak_of [dV 0]]) (dC (.int 0))))) (sPass)
def g_is_firm : List D → M D := dDef 1 s_is_firm
def b__law_falls_1 : DS := sSeq (sIf (dAnd (d2 pNotIn (dV 6) (dO 2)) (d2 pEq (d2 pIdx (dV 6) (dC (.int 0))) (d2 pSub (d2 pIdx (dV 3) (dC (.int 0))) (dC (.int 1))))) (sSeq (sSet 5 (d2 pAdd (dV 5) (dCmp (itV (dCall g__law_cells [dV 0, dV 6])) (.nm 8) (some (d2 pIn (dV 8) (dV 4))) (dV 8) [8]))) (sPass)) (sPass)) (sSeq sPass (sKill [6]))
def b__law_falls_2 : DS := sSeq (sIf (dAnd (d2 pNotIn (dV 3) (dO 2)) (d2 pGt (d2 pIdx (dV 3) (dC (.int 0))) (dC (.int 0)))) (sSeq (sUnpack [4, 5] (dTup [dCall g__law_cells [dV 0, dV 3], dLst []])) (sSeq (sSeq (sFor (itV (dCall g__law_stones [dV 0])) (.nm 6) (b__law_falls_1)) (sKill [6])) (sSeq (sSet 7 (d2 pAdd (d2 pAdd (d2 pIdx (dV 4) (dC (.int 0))) (d2 pIdx (dV 4) (d1 pNeg (dC (.int 1))))) (dC (.int 1)))) (sSeq (sIf (dOr (d2 pEq (dV 5) (dLst [])) (dNot (dChain pLe pLe (d2 pMul (dC (.int 2)) (dB (o1 pMin) [dV 5])) (dV 7) (d2 pMul (dC (.int 2)) (d2 pAdd (dB (o1 pMax) [dV 5]) (dC (.int 1))))))) (sSeq (sAppend 2 (dV 3)) (sPass)) (sPass)) (sPass))))) (sPass)) (sSeq sPass (sKill [3, 4, 5, 6, 7]))
def s__law_falls : DS := sSeq (sOwn 2 (d1 pList (dV 1))) (sSeq (sSeq (sFor (itV (dCall g__law_stones [dV 0])) (.nm 3) (b__law_falls_2)) (sKill [3, 4, 5, 6, 7])) (sSeq (sRet (dCmp (itV (dCall g__law_stones [dV 0])) (.nm 3) (some (dAnd (d2 pIn (dV 3) (dO 2)) (d2 pNotIn (dV 3) (dV 1)))) (dV 3) [3])) (sPass)))
def g__law_falls : List D → M D := dDef 9 s__law_falls
def b__law_is_stones_1 : DS := sSeq (sIf (dOr (dNot (dIsi .tuple (dV 2))) (dOr (d2 pNe (dB (o1 pLen) [dV 2]) (dC (.int 2))) (d2 pNe (dCmp (itV (dV 2)) (.nm 3) (some (dNot (dCall g__law_within [dV 3, dC (.int 0), dC (.int 99)]))) (dV 3) [3]) (dLst [])))) (sSeq (sRet (dC (.bl false))) (sPass)) (sPass)) (sSeq sPass (sKill [2]))
def s__law_is_stones : DS := sSeq (sIf (dNot (dIsi .tuple (dV 1))) (sSeq (sRet (dC (.bl false))) (sPass)) (sPass)) (sSeq (sSeq (sFor (itV (dV 1)) (.nm 2) (b__law_is_stones_1)) (sKill [2])) (sSeq (sRet (d2 pEq (dCmp (itV (dV 1)) (.nm 2) (some (d2 pNotIn (dV 2) (dCall g__law_stones [dV 0]))) (dV 2) [2]) (dLst []))) (sPass)))
def g__law_is_stones : List D → M D := dDef 4 s__law_is_stones
def b__law_rows_1 : DS := sSeq (sSet 2 (d2 pAdd (dV 2) (dCmp (itV (dV 2)) (.nm 5) (some (d2 pLt (dB (o1 pLen) [dV 5]) (dV 1))) (d2 pAdd (dV 5) (dTup [dV 3])) [5]))) (sSeq sPass (sKill [3]))
def s__law_rows : DS := sSeq (sSet 2 (dLst [dTup []])) (sSeq (sSeq (sFor (itV (dV 0)) (.nm 3) (b__law_rows_1)) (sKill [3])) (sSeq (sRet (dCmp (itV (dB (o1 pSorted) [dCmp (itV (dV 2)) (.nm 5) none (dTup [dB (o1 pLen) [dV 5], dV 5]) [5]])) (.tp [4, 5]) none (dV 5) [4, 5])) (sPass)))
def g__law_rows : List D → M D := dDef 6 s__law_rows
def s_need_few : DS := sSeq (sExpr (dCall g_need_rows [dV 0])) (sSeq (sIf (d2 pGt (dB (o1 pLen) [dCall g_stones_of [dV 0]]) (dC (.int 12))) (sSeq (sRaise "NotThere" [] []) (sPass)) (sPass)) (sPass))
def g_need_few : List D → M D := dDef 1 s_need_few
def b_below_of_1 : DS := sSeq (sStoreX 3 (dV 5) (dC (.bl true))) (sSeq sPass (sKill [5]))
def b_below_of_2 : DS := sSeq (sIf (dCall g_is_over [dV 0, dV 2, dV 4]) (sSeq (sStoreX 3 (dV 4) (dC (.bl true))) (sSeq (sSeq (sFor (itV (d2 pIx (dO 1) (dV 4))) (.nm 5) (b_below_of_1)) (sKill [5])) (sPass))) (sPass)) (sSeq sPass (sKill [4, 5]))
def b_below_of_3 : DS := sSeq (sOwn 3 (dC (.dct [] []))) (sSeq (sSeq (sFor (itV (dCall g_stones_of [dV 0])) (.nm 4) (b_below_of_2)) (sKill [4, 5])) (sSeq (sFz 3) (sSeq (sStoreX 1 (dV 2) (dV 3)) (sSeq sPass (sKill [2, 3, 4, 5])))))
def s_below_of : DS := sSeq (sOwn 1 (dC (.dct [] []))) (sSeq (sSeq (sFor (itV (dCall g_stones_of [dV 0])) (.nm 2) (b_below_of_3)) (sKill [2, 3, 4, 5])) (sSeq (sFz 1) (sSeq (sRet (dV 1)) (sPass))))
def g_below_of : List D → M D := dDef 6 s_below_of
def b_is_order_1 : DS := sSeq (sIf (dOr (dNot (dIsi .tuple (dV 3))) (dOr (d2 pNe (dB (o1 pLen) [dV 3]) (dC (.int 2))) (dNot (dB (o1 pAll) [dCmp (itV (dV 3)) (.nm 8) none (dCall g_is_number [dV 8, dC (.int 0), dC (.int 99)]) [8]])))) (sSeq (sRet (dC (.bl false))) (sPass)) (sPass)) (sSeq sPass (sKill [3]))
def s_is_order : DS := sSeq (sIf (dOr (dNot (dCall g_are_rows [dV 0])) (dNot (dIsi .tuple (dV 1)))) (sSeq (sRet (dC (.bl false))) (sPass)) (sPass)) (sSeq (sSet 2 (dCall g_stones_of [dV 0])) (sSeq (sSeq (sFor (itV (dV 1)) (.nm 3) (b_is_order_1)) (sKill [3])) (sSeq (sIf (d2 pNe (dB (o1 pSorted) [dV 1]) (dV 2)) (sSeq (sRet (dC (.bl false))) (sPass)) (sPass)) (sSeq (sSet 4 (dCall g_below_of [dV 0])) (sSeq (sRet (dB (o1 pAll) [dCmp (itE (dV 1)) (.tp [5, 6]) none (dB (o1 pAll) [dCmp (itV (d2 pIx (dV 4) (dV 6))) (.nm 7) none (d2 pIn (dV 7) (dSl (dV 1) noIx (anIx (dV 5)))) [7]]) [5, 6]])) (sPass))))))
def g_is_order : List D → M D := dDef 9 s_is_order
def b__law_orders_1 : DS := sSeq (sExtend 3 (dCmp (itV (dV 0)) (.nm 5) (some (d2 pNotIn (dV 5) (dV 4))) (d2 pAdd (dV 4) (dTup [dV 5])) [5])) (sSeq sPass (sKill [4]))
def b__law_orders_2 : DS := sSeq (sOwn 3 (dLst [])) (sSeq (sSeq (sFor (itV (dV 1)) (.nm 4) (b__law_orders_1)) (sKill [4])) (sSeq (sFz 3) (sSeq (sSet 1 (dV 3)) (sSeq sPass (sKill [2, 3, 4])))))
def s__law_orders : DS := sSeq (sSet 1 (dLst [dTup []])) (sSeq (sSeq (sFor (itR1 (dB (o1 pLen) [dV 0])) (.nm 2) (b__law_orders_2)) (sKill [2, 3, 4])) (sSeq (sRet (dV 1)) (sPass)))
def g__law_orders : List D → M D := dDef 6 s__law_orders
def b__law_below_1 : DS := sSeq (sIf (dAnd (d2 pLt (d2 pIdx (dV 3) (dC (.int 0))) (d2 pIdx (dV 2) (dC (.int 0)))) (d2 pGt (dCall g__law_shared [dV 0, dV 2, dV 3]) (dC (.int 0)))) (sSeq (sStoreX 1 (dV 2) (d2 pAdd (d2 pAdd (d2 pIx (dO 1) (dV 2)) (dLst [dV 3])) (d2 pIx (dO 1) (dV 3)))) (sPass)) (sPass)) (sSeq sPass (sKill [3]))
def b__law_below_2 : DS := sSeq (sStoreX 1 (dV 2) (dLst [])) (sSeq (sSeq (sFor (itV (dCall g__law_stones [dV 0])) (.nm 3) (b__law_below_1)) (sKill [3])) (sSeq sPass (sKill [2, 3])))
def s__law_below : DS := sSeq (sOwn 1 (dC (.dct [] []))) (sSeq (sSeq (sFor (itV (dCall g__law_stones [dV 0])) (.nm 2) (b__law_below_2)) (sKill [2, 3])) (sSeq (sFz 1) (sSeq (sRet (dV 1)) (sPass))))
def g__law_below : List D → M D := dDef 4 s__law_below
def s_goals_of : DS := sSeq (sSet 2 (dCall g_below_of [dV 0])) (sSeq (sRet (dB (o1 pDict) [dCmp (itV (dV 1)) (.nm 3) none (dTup [dV 3, dCmp (itV (dV 1)) (.nm 4) (some (d2 pIn (dV 3) (d2 pIx (dV 2) (dV 4)))) (dV 4) [4]]) [3]])) (sPass))
def g_goals_of : List D → M D := dDef 5 s_goals_of
def b_fixed_1 : DS := sSeq (sIf (d2 pNotInX (dV 4) (dV 1)) (sSeq (sStoreX 3 (dV 4) (dCmp (itV (d2 pIx (dV 0) (dV 4))) (.nm 5) (some (d2 pNotIn (dV 5) (dV 2))) (dV 5) [5])) (sPass)) (sPass)) (sSeq sPass (sKill [4]))
def s_fixed : DS := sSeq (sSet 2 (dCmp (itK (dV 1)) (.nm 4) none (d2 pIx (dV 1) (dV 4)) [4])) (sSeq (sOwn 3 (dC (.dct [] []))) (sSeq (sSeq (sFor (itK (dV 0)) (.nm 4) (b_fixed_1)) (sKill [4])) (sSeq (sFz 3) (sSeq (sRet (dV 3)) (sPass)))))
def g_fixed : List D → M D := dDef 6 s_fixed
def s_pairs_of : DS := sSeq (sRet (dCmp (itK (dV 0)) (.nm 1) none (dTup [dV 1, d2 pIx (dV 0) (dV 1)]) [1])) (sPass)
def g_pairs_of : List D → M D := dDef 2 s_pairs_of
def b_are_stones_1 : DS := sSeq (sIf (dOr (dNot (dIsi .tuple (dV 2))) (dOr (d2 pNe (dB (o1 pLen) [dV 2]) (dC (.int 2))) (dNot (dB (o1 pAll) [dCmp (itV (dV 2)) (.nm 4) none (dCall g_is_number [dV 4, dC (.int 0), dC (.int 99)]) [4]])))) (sSeq (sRet (dC (.bl false))) (sPass)) (sPass)) (sSeq sPass (sKill [2]))
def s_are_stones : DS := sSeq (sIf (dNot (dIsi .tuple (dV 1))) (sSeq (sRet (dC (.bl false))) (sPass)) (sPass)) (sSeq (sSeq (sFor (itV (dV 1)) (.nm 2) (b_are_stones_1)) (sKill [2])) (sSeq (sSet 3 (dCall g_stones_of [dV 0])) (sSeq (sRet (dB (o1 pAll) [dCmp (itV (dV 1)) (.nm 2) none (d2 pIn (dV 2) (dV 3)) [2]])) (sPass))))
def g_are_stones : List D → M D := dDef 5 s_are_stones
def s_are_apart : DS := sSeq (sIf (dOr (dNot (dCall g_are_rows [dV 0])) (dOr (dNot (dCall g_are_stones [dV 0, dV 1])) (dNot (dCall g_do_rise [dV 1])))) (sSeq (sRet (dC (.bl false))) (sPass)) (sPass)) (sSeq (sSet 2 (dCall g_below_of [dV 0])) (sSeq (sRet (dNot (dB (o1 pAny) [dCmp (itV (dV 1)) (.nm 3) none (dB (o1 pAny) [dCmp (itV (dV 1)) (.nm 4) none (d2 pIn (dV 4) (d2 pIx (dV 2) (dV 3))) [4]]) [3]]))) (sPass)))
def g_are_apart : List D → M D := dDef 5 s_are_apart
def b_are_threads_1 : DS := sSeq (sExtend 3 (dB (o1 pList) [dV 4])) (sSeq (sIf (dNot (dB (o1 pAll) [dCmp (itZ (dV 4) (dSl (dV 4) (anIx (dC (.int 1))) noIx)) (.tp [5, 6]) none (d2 pIn (dV 5) (d2 pIx (dV 2) (dV 6))) [5, 6]])) (sSeq (sRet (dC (.bl false))) (sPass)) (sPass)) (sSeq sPass (sKill [4])))
def s_are_threads : DS := sSeq (sIf (dOr (dNot (dCall g_are_rows [dV 0])) (dNot (dIsi .tuple (dV 1)))) (sSeq (sRet (dC (.bl false))) (sPass)) (sPass)) (sSeq (sIf (dOr (dNot (dB (o1 pAll) [dCmp (itV (dV 1)) (.nm 4) none (dAnd (dCall g_are_stones [dV 0, dV 4]) (d2 pGt (dB (o1 pLen) [dV 4]) (dC (.int 0)))) [4]])) (dNot (dCall g_do_rise [dV 1]))) (sSeq (sRet (dC (.bl false))) (sPass)) (sPass)) (sSeq (sSet 2 (dCall g_below_of [dV 0])) (sSeq (sOwn 3 (dLst [])) (sSeq (sSeq (sFor (itV (dV 1)) (.nm 4) (b_are_threads_1)) (sKill [4])) (sSeq (sRet (d2 pEq (dB (o1 pSorted) [dO 3]) (dCall g_stones_of [dV 0]))) (sPass))))))
def g_are_threads : List D → M D := dDef 7 s_are_threads
def s_are_ties : DS := sSeq (sRet (dAnd (dCall g_is_number [dV 0, dC (.int 0), dC (.int 20)]) (dAnd (dCall g_is_ascending [dV 1, dC (.int 0), dV 0]) (dCall g_is_number [dV 2, dC (.int 0), dC (.int 9)])))) (sPass)
def g_are_ties : List D → M D := dDef 3 s_are_ties
def s_need_ties : DS := sSeq (sIf (dNot (dCall g_is_number [dV 0, dC (.int 0), dC (.int 20)])) (sSeq (sRaise "BadNumber" ["value"] [dV 0]) (sPass)) (sPass)) (sSeq (sIf (dNot (dCall g_is_number [dV 2, dC (.int 0), dC (.int 9)])) (sSeq (sRaise "BadNumber" ["value"] [dV 2]) (sPass)) (sPass)) (sSeq (sIf (dNot (dCall g_is_ascending [dV 1, dC (.int 0), dV 0])) (sSeq (sRaise "NoTies" [] []) (sPass)) (sPass)) (sPass)))
def g_need_ties : List D → M D := dDef 3 s_need_ties
def s_does_hold : DS := sSeq (sRet (d2 pLe (dB (o1 pAbs) [d2 pSub (dV 0) (dV 1)]) (dV 2))) (sPass)
def g_does_hold : List D → M D := dDef 3 s_does_hold
def s_unheld_of : DS := sSeq (sRet (dCmp (itR1 (d2 pAdd (dV 0) (dC (.int 1)))) (.nm 3) (some (dNot (dB (o1 pAny) [dCmp (itV (dV 1)) (.nm 4) none (dCall g_does_hold [dV 4, dV 3, dV 2]) [4]]))) (dV 3) [3])) (sPass)
def g_unheld_of : List D → M D := dDef 5 s_unheld_of
def b_fewest_from_1 : DS := sSeq (sSet 5 (dCmp (itV (dV 1)) (.nm 6) (some (dCall g_does_hold [dV 6, dV 4, dV 2])) (dV 6) [6])) (sSeq (sStore 3 (dV 4) (d2 pAdd (dC (.int 1)) (dB (o1 pMin) [dCmp (itV (dV 5)) (.nm 6) none (d2 pIdx (dO 3) (dB (o2 pMin2) [d2 pAdd (d2 pAdd (dV 6) (dV 2)) (dC (.int 1)), d2 pAdd (dV 0) (dC (.int 1))])) [6]]))) (sSeq sPass (sKill [4, 5])))
def s_fewest_from : DS := sSeq (sOwn 3 (d2 pRepN (dLst [dC (.int 0)]) (d2 pAdd (d2 pAdd (dV 0) (dV 2)) (dC (.int 2))))) (sSeq (sSeq (sFor (itR3 (dV 0) (d1 pNeg (dC (.int 1)))) (.nm 4) (b_fewest_from_1)) (sKill [4, 5])) (sSeq (sFz 3) (sSeq (sRet (dV 3)) (sPass))))
def g_fewest_from : List D → M D := dDef 7 s_fewest_from
def b_fewest_ties_1 : DS := sSeq (sSet 7 (dB (o2 pMin2) [d2 pAdd (d2 pAdd (dV 6) (dV 2)) (dC (.int 1)), d2 pAdd (dV 0) (dC (.int 1))])) (sSeq (sIf (dAnd (dCall g_does_hold [dV 6, dV 5, dV 2]) (d2 pEq (d2 pAdd (dC (.int 1)) (d2 pIdx (dV 3) (dV 7))) (d2 pIdx (dV 3) (dV 5)))) (sSeq (sAppend 4 (dV 6)) (sSeq (sSet 5 (dV 7)) (sSeq (sBrk) (sPass)))) (sPass)) (sSeq sPass (sKill [6, 7])))
def b_fewest_ties_2 : DS := sSeq (sSeq (sFor (itV (dV 1)) (.nm 6) (b_fewest_ties_1)) (sKill [6, 7])) (sSeq sPass (sKill [6, 7]))
def s_fewest_ties : DS := sSeq (sExpr (dCall g_need_ties [dV 0, dV 1, dV 2])) (sSeq (sIf (d2 pGt (dB (o1 pLen) [dCall g_unheld_of [dV 0, dV 1, dV 2]]) (dC (.int 0))) (sSeq (sRet (dC .non)) (sPass)) (sPass)) (sSeq (sSet 3 (dCall g_fewest_from [dV 0, dV 1, dV 2])) (sSeq (sOwn 4 (dLst [])) (sSeq (sSet 5 (dC (.int 0))) (sSeq (whileGo (d2 pLe (dV 5) (dV 0)) (b_fewest_ties_2) 200) (sSeq (sRet (dB (o1 pTuple) [dO 4])) (sPass)))))))
def g_fewest_ties : List D → M D := dDef 8 s_fewest_ties
def b_apart_points_1 : DS := sSeq (sAppend 3 (dV 4)) (sSeq (sSet 4 (d2 pAdd (dB (o1 pMax) [d2 pAdd (dCmp (itV (dV 1)) (.nm 5) (some (dCall g_does_hold [dV 5, dV 4, dV 2])) (d2 pAdd (dV 5) (dV 2)) [5]) (dLst [dV 4])]) (dC (.int 1)))) (sPass))
def s_apart_points : DS := sSeq (sExpr (dCall g_need_ties [dV 0, dV 1, dV 2])) (sSeq (sOwn 3 (dLst [])) (sSeq (sSet 4 (dC (.int 0))) (sSeq (whileGo (d2 pLe (dV 4) (dV 0)) (b_apart_points_1) 200) (sSeq (sRet (dB (o1 pTuple) [dO 3])) (sPass)))))
def g_apart_points : List D → M D := dDef 6 s_apart_points
def s_is_held : DS := sSeq (sIf (dOr (dNot (dCall g_are_ties [dV 0, dV 1, dV 2])) (dNot (dCall g_is_ascending [dV 3, dC (.int 0), dV 0]))) (sSeq (sRet (dC (.bl false))) (sPass)) (sPass)) (sSeq (sRet (dAnd (dB (o1 pAll) [dCmp (itV (dV 3)) (.nm 4) none (d2 pIn (dV 4) (dV 1)) [4]]) (d2 pEq (dB (o1 pLen) [dCall g_unheld_of [dV 0, dV 3, dV 2]]) (dC (.int 0))))) (sPass))
def g_is_held : List D → M D := dDef 5 s_is_held
def s_is_apart : DS := sSeq (sIf (dOr (dNot (dCall g_are_ties [dV 0, dV 1, dV 2])) (dNot (dCall g_is_ascending [dV 3, dC (.int 0), dV 0]))) (sSeq (sRet (dC (.bl false))) (sPass)) (sPass)) (sSeq (sRet (dNot (dB (o1 pAny) [dCmp (itV (dV 1)) (.nm 4) none (d2 pGt (dB (o1 pLen) [dCmp (itV (dV 3)) (.nm 5) (some (dCall g_does_hold [dV 4, dV 5, dV 2])) (dV 5) [5]]) (dC (.int 1))) [4]]))) (sPass))
def g_is_apart : List D → M D := dDef 6 s_is_apart
def s_upper : DS := sSeq (sRet (dCmp (itV (dCall g_stones_of [dV 0])) (.nm 1) (some (d2 pGt (d2 pIdx (dV 1) (dC (.int 0))) (dC (.int 0)))) (dV 1) [1])) (sPass)
def g_upper : List D → M D := dDef 2 s_upper
def b_next_taken_1 : DS := sSeq (sIf (dAnd (d2 pNotIn (dV 3) (dV 1)) (d2 pEq (dB (o1 pLen) [dCall g_fallen [dV 0, dB (o1 pTuple) [dB (o1 pSorted) [d2 pAdd (dV 1) (dTup [dV 3])]]]]) (dC (.int 0)))) (sSeq (sAppend 2 (dV 3)) (sPass)) (sPass)) (sSeq sPass (sKill [3]))
def s_next_taken : DS := sSeq (sOwn 2 (dLst [])) (sSeq (sSeq (sFor (itV (dCall g_upper [dV 0])) (.nm 3) (b_next_taken_1)) (sKill [3])) (sSeq (sFz 2) (sSeq (sRet (dV 2)) (sPass))))
def g_next_taken : List D → M D := dDef 4 s_next_taken
def b_is_taking_1 : DS := sSeq (sIf (dOr (dNot (dCall g_is_lost [dV 0, dTup [dV 3]])) (d2 pNotIn (dV 3) (dCall g_next_taken [dV 0, dSl (dV 1) noIx (anIx (dV 2))]))) (sSeq (sRet (dC (.bl false))) (sPass)) (sPass)) (sSeq sPass (sKill [2, 3]))
def s_is_taking : DS := sSeq (sIf (dOr (dNot (dCall g_are_rows [dV 0])) (dNot (dIsi .tuple (dV 1)))) (sSeq (sRet (dC (.bl false))) (sPass)) (sPass)) (sSeq (sSeq (sFor (itE (dV 1)) (.tp [2, 3]) (b_is_taking_1)) (sKill [2, 3])) (sSeq (sRet (dC (.bl true))) (sPass)))
def g_is_taking : List D → M D := dDef 4 s_is_taking
def s_need_taking : DS := sSeq (sExpr (dCall g_need_rows [dV 0])) (sSeq (sIf (d2 pGt (dB (o1 pLen) [dCall g_upper [dV 0]]) (dC (.int 9))) (sSeq (sRaise "NotThere" [] []) (sPass)) (sPass)) (sPass))
def g_need_taking : List D → M D := dDef 1 s_need_taking
def s_are_faces : DS := sSeq (sIf (dOr (dNot (dCall g_are_rows [dV 0])) (dNot (dCall g_are_rows [dV 1]))) (sSeq (sRet (dC (.bl false))) (sPass)) (sPass)) (sSeq (sRet (dAnd (d2 pEq (dB (o1 pLen) [dV 0]) (dB (o1 pLen) [dV 1])) (d2 pEq (dB (o1 pSum) [d2 pIdx (dV 0) (dC (.int 0))]) (dB (o1 pSum) [d2 pIdx (dV 1) (dC (.int 0))])))) (sPass))
def g_are_faces : List D → M D := dDef 2 s_are_faces
def s_need_faces : DS := sSeq (sIf (dNot (dCall g_are_faces [dV 0, dV 1])) (sSeq (sRaise "NoRows" [] []) (sPass)) (sPass)) (sPass)
def g_need_faces : List D → M D := dDef 2 s_need_faces
def s_spans_of : DS := sSeq (sRet (dB (o1 pDict) [dCmp (itV (dCall g_stones_of [dV 0])) (.nm 1) none (dTup [d2 pAdd (dTup [d2 pIdx (dV 1) (dC (.int 0))]) (dCall g_span_of [dV 0, dV 1]), dV 1]) [1]])) (sPass)
def g_spans_of : List D → M D := dDef 2 s_spans_of
def s_throughs_of : DS := sSeq (sSet 2 (dCall g_spans_of [dV 1])) (sSeq (sRet (dB (o1 pSorted) [dCmp (itK (dCall g_spans_of [dV 0])) (.nm 3) (some (d2 pInX (dV 3) (dV 2))) (dV 3) [3]])) (sPass))
def g_throughs_of : List D → M D := dDef 4 s_throughs_of
end DL
namespace DL
set_option autoImplicit false
open PySem
theorem pLt_int (a b : Int) : pLt (.int a) (.int b) = some (.bl (decide (a < b))) := by
  unfold pLt
  simp [D.alike, D.plain, D.eqv, D.lt]
theorem getD'_get : ∀ (xs : List D) (n : Nat), getD' xs n = xs[n]?
  | [], n => by cases n <;> rfl
  | x :: xs, 0 => rfl
  | x :: xs, n + 1 => by rw [getD', getD'_get xs n, List.getElem?_cons_succ]
theorem small_i {a : Int} (h0 : 0 ≤ a) (h1 : a < 2147483647) : small a = true := by
  unfold small
  simp
  omega
theorem draw_ok {p : Pot} (hp : PotGood p) {m : Int} (h1 : 1 ≤ m) (h2 : m < 1000000) : ∃ r p', g__law_draw [.int m] p = .ok (.int r) p' ∧ PotGood p' ∧ 0 ≤ r ∧ r < m := by
  by_cases h : m < 2
  · exact ⟨0, p, by simp [g__law_draw, dDefP, runF, padN, s__law_draw, sSeq, sIf, bM, d2, dV, dC, nth, bindM, retM, liftM, pLt_int, runE, asB, h, sRet], hp, by omega, by omega⟩
  · have hm : 0 < m ∧ m < 1073741824 := by omega
    have hm0 : (0 : Int) < m := hm.1
    have hs1 : small 48271 = true := by decide
    have hs2 : small p.m = true := small_i hp.m0 hp.m1
    by_cases hg : 0 < p.g
    · have hg2 : 0 ≤ p.g / m := Int.ediv_nonneg (by omega) (by omega)
      refine ⟨p.g % m, { p with g := p.g / m }, ?_, ⟨hp.len, hp.nn, hp.m0, hp.m1, hg2⟩, Int.emod_nonneg _ (by omega), Int.emod_lt_of_pos _ hm0⟩
      simp [g__law_draw, dDefP, runF, padN, s__law_draw, sSeq, sIf, bM, d2, dV, dC, nth, bindM, retM, liftM, pLt_int, runE, asB, h, sRet, dPk, potAt, pGt, hg, sSet, dB, dsN, o1, pInt, pMod, hm.1, sPk, pDiv, hm, potSet, hg2, put, sPass]
    · have fin : ∀ cell : Int, 0 ≤ cell → ∀ i : Nat, ∃ x, (p.m * 48271 + cell + 12345) % 2147483647 = x ∧ 0 ≤ x ∧ x < 2147483647 ∧ small x = true ∧ PotGood { p with i := i, m := x } := fun cell hc i => by
        have e0 : 0 ≤ (p.m * 48271 + cell + 12345) % 2147483647 := Int.emod_nonneg _ (by decide)
        have e1 : (p.m * 48271 + cell + 12345) % 2147483647 < 2147483647 := Int.emod_lt_of_pos _ (by decide)
        exact ⟨_, rfl, e0, e1, small_i e0 e1, hp.len, hp.nn, e0, e1, hp.g0⟩
      by_cases hi : (p.i : Int) < (p.cells.length : Int)
      · have hi' : p.i < p.cells.length := by omega
        have hi1 : (0 : Int) ≤ (p.i : Int) + 1 := by omega
        have hc : getD' (p.cells.map D.int) p.i = some (.int p.cells[p.i]) := by
          rw [getD'_get, List.getElem?_map, List.getElem?_eq_getElem hi']
          rfl
        have hc0 : 0 ≤ p.cells[p.i] := hp.nn _ (List.getElem_mem hi')
        by_cases hb : (1000000000000000000 : Int) ≤ p.cells[p.i]
        · have hg2 : 0 ≤ p.cells[p.i] / m := Int.ediv_nonneg hc0 (by omega)
          refine ⟨p.cells[p.i] % m, { p with i := p.i + 1, g := p.cells[p.i] / m }, ?_, ⟨hp.len, hp.nn, hp.m0, hp.m1, hg2⟩, Int.emod_nonneg _ (by omega), Int.emod_lt_of_pos _ hm0⟩
          simp [g__law_draw, dDefP, runF, padN, s__law_draw, sSeq, sIf, bM, d2, dV, dC, nth, bindM, retM, liftM, pLt_int, runE, asB, h, sRet, dPk, potAt, pGt, hg, sSet, dB, dsN, o1, pInt, pMod, hm.1, sPk, pDiv, hm, potSet, hg2, put, sPass, dP0, pLen, hi, hi', pIdx, hc, pAdd, pGe, pPow, hb, hi1]
        · obtain ⟨x, ex, hx0, hx1, hxs, hg'⟩ := fin _ hc0 (p.i + 1)
          have hx : 0 ≤ x ∧ x < 2147483647 := ⟨hx0, hx1⟩
          refine ⟨(x * x / 64 + x / 7) % m, _, ?_, hg', Int.emod_nonneg _ (by omega), Int.emod_lt_of_pos _ hm0⟩
          simp [g__law_draw, dDefP, runF, padN, s__law_draw, sSeq, sIf, bM, d2, dV, dC, nth, bindM, retM, liftM, pLt_int, runE, asB, h, sRet, dPk, potAt, pGt, hg, sSet, dB, dsN, o1, pInt, pMod, hm.1, sPk, pDiv, hm, potSet, put, sPass, dP0, pLen, hi, hi', pIdx, hc, pAdd, pGe, pPow, hb, hi1, pMul, hs1, hs2, ex, hx0, hx1, hxs]
      · obtain ⟨x, ex, hx0, hx1, hxs, hg'⟩ := fin 0 (by omega) p.i
        rw [Int.add_zero] at ex
        have hi' : ¬ p.i < p.cells.length := by omega
        refine ⟨(x * x / 64 + x / 7) % m, _, ?_, hg', Int.emod_nonneg _ (by omega), Int.emod_lt_of_pos _ hm0⟩
        simp [g__law_draw, dDefP, runF, padN, s__law_draw, sSeq, sIf, bM, d2, dV, dC, nth, bindM, retM, liftM, pLt_int, runE, asB, h, sRet, dPk, potAt, pGt, hg, sSet, dB, dsN, o1, pInt, pMod, hm.1, sPk, pDiv, hm, potSet, put, sPass, dP0, pLen, hi, hi', pIdx, pAdd, pGe, pPow, pMul, hs1, hs2, ex, hx0, hx1, hxs]
theorem pick_ok {p : Pot} (hp : PotGood p) {xs : List D} (h1 : 1 ≤ xs.length) (h2 : xs.length < 1000000) : ∃ d p', g__law_pick [.lst xs] p = .ok d p' ∧ PotGood p' ∧ d ∈ xs := by
  obtain ⟨r, p', e, hp', r0, r1⟩ := draw_ok hp (m := (xs.length : Nat)) (by omega) (by omega)
  have hlt : r.toNat < xs.length := by omega
  refine ⟨xs[r.toNat], p', ?_, hp', List.getElem_mem hlt⟩
  have hd : getD' xs r.toNat = some xs[r.toNat] := by rw [getD'_get, List.getElem?_eq_getElem hlt]
  simp [g__law_pick, dDefP, runF, padN, s__law_pick, sSeq, d2, dV, dC, nth, bindM, retM, liftM, runE, sRet, dCallP, dB, dsN, o1, pLen, e, pIdx, r0, hd]
/-! ### comprehensions -/
theorem bindM_retM {α β : Type} (a : α) (k : α → M β) : bindM (retM a) k = k a := rfl
theorem compGo_map {tg : Tg} {e : DE} {ρ : Env'} (f : D → D) : ∀ {xs : List D}, (∀ x ∈ xs, ∃ ρ1, setTg tg x ρ = some ρ1 ∧ e ρ1 = retM (f x)) → compGo tg none e ρ xs = retM (xs.map f)
  | [], _ => rfl
  | x :: xs, h => by
    obtain ⟨ρ1, h1, h2⟩ := h x List.mem_cons_self
    rw [compGo, h1]
    show bindM (e ρ1) (fun y => bindM (compGo tg none e ρ xs) fun ys => retM (y :: ys)) = _
    rw [h2, bindM_retM, compGo_map f fun z hz => h z (List.mem_cons_of_mem _ hz)]
    rfl
theorem compGo_fil {tg : Tg} {c e : DE} {ρ : Env'} (P : D → Bool) (f : D → D) : ∀ {xs : List D}, (∀ x ∈ xs, ∃ ρ1, setTg tg x ρ = some ρ1 ∧ bM c ρ1 = retM (P x) ∧ (P x = true → e ρ1 = retM (f x))) → compGo tg (some c) e ρ xs = retM ((xs.filter P).map f)
  | [], _ => rfl
  | x :: xs, h => by
    obtain ⟨ρ1, h1, h2, h3⟩ := h x List.mem_cons_self
    rw [compGo, h1]
    show bindM (bM c ρ1) (fun b => if b then bindM (e ρ1) fun y => bindM (compGo tg (some c) e ρ xs) fun ys => retM (y :: ys) else compGo tg (some c) e ρ xs) = _
    rw [h2, bindM_retM, compGo_fil P f fun z hz => h z (List.mem_cons_of_mem _ hz), List.filter_cons]
    cases q : P x with
    | true =>
      rw [if_pos rfl, if_pos rfl, h3 q]
      rfl
    | false => rfl
theorem noX_ret {α : Type} (a : α) : noX (retM a) = retM a := rfl
theorem cmp_map {it : DI} {tg : Tg} {e : DE} {vs : List Nat} {ρ : Env'} {xs : List D} (f : D → D) (hi : it ρ = retM xs) (h : ∀ x ∈ xs, ∃ ρ1, setTg tg x (wipes vs ρ) = some ρ1 ∧ e ρ1 = retM (f x)) : dCmp it tg none e vs ρ = retM (.lst (xs.map f)) := by
  show bindM (it ρ) _ = _
  rw [hi, bindM_retM, compGo_map f h]
  rfl
theorem cmp_fil {it : DI} {tg : Tg} {c e : DE} {vs : List Nat} {ρ : Env'} {xs : List D} (P : D → Bool) (f : D → D) (hi : it ρ = retM xs) (h : ∀ x ∈ xs, ∃ ρ1, setTg tg x (wipes vs ρ) = some ρ1 ∧ bM c ρ1 = retM (P x) ∧ (P x = true → e ρ1 = retM (f x))) : dCmp it tg (some c) e vs ρ = retM (.lst ((xs.filter P).map f)) := by
  show bindM (it ρ) _ = _
  rw [hi, bindM_retM, compGo_fil P f h]
  rfl
theorem keep_ok {α : Type} (a : α) (p : Pot) : keep (.ok a p) = retM a := rfl
theorem intsD_map : ∀ (lo : Int) (n : Nat), intsD lo n = (List.range n).map fun (k : Nat) => D.int (lo + (k : Nat))
  | lo, 0 => rfl
  | lo, n + 1 => by
    rw [intsD, intsD_map (lo + 1) n, List.range_succ_eq_map, List.map_cons, List.map_map]
    congr 1
    · simp
    · apply List.map_congr_left
      intro k _
      show D.int (lo + 1 + (k : Int)) = D.int (lo + ((k + 1 : Nat) : Int))
      congr 1
      omega
/-! ### what is the same -/
mutual
def D.fit : Nat → D → Bool
  | _, .dct _ _ => false
  | 0, .lst _ => false
  | 0, .tup _ => false
  | n + 1, .lst xs => decide (xs.length ≤ 100000) && D.fits n xs
  | n + 1, .tup xs => decide (xs.length ≤ 100000) && D.fits n xs
  | _, _ => true
def D.fits : Nat → List D → Bool
  | _, [] => true
  | n, x :: xs => D.fit n x && D.fits n xs
end
mutual
def sameD : D → D → Bool
  | .non, .non => true
  | .bl a, .bl b => a == b
  | .int a, .int b => a == b
  | .str a, .str b => a == b
  | .lst xs, .lst ys => sameDs xs ys
  | .tup xs, .tup ys => sameDs xs ys
  | _, _ => false
def sameDs : List D → List D → Bool
  | [], [] => true
  | x :: xs, y :: ys => sameD x y && sameDs xs ys
  | _, _ => false
end
theorem sameDs_len : ∀ {xs ys : List D}, xs.length ≠ ys.length → sameDs xs ys = false
  | [], [], h => absurd rfl h
  | [], _ :: _, _ => by simp [sameDs]
  | _ :: _, [], _ => by simp [sameDs]
  | x :: xs, y :: ys, h => by
    rw [sameDs, sameDs_len (fun e => h (by rw [List.length_cons, List.length_cons, e])), Bool.and_false]
theorem sameDs_all : ∀ {xs ys : List D}, xs.length = ys.length → sameDs xs ys = (List.range ys.length).all fun k => sameD (xs.getD k .non) (ys.getD k .non)
  | [], [], _ => by simp [sameDs]
  | [], _ :: _, h => by cases h
  | _ :: _, [], h => by cases h
  | x :: xs, y :: ys, h => by
    rw [sameDs, sameDs_all (Nat.succ.inj h), List.length_cons, List.range_succ_eq_map, List.all_cons, List.all_map]
    rfl
theorem fits_get : ∀ {n : Nat} {xs : List D} {k : Nat}, D.fits n xs = true → k < xs.length → (xs.getD k .non).fit n = true
  | n, [], k, _, h => absurd h (Nat.not_lt_zero _)
  | n, x :: xs, 0, h, _ => by
    have h0 : D.fit n x = true ∧ D.fits n xs = true := by simpa [D.fits] using h
    exact h0.1
  | n, x :: xs, k + 1, h, hk => by
    have h0 : D.fit n x = true ∧ D.fits n xs = true := by simpa [D.fits] using h
    show (xs.getD k .non).fit n = true
    exact fits_get h0.2 (Nat.lt_of_succ_lt_succ hk)
theorem idx_nat {xs : List D} {k : Nat} (h : k < xs.length) : getD' xs k = some (xs.getD k .non) := by
  rw [getD'_get, List.getElem?_eq_getElem h, List.getD_eq_getElem?_getD, List.getElem?_eq_getElem h]
  rfl
theorem pNe_bl (a b : Bool) : pNe (.bl a) (.bl b) = some (.bl (!(a == b))) := by simp [pNe, D.plain, D.eqv]
theorem pEq_bl (a b : Bool) : pEq (.bl a) (.bl b) = some (.bl (a == b)) := by simp [pEq, D.plain, D.eqv]
theorem pNe_int (a b : Int) : pNe (.int a) (.int b) = some (.bl (!(a == b))) := by simp [pNe, D.plain, D.eqv]
theorem pEq_int (a b : Int) : pEq (.int a) (.int b) = some (.bl (a == b)) := by simp [pEq, D.plain, D.eqv]
theorem pEq_str (a b : Str) : pEq (.str a) (.str b) = some (.bl (a == b)) := by simp [pEq, D.plain, D.eqv]
theorem plains_ints : ∀ (n : Nat) (l : List Int), D.plains n (l.map .int) = true
  | _, [] => by simp [D.plains]
  | n, x :: l => by
    rw [List.map_cons, D.plains, plains_ints n l]
    cases n <;> simp [D.plain]
theorem pEq_nil {l : List Int} : pEq (.lst (l.map .int)) (.lst []) = some (.bl l.isEmpty) := by
  have h : D.plain 9 (.lst (l.map .int)) = true := by rw [D.plain]; exact plains_ints 8 l
  have h2 : D.plain 9 (.lst []) = true := by simp [D.plain, D.plains]
  unfold pEq D.pl
  rw [h, h2, Bool.and_self, if_pos rfl]
  cases l <;> simp [D.eqv, D.eqvs]
theorem intsD0 (n : Nat) : intsD 0 n = (List.range n).map fun (k : Nat) => D.int (k : Int) := by
  rw [intsD_map]
  apply List.map_congr_left
  intro k _
  rw [Int.zero_add]
theorem lim_eq : lim = 16777216 := rfl
theorem itR1_nat {f : DE} {ρ : Env'} {n : Nat} (h : f ρ = retM (.int n)) (hn : n ≤ 16777216) : itR1 f ρ = retM ((List.range n).map fun (k : Nat) => D.int (k : Int)) := by
  have h1 : (-1000000000 : Int) ≤ ((n : Nat) : Int) ∧ ((n : Nat) : Int) ≤ (lim : Int) := by rw [lim_eq]; omega
  unfold itR1
  rw [h, bindM_retM]
  simp only [h1, and_self, if_true, Int.toNat_natCast]
  rw [intsD0]
theorem pIdx_lst {xs : List D} {k : Nat} (h : k < xs.length) : pIdx (.lst xs) (.int (k : Nat)) = some (xs.getD k .non) := by
  have h0 : (0 : Int) ≤ (k : Nat) := Int.natCast_nonneg k
  simp only [pIdx, h0, if_true, Int.toNat_natCast]
  exact idx_nat h
theorem pIdx_tup {xs : List D} {k : Nat} (h : k < xs.length) : pIdx (.tup xs) (.int (k : Nat)) = some (xs.getD k .non) := by
  have h0 : (0 : Int) ≤ (k : Nat) := Int.natCast_nonneg k
  simp only [pIdx, h0, if_true, Int.toNat_natCast]
  exact idx_nat h
def PS' (xs ys : List D) : D → Bool
  | .int k => !sameD (xs.getD k.toNat .non) (ys.getD k.toNat .non)
  | _ => false
theorem same_seq {n : Nat} {xs ys : List D} {a b : D} (ha : (a = .lst xs ∧ b = .lst ys) ∨ (a = .tup xs ∧ b = .tup ys)) (hl : xs.length = ys.length) (hz : ys.length ≤ 100000) (ih : ∀ k, k < ys.length → g__law_same n [xs.getD k .non, ys.getD k .non] pot0 = .ok (.bl (sameD (xs.getD k .non) (ys.getD k .non))) pot0) :
    d2 pEq (dCmp (itR1 (dB (o1 pLen) [dV 1])) (.nm 2) (some (dNot (dCall (g__law_same n) [d2 pIdx (dV 0) (dV 2), d2 pIdx (dV 1) (dV 2)]))) (dV 2) [2]) (dLst []) [Sl.fz a, .fz b, .un] = retM (.bl (sameDs xs ys)) := by
  have hit : itR1 (dB (o1 pLen) [dV 1]) [Sl.fz a, .fz b, .un] = retM ((List.range ys.length).map fun (k : Nat) => D.int (k : Int)) := by
    refine itR1_nat ?_ (by omega)
    have e : pLen b = some (.int ys.length) := by rcases ha with ⟨_, e⟩ | ⟨_, e⟩ <;> rw [e] <;> rfl
    simp only [dB, dsN, dV, nth, bindM_retM, o1, e, liftM]
  have hc := cmp_fil (it := itR1 (dB (o1 pLen) [dV 1])) (tg := .nm 2) (c := dNot (dCall (g__law_same n) [d2 pIdx (dV 0) (dV 2), d2 pIdx (dV 1) (dV 2)])) (e := dV 2) (vs := [2]) (ρ := [Sl.fz a, .fz b, .un]) (PS' xs ys) id hit (fun d hd => by
    obtain ⟨k, hk, e⟩ := List.mem_map.mp hd
    subst e
    have hk' : k < ys.length := List.mem_range.mp hk
    refine ⟨[.fz a, .fz b, .fz (.int (k : Nat))], rfl, ?_, fun _ => rfl⟩
    have e1 : pIdx a (.int (k : Nat)) = some (xs.getD k .non) := by
      rcases ha with ⟨e, _⟩ | ⟨e, _⟩ <;> rw [e]
      · exact pIdx_lst (by omega)
      · exact pIdx_tup (by omega)
    have e2 : pIdx b (.int (k : Nat)) = some (ys.getD k .non) := by
      rcases ha with ⟨_, e⟩ | ⟨_, e⟩ <;> rw [e]
      · exact pIdx_lst (by omega)
      · exact pIdx_tup (by omega)
    have e3 := ih k hk'
    simp only [dNot, bM, dCall, dsN, d2, dV, nth, bindM_retM, liftM, asB, e1, e2, e3, keep_ok, PS', Int.toNat_natCast])
  have hres : (List.filter (PS' xs ys) ((List.range ys.length).map fun (k : Nat) => D.int (k : Int))).map id = (((List.range ys.length).filter fun k => !sameD (xs.getD k .non) (ys.getD k .non)).map fun (k : Nat) => (k : Int)).map D.int := by
    rw [List.filter_map, List.map_map, List.map_map]
    have e1 : (PS' xs ys ∘ fun (k : Nat) => D.int (k : Int)) = fun k => !sameD (xs.getD k .non) (ys.getD k .non) := by
      funext k
      simp only [Function.comp, PS', Int.toNat_natCast]
    rw [e1]
    rfl
  rw [hres] at hc
  have hfin : ((((List.range ys.length).filter fun k => !sameD (xs.getD k .non) (ys.getD k .non)).map fun (k : Nat) => (k : Int))).isEmpty = sameDs xs ys := by
    rw [sameDs_all hl]
    cases h : (List.range ys.length).all fun k => sameD (xs.getD k .non) (ys.getD k .non) with
    | true =>
      have h1 := List.all_eq_true.mp h
      rw [List.filter_eq_nil_iff.mpr fun k hk => by simp only [h1 k hk]; decide]
      rfl
    | false =>
      rw [List.all_eq_false] at h
      obtain ⟨k, hk, e⟩ := h
      have hm : k ∈ (List.range ys.length).filter fun k => !sameD (xs.getD k .non) (ys.getD k .non) := List.mem_filter.mpr ⟨hk, by
        cases q : sameD (xs.getD k .non) (ys.getD k .non) with
        | true => exact absurd q e
        | false => rfl⟩
      cases hq : (List.range ys.length).filter fun k => !sameD (xs.getD k .non) (ys.getD k .non) with
      | nil => rw [hq] at hm; cases hm
      | cons x l => rfl
  show bindM (dCmp _ _ _ _ _ _) (fun x => bindM (dLst [] _) fun y => liftM (pEq x y)) = _
  rw [hc]
  show liftM (pEq (.lst _) (.lst [])) = _
  rw [pEq_nil, hfin]
  rfl
def kSeq (n : Nat) : DE := d2 pEq (dCmp (itR1 (dB (o1 pLen) [dV 1])) (.nm 2) (some (dNot (dCall (g__law_same n) [d2 pIdx (dV 0) (dV 2), d2 pIdx (dV 1) (dV 2)]))) (dV 2) [2]) (dLst [])
theorem s_same_eq (n : Nat) : s__law_same (g__law_same n) = sSeq (sIf (dOr (dIsi .tuple (dV 1)) (dIsi .list (dV 1))) (sSeq (sIf (dOr (d2 pNe (dIsi .tuple (dV 1)) (dIsi .tuple (dV 0))) (d2 pNe (dIsi .list (dV 1)) (dIsi .list (dV 0)))) (sSeq (sRet (dC (.bl false))) (sPass)) (sPass)) (sSeq (sIf (d2 pNe (dB (o1 pLen) [dV 0]) (dB (o1 pLen) [dV 1])) (sSeq (sRet (dC (.bl false))) (sPass)) (sPass)) (sSeq (sRet (kSeq n)) (sPass)))) (sPass)) (sSeq (sIf (d2 pIs (dV 1) (dC .non)) (sSeq (sRet (d2 pIs (dV 0) (dC .non))) (sPass)) (sPass)) (sSeq (sIf (dIsi .str (dV 1)) (sSeq (sRet (dAnd (dIsi .str (dV 0)) (d2 pEq (dV 0) (dV 1)))) (sPass)) (sPass)) (sSeq (sRet (dAnd (dIsi .int (dV 0)) (dAnd (d2 pEq (dIsi .bool (dV 0)) (dIsi .bool (dV 1))) (d2 pEq (dV 0) (dV 1))))) (sPass)))) := rfl
theorem same_ok : ∀ (n : Nat) (due found : D), due.fit n = true → g__law_same (n + 1) [found, due] pot0 = .ok (.bl (sameD found due)) pot0
  | n, .non, found, _ => by
    cases found <;> simp [g__law_same, dDef, runF, padN, s__law_same, sSeq, sIf, bM, dOr, dIsi, isTy, dV, dC, nth, bindM, retM, liftM, runE, asB, d2, pIs, pIsN, sRet, sPass, sameD]
  | n, .str x, found, _ => by
    cases found <;> simp [g__law_same, dDef, runF, padN, s__law_same, sSeq, sIf, bM, dOr, dAnd, dIsi, isTy, dV, dC, nth, bindM, retM, liftM, runE, asB, d2, pIs, pIsN, sRet, sPass, sameD, pEq_str]
  | n, .int x, found, _ => by
    cases found <;> simp [g__law_same, dDef, runF, padN, s__law_same, sSeq, sIf, bM, dOr, dAnd, dIsi, isTy, dV, dC, nth, bindM, retM, liftM, runE, asB, d2, pIs, pIsN, sRet, sPass, sameD, pEq_bl, pEq_int]
  | n, .bl x, found, _ => by
    cases found <;> simp [g__law_same, dDef, runF, padN, s__law_same, sSeq, sIf, bM, dOr, dAnd, dIsi, isTy, dV, dC, nth, bindM, retM, liftM, runE, asB, d2, pIs, pIsN, sRet, sPass, sameD, pEq_bl, pEq_int]
  | 0, .lst ys, found, h => by simp [D.fit] at h
  | 0, .tup ys, found, h => by simp [D.fit] at h
  | n, .dct _ _, found, h => by cases n <;> simp [D.fit] at h
  | n + 1, .lst ys, found, h => by
    have h0 : ys.length ≤ 100000 ∧ D.fits n ys = true := by simpa [D.fit] using h
    cases found with
    | lst xs =>
      rw [show (sameD (.lst xs) (.lst ys)) = sameDs xs ys by rw [sameD]]
      show runF 3 (s__law_same (g__law_same (n + 1))) _ pot0 = _
      rw [s_same_eq]
      by_cases hl : xs.length = ys.length
      · have hs := same_seq (n := n + 1) (xs := xs) (ys := ys) (.inl ⟨rfl, rfl⟩) hl h0.1 fun k hk => same_ok n _ _ (fits_get h0.2 hk)
        have hs2 : kSeq (n + 1) [.fz (.lst xs), .fz (.lst ys), .un] pot0 = .ok (.bl (sameDs xs ys)) pot0 := congrFun hs pot0
        simp [runF, padN, sSeq, sIf, bM, dOr, dIsi, isTy, dV, dC, nth, bindM, retM, liftM, runE, asB, d2, sRet, sPass, pNe_bl, pNe_int, dB, dsN, o1, pLen, hl, hs2]
      · have hl2 : ¬ (xs.length : Int) = (ys.length : Int) := by omega
        simp [runF, padN, sSeq, sIf, bM, dOr, dIsi, isTy, dV, dC, nth, bindM, retM, liftM, runE, asB, d2, sRet, sPass, pNe_bl, pNe_int, dB, dsN, o1, pLen, hl, hl2, sameDs_len hl]
    | _ => simp [g__law_same, dDef, runF, padN, s__law_same, sSeq, sIf, bM, dOr, dIsi, isTy, dV, dC, nth, bindM, retM, liftM, runE, asB, d2, sRet, sPass, sameD, pNe_bl]
  | n + 1, .tup ys, found, h => by
    have h0 : ys.length ≤ 100000 ∧ D.fits n ys = true := by simpa [D.fit] using h
    cases found with
    | tup xs =>
      rw [show (sameD (.tup xs) (.tup ys)) = sameDs xs ys by rw [sameD]]
      show runF 3 (s__law_same (g__law_same (n + 1))) _ pot0 = _
      rw [s_same_eq]
      by_cases hl : xs.length = ys.length
      · have hs := same_seq (n := n + 1) (xs := xs) (ys := ys) (.inr ⟨rfl, rfl⟩) hl h0.1 fun k hk => same_ok n _ _ (fits_get h0.2 hk)
        have hs2 : kSeq (n + 1) [.fz (.tup xs), .fz (.tup ys), .un] pot0 = .ok (.bl (sameDs xs ys)) pot0 := congrFun hs pot0
        simp [runF, padN, sSeq, sIf, bM, dOr, dIsi, isTy, dV, dC, nth, bindM, retM, liftM, runE, asB, d2, sRet, sPass, pNe_bl, pNe_int, dB, dsN, o1, pLen, hl, hs2]
      · have hl2 : ¬ (xs.length : Int) = (ys.length : Int) := by omega
        simp [runF, padN, sSeq, sIf, bM, dOr, dIsi, isTy, dV, dC, nth, bindM, retM, liftM, runE, asB, d2, sRet, sPass, pNe_bl, pNe_int, dB, dsN, o1, pLen, hl, hl2, sameDs_len hl]
    | _ => simp [g__law_same, dDef, runF, padN, s__law_same, sSeq, sIf, bM, dOr, dIsi, isTy, dV, dC, nth, bindM, retM, liftM, runE, asB, d2, sRet, sPass, sameD, pNe_bl]
/-! ### what is odd -/
def oddList : D → List D
  | .int i => [.int (i + 1), .int (i - 1), .int 10, .int (-10), .int 100, .bl true, .non, .str (toString i), .tup [.int i]]
  | .str x => [.str (x ++ "a"), .str (cutT x (some 1) none), .str "", .str "A", .int 0, .non, .tup [.str x], .lst [.str x], .str "abcdefghi"]
  | .tup xs => [.tup (xs ++ cut xs (some (-1)) none), .tup (cut xs (some 1) none), .lst xs, .tup [], .non, .int 3, .str "x", .tup [.tup xs], .tup (cut xs none (some (-1))), .tup (xs ++ [.int 1])]
  | _ => [.non, .int 0, .str "ab", .dct [] [], .bl true]
def oddOk : D → Bool
  | .int i => decide (i.natAbs < 1000000)
  | .str x => decide (x.length ≤ 1000000)
  | .tup xs => decide (xs.length ≤ 1000000)
  | .bl _ => false
  | _ => true
theorem d2_ret {op : D → D → Option D} {f g : DE} {ρ : Env'} {x y z : D} (h1 : f ρ = retM x) (h2 : g ρ = retM y) (h3 : op x y = some z) : d2 op f g ρ = retM z := by
  simp only [d2, h1, h2, bindM_retM, h3, liftM]
theorem dsN_cons {f : DE} {fs : List DE} {ρ : Env'} {x : D} {xs : List D} (h1 : f ρ = retM x) (h2 : dsN fs ρ = retM xs) : dsN (f :: fs) ρ = retM (x :: xs) := by
  simp only [dsN, h1, h2, bindM_retM]
theorem dLst_ret {fs : List DE} {ρ : Env'} {xs : List D} (h : dsN fs ρ = retM xs) : dLst fs ρ = retM (.lst xs) := by
  simp only [dLst, h, bindM_retM]
theorem dTup_ret {fs : List DE} {ρ : Env'} {xs : List D} (h : dsN fs ρ = retM xs) : dTup fs ρ = retM (.tup xs) := by
  simp only [dTup, h, bindM_retM]
/-- pick of a list that is written -/
theorem pick_call {p : Pot} (hp : PotGood p) {f : DE} {ρ : Env'} {xs : List D} (h : f ρ = retM (.lst xs)) (h1 : 1 ≤ xs.length) (h2 : xs.length < 1000000) : ∃ d p', dCallP g__law_pick [f] ρ p = .ok d p' ∧ PotGood p' ∧ d ∈ xs := by
  obtain ⟨d, p', e, hp', hm⟩ := pick_ok hp h1 h2
  refine ⟨d, p', ?_, hp', hm⟩
  simp only [dCallP, dsN, h, bindM_retM]
  exact e
theorem len_str (x y : Str) : (x ++ y).length = x.length + y.length := Array.size_append
theorem odd_ok {p : Pot} (hp : PotGood p) {t : D} (ht : oddOk t = true) : ∃ d p', g__law_odd [t] p = .ok d p' ∧ PotGood p' ∧ d ∈ oddList t := by
  have fin : ∀ {f : DE} {ρ : Env'} {xs : List D}, f ρ = retM (.lst xs) → 1 ≤ xs.length → xs.length < 1000000 → ∃ d p', dCallP g__law_pick [f] ρ p = .ok d p' ∧ PotGood p' ∧ d ∈ xs := fun h => pick_call hp h
  have rest : ∀ (a : D), oddList a = [.non, .int 0, .str "ab", .dct [] [], .bl true] → isTy .int a = false → isTy .str a = false → isTy .tuple a = false → ∃ d p', g__law_odd [a] p = .ok d p' ∧ PotGood p' ∧ d ∈ oddList a := fun a ha h1 h2 h3 => by
    obtain ⟨d, p', e, hp', hm⟩ := fin (f := dLst [dC .non, dC (.int 0), dC (.str "ab"), dC (.dct [] []), dC (.bl true)]) (ρ := [.un, .fz a, .un]) rfl (by decide) (by decide)
    refine ⟨d, p', ?_, hp', by rw [ha]; exact hm⟩
    simp [g__law_odd, dDefP, runF, padN, s__law_odd, sSeq, sIf, bM, dIsi, dV, nth, bindM, retM, runE, asB, sRet, sPass, h1, h2, h3, e]
  cases t with
  | non => exact rest _ rfl rfl rfl rfl
  | lst _ => exact rest _ rfl rfl rfl rfl
  | dct _ _ => exact rest _ rfl rfl rfl rfl
  | bl _ => cases ht
  | int i =>
    have hi : i.natAbs < 1000000 := by simpa [oddOk] using ht
    have hi2 : i.natAbs < 1000000000 := by omega
    obtain ⟨d, p', e, hp', hm⟩ := fin (f := dLst [d2 pAdd (dV 1) (dC (.int 1)), d2 pSub (dV 1) (dC (.int 1)), dC (.int 10), d1 pNeg (dC (.int 10)), dC (.int 100), dC (.bl true), dC .non, dB (o1 pStr) [dV 1], dTup [dV 1]]) (ρ := [.un, .fz (.int i), .un]) (xs := oddList (.int i)) (by
      refine dLst_ret ?_
      simp only [dsN, d2, d1, dV, dC, nth, bindM_retM, liftM, pAdd, pSub, pNeg, dB, o1, pStr, hi2, if_true, dTup, oddList]) (by simp [oddList]) (by simp [oddList])
    refine ⟨d, p', ?_, hp', hm⟩
    simp [g__law_odd, dDefP, runF, padN, s__law_odd, sSeq, sIf, bM, dIsi, isTy, dV, nth, bindM, retM, runE, asB, sRet, sPass, e]
  | str x =>
    have hx : x.length ≤ 1000000 := by simpa [oddOk] using ht
    have h1 : x.length + ("a" : Str).length ≤ 16777216 := by
      have : ("a" : Str).length = 1 := rfl
      omega
    have h2 : x.length ≤ 16777216 := by omega
    obtain ⟨d, p', e, hp', hm⟩ := fin (f := dLst [d2 pAdd (dV 1) (dC (.str "a")), dSl (dV 1) (anIx (dC (.int 1))) noIx, dC (.str ""), dC (.str "A"), dC (.int 0), dC .non, dTup [dV 1], dLst [dV 1], dC (.str "abcdefghi")]) (ρ := [.un, .fz (.str x), .un]) (xs := oddList (.str x)) (by
      refine dLst_ret ?_
      simp only [dsN, d2, dV, dC, nth, bindM_retM, liftM, pAdd, lim, h1, if_true, dSl, anIx, noIx, pSl, h2, dTup, dLst, oddList]) (by simp [oddList]) (by simp [oddList])
    refine ⟨d, p', ?_, hp', hm⟩
    simp [g__law_odd, dDefP, runF, padN, s__law_odd, sSeq, sIf, bM, dIsi, isTy, dV, nth, bindM, retM, runE, asB, sRet, sPass, e]
  | tup xs =>
    have hx : xs.length ≤ 1000000 := by simpa [oddOk] using ht
    have h1 : xs.length + (cut xs (some (-1)) none).length ≤ 16777216 := by
      have := cut_le xs (some (-1)) none
      omega
    have h2 : xs.length + [D.int 1].length ≤ 16777216 := by
      have : [D.int 1].length = 1 := rfl
      omega
    have hL : dLst [d2 pAdd (dV 1) (dSl (dV 1) (anIx (d1 pNeg (dC (.int 1)))) noIx), dSl (dV 1) (anIx (dC (.int 1))) noIx, dB (o1 pList) [dV 1], dTup [], dC .non, dC (.int 3), dC (.str "x"), dTup [dV 1], dSl (dV 1) noIx (anIx (d1 pNeg (dC (.int 1)))), d2 pAdd (dV 1) (dTup [dC (.int 1)])] [.un, .fz (.tup xs), .un] = retM (.lst (oddList (.tup xs))) := by
      refine dLst_ret ?_
      simp only [dsN, d2, d1, dV, dC, nth, bindM_retM, liftM, pAdd, lim, h1, h2, if_true, dSl, anIx, noIx, pSl, pNeg, dTup, dB, o1, pList, oddList]
    obtain ⟨d, p', e, hp', hm⟩ := fin (f := dV 2) (ρ := [.un, .fz (.tup xs), .fz (.lst (oddList (.tup xs)))]) (xs := oddList (.tup xs)) rfl (by simp [oddList]) (by simp [oddList])
    have hL2 := congrFun hL p
    refine ⟨d, p', ?_, hp', hm⟩
    simp [g__law_odd, dDefP, runF, padN, s__law_odd, sSeq, sIf, bM, dIsi, isTy, dV, nth, bindM, retM, runE, asB, sRet, sPass, sSet, hL2, put, e]
/-! ### loops -/
theorem for_const {tg : Tg} {body : DS} {ρ : Env'} : ∀ {xs : List D}, (∀ x ∈ xs, ∀ p, PotGood p → ∃ ρ1 p', setTg tg x ρ = some ρ1 ∧ body ρ1 p = .nx ρ p' ∧ PotGood p') → ∀ p, PotGood p → ∃ p', forGo tg body xs ρ p = .nx ρ p' ∧ PotGood p'
  | [], _, p, hp => ⟨p, rfl, hp⟩
  | x :: xs, h, p, hp => by
    obtain ⟨ρ1, p1, h1, h2, h3⟩ := h x List.mem_cons_self p hp
    obtain ⟨p2, h4, h5⟩ := for_const (fun z hz => h z (List.mem_cons_of_mem _ hz)) p1 h3
    refine ⟨p2, ?_, h5⟩
    rw [forGo, h1]
    show (match body ρ1 p with
      | .nx ρ2 p2 => forGo tg body xs ρ2 p2
      | .ct ρ2 p2 => forGo tg body xs ρ2 p2
      | .brk ρ2 p2 => .nx ρ2 p2
      | r => r) = _
    rw [h2]
    exact h4
theorem for_still {tg : Tg} {body : DS} {ρ : Env'} {p : Pot} : ∀ {xs : List D}, (∀ x ∈ xs, ∃ ρ1, setTg tg x ρ = some ρ1 ∧ body ρ1 p = .nx ρ p) → forGo tg body xs ρ p = .nx ρ p
  | [], _ => rfl
  | x :: xs, h => by
    obtain ⟨ρ1, h1, h2⟩ := h x List.mem_cons_self
    rw [forGo, h1]
    show (match body ρ1 p with
      | .nx ρ2 p2 => forGo tg body xs ρ2 p2
      | .ct ρ2 p2 => forGo tg body xs ρ2 p2
      | .brk ρ2 p2 => .nx ρ2 p2
      | r => r) = _
    rw [h2]
    exact for_still fun z hz => h z (List.mem_cons_of_mem _ hz)
/-! ### one statement after another -/
theorem seq_nx {f g : DS} {ρ ρ1 : Env'} {p p1 : Pot} (h : f ρ p = .nx ρ1 p1) : sSeq f g ρ p = g ρ1 p1 := by
  unfold sSeq
  rw [h]
theorem seq_ret {f g : DS} {ρ : Env'} {p p1 : Pot} {d : D} (h : f ρ p = .ret d p1) : sSeq f g ρ p = .ret d p1 := by
  unfold sSeq
  rw [h]
theorem set_nx {i : Nat} {f : DE} {ρ : Env'} {p p1 : Pot} {d : D} (h : f ρ p = .ok d p1) : sSet i f ρ p = .nx (put ρ i (.fz d)) p1 := by
  unfold sSet runE
  rw [h]
theorem if_ok {c : DE} {f g : DS} {ρ : Env'} {p p1 : Pot} {b : Bool} (h : c ρ p = .ok (.bl b) p1) : sIf c f g ρ p = if b then f ρ p1 else g ρ p1 := by
  unfold sIf runE bM bindM
  rw [h]
  rfl
theorem for_nx {it : DI} {tg : Tg} {s : DS} {ρ : Env'} {p p1 : Pot} {xs : List D} (h : it ρ p = .ok xs p1) : sFor it tg s ρ p = forGo tg s xs ρ p1 := by
  unfold sFor runE
  rw [h]
theorem ok_of {f : DE} {ρ : Env'} {d : D} (h : f ρ = retM d) (p : Pot) : f ρ p = .ok d p := congrFun h p
theorem call_ret {g : List D → M D} {fs : List DE} {ρ : Env'} {xs : List D} {d : D} {p1 : Pot} (h : dsN fs ρ = retM xs) (h2 : g xs pot0 = .ok d p1) : dCall g fs ρ = retM d := by
  simp only [dCall, h, bindM_retM, h2]
  rfl
theorem not_ret {f : DE} {ρ : Env'} {b : Bool} (h : f ρ = retM (.bl b)) : dNot f ρ = retM (.bl (!b)) := by
  simp only [dNot, bM, h, bindM_retM, asB]
theorem or_ret {f g : DE} {ρ : Env'} {a b : Bool} (h : f ρ = retM (.bl a)) (h2 : a = false → g ρ = retM (.bl b)) : dOr f g ρ = retM (.bl (a || b)) := by
  simp only [dOr, bM, h, bindM_retM, asB]
  cases a with
  | true => rfl
  | false => exact h2 rfl
theorem and_ret {f g : DE} {ρ : Env'} {a b : Bool} (h : f ρ = retM (.bl a)) (h2 : a = true → g ρ = retM (.bl b)) : dAnd f g ρ = retM (.bl (a && b)) := by
  simp only [dAnd, bM, h, bindM_retM, asB]
  cases a with
  | true => exact h2 rfl
  | false => rfl
mutual
theorem sameD_refl : ∀ (n : Nat) (d : D), d.fit n = true → sameD d d = true
  | _, .non, _ => by simp [sameD]
  | _, .bl _, _ => by simp [sameD]
  | _, .int _, _ => by simp [sameD]
  | _, .str _, _ => by simp [sameD]
  | 0, .dct _ _, h => by simp [D.fit] at h
  | n + 1, .dct _ _, h => by simp [D.fit] at h
  | 0, .lst _, h => by simp [D.fit] at h
  | 0, .tup _, h => by simp [D.fit] at h
  | n + 1, .lst xs, h => by
    have h0 : xs.length ≤ 100000 ∧ D.fits n xs = true := by simpa [D.fit] using h
    rw [sameD]
    exact sameDs_refl n xs h0.2
  | n + 1, .tup xs, h => by
    have h0 : xs.length ≤ 100000 ∧ D.fits n xs = true := by simpa [D.fit] using h
    rw [sameD]
    exact sameDs_refl n xs h0.2
theorem sameDs_refl : ∀ (n : Nat) (ds : List D), D.fits n ds = true → sameDs ds ds = true
  | _, [], _ => by simp [sameDs]
  | n, x :: xs, h => by
    have h0 : D.fit n x = true ∧ D.fits n xs = true := by simpa [D.fits] using h
    rw [sameDs, sameD_refl n x h0.1, sameDs_refl n xs h0.2]
    rfl
end
mutual
theorem fit_mono : ∀ (n m : Nat) (d : D), n ≤ m → d.fit n = true → d.fit m = true
  | _, _, .non, _, _ => by simp [D.fit]
  | _, _, .bl _, _, _ => by simp [D.fit]
  | _, _, .int _, _, _ => by simp [D.fit]
  | _, _, .str _, _, _ => by simp [D.fit]
  | 0, _, .dct _ _, _, h => by simp [D.fit] at h
  | n + 1, _, .dct _ _, _, h => by simp [D.fit] at h
  | 0, _, .lst _, _, h => by simp [D.fit] at h
  | 0, _, .tup _, _, h => by simp [D.fit] at h
  | n + 1, 0, .lst xs, hm, h => absurd hm (Nat.not_succ_le_zero _)
  | n + 1, 0, .tup xs, hm, h => absurd hm (Nat.not_succ_le_zero _)
  | n + 1, m + 1, .lst xs, hm, h => by
    have h0 : xs.length ≤ 100000 ∧ D.fits n xs = true := by simpa [D.fit] using h
    simp only [D.fit, h0.1, decide_true, Bool.true_and]
    exact fits_mono n m xs (Nat.le_of_succ_le_succ hm) h0.2
  | n + 1, m + 1, .tup xs, hm, h => by
    have h0 : xs.length ≤ 100000 ∧ D.fits n xs = true := by simpa [D.fit] using h
    simp only [D.fit, h0.1, decide_true, Bool.true_and]
    exact fits_mono n m xs (Nat.le_of_succ_le_succ hm) h0.2
theorem fits_mono : ∀ (n m : Nat) (ds : List D), n ≤ m → D.fits n ds = true → D.fits m ds = true
  | _, _, [], _, _ => by simp [D.fits]
  | n, m, x :: xs, hm, h => by
    have h0 : D.fit n x = true ∧ D.fits n xs = true := by simpa [D.fits] using h
    rw [D.fits, fit_mono n m x hm h0.1, fits_mono n m xs hm h0.2]
    rfl
end
/-! ### with the pot in hand -/
section
variable {f g : DE} {fs : List DE} {ρ : Env'} {p p1 p2 : Pot} {x y z : D} {xs : List D}
theorem bind_at {α β : Type} {m : M α} {k : α → M β} {a : α} (h : m p = .ok a p1) : bindM m k p = k a p1 := by
  unfold bindM
  rw [h]
theorem dsN_at (h : f ρ p = .ok x p1) (h2 : dsN fs ρ p1 = .ok xs p2) : dsN (f :: fs) ρ p = .ok (x :: xs) p2 := by
  show bindM (f ρ) (fun x => bindM (dsN fs ρ) fun xs => retM (x :: xs)) p = _
  rw [bind_at h, bind_at h2]
  rfl
theorem dsN_nil : dsN [] ρ p = .ok [] p := rfl
theorem dLst_at (h : dsN fs ρ p = .ok xs p1) : dLst fs ρ p = .ok (.lst xs) p1 := by
  show bindM (dsN fs ρ) (fun xs => retM (D.lst xs)) p = _
  rw [bind_at h]
  rfl
theorem dTup_at (h : dsN fs ρ p = .ok xs p1) : dTup fs ρ p = .ok (.tup xs) p1 := by
  show bindM (dsN fs ρ) (fun xs => retM (D.tup xs)) p = _
  rw [bind_at h]
  rfl
theorem callP_at {G : List D → M D} (h : dsN fs ρ p = .ok xs p1) : dCallP G fs ρ p = G xs p1 := by
  show bindM (dsN fs ρ) G p = _
  rw [bind_at h]
theorem d2_at {op : D → D → Option D} (h : f ρ p = .ok x p1) (h2 : g ρ p1 = .ok y p2) (h3 : op x y = some z) : d2 op f g ρ p = .ok z p2 := by
  show bindM (f ρ) (fun x => bindM (g ρ) fun y => liftM (op x y)) p = _
  rw [bind_at h, bind_at h2, h3]
  rfl
/-- if c: return .. / what follows -/
theorem guard_nx {c : DE} {s t : DS} (h : c ρ p = .ok (.bl false) p1) : sSeq (sIf c s sPass) t ρ p = t ρ p1 := by
  rw [seq_nx (ρ1 := ρ) (p1 := p1)]
  rw [if_ok h]
  rfl
theorem guard_ret {c : DE} (h : c ρ = retM (.bl false)) (s t : DS) : sSeq (sIf c s sPass) t ρ p = t ρ p := guard_nx (ok_of h p)
theorem guard_in {c : DE} {s t : DS} {d : D} (h : c ρ p = .ok (.bl true) p1) (h2 : s ρ p1 = .ret d p2) : sSeq (sIf c s sPass) t ρ p = .ret d p2 := by
  rw [seq_ret (d := d) (p1 := p2)]
  rw [if_ok h]
  exact h2
end
/-- a call that tells that two are the same -/
theorem same_call {f g : DE} {ρ : Env'} {a b : D} {n : Nat} (h : f ρ = retM a) (h2 : g ρ = retM b) (hb : b.fit n = true) : dCall (g__law_same (n + 1)) [f, g] ρ = retM (.bl (sameD a b)) :=
  call_ret (dsN_cons h (dsN_cons h2 rfl)) (same_ok n b a hb)
end DL
/-! DS: denotations rewritten, piece by piece, to plain functions. -/
namespace DL
set_option autoImplicit false
open PySem
def excM {α : Type} (e : Exc) : M α := fun p => .exc e p
def nxM (ρ : Env') : Pot → Out := fun p => .nx ρ p
def reM (d : D) : Pot → Out := fun p => .ret d p
def exM (e : Exc) (ρ : Env') : Pot → Out := fun p => .exc e ρ p
def seqM (m : Pot → Out) (g : DS) : Pot → Out := fun p => match m p with
  | .nx ρ1 p1 => g ρ1 p1
  | r => r
def bindS {α : Type} (m : M α) (ρ : Env') (k : α → Pot → Out) : Pot → Out := fun p => runE ρ (m p) k
def outM (m : Pot → Out) : M D := fun p => match m p with
  | .ret d p1 => .ok d p1
  | .nx _ p1 => .ok .non p1
  | .exc e _ p1 => .exc e p1
  | _ => .err
def keepM {α : Type} (m : M α) : M α := keep (m pot0)
def tgM {α : Type} (tg : Tg) (x : D) (ρ : Env') (k : Env' → M α) : M α := match setTg tg x ρ with
  | none => failM
  | some ρ1 => k ρ1
def mapT {α β : Type} (f : α → M β) : List α → M (List β)
  | [] => retM []
  | x :: xs => bindM (f x) fun y => bindM (mapT f xs) fun ys => retM (y :: ys)
def filT {α β : Type} (c : α → M Bool) (f : α → M β) : List α → M (List β)
  | [] => retM []
  | x :: xs => bindM (c x) fun b => if b then bindM (f x) fun y => bindM (filT c f xs) fun ys => retM (y :: ys) else filT c f xs
section
variable {α β γ : Type}
@[simp] theorem bindM_retM' (a : α) (k : α → M β) : bindM (retM a) k = k a := (rfl)
@[simp] theorem bindM_excM (e : Exc) (k : α → M β) : bindM (excM e) k = excM e := (rfl)
@[simp] theorem liftM_some (a : α) : liftM (some a) = retM a := (rfl)
@[simp] theorem asB_bl (b : Bool) (k : Bool → M α) : asB (.bl b) k = k b := (rfl)
@[simp] theorem keepM_retM (a : α) : keepM (retM a) = retM a := (rfl)
@[simp] theorem keepM_excM (e : Exc) : keepM (excM e : M α) = excM e := (rfl)
@[simp] theorem noX_retM (a : α) : noX (retM a) = retM a := (rfl)
@[simp] theorem seqM_nx (ρ : Env') (g : DS) : seqM (nxM ρ) g = g ρ := (rfl)
@[simp] theorem seqM_re (d : D) (g : DS) : seqM (reM d) g = reM d := (rfl)
@[simp] theorem seqM_ex (e : Exc) (ρ : Env') (g : DS) : seqM (exM e ρ) g = exM e ρ := (rfl)
@[simp] theorem bindS_retM (a : α) (ρ : Env') (k : α → Pot → Out) : bindS (retM a) ρ k = k a := (rfl)
@[simp] theorem bindS_excM (e : Exc) (ρ : Env') (k : α → Pot → Out) : bindS (excM e) ρ k = exM e ρ := (rfl)
@[simp] theorem outM_nx (ρ : Env') : outM (nxM ρ) = retM .non := (rfl)
@[simp] theorem outM_re (d : D) : outM (reM d) = retM d := (rfl)
@[simp] theorem outM_ex (e : Exc) (ρ : Env') : outM (exM e ρ) = excM e := (rfl)
@[simp] theorem ite_retM {c : Prop} [Decidable c] (a b : α) : (if c then retM a else retM b) = retM (if c then a else b) := by split <;> rfl
@[simp] theorem ite_bl {c : Prop} [Decidable c] (x y : Bool) : (if c then D.bl x else D.bl y) = D.bl (if c then x else y) := by split <;> rfl
@[simp] theorem ite_int {c : Prop} [Decidable c] (x y : Int) : (if c then D.int x else D.int y) = D.int (if c then x else y) := by split <;> rfl
@[simp] theorem ite_tup {c : Prop} [Decidable c] (x y : List D) : (if c then D.tup x else D.tup y) = D.tup (if c then x else y) := by split <;> rfl
@[simp] theorem ite_lst {c : Prop} [Decidable c] (x y : List D) : (if c then D.lst x else D.lst y) = D.lst (if c then x else y) := by split <;> rfl
theorem retM_bl {a b : Bool} (h : a = b) : (retM (D.bl a) : M D) = retM (D.bl b) := by rw [h]
@[simp] theorem bindM_ite {c : Prop} [Decidable c] (m n : M α) (k : α → M β) : bindM (if c then m else n) k = if c then bindM m k else bindM n k := by split <;> rfl
@[simp] theorem seqM_ite {c : Prop} [Decidable c] (m n : Pot → Out) (g : DS) : seqM (if c then m else n) g = if c then seqM m g else seqM n g := by split <;> rfl
@[simp] theorem bindS_ite {c : Prop} [Decidable c] (m n : M α) (ρ : Env') (k : α → Pot → Out) : bindS (if c then m else n) ρ k = if c then bindS m ρ k else bindS n ρ k := by split <;> rfl
@[simp] theorem outM_ite {c : Prop} [Decidable c] (m n : Pot → Out) : outM (if c then m else n) = if c then outM m else outM n := by split <;> rfl
@[simp] theorem keepM_ite {c : Prop} [Decidable c] (m n : M α) : keepM (if c then m else n) = if c then keepM m else keepM n := by split <;> rfl
end
section
variable {f g h c : DE} {s t : DS} {fs : List DE} {ρ : Env'} {i j : Nat}
@[simp] theorem dV_eq : dV i ρ = match nth ρ i with | .fz d => retM d | _ => failM := (rfl)
@[simp] theorem dO_eq : dO i ρ = match nth ρ i with | .ow d => retM d | _ => failM := (rfl)
@[simp] theorem dC_eq (d : D) : dC d ρ = retM d := (rfl)
@[simp] theorem d1_eq (op : D → Option D) : d1 op f ρ = bindM (f ρ) fun x => liftM (op x) := (rfl)
@[simp] theorem d2_eq (op : D → D → Option D) : d2 op f g ρ = bindM (f ρ) fun x => bindM (g ρ) fun y => liftM (op x y) := (rfl)
@[simp] theorem d3_eq (op : D → D → D → Option D) : d3 op f g h ρ = bindM (f ρ) fun x => bindM (g ρ) fun y => bindM (h ρ) fun z => liftM (op x y z) := (rfl)
@[simp] theorem dChain_eq (p q : D → D → Option D) : dChain p q f g h ρ = bindM (f ρ) fun x => bindM (g ρ) fun y => bindM (liftM (p x y)) fun c => asB c fun b => if b then bindM (h ρ) fun z => liftM (q y z) else retM (.bl false) := (rfl)
@[simp] theorem bM_eq : bM f ρ = bindM (f ρ) fun d => asB d retM := (rfl)
@[simp] theorem dAnd_eq : dAnd f g ρ = bindM (bM f ρ) fun b => if b then g ρ else retM (.bl false) := (rfl)
@[simp] theorem dOr_eq : dOr f g ρ = bindM (bM f ρ) fun b => if b then retM (.bl true) else g ρ := (rfl)
@[simp] theorem dNot_eq : dNot f ρ = bindM (bM f ρ) fun b => retM (.bl (!b)) := (rfl)
@[simp] theorem dIf_eq : dIf c f g ρ = bindM (bM c ρ) fun b => if b then f ρ else g ρ := (rfl)
@[simp] theorem dsN_nil' : dsN [] ρ = retM [] := (rfl)
@[simp] theorem dsN_cons' : dsN (f :: fs) ρ = bindM (f ρ) fun x => bindM (dsN fs ρ) fun xs => retM (x :: xs) := (rfl)
@[simp] theorem dTup_eq : dTup fs ρ = bindM (dsN fs ρ) fun xs => retM (.tup xs) := (rfl)
@[simp] theorem dLst_eq : dLst fs ρ = bindM (dsN fs ρ) fun xs => retM (.lst xs) := (rfl)
@[simp] theorem dB_eq (op : List D → Option D) : dB op fs ρ = bindM (dsN fs ρ) fun xs => liftM (op xs) := (rfl)
@[simp] theorem o1_eq (op : D → Option D) (x : D) : o1 op [x] = op x := (rfl)
@[simp] theorem o2_eq (op : D → D → Option D) (x y : D) : o2 op [x, y] = op x y := (rfl)
@[simp] theorem dCall_eq (G : List D → M D) : dCall G fs ρ = bindM (dsN fs ρ) fun xs => keepM (G xs) := (rfl)
@[simp] theorem dIsi_eq (t : Ty) : dIsi t f ρ = bindM (f ρ) fun x => retM (.bl (isTy t x)) := (rfl)
@[simp] theorem dIsi2_eq (t1 t2 : Ty) : dIsi2 t1 t2 f ρ = bindM (f ρ) fun x => retM (.bl (isTy t1 x || isTy t2 x)) := (rfl)
@[simp] theorem dSl_eq (lo hi : Env' → M (Option Int)) : dSl f lo hi ρ = bindM (f ρ) fun x => bindM (lo ρ) fun l => bindM (hi ρ) fun h => liftM (pSl x l h) := (rfl)
@[simp] theorem noIx_eq : noIx ρ = retM none := (rfl)
@[simp] theorem anIx_eq : anIx f ρ = bindM (f ρ) fun x => match x with | .int i => retM (some i) | _ => failM := (rfl)
@[simp] theorem dCmp_eq (it : DI) (tg : Tg) (k : Option DE) (vs : List Nat) : dCmp it tg k f vs ρ = bindM (it ρ) fun xs => bindM (noX (compGo tg k f (wipes vs ρ) xs)) fun ys => retM (.lst ys) := (rfl)
@[simp] theorem itV_eq : itV f ρ = bindM (f ρ) fun x => match x with | .lst xs => retM xs | .tup xs => retM xs | _ => failM := (rfl)
@[simp] theorem itK_eq : itK f ρ = bindM (f ρ) fun x => match x with | .dct ks _ => retM ks | _ => failM := (rfl)
@[simp] theorem itE_eq : itE f ρ = bindM (f ρ) fun x => match x with | .lst xs => retM (numbered 0 xs) | .tup xs => retM (numbered 0 xs) | _ => failM := (rfl)
def rng1' (x : D) : M (List D) := match x with
  | .int n => if -1000000000 ≤ n ∧ n ≤ (lim : Int) then retM (intsD 0 n.toNat) else failM
  | _ => failM
def rng2' (x y : D) : M (List D) := match x, y with
  | .int a, .int b => if (-1000000000 ≤ a ∧ a ≤ 1000000000) ∧ (-1000000000 ≤ b ∧ b ≤ 1000000000) ∧ b - a ≤ (lim : Int) then retM (intsD a (b - a).toNat) else failM
  | _, _ => failM
theorem rng1_ex : ∃ f : D → M (List D), f = rng1' := ⟨_, rfl⟩
/-- (shut, so that nobody looks into its bounds) -/
noncomputable def rng1 : D → M (List D) := Classical.choose rng1_ex
theorem rng1_def : rng1 = rng1' := Classical.choose_spec rng1_ex
theorem rng2_ex : ∃ f : D → D → M (List D), f = rng2' := ⟨_, rfl⟩
noncomputable def rng2 : D → D → M (List D) := Classical.choose rng2_ex
theorem rng2_def : rng2 = rng2' := Classical.choose_spec rng2_ex
def zip2 (x y : D) : M (List D) := match x, y with
  | .lst xs, .lst ys => retM (pairUp xs ys)
  | .tup xs, .tup ys => retM (pairUp xs ys)
  | _, _ => failM
@[simp] theorem itR1_eq : itR1 f ρ = bindM (f ρ) rng1 := by rw [rng1_def]; rfl
@[simp] theorem itR2_eq : itR2 f g ρ = bindM (f ρ) fun x => bindM (g ρ) (rng2 x) := by rw [rng2_def]; rfl
@[simp] theorem itZ_eq : itZ f g ρ = bindM (f ρ) fun x => bindM (g ρ) (zip2 x) := (rfl)
@[simp] theorem sPass_eq : sPass ρ = nxM ρ := (rfl)
@[simp] theorem sSeq_eq : sSeq s t ρ = seqM (s ρ) t := (rfl)
@[simp] theorem sSet_eq : sSet i f ρ = bindS (f ρ) ρ fun d => nxM (put ρ i (.fz d)) := (rfl)
@[simp] theorem sOwn_eq : sOwn i f ρ = bindS (f ρ) ρ fun d => nxM (put ρ i (.ow d)) := (rfl)
@[simp] theorem sExpr_eq : sExpr f ρ = bindS (f ρ) ρ fun _ => nxM ρ := (rfl)
@[simp] theorem sRet_eq : sRet f ρ = bindS (f ρ) ρ reM := (rfl)
@[simp] theorem sRetN_eq : sRetN ρ = reM .non := (rfl)
@[simp] theorem sIf_eq : sIf c s t ρ = bindS (bM c ρ) ρ fun b => if b then s ρ else t ρ := by
  funext p
  show runE ρ (bM c ρ p) (fun b p1 => if b then s ρ p1 else t ρ p1) = runE ρ (bM c ρ p) (fun b => if b then s ρ else t ρ)
  congr 1
  funext b p1
  cases b <;> rfl
@[simp] theorem sFor_eq (it : DI) (tg : Tg) : sFor it tg s ρ = bindS (it ρ) ρ fun xs => forGo tg s xs ρ := (rfl)
@[simp] theorem sKill_eq (is : List Nat) : sKill is ρ = nxM (wipes is ρ) := (rfl)
def frzM (x : Sl) (i : Nat) (ρ : Env') : Pot → Out := match x with
  | .ow d => nxM (put ρ i (.fz d))
  | _ => fun _ => .err
@[simp] theorem frzM_ow (d : D) : frzM (.ow d) i ρ = nxM (put ρ i (.fz d)) := (rfl)
@[simp] theorem sFz_eq : sFz i ρ = frzM (nth ρ i) i ρ := by
  funext p
  unfold sFz frzM
  cases nth ρ i <;> rfl
def appM (x : Sl) (m : M D) (i : Nat) (ρ : Env') : Pot → Out := match x with
  | .ow (.lst xs) => bindS m ρ fun d => if xs.length < lim then nxM (put ρ i (.ow (.lst (xs ++ [d])))) else fun _ => .err
  | _ => fun _ => .err
theorem appM_ow (xs : List D) (m : M D) : appM (.ow (.lst xs)) m i ρ = bindS m ρ fun d => if xs.length < lim then nxM (put ρ i (.ow (.lst (xs ++ [d])))) else fun _ => .err := rfl
@[simp] theorem sAppend_eq : sAppend i f ρ = appM (nth ρ i) (f ρ) i ρ := by
  funext p
  unfold sAppend appM
  cases nth ρ i with
  | ow d => cases d with
    | lst xs =>
      show runE ρ (f ρ p) _ = runE ρ (f ρ p) _
      congr 1
      funext d p1
      split <;> rfl
    | _ => rfl
  | _ => rfl
def extD (xs : List D) (d : D) (i : Nat) (ρ : Env') : Pot → Out := match d with
  | .lst ys => if xs.length + ys.length ≤ lim then nxM (put ρ i (.ow (.lst (xs ++ ys)))) else fun _ => .err
  | _ => fun _ => .err
def extM (x : Sl) (m : M D) (i : Nat) (ρ : Env') : Pot → Out := match x with
  | .ow (.lst xs) => bindS m ρ fun d => extD xs d i ρ
  | _ => fun _ => .err
theorem extM_ow (xs : List D) (m : M D) : extM (.ow (.lst xs)) m i ρ = bindS m ρ fun d => extD xs d i ρ := rfl
@[simp] theorem sExtend_eq : sExtend i f ρ = extM (nth ρ i) (f ρ) i ρ := by
  funext p
  unfold sExtend extM
  cases nth ρ i with
  | ow d => cases d with
    | lst xs =>
      show runE ρ (f ρ p) _ = runE ρ (f ρ p) _
      congr 1
      funext d p1
      unfold extD
      cases d with
      | lst ys => dsimp only; split <;> rfl
      | _ => rfl
    | _ => rfl
  | _ => rfl
def setO (o : Option Env') : Pot → Out := match o with
  | some ρ1 => nxM ρ1
  | none => fun _ => .err
@[simp] theorem setO_some (ρ1 : Env') : setO (some ρ1) = nxM ρ1 := (rfl)
@[simp] theorem sUnpack_eq (is : List Nat) : sUnpack is f ρ = bindS (f ρ) ρ fun d => setO (setTg (.tp is) d ρ) := by
  funext p
  unfold sUnpack bindS
  congr 1
  funext d p1
  unfold setO
  cases setTg (.tp is) d ρ <;> rfl
@[simp] theorem sPar_eq (is : List Nat) : sPar is fs ρ = bindS (dsN fs ρ) ρ fun ds => setO (putAll is ds ρ) := by
  funext p
  unfold sPar bindS
  congr 1
  funext d p1
  unfold setO
  cases putAll is d ρ <;> rfl
@[simp] theorem sRaise_eq (k : Str) (ns : List Str) : sRaise k ns fs ρ = bindS (dsN fs ρ) ρ fun ds => exM ⟨k, (ns.zip ds).reverse⟩ ρ := (rfl)
@[simp] theorem runF_eq (n : Nat) : runF n s ρ = outM (s (padN n ρ)) := (rfl)
@[simp] theorem nth_0 (x : Sl) (r : List Sl) : nth (x :: r) 0 = x := (rfl)
@[simp] theorem nth_s (x : Sl) (r : List Sl) (n : Nat) : nth (x :: r) (n + 1) = nth r n := (rfl)
@[simp] theorem put_0 (x y : Sl) (r : List Sl) : put (x :: r) 0 y = y :: r := (rfl)
@[simp] theorem put_s (x y : Sl) (r : List Sl) (n : Nat) : put (x :: r) (n + 1) y = x :: put r n y := (rfl)
@[simp] theorem wipes_nil : wipes [] ρ = ρ := (rfl)
@[simp] theorem wipes_cons (v : Nat) (vs : List Nat) : wipes (v :: vs) ρ = put (wipes vs ρ) v .un := (rfl)
@[simp] theorem padN_0 : padN 0 ρ = ρ := (rfl)
@[simp] theorem padN_nil (n : Nat) : padN (n + 1) [] = .un :: padN n [] := (rfl)
@[simp] theorem padN_cons (n : Nat) (x : Sl) (r : List Sl) : padN (n + 1) (x :: r) = x :: padN n r := (rfl)
@[simp] theorem setTg_nm (x : D) : setTg (.nm i) x ρ = some (put ρ i (.fz x)) := (rfl)
@[simp] theorem setTg_tp (is : List Nat) (xs : List D) : setTg (.tp is) (.tup xs) ρ = putAll is xs ρ := (rfl)
@[simp] theorem putAll_nil : putAll [] [] ρ = some ρ := (rfl)
@[simp] theorem putAll_cons (is : List Nat) (x : D) (xs : List D) : putAll (i :: is) (x :: xs) ρ = putAll is xs (put ρ i (.fz x)) := (rfl)
end
/-! ### comprehensions -/
section
variable {α β γ : Type}
@[simp] theorem tgM_nm (i : Nat) (x : D) (ρ : Env') (k : Env' → M α) : tgM (.nm i) x ρ k = k (put ρ i (.fz x)) := (rfl)
theorem tgM_tp {is : List Nat} {xs : List D} {ρ ρ1 : Env'} (h : putAll is xs ρ = some ρ1) (k : Env' → M α) : tgM (.tp is) (.tup xs) ρ k = k ρ1 := by
  show (match putAll is xs ρ with | none => failM | some ρ1 => k ρ1) = _
  rw [h]
@[simp] theorem tgM_tp2 (i j : Nat) (x y : D) (ρ : Env') (k : Env' → M α) : tgM (.tp [i, j]) (.tup [x, y]) ρ k = k (put (put ρ i (.fz x)) j (.fz y)) := (rfl)
@[simp] theorem tgM_tp3 (i j l : Nat) (x y z : D) (ρ : Env') (k : Env' → M α) : tgM (.tp [i, j, l]) (.tup [x, y, z]) ρ k = k (put (put (put ρ i (.fz x)) j (.fz y)) l (.fz z)) := (rfl)
@[simp] theorem compGo_none (tg : Tg) (e : DE) (ρ : Env') : ∀ xs : List D, compGo tg none e ρ xs = mapT (fun x => tgM tg x ρ e) xs
  | [] => rfl
  | x :: xs => by
    rw [compGo, mapT, ← compGo_none tg e ρ xs]
    unfold tgM
    cases setTg tg x ρ with
    | none => rfl
    | some ρ1 => rfl
@[simp] theorem compGo_some (tg : Tg) (c e : DE) (ρ : Env') : ∀ xs : List D, compGo tg (some c) e ρ xs = filT (fun x => tgM tg x ρ (bM c)) (fun x => tgM tg x ρ e) xs
  | [] => rfl
  | x :: xs => by
    rw [compGo, filT, ← compGo_some tg c e ρ xs]
    unfold tgM
    cases setTg tg x ρ with
    | none => rfl
    | some ρ1 => rfl
@[simp] theorem mapT_map (f : β → M γ) (g : α → β) : ∀ xs : List α, mapT f (xs.map g) = mapT (fun x => f (g x)) xs
  | [] => rfl
  | x :: xs => by rw [List.map_cons, mapT, mapT, mapT_map f g xs]
@[simp] theorem filT_map (c : β → M Bool) (f : β → M γ) (g : α → β) : ∀ xs : List α, filT c f (xs.map g) = filT (fun x => c (g x)) (fun x => f (g x)) xs
  | [] => rfl
  | x :: xs => by rw [List.map_cons, filT, filT, filT_map c f g xs]
theorem mapT_eq {f : α → M β} (v : α → β) : ∀ {xs : List α}, (∀ x ∈ xs, f x = retM (v x)) → mapT f xs = retM (xs.map v)
  | [], _ => rfl
  | x :: xs, h => by
    rw [mapT, h x List.mem_cons_self, bindM_retM', mapT_eq v fun z hz => h z (List.mem_cons_of_mem _ hz)]
    rfl
theorem filT_eq {c : α → M Bool} {f : α → M β} (P : α → Bool) (v : α → β) : ∀ {xs : List α}, (∀ x ∈ xs, c x = retM (P x)) → (∀ x ∈ xs, P x = true → f x = retM (v x)) → filT c f xs = retM ((xs.filter P).map v)
  | [], _, _ => rfl
  | x :: xs, h, h2 => by
    rw [filT, h x List.mem_cons_self, bindM_retM', filT_eq P v (fun z hz => h z (List.mem_cons_of_mem _ hz)) fun z hz => h2 z (List.mem_cons_of_mem _ hz), List.filter_cons]
    cases q : P x with
    | true =>
      rw [if_pos rfl, if_pos rfl, h2 x List.mem_cons_self q]
      rfl
    | false => rfl
@[simp] theorem mapT_ret (v : α → β) (xs : List α) : mapT (fun x => retM (v x)) xs = retM (xs.map v) := mapT_eq v fun _ _ => rfl
@[simp] theorem filT_ret (P : α → Bool) (v : α → β) (xs : List α) : filT (fun x => retM (P x)) (fun x => retM (v x)) xs = retM ((xs.filter P).map v) := filT_eq P v (fun _ _ => rfl) fun _ _ _ => rfl
end
/-! ### operators -/
@[simp] theorem isTy_int (a : Int) : isTy .int (.int a) = true := (rfl)
@[simp] theorem isTy_int_bl (a : Bool) : isTy .int (.bl a) = true := (rfl)
@[simp] theorem isTy_bool (a : Bool) : isTy .bool (.bl a) = true := (rfl)
@[simp] theorem isTy_tuple (xs : List D) : isTy .tuple (.tup xs) = true := (rfl)
@[simp] theorem isTy_list (xs : List D) : isTy .list (.lst xs) = true := (rfl)
@[simp] theorem isTy_str (x : Str) : isTy .str (.str x) = true := (rfl)
@[simp] theorem isTy_bool_int (a : Int) : isTy .bool (.int a) = false := (rfl)
@[simp] theorem isTy_tuple_int (a : Int) : isTy .tuple (.int a) = false := (rfl)
@[simp] theorem isTy_tuple_lst (xs : List D) : isTy .tuple (.lst xs) = false := (rfl)
@[simp] theorem isTy_list_tup (xs : List D) : isTy .list (.tup xs) = false := (rfl)
@[simp] theorem isTy_int_tup (xs : List D) : isTy .int (.tup xs) = false := (rfl)
@[simp] theorem isTy_int_lst (xs : List D) : isTy .int (.lst xs) = false := (rfl)
@[simp] theorem pAdd_int (a b : Int) : pAdd (.int a) (.int b) = some (.int (a + b)) := (rfl)
@[simp] theorem pSub_int (a b : Int) : pSub (.int a) (.int b) = some (.int (a - b)) := (rfl)
@[simp] theorem pNeg_int (a : Int) : pNeg (.int a) = some (.int (-a)) := (rfl)
@[simp] theorem pLt_int' (a b : Int) : pLt (.int a) (.int b) = some (.bl (decide (a < b))) := pLt_int a b
@[simp] theorem pLe_int (a b : Int) : pLe (.int a) (.int b) = some (.bl (decide (a ≤ b))) := (rfl)
@[simp] theorem pGt_int (a b : Int) : pGt (.int a) (.int b) = some (.bl (decide (b < a))) := (rfl)
@[simp] theorem pGe_int (a b : Int) : pGe (.int a) (.int b) = some (.bl (decide (b ≤ a))) := (rfl)
@[simp] theorem pEq_int' (a b : Int) : pEq (.int a) (.int b) = some (.bl (a == b)) := pEq_int a b
@[simp] theorem pNe_int' (a b : Int) : pNe (.int a) (.int b) = some (.bl (!(a == b))) := pNe_int a b
@[simp] theorem pEq_bl' (a b : Bool) : pEq (.bl a) (.bl b) = some (.bl (a == b)) := pEq_bl a b
@[simp] theorem pNe_bl' (a b : Bool) : pNe (.bl a) (.bl b) = some (.bl (!(a == b))) := pNe_bl a b
@[simp] theorem pLen_tup (xs : List D) : pLen (.tup xs) = some (.int xs.length) := (rfl)
@[simp] theorem pLen_lst (xs : List D) : pLen (.lst xs) = some (.int xs.length) := (rfl)
@[simp] theorem pTuple_lst (xs : List D) : pTuple (.lst xs) = some (.tup xs) := (rfl)
@[simp] theorem pTuple_tup (xs : List D) : pTuple (.tup xs) = some (.tup xs) := (rfl)
@[simp] theorem pList_lst (xs : List D) : pList (.lst xs) = some (.lst xs) := (rfl)
@[simp] theorem pList_tup (xs : List D) : pList (.tup xs) = some (.lst xs) := (rfl)
@[simp] theorem pSl_tup (xs : List D) (l h : Option Int) : pSl (.tup xs) l h = some (.tup (cut xs l h)) := (rfl)
@[simp] theorem pSl_lst (xs : List D) (l h : Option Int) : pSl (.lst xs) l h = some (.lst (cut xs l h)) := (rfl)
@[simp] theorem pMax2_int (a b : Int) : pMax2 (.int a) (.int b) = some (.int (if b > a then b else a)) := (rfl)
@[simp] theorem pMin2_int (a b : Int) : pMin2 (.int a) (.int b) = some (.int (if b < a then b else a)) := (rfl)
theorem intsOf_map : ∀ xs : List Int, intsOf (xs.map .int) = some xs
  | [] => rfl
  | x :: xs => by rw [List.map_cons, intsOf, intsOf_map xs]; rfl
theorem boolsOf_map {α : Type} (f : α → Bool) : ∀ xs : List α, boolsOf (xs.map fun x => .bl (f x)) = some (xs.map f)
  | [] => rfl
  | x :: xs => by rw [List.map_cons, boolsOf, boolsOf_map f xs]; rfl
theorem allB_map {α : Type} (f : α → Bool) : ∀ xs : List α, allB (xs.map f) = xs.all f
  | [] => rfl
  | x :: xs => by rw [List.map_cons, allB, allB_map f xs]; rfl
theorem anyB_map {α : Type} (f : α → Bool) : ∀ xs : List α, anyB (xs.map f) = xs.any f
  | [] => rfl
  | x :: xs => by rw [List.map_cons, anyB, anyB_map f xs]; rfl
@[simp] theorem pAll_map {α : Type} (f : α → Bool) (xs : List α) : pAll (.lst (xs.map fun x => .bl (f x))) = some (.bl (xs.all f)) := by
  simp only [pAll, boolsOf_map, Option.map_some, allB_map]
@[simp] theorem pAny_map {α : Type} (f : α → Bool) (xs : List α) : pAny (.lst (xs.map fun x => .bl (f x))) = some (.bl (xs.any f)) := by
  simp only [pAny, boolsOf_map, Option.map_some, anyB_map]
theorem sumI_sum : ∀ xs : List Int, sumI xs = xs.sum
  | [] => rfl
  | x :: xs => by rw [sumI, sumI_sum xs, List.sum_cons]
@[simp] theorem pSum_tup (xs : List Int) : pSum (.tup (xs.map .int)) = some (.int xs.sum) := by
  simp only [pSum, itemsOf, Option.bind_some, intsOf_map, Option.map_some, sumI_sum]
@[simp] theorem pSum_lst (xs : List Int) : pSum (.lst (xs.map .int)) = some (.int xs.sum) := by
  simp only [pSum, itemsOf, Option.bind_some, intsOf_map, Option.map_some, sumI_sum]
@[simp] theorem pSum_lstf {α : Type} (f : α → Int) (xs : List α) : pSum (.lst (xs.map fun x => .int (f x))) = some (.int (xs.map f).sum) := by
  rw [← pSum_lst, List.map_map]
  rfl
@[simp] theorem rng1_nat (n : Nat) (h : n ≤ 16777216) : rng1 (.int (n : Int)) = retM ((List.range n).map fun (k : Nat) => D.int (k : Int)) := by
  rw [rng1_def]
  exact itR1_nat (f := dC (.int (n : Int))) (ρ := []) rfl h
end DL
/-! DT: what the shared defs give. -/
namespace DL
set_option autoImplicit false
open PySem
def isNum (d : D) (a b : Int) : Bool := match d with
  | .int k => decide (a ≤ k) && decide (k ≤ b)
  | _ => false
@[simp] theorem number_ok (d : D) (a b : Int) : g_is_number [d, .int a, .int b] = retM (.bl (isNum d a b)) := by
  cases d <;> simp [g_is_number, dDef, s_is_number, isNum, isTy]
@[simp] theorem within_ok (d : D) (a b : Int) : g__law_within [d, .int a, .int b] = retM (.bl (isNum d a b)) := by
  cases d <;> simp [g__law_within, dDef, s__law_within, isNum, isTy]
def isRow (d : D) (lo hi a b : Int) : Bool := match d with
  | .tup xs => decide (lo ≤ xs.length) && decide ((xs.length : Int) ≤ hi) && xs.all fun x => isNum x a b
  | _ => false
@[simp] theorem row_ok (d : D) (lo hi a b : Int) : g_is_row [d, .int lo, .int hi, .int a, .int b] = retM (.bl (isRow d lo hi a b)) := by
  cases d <;> simp [g_is_row, dDef, s_is_row, isRow, isTy]
  apply retM_bl
  grind
/-- numbers, all within bounds -/
theorem nums_of {a b : Int} : ∀ {xs : List D}, (xs.all fun x => isNum x a b) = true → ∃ ns : List Int, xs = ns.map .int ∧ ∀ n ∈ ns, a ≤ n ∧ n ≤ b
  | [], _ => ⟨[], rfl, fun n h => by cases h⟩
  | x :: xs, h => by
    rw [List.all_cons, Bool.and_eq_true] at h
    obtain ⟨ns, e, hn⟩ := nums_of h.2
    cases x with
    | int k =>
      have hk : a ≤ k ∧ k ≤ b := by simpa [isNum] using h.1
      refine ⟨k :: ns, by rw [e]; rfl, fun n hm => ?_⟩
      rcases List.mem_cons.mp hm with h | h
      · rw [h]; exact hk
      · exact hn n h
    | _ => simp [isNum] at h
theorem nums_all {a b : Int} {ns : List Int} : ((ns.map D.int).all fun x => isNum x a b) = ns.all fun n => decide (a ≤ n) && decide (n ≤ b) := by
  rw [List.all_map]
  rfl
theorem row_of {d : D} {lo hi a b : Int} (h : isRow d lo hi a b = true) : ∃ ns : List Int, d = .tup (ns.map .int) ∧ lo ≤ ns.length ∧ (ns.length : Int) ≤ hi ∧ ∀ n ∈ ns, a ≤ n ∧ n ≤ b := by
  cases d with
  | tup xs =>
    simp only [isRow, Bool.and_eq_true, decide_eq_true_eq] at h
    obtain ⟨ns, e, hn⟩ := nums_of h.2
    subst e
    rw [List.length_map] at h
    exact ⟨ns, rfl, h.1.1, h.1.2, hn⟩
  | _ => simp [isRow] at h
/-! ### rising -/
def rise {α : Type} (lt : α → α → Bool) : List α → Bool
  | x :: y :: r => lt x y && rise lt (y :: r)
  | _ => true
theorem rise_range {α : Type} (lt : α → α → Bool) (d : α) : ∀ xs : List α, ((List.range (xs.length - 1)).all fun k => lt (xs.getD k d) (xs.getD (k + 1) d)) = rise lt xs
  | [] => rfl
  | [x] => rfl
  | x :: y :: r => by
    have ih := rise_range lt d (y :: r)
    rw [rise, ← ih]
    show ((List.range (r.length + 1)).all _) = (lt x y && (List.range r.length).all _)
    rw [List.range_succ_eq_map, List.all_cons, List.all_map]
    rfl
theorem rng_pred (n : Nat) (h : n ≤ 16777216) : rng1 (.int ((n : Int) - 1)) = retM ((List.range (n - 1)).map fun (k : Nat) => D.int (k : Int)) := by
  cases n with
  | zero => rw [rng1_def]; rfl
  | succ n =>
    have e : (((n + 1 : Nat) : Int) - 1) = (n : Int) := by omega
    rw [e]
    exact rng1_nat n (by omega)
theorem getD_map {α : Type} (f : α → D) (d : α) : ∀ (xs : List α) (k : Nat), k < xs.length → getD' (xs.map f) k = some (f (xs.getD k d))
  | [], k, h => absurd h (Nat.not_lt_zero _)
  | x :: xs, 0, _ => rfl
  | x :: xs, k + 1, h => getD_map f d xs k (Nat.lt_of_succ_lt_succ h)
theorem pIdx_tupf {α : Type} (f : α → D) (d : α) {xs : List α} {k : Nat} (h : k < xs.length) : pIdx (.tup (xs.map f)) (.int (k : Nat)) = some (f (xs.getD k d)) := by
  have h0 : (0 : Int) ≤ (k : Nat) := Int.natCast_nonneg k
  simp only [pIdx, h0, if_true, Int.toNat_natCast]
  exact getD_map f d xs k h
theorem pIdx_lstf {α : Type} (f : α → D) (d : α) {xs : List α} {k : Nat} (h : k < xs.length) : pIdx (.lst (xs.map f)) (.int (k : Nat)) = some (f (xs.getD k d)) := by
  have h0 : (0 : Int) ≤ (k : Nat) := Int.natCast_nonneg k
  simp only [pIdx, h0, if_true, Int.toNat_natCast]
  exact getD_map f d xs k h
theorem do_rise_ok {α : Type} (f : α → D) (lt : α → α → Bool) (hlt : ∀ x y, pLt (f x) (f y) = some (.bl (lt x y))) (d : α) (xs : List α) (hl : xs.length ≤ 100000) : g_do_rise [.tup (xs.map f)] = retM (.bl (rise lt xs)) := by
  rw [← rise_range lt d xs]
  simp only [g_do_rise, dDef, s_do_rise, runF_eq, List.map_cons, List.map_nil, padN_cons, padN_0, padN_nil, sRet_eq, dB_eq, dsN_cons', dsN_nil', dCmp_eq, itR1_eq, d2_eq, dV_eq, nth_0, nth_s, bindM_retM', o1_eq, pLen_tup, liftM_some, dC_eq, pSub_int, List.length_map, sSeq_eq, wipes_cons, wipes_nil, put_0, put_s]
  rw [rng_pred _ (by omega)]
  simp only [bindM_retM', compGo_none, mapT_map, tgM_nm, put_0, put_s]
  rw [mapT_eq (fun (k : Nat) => D.bl (lt (xs.getD k d) (xs.getD (k + 1) d))) fun k hk => by
    have hk' : k < xs.length - 1 := List.mem_range.mp hk
    have e1 := pIdx_tupf f d (xs := xs) (k := k) (by omega)
    have e2 := pIdx_tupf f d (xs := xs) (k := k + 1) (by omega)
    have e3 : ((k : Nat) : Int) + 1 = ((k + 1 : Nat) : Int) := by omega
    simp only [nth_0, nth_s, bindM_retM', dC_eq, dV_eq, d2_eq, liftM_some, pAdd_int, e3, e1, e2, hlt]]
  simp
def ltI (x y : Int) : Bool := decide (x < y)
theorem rise_ok (xs : List Int) (hl : xs.length ≤ 100000) : g_do_rise [.tup (xs.map .int)] = retM (.bl (rise ltI xs)) := do_rise_ok D.int ltI (fun x y => pLt_int x y) 0 xs hl
/-- d's numbers rise (d a tuple of numbers) -/
def riseD (d : D) : Bool := match d with
  | .tup xs => (match intsOf xs with
    | some ns => rise ltI ns
    | none => false)
  | _ => false
@[simp] theorem riseD_ints (ns : List Int) : riseD (.tup (ns.map .int)) = rise ltI ns := by simp [riseD, intsOf_map]
def isAsc (d : D) (a b : Int) : Bool := isRow d 0 (b - a + 1) a b && riseD d
theorem asc_ok (d : D) (a b : Int) (h : b - a < 1000) : g_is_ascending [d, .int a, .int b] = retM (.bl (isAsc d a b)) := by
  simp [g_is_ascending, dDef, s_is_ascending, isAsc]
  by_cases h1 : isRow d 0 (b - a + 1) a b = true
  · obtain ⟨ns, e, h2, h3, h4⟩ := row_of h1
    subst e
    rw [rise_ok ns (by omega)]
    simp [h1]
  · simp [h1]
def isSizes (d : D) : Bool := isAsc d 1 12 && match d with | .tup [] => false | _ => true
@[simp] theorem sizes_ok (d : D) : g_is_sizes [d] = retM (.bl (isSizes d)) := by
  simp [g_is_sizes, dDef, s_is_sizes, isSizes, asc_ok d 1 12 (by decide)]
  by_cases h1 : isAsc d 1 12 = true
  · have h2 : isRow d 0 12 1 12 = true := by
      unfold isAsc at h1
      simp at h1
      exact h1.1
    obtain ⟨ns, e, h2, h3, h4⟩ := row_of h2
    subst e
    cases ns <;> simp [h1]
  · simp [h1]
end DL
/-! DU: loops, rows of numbers, their order. -/
namespace DL
set_option autoImplicit false
open PySem
/-! ### loops -/
theorem forGo_cons {tg : Tg} {body : DS} {x : D} {xs : List D} {ρ ρ1 : Env'} (h : setTg tg x ρ = some ρ1) {ρ2 : Env'} (h2 : body ρ1 = nxM ρ2) : forGo tg body (x :: xs) ρ = forGo tg body xs ρ2 := by
  funext p
  rw [forGo, h]
  show (match body ρ1 p with
      | .nx ρ2 p2 => forGo tg body xs ρ2 p2
      | .ct ρ2 p2 => forGo tg body xs ρ2 p2
      | .brk ρ2 p2 => .nx ρ2 p2
      | r => r) = _
  rw [h2]
  rfl
theorem forGo_re {tg : Tg} {body : DS} {x : D} {xs : List D} {ρ ρ1 : Env'} (h : setTg tg x ρ = some ρ1) {d : D} (h2 : body ρ1 = reM d) : forGo tg body (x :: xs) ρ = reM d := by
  funext p
  rw [forGo, h]
  show (match body ρ1 p with
      | .nx ρ2 p2 => forGo tg body xs ρ2 p2
      | .ct ρ2 p2 => forGo tg body xs ρ2 p2
      | .brk ρ2 p2 => .nx ρ2 p2
      | r => r) = _
  rw [h2]
  rfl
section
variable {α σ : Type} {tg : Tg} {body : DS}
/-- a loop that changes a state -/
theorem for_fold (E : σ → Env') (inj : α → D) (step : σ → α → σ) : ∀ (xs : List α) (s : σ), (∀ s, ∀ x ∈ xs, ∃ ρ1, setTg tg (inj x) (E s) = some ρ1 ∧ body ρ1 = nxM (E (step s x))) → forGo tg body (xs.map inj) (E s) = nxM (E (xs.foldl step s))
  | [], _, _ => rfl
  | x :: xs, s, h => by
    obtain ⟨ρ1, h1, h2⟩ := h s x List.mem_cons_self
    rw [List.map_cons, forGo_cons h1 h2, for_fold E inj step xs (step s x) fun s z hz => h s z (List.mem_cons_of_mem _ hz)]
    rfl
/-- .. while something holds -/
theorem for_foldI (E : σ → Env') (inj : α → D) (step : σ → α → σ) (I : σ → Prop) : ∀ (xs : List α) (s : σ), I s → (∀ s, ∀ x ∈ xs, I s → I (step s x) ∧ ∃ ρ1, setTg tg (inj x) (E s) = some ρ1 ∧ body ρ1 = nxM (E (step s x))) → forGo tg body (xs.map inj) (E s) = nxM (E (xs.foldl step s)) ∧ I (xs.foldl step s)
  | [], s, i, _ => ⟨rfl, i⟩
  | x :: xs, s, i, h => by
    obtain ⟨i1, ρ1, h1, h2⟩ := h s x List.mem_cons_self i
    rw [List.map_cons, forGo_cons h1 h2]
    exact for_foldI E inj step I xs (step s x) i1 fun s z hz => h s z (List.mem_cons_of_mem _ hz)
/-- .. that may fail -/
def foldO (step : σ → α → Option σ) : List α → σ → Option σ
  | [], s => some s
  | x :: xs, s => match step s x with
    | some s1 => foldO step xs s1
    | none => none
theorem for_foldO (E : σ → Env') (inj : α → D) (step : σ → α → Option σ) : ∀ (xs : List α) (s t : σ), (∀ s t, ∀ x ∈ xs, step s x = some t → ∃ ρ1, setTg tg (inj x) (E s) = some ρ1 ∧ body ρ1 = nxM (E t)) → foldO step xs s = some t → forGo tg body (xs.map inj) (E s) = nxM (E t)
  | [], s, t, _, h => by cases h; rfl
  | x :: xs, s, t, h, h2 => by
    rw [foldO] at h2
    cases q : step s x with
    | none => rw [q] at h2; cases h2
    | some s1 =>
      rw [q] at h2
      obtain ⟨ρ1, h3, h4⟩ := h s s1 x List.mem_cons_self q
      rw [List.map_cons, forGo_cons h3 h4, for_foldO E inj step xs s1 t (fun s t z hz => h s t z (List.mem_cons_of_mem _ hz)) h2]
/-- a loop that ends at the first that is not as it should be -/
theorem for_all (inj : α → D) (P : α → Bool) (d : D) (ρ : Env') : ∀ (xs : List α), (∀ x ∈ xs, ∃ ρ1, setTg tg (inj x) ρ = some ρ1 ∧ body ρ1 = if P x then nxM ρ else reM d) → forGo tg body (xs.map inj) ρ = if xs.all P then nxM ρ else reM d
  | [], _ => rfl
  | x :: xs, h => by
    obtain ⟨ρ1, h1, h2⟩ := h x List.mem_cons_self
    rw [List.map_cons, List.all_cons]
    cases q : P x with
    | true =>
      rw [q] at h2
      rw [forGo_cons h1 h2, for_all inj P d ρ xs fun z hz => h z (List.mem_cons_of_mem _ hz), Bool.true_and]
    | false =>
      rw [q] at h2
      rw [forGo_re h1 h2]
      rfl
/-- a loop that makes a list longer -/
theorem for_ext (E : List D → Env') (inj : α → D) (e : α → List D) : ∀ (xs : List α) (ys : List D), ys.length + (xs.flatMap e).length ≤ lim → (∀ ys, ∀ x ∈ xs, ys.length + (e x).length ≤ lim → ∃ ρ1, setTg tg (inj x) (E ys) = some ρ1 ∧ body ρ1 = nxM (E (ys ++ e x))) → forGo tg body (xs.map inj) (E ys) = nxM (E (ys ++ xs.flatMap e))
  | [], ys, _, _ => by rw [List.flatMap_nil, List.append_nil]; rfl
  | x :: xs, ys, hl, h => by
    rw [List.flatMap_cons, List.length_append] at hl
    obtain ⟨ρ1, h1, h2⟩ := h ys x List.mem_cons_self (by omega)
    rw [List.map_cons, forGo_cons h1 h2, for_ext E inj e xs (ys ++ e x) (by rw [List.length_append]; omega) fun ys z hz => h ys z (List.mem_cons_of_mem _ hz), List.flatMap_cons, List.append_assoc]
theorem for_ext2 (E : List D → List D → Env') (inj : α → D) (e g : α → List D) : ∀ (xs : List α) (ys zs : List D), ys.length + (xs.flatMap e).length ≤ lim → zs.length + (xs.flatMap g).length ≤ lim → (∀ ys zs, ∀ x ∈ xs, ys.length + (e x).length ≤ lim → zs.length + (g x).length ≤ lim → ∃ ρ1, setTg tg (inj x) (E ys zs) = some ρ1 ∧ body ρ1 = nxM (E (ys ++ e x) (zs ++ g x))) → forGo tg body (xs.map inj) (E ys zs) = nxM (E (ys ++ xs.flatMap e) (zs ++ xs.flatMap g))
  | [], ys, zs, _, _, _ => by rw [List.flatMap_nil, List.append_nil, List.flatMap_nil, List.append_nil]; rfl
  | x :: xs, ys, zs, hl, hm, h => by
    rw [List.flatMap_cons, List.length_append] at hl hm
    obtain ⟨ρ1, h1, h2⟩ := h ys zs x List.mem_cons_self (by omega) (by omega)
    rw [List.map_cons, forGo_cons h1 h2, for_ext2 E inj e g xs (ys ++ e x) (zs ++ g x) (by rw [List.length_append]; omega) (by rw [List.length_append]; omega) fun ys zs z hz => h ys zs z (List.mem_cons_of_mem _ hz), List.flatMap_cons, List.append_assoc, List.flatMap_cons, List.append_assoc]
/-- while -/
def loopO (test : σ → Bool) (step : σ → Option σ) : Nat → σ → Option σ
  | 0, _ => none
  | n + 1, s => if test s then match step s with
      | some s1 => loopO test step n s1
      | none => none
    else some s
theorem while_ok {c : DE} (E : σ → Env') (test : σ → Bool) (step : σ → Option σ) (hc : ∀ s, bM c (E s) = retM (test s)) (hb : ∀ s t, test s = true → step s = some t → body (E s) = nxM (E t)) : ∀ (n : Nat) (s t : σ), loopO test step n s = some t → whileGo c body n (E s) = nxM (E t)
  | 0, _, _, h => by cases h
  | n + 1, s, t, h => by
    funext p
    rw [loopO] at h
    show runE (E s) (bM c (E s) p) (fun b p1 => if b then match body (E s) p1 with
      | .nx ρ2 p2 => whileGo c body n ρ2 p2
      | .ct ρ2 p2 => whileGo c body n ρ2 p2
      | .brk ρ2 p2 => .nx ρ2 p2
      | r => r
    else .nx (E s) p1) = _
    rw [hc s]
    show (if test s = true then match body (E s) p with
      | .nx ρ2 p2 => whileGo c body n ρ2 p2
      | .ct ρ2 p2 => whileGo c body n ρ2 p2
      | .brk ρ2 p2 => .nx ρ2 p2
      | r => r
    else .nx (E s) p) = _
    cases q : test s with
    | false =>
      rw [q] at h
      cases h
      rfl
    | true =>
      rw [q] at h
      cases q2 : step s with
      | none => rw [q2] at h; cases h
      | some s1 =>
        rw [q2] at h
        rw [hb s s1 q q2]
        exact congrFun (while_ok E test step hc hb n s1 t h) p
/-- .. whose test can fail -/
theorem while_okI {c : DE} (E : σ → Env') (test : σ → Bool) (step : σ → Option σ) (I : σ → Prop) (hc : ∀ s, I s → bM c (E s) = retM (test s)) (hb : ∀ s t, I s → test s = true → step s = some t → body (E s) = nxM (E t) ∧ I t) : ∀ (n : Nat) (s t : σ), I s → loopO test step n s = some t → whileGo c body n (E s) = nxM (E t) ∧ I t
  | 0, _, _, _, h => by cases h
  | n + 1, s, t, i, h => by
    rw [loopO] at h
    have hgo : ∀ p, whileGo c body (n + 1) (E s) p = (if test s = true then match body (E s) p with
      | .nx ρ2 p2 => whileGo c body n ρ2 p2
      | .ct ρ2 p2 => whileGo c body n ρ2 p2
      | .brk ρ2 p2 => .nx ρ2 p2
      | r => r
    else .nx (E s) p) := fun p => by
      show runE (E s) (bM c (E s) p) (fun b p1 => if b then match body (E s) p1 with
      | .nx ρ2 p2 => whileGo c body n ρ2 p2
      | .ct ρ2 p2 => whileGo c body n ρ2 p2
      | .brk ρ2 p2 => .nx ρ2 p2
      | r => r
    else .nx (E s) p1) = _
      rw [hc s i]
      rfl
    cases q : test s with
    | false =>
      rw [q] at h
      cases h
      refine ⟨?_, i⟩
      funext p
      rw [hgo p, q]
      rfl
    | true =>
      rw [q] at h
      cases q2 : step s with
      | none => rw [q2] at h; cases h
      | some s1 =>
        rw [q2] at h
        obtain ⟨b1, i1⟩ := hb s s1 i q q2
        obtain ⟨b2, i2⟩ := while_okI E test step I hc hb n s1 t i1 h
        refine ⟨?_, i2⟩
        funext p
        rw [hgo p, q, b1]
        exact congrFun b2 p
end
theorem extD_lst {xs ys : List D} {i : Nat} {ρ : Env'} (h : xs.length + ys.length ≤ lim) : extD xs (.lst ys) i ρ = nxM (put ρ i (.ow (.lst (xs ++ ys)))) := by
  show (if xs.length + ys.length ≤ lim then nxM _ else _) = _
  rw [if_pos h]
theorem appM_ok {xs : List D} {d : D} {i : Nat} {ρ : Env'} (h : xs.length < lim) : appM (.ow (.lst xs)) (retM d) i ρ = nxM (put ρ i (.ow (.lst (xs ++ [d])))) := by
  rw [appM_ow, bindS_retM, if_pos h]
/-! ### rows of numbers -/
abbrev rwD (r : List Int) : D := .tup (r.map .int)
theorem rwD_nil : rwD [] = .tup [] := rfl
theorem plains_map {α : Type} (f : α → D) (n : Nat) : ∀ {xs : List α}, (∀ x ∈ xs, D.plain n (f x) = true) → D.plains n (xs.map f) = true
  | [], _ => by simp [D.plains]
  | x :: xs, h => by
    rw [List.map_cons, D.plains, h x List.mem_cons_self, plains_map f n fun z hz => h z (List.mem_cons_of_mem _ hz)]
    rfl
theorem plain_int (n : Nat) (k : Int) : D.plain n (.int k) = true := by cases n <;> simp [D.plain]
theorem plain_rwD (n : Nat) (r : List Int) : D.plain (n + 1) (rwD r) = true := by
  rw [D.plain]
  exact plains_map D.int n fun x _ => plain_int n x
theorem eqv_int (a b : Int) : D.eqv (.int a) (.int b) = (a == b) := by rw [D.eqv]
theorem eqvs_map {α : Type} [BEq α] (f : α → D) (hf : ∀ x y, D.eqv (f x) (f y) = (x == y)) : ∀ xs ys : List α, D.eqvs (xs.map f) (ys.map f) = (xs == ys)
  | [], [] => by rw [List.map_nil, D.eqvs]; rfl
  | [], _ :: _ => by simp [D.eqvs]
  | _ :: _, [] => by simp [D.eqvs]
  | x :: xs, y :: ys => by
    rw [List.map_cons, List.map_cons, D.eqvs, hf, eqvs_map f hf xs ys]
    rfl
theorem eqv_rwD (a b : List Int) : D.eqv (rwD a) (rwD b) = (a == b) := by
  rw [D.eqv]
  exact eqvs_map D.int eqv_int a b
theorem memD_map {α : Type} [BEq α] [LawfulBEq α] (f : α → D) (hf : ∀ x y, D.eqv (f x) (f y) = (x == y)) (x : α) : ∀ xs : List α, memD (f x) (xs.map f) = xs.contains x
  | [] => rfl
  | y :: ys => by
    rw [List.map_cons, memD, hf, memD_map f hf x ys, List.contains_cons]
    congr 1
    exact BEq.comm
@[simp] theorem pIn_int_tup (k : Int) (xs : List Int) : pIn (.int k) (.tup (xs.map .int)) = some (.bl (xs.contains k)) := by
  simp only [pIn, D.pl, plain_int, plains_map D.int 9 (fun x _ => plain_int 9 x), Bool.and_self, if_true, memD_map D.int eqv_int]
@[simp] theorem pIn_int_lst (k : Int) (xs : List Int) : pIn (.int k) (.lst (xs.map .int)) = some (.bl (xs.contains k)) := by
  simp only [pIn, D.pl, plain_int, plains_map D.int 9 (fun x _ => plain_int 9 x), Bool.and_self, if_true, memD_map D.int eqv_int]
@[simp] theorem pNotIn_int_tup (k : Int) (xs : List Int) : pNotIn (.int k) (.tup (xs.map .int)) = some (.bl (!xs.contains k)) := by simp only [pNotIn, pIn_int_tup]
@[simp] theorem pNotIn_int_lst (k : Int) (xs : List Int) : pNotIn (.int k) (.lst (xs.map .int)) = some (.bl (!xs.contains k)) := by simp only [pNotIn, pIn_int_lst]
@[simp] theorem pIn_row_lst (r : List Int) (xs : List (List Int)) : pIn (rwD r) (.lst (xs.map rwD)) = some (.bl (xs.contains r)) := by
  simp only [pIn, D.pl, plain_rwD, plains_map rwD 9 (fun x _ => plain_rwD 8 x), Bool.and_self, if_true, memD_map rwD eqv_rwD]
@[simp] theorem pIn_row_tup (r : List Int) (xs : List (List Int)) : pIn (rwD r) (.tup (xs.map rwD)) = some (.bl (xs.contains r)) := by
  simp only [pIn, D.pl, plain_rwD, plains_map rwD 9 (fun x _ => plain_rwD 8 x), Bool.and_self, if_true, memD_map rwD eqv_rwD]
/-- where rows of the same items are sorted -/
def ins {α : Type} (lt : α → α → Bool) (x : α) : List α → List α
  | [] => [x]
  | y :: ys => if lt y x then y :: ins lt x ys else x :: y :: ys
def sort {α : Type} (lt : α → α → Bool) : List α → List α
  | [] => []
  | x :: xs => ins lt x (sort lt xs)
theorem insD_map {α : Type} (f : α → D) (lt : α → α → Bool) (h : ∀ x y, D.lt (f x) (f y) = lt x y) (x : α) : ∀ ys : List α, insD (f x) (ys.map f) = (ins lt x ys).map f
  | [] => rfl
  | y :: ys => by
    rw [List.map_cons, insD, h, ins, insD_map f lt h x ys]
    split <;> rfl
theorem sortD_map {α : Type} (f : α → D) (lt : α → α → Bool) (h : ∀ x y, D.lt (f x) (f y) = lt x y) : ∀ xs : List α, sortD (xs.map f) = (sort lt xs).map f
  | [] => rfl
  | x :: xs => by rw [List.map_cons, sortD, sortD_map f lt h xs, insD_map f lt h, sort]
theorem mem_ins {α : Type} {lt : α → α → Bool} {x z : α} : ∀ {ys : List α}, z ∈ ins lt x ys ↔ z = x ∨ z ∈ ys
  | [] => by simp [ins]
  | y :: ys => by
    rw [ins]
    split
    · rw [List.mem_cons, mem_ins, List.mem_cons]
      constructor
      · rintro (h | h | h) <;> simp [h]
      · rintro (h | h | h) <;> simp [h]
    · rw [List.mem_cons]
theorem mem_sort {α : Type} {lt : α → α → Bool} {z : α} : ∀ {xs : List α}, z ∈ sort lt xs ↔ z ∈ xs
  | [] => Iff.rfl
  | x :: xs => by rw [sort, mem_ins, mem_sort, List.mem_cons]
theorem len_ins {α : Type} {lt : α → α → Bool} {x : α} : ∀ {ys : List α}, (ins lt x ys).length = ys.length + 1
  | [] => rfl
  | y :: ys => by
    rw [ins]
    split
    · rw [List.length_cons, len_ins, List.length_cons]
    · rfl
theorem len_sort {α : Type} {lt : α → α → Bool} : ∀ {xs : List α}, (sort lt xs).length = xs.length
  | [] => rfl
  | x :: xs => by rw [sort, len_ins, len_sort, List.length_cons]
theorem contains_sort {α : Type} [BEq α] [LawfulBEq α] {lt : α → α → Bool} {xs : List α} {z : α} : (sort lt xs).contains z = xs.contains z := by
  rw [Bool.eq_iff_iff, List.contains_iff_mem, List.contains_iff_mem, mem_sort]
def ltL {α : Type} [BEq α] (lt : α → α → Bool) : List α → List α → Bool
  | [], _ :: _ => true
  | x :: xs, y :: ys => if x == y then ltL lt xs ys else lt x y
  | _, [] => false
theorem lts_map {α : Type} [BEq α] (f : α → D) (lt : α → α → Bool) (he : ∀ x y, D.eqv (f x) (f y) = (x == y)) (h : ∀ x y, D.lt (f x) (f y) = lt x y) : ∀ xs ys : List α, D.lts (xs.map f) (ys.map f) = ltL lt xs ys
  | [], [] => by simp [D.lts, ltL]
  | [], _ :: _ => by simp [D.lts, ltL]
  | _ :: _, [] => by simp [D.lts, ltL]
  | x :: xs, y :: ys => by
    rw [List.map_cons, List.map_cons, D.lts, he, h, lts_map f lt he h xs ys, ltL]
theorem lt_int (a b : Int) : D.lt (.int a) (.int b) = ltI a b := by rw [D.lt]; rfl
def ltR : List Int → List Int → Bool := ltL ltI
theorem lt_rwD (a b : List Int) : D.lt (rwD a) (rwD b) = ltR a b := by
  rw [D.lt]
  exact lts_map D.int ltI eqv_int lt_int a b
theorem alikes_map {α : Type} (f : α → D) (h : ∀ x y, D.alike (f x) (f y) = true) : ∀ xs ys : List α, D.alikes (xs.map f) (ys.map f) = true
  | [], _ => by simp [D.alikes]
  | _ :: _, [] => by simp [D.alikes]
  | x :: xs, y :: ys => by
    rw [List.map_cons, List.map_cons, D.alikes, h, alikes_map f h xs ys]
    rfl
theorem alike_int (a b : Int) : D.alike (.int a) (.int b) = true := by rw [D.alike]
theorem alike_rwD (a b : List Int) : D.alike (rwD a) (rwD b) = true := by
  rw [D.alike]
  exact alikes_map D.int alike_int a b
theorem allAlike_map {α : Type} (f : α → D) (h : ∀ x y, D.alike (f x) (f y) = true) (xs : List α) : allAlike (xs.map f) = true := by
  unfold allAlike
  rw [List.all_map, List.all_eq_true]
  intro x _
  show (xs.map f).all _ = true
  rw [List.all_map, List.all_eq_true]
  intro y _
  exact h x y
/-- rows that are not empty are sorted -/
theorem sorted_rows {xs : List (List Int)} (h : ∀ r ∈ xs, r ≠ []) : pSorted (.lst (xs.map rwD)) = some (.lst ((sort ltR xs).map rwD)) := by
  have h1 : (xs.map rwD).all isTup1 = true := by
    rw [List.all_map, List.all_eq_true]
    intro r hr
    cases r with
    | nil => exact absurd rfl (h _ hr)
    | cons a b => rfl
  simp only [pSorted, allAlike_map rwD alike_rwD, plains_map rwD 8 (fun x _ => plain_rwD 7 x), h1, Bool.true_or, Bool.and_self, if_true, sortD_map rwD ltR lt_rwD]
theorem sorted_ints (xs : List Int) : pSorted (.lst (xs.map .int)) = some (.lst ((sort ltI xs).map .int)) := by
  have h1 : (xs.map D.int).all noTup = true := by
    rw [List.all_map, List.all_eq_true]
    intro r hr
    rfl
  simp only [pSorted, allAlike_map D.int alike_int, plains_map D.int 8 (fun x _ => plain_int 8 x), h1, Bool.or_true, Bool.and_self, if_true, sortD_map D.int ltI lt_int]
theorem cut_map {α β : Type} (f : α → β) (xs : List α) (l h : Option Int) : cut (xs.map f) l h = (cut xs l h).map f := by
  unfold cut
  rw [List.length_map, ← List.map_drop, ← List.map_take]
theorem cut_hi {α : Type} (xs : List α) (k : Nat) : cut xs none (some (k : Int)) = xs.take k := by
  have h : ¬ (k : Int) < 0 := by omega
  simp only [cut, sIx, h, if_false, List.drop_zero, Nat.sub_zero, Int.toNat_natCast]
  rw [List.take_eq_take_iff]
  omega
theorem cut_lo {α : Type} (xs : List α) (k : Nat) : cut xs (some (k : Int)) none = xs.drop k := by
  have h : ¬ (k : Int) < 0 := by omega
  simp only [cut, sIx, h, if_false, Int.toNat_natCast]
  by_cases h2 : k ≤ xs.length
  · rw [Nat.min_eq_left h2]
    exact List.take_of_length_le (by rw [List.length_drop]; omega)
  · rw [Nat.min_eq_right (by omega), Nat.sub_self, List.take_zero, List.drop_of_length_le (by omega)]
end DL
/-! DV: courses. -/
namespace DL
set_option autoImplicit false
open PySem
abbrev Row := List Int
/-- a row with one more stone -/
def extW (w : Int) (S : List Int) (row : Row) : List Row := (S.filter fun s => decide (row.sum + s ≤ w)).map fun s => row ++ [s]
@[simp] theorem pAdd_tup1 (r : Row) (s : Int) (h : r.length + 1 ≤ lim) : pAdd (rwD r) (.tup [.int s]) = some (rwD (r ++ [s])) := by
  have h2 : (r.map D.int).length + [D.int s].length ≤ lim := by simp; exact h
  unfold rwD pAdd
  dsimp only
  rw [if_pos h2, List.map_append]
  rfl
theorem comps1_ok (w : Int) (S : List Int) (x2 x3 x4 : Sl) (ys : List D) (row : Row) (h : ys.length + ((extW w S row).map rwD).length ≤ lim) (hr : row.length ≤ 1000) :
    b__law_comps_1 [.fz (.int w), .fz (rwD S), x2, x3, x4, .ow (.lst ys), .fz (rwD row), .un] = nxM [.fz (.int w), .fz (rwD S), x2, x3, x4, .ow (.lst (ys ++ (extW w S row).map rwD)), .un, .un] := by
  have hr2 : row.length + 1 ≤ lim := by rw [lim_eq]; omega
  have e : (extW w S row).map rwD = List.map (fun x => rwD (row ++ [x])) (List.filter (fun x => decide (List.sum row + x ≤ w)) S) := by simp [extW]
  rw [e] at h ⊢
  simp [b__law_comps_1, extM_ow, hr2, extD_lst h]
/-- one round -/
def cmpStep (w : Int) (S : List Int) (st : List Row × List Row) : Option (List Row × List Row) :=
  let longer := st.1.flatMap (extW w S)
  let full := longer.filter fun r => r.sum == w
  if longer.length ≤ lim ∧ st.2.length + full.length ≤ lim ∧ (st.1.all fun r => decide (r.length ≤ 1000)) = true then some (longer.filter fun r => decide (r.sum < w), st.2 ++ full) else none
theorem flatMap_mapD {α : Type} (f : α → List Row) : ∀ xs : List α, xs.flatMap (fun x => (f x).map rwD) = (xs.flatMap f).map rwD
  | [] => rfl
  | x :: xs => by rw [List.flatMap_cons, List.flatMap_cons, List.map_append, flatMap_mapD f xs]
theorem comps2_ok (w : Int) (S : List Int) (st t : List Row × List Row) (x4 x5 : Sl) (h : cmpStep w S st = some t) :
    b__law_comps_2 [.fz (.int w), .fz (rwD S), .fz (.lst (st.1.map rwD)), .fz (.lst (st.2.map rwD)), x4, x5, .un, .un] = nxM [.fz (.int w), .fz (rwD S), .fz (.lst (t.1.map rwD)), .fz (.lst (t.2.map rwD)), .un, .un, .un, .un] := by
  unfold cmpStep at h
  dsimp only at h
  split at h
  case isFalse => cases h
  case isTrue hh =>
    obtain ⟨h1, h2, h3⟩ := hh
    cases h
    have hf := for_ext (tg := .nm 6) (body := b__law_comps_1) (fun ys => [.fz (.int w), .fz (rwD S), .fz (.lst (st.1.map rwD)), .fz (.lst (st.2.map rwD)), x4, .ow (.lst ys), .un, .un]) rwD (fun row => (extW w S row).map rwD) st.1 []
      (by rw [flatMap_mapD, List.length_map]; simpa using h1)
      (fun ys row hr hl => ⟨_, rfl, comps1_ok w S _ _ _ ys row hl (by simpa using List.all_eq_true.mp h3 row hr)⟩)
    rw [flatMap_mapD, List.nil_append] at hf
    have h2' : st.2.length + (List.filter (fun r => r.sum == w) (st.1.flatMap (extW w S))).length ≤ lim := h2
    simp [b__law_comps_2, hf, pAdd, h2']
def cmpsO (w : Int) (S : List Int) : Option (List Row) :=
  match foldO (fun st (_ : Nat) => cmpStep w S st) (List.range w.toNat) ([[]], []) with
  | some st => if st.2.all (fun r => !r.isEmpty) then some (sort ltR st.2) else none
  | none => none
theorem comps_ok (w : Nat) (hw : w ≤ 1000) (S : List Int) (rs : List Row) (h : cmpsO w S = some rs) : g__law_comps [.int (w : Nat), rwD S] = retM (.lst (rs.map rwD)) := by
  unfold cmpsO at h
  rw [Int.toNat_natCast] at h
  cases q : foldO (fun st (_ : Nat) => cmpStep w S st) (List.range w) ([[]], []) with
  | none => rw [q] at h; cases h
  | some st =>
    rw [q] at h
    dsimp only at h
    split at h
    case isFalse => cases h
    case isTrue hh =>
      cases h
      have hf := for_foldO (tg := .nm 4) (body := b__law_comps_2) (fun (st : List Row × List Row) => [.fz (.int (w : Nat)), .fz (rwD S), .fz (.lst (st.1.map rwD)), .fz (.lst (st.2.map rwD)), .un, .un, .un, .un]) (fun (k : Nat) => D.int (k : Int)) (fun st _ => cmpStep w S st) (List.range w) ([[]], []) st
        (fun s t k hk e => ⟨_, rfl, comps2_ok w S s t _ _ e⟩) q
      simp only [List.map_nil, List.map_cons, rwD_nil] at hf
      have hs : pSorted (.lst (st.2.map rwD)) = some (.lst ((sort ltR st.2).map rwD)) := sorted_rows fun r hr => by
        have := List.all_eq_true.mp hh r hr
        intro e
        rw [e] at this
        cases this
      simp [g__law_comps, dDef, s__law_comps, rng1_nat w (by omega), hf, hs]
def noSizes : Exc := ⟨"NoSizes", []⟩
def badNum (d : D) : Exc := ⟨"BadNumber", [("value", d)]⟩
theorem need_sizes_ok (d s : D) (m : Int) : g_need_sizes [d, s, .int m] = if isNum d 1 m then (if isSizes s then retM .non else excM noSizes) else excM (badNum d) := by
  simp [g_need_sizes, dDef, s_need_sizes]
  cases isNum d 1 m <;> cases isSizes s <;> simp [noSizes, badNum]
/-! all courses -/
def extL (w : Int) (S : List Int) (row : Row) : List Row := if w - row.sum == 0 then [] else (S.filter fun s => decide (s ≤ w - row.sum)).map fun s => row ++ [s]
def fulL (w : Int) (row : Row) : List Row := if w - row.sum == 0 then [row] else []
theorem pEq_int0 (a b : Int) : pEq (.int a) (.int b) = some (.bl (a == b)) := pEq_int a b
theorem ac1_ok (w : Int) (S : List Int) (x3 : Sl) (ys zs : List D) (row : Row) (h : ys.length + ((fulL w row).map rwD).length ≤ lim) (h2 : zs.length + ((extL w S row).map rwD).length ≤ lim) (hr : row.length ≤ 1000) :
    b_all_courses_1 [.fz (.int w), .fz (rwD S), .ow (.lst ys), x3, .ow (.lst zs), .fz (rwD row), .un, .un] = nxM [.fz (.int w), .fz (rwD S), .ow (.lst (ys ++ (fulL w row).map rwD)), x3, .ow (.lst (zs ++ (extL w S row).map rwD)), .un, .un, .un] := by
  have hr2 : row.length + 1 ≤ lim := by rw [lim_eq]; omega
  unfold fulL at h ⊢
  unfold extL at h2 ⊢
  by_cases q : (w - row.sum == 0) = true
  · rw [if_pos q] at h h2 ⊢
    rw [if_pos q]
    have h' : ys.length < lim := by simp at h; omega
    simp [b_all_courses_1, q, appM_ok h']
  · rw [if_neg q] at h h2 ⊢
    rw [if_neg q]
    rw [List.map_map] at h2
    have e : (rwD ∘ fun s => row ++ [s]) = fun x => rwD (row ++ [x]) := rfl
    rw [e] at h2
    have q' : ¬ w - row.sum = 0 := by simpa using q
    simp [b_all_courses_1, q', extM_ow, hr2, extD_lst h2]
    rfl
def acStep (w : Int) (S : List Int) (st : List Row × List Row) : Option (List Row × List Row) :=
  let full := st.2.flatMap (fulL w)
  let longer := st.2.flatMap (extL w S)
  if longer.length ≤ lim ∧ st.1.length + full.length ≤ lim ∧ (st.2.all fun r => decide (r.length ≤ 1000)) = true then some (st.1 ++ full, longer) else none
theorem ac2_ok (w : Int) (S : List Int) (st t : List Row × List Row) (h : acStep w S st = some t) :
    b_all_courses_2 [.fz (.int w), .fz (rwD S), .ow (.lst (st.1.map rwD)), .fz (.lst (st.2.map rwD)), .un, .un, .un, .un] = nxM [.fz (.int w), .fz (rwD S), .ow (.lst (t.1.map rwD)), .fz (.lst (t.2.map rwD)), .un, .un, .un, .un] := by
  unfold acStep at h
  dsimp only at h
  split at h
  case isFalse => cases h
  case isTrue hh =>
    obtain ⟨h1, h2, h3⟩ := hh
    cases h
    have hf := for_ext2 (tg := .nm 5) (body := b_all_courses_1) (fun ys zs => [.fz (.int w), .fz (rwD S), .ow (.lst ys), .fz (.lst (st.2.map rwD)), .ow (.lst zs), .un, .un, .un]) rwD (fun row => (fulL w row).map rwD) (fun row => (extL w S row).map rwD) st.2 (st.1.map rwD) []
      (by rw [flatMap_mapD, List.length_map, List.length_map]; exact h2)
      (by rw [flatMap_mapD, List.length_map]; simpa using h1)
      (fun ys zs row hr hl hl2 => ⟨_, rfl, ac1_ok w S _ ys zs row hl hl2 (by simpa using List.all_eq_true.mp h3 row hr)⟩)
    rw [flatMap_mapD, flatMap_mapD, List.nil_append] at hf
    simp [b_all_courses_2, hf]
def allO (w : Int) (S : List Int) : Option (List Row) :=
  match loopO (fun (st : List Row × List Row) => decide (0 < (st.2.length : Int))) (acStep w S) 200 ([], [[]]) with
  | some st => if st.1.all (fun r => !r.isEmpty) then some (sort ltR st.1) else none
  | none => none
theorem all_courses_ok (w : Int) (S : List Int) (rs : List Row) (h : allO w S = some rs) : g_all_courses [.int w, rwD S] = retM (.lst (rs.map rwD)) := by
  unfold allO at h
  cases q : loopO (fun (st : List Row × List Row) => decide (0 < (st.2.length : Int))) (acStep w S) 200 ([], [[]]) with
  | none => rw [q] at h; cases h
  | some st =>
    rw [q] at h
    dsimp only at h
    split at h
    case isFalse => cases h
    case isTrue hh =>
      cases h
      have hf := while_ok (c := d2 pGt (dB (o1 pLen) [dV 3]) (dC (.int 0))) (body := b_all_courses_2) (fun (st : List Row × List Row) => [.fz (.int w), .fz (rwD S), .ow (.lst (st.1.map rwD)), .fz (.lst (st.2.map rwD)), .un, .un, .un, .un]) _ _ (fun s => by simp) (fun s t _ e => ac2_ok w S s t e) 200 ([], [[]]) st q
      simp only [List.map_nil, List.map_cons, rwD_nil] at hf
      have hs : pSorted (.lst (st.1.map rwD)) = some (.lst ((sort ltR st.1).map rwD)) := sorted_rows fun r hr => by
        have := List.all_eq_true.mp hh r hr
        intro e
        rw [e] at this
        cases this
      simp [g_all_courses, dDef, s_all_courses, hf, hs]
/-! sums -/
theorem rng2_nat (a : Int) (n : Nat) (b : Int) (hb : b - a = n) (ha : -1000000 ≤ a) (ha2 : a ≤ 1000000) (h : n ≤ 1000000) : rng2 (.int a) (.int b) = retM ((List.range n).map fun (k : Nat) => D.int (a + (k : Int))) := by
  have h1 : (-1000000000 ≤ a ∧ a ≤ 1000000000) ∧ (-1000000000 ≤ b ∧ b ≤ 1000000000) ∧ b - a ≤ (lim : Int) := by
    rw [lim_eq]
    omega
  rw [rng2_def]
  unfold rng2'
  dsimp only
  rw [if_pos h1, hb, Int.toNat_natCast, intsD_map]
theorem pIdx_lstI {α : Type} (f : α → D) (d : α) {xs : List α} {i : Int} (h0 : 0 ≤ i) (h : i < xs.length) : pIdx (.lst (xs.map f)) (.int i) = some (f (xs.getD i.toNat d)) := by
  have := pIdx_lstf f d (xs := xs) (k := i.toNat) (by omega)
  rwa [Int.toNat_of_nonneg h0] at this
theorem pIdx_tupI {α : Type} (f : α → D) (d : α) {xs : List α} {i : Int} (h0 : 0 ≤ i) (h : i < xs.length) : pIdx (.tup (xs.map f)) (.int i) = some (f (xs.getD i.toNat d)) := by
  have := pIdx_tupf f d (xs := xs) (k := i.toNat) (by omega)
  rwa [Int.toNat_of_nonneg h0] at this
def sumStep (S : List Int) (st : List Int) (k : Nat) : Option (List Int) := if st.length < lim then some (if S.any fun s => st.contains (1 + (k : Int) - s) then st ++ [1 + (k : Int)] else st) else none
def sumsO (w : Nat) (S : List Int) : Option (List Int) := foldO (sumStep S) (List.range w) [0]
theorem sums1_ok (x0 : Sl) (S s t : List Int) (k : Nat) (e : sumStep S s k = some t) : b_sums_1 [x0, .fz (rwD S), .ow (.lst (s.map .int)), .fz (.int (1 + (k : Int))), .un] = nxM [x0, .fz (rwD S), .ow (.lst (t.map .int)), .un, .un] := by
  unfold sumStep at e
  by_cases hh : s.length < lim
  · rw [if_pos hh] at e
    cases e
    have hh' : (s.map D.int).length < lim := by rw [List.length_map]; exact hh
    by_cases q : (S.any fun x => s.contains (1 + (k : Int) - x)) = true
    · rw [if_pos q]
      have q2 := q
      simp only [List.any_eq_true, List.contains_eq_mem, decide_eq_true_eq] at q2
      simp [b_sums_1, q2, appM_ok hh']
    · rw [if_neg q]
      have q2 := q
      simp only [List.any_eq_true, List.contains_eq_mem, decide_eq_true_eq] at q2
      simp [b_sums_1, q2]
  · rw [if_neg hh] at e
    cases e
theorem sums_ok (w : Nat) (hw : w ≤ 12) (hw1 : 1 ≤ w) (S rs : List Int) (hS : isSizes (rwD S) = true) (h : sumsO w S = some rs) : g_sums [.int (w : Nat), rwD S] = retM (rwD rs) := by
  have hn : isNum (.int (w : Nat)) 1 12 = true := by simp [isNum]; omega
  have hf := for_foldO (tg := .nm 3) (body := b_sums_1) (fun (st : List Int) => [.fz (.int (w : Nat)), .fz (rwD S), .ow (.lst (st.map .int)), .un, .un]) (fun (k : Nat) => D.int (1 + (k : Int))) (sumStep S) (List.range w) [0] rs
    (fun s t k hk e => ⟨_, rfl, sums1_ok _ S s t k e⟩) h
  simp only [List.map_nil, List.map_cons] at hf
  simp [g_sums, dDef, s_sums, need_sizes_ok, hn, hS, rng2_nat 1 w ((w : Int) + 1) (by omega) (by omega) (by omega) (by omega), hf]
def fstStep (w : Int) (S rs : List Int) (st : List Int × Int) : Option (List Int × Int) :=
  let f2 := st.1 ++ (S.filter fun s => decide (s ≤ st.2) && rs.contains (st.2 - s)).take 1
  if f2.length ≤ lim then some (f2, w - f2.sum) else none
def fstO (w : Int) (S rs : List Int) : Option (List Int) := (loopO (fun (st : List Int × Int) => decide (0 < st.2)) (fstStep w S rs) 200 ([], w)).map (·.1)
theorem pAdd_rows (a b : List Int) (h : (a ++ b).length ≤ lim) : pAdd (rwD a) (rwD b) = some (rwD (a ++ b)) := by
  have h2 : (a.map D.int).length + (b.map D.int).length ≤ lim := by simpa using h
  unfold rwD pAdd
  dsimp only
  rw [if_pos h2, List.map_append]
theorem first_ok (w : Nat) (hw : w ≤ 12) (hw1 : 1 ≤ w) (S rs : List Int) (hS : isSizes (rwD S) = true) (h : sumsO w S = some rs) :
    (rs.contains (w : Int) = false → g_first_course [.int (w : Nat), rwD S] = retM .non) ∧ (∀ r, rs.contains (w : Int) = true → fstO w S rs = some r → g_first_course [.int (w : Nat), rwD S] = retM (rwD r)) := by
  have hs := sums_ok w hw hw1 S rs hS h
  refine ⟨fun h1 => by simp only [List.contains_eq_mem, decide_eq_false_iff_not] at h1; simp [g_first_course, dDef, s_first_course, hs, h1], fun r h1 h2 => ?_⟩
  unfold fstO at h2
  rw [Option.map_eq_some_iff] at h2
  obtain ⟨st, h3, h4⟩ := h2
  subst h4
  have hf := while_ok (c := d2 pGt (dV 3) (dC (.int 0))) (body := b_first_course_1) (fun (st : List Int × Int) => [.fz (.int (w : Nat)), .fz (rwD S), .fz (rwD st.1), .fz (.int st.2), .fz (rwD rs), .un]) _ _ (fun s => by simp) (fun s t _ e => by
    unfold fstStep at e
    dsimp only at e
    split at e
    case isFalse => cases e
    case isTrue hh =>
      cases e
      have e1 : ∀ l : List Int, cut (l.map D.int) none (some 1) = (l.take 1).map D.int := fun l => by
        rw [cut_map]
        congr 1
        exact cut_hi _ 1
      simp only [List.contains_eq_mem] at hh
      simp [-List.map_take, b_first_course_1, e1, pAdd_rows _ _ hh]) 200 ([], (w : Int)) st h3
  simp only [rwD_nil] at hf
  simp only [List.contains_eq_mem, decide_eq_true_eq] at h1
  simp [g_first_course, dDef, s_first_course, hs, h1, hf]
end DL
/-! DW: what is drawn, what is bent. -/
namespace DL
set_option autoImplicit false
open PySem
/-! ### plain, fit -/
mutual
theorem plain_fit : ∀ (n : Nat) (d : D), d.fit n = true → D.plain n d = true
  | n, .non, _ => by cases n <;> simp [D.plain]
  | n, .bl _, _ => by cases n <;> simp [D.plain]
  | n, .int _, _ => by cases n <;> simp [D.plain]
  | n, .str _, _ => by cases n <;> simp [D.plain]
  | 0, .lst _, h => by simp [D.fit] at h
  | 0, .tup _, h => by simp [D.fit] at h
  | 0, .dct _ _, h => by simp [D.fit] at h
  | n + 1, .dct _ _, h => by simp [D.fit] at h
  | n + 1, .lst xs, h => by
    have h0 : xs.length ≤ 100000 ∧ D.fits n xs = true := by simpa [D.fit] using h
    rw [D.plain]
    exact plains_fits n xs h0.2
  | n + 1, .tup xs, h => by
    have h0 : xs.length ≤ 100000 ∧ D.fits n xs = true := by simpa [D.fit] using h
    rw [D.plain]
    exact plains_fits n xs h0.2
theorem plains_fits : ∀ (n : Nat) (ds : List D), D.fits n ds = true → D.plains n ds = true
  | n, [], _ => by simp [D.plains]
  | n, x :: xs, h => by
    have h0 : D.fit n x = true ∧ D.fits n xs = true := by simpa [D.fits] using h
    rw [D.plains, plain_fit n x h0.1, plains_fits n xs h0.2]
    rfl
end
theorem fits_iff {n : Nat} : ∀ {xs : List D}, D.fits n xs = true ↔ ∀ x ∈ xs, D.fit n x = true
  | [] => by simp [D.fits]
  | x :: xs => by rw [D.fits, Bool.and_eq_true, fits_iff]; simp
theorem plains_iff {n : Nat} : ∀ {xs : List D}, D.plains n xs = true ↔ ∀ x ∈ xs, D.plain n x = true
  | [] => by simp [D.plains]
  | x :: xs => by rw [D.plains, Bool.and_eq_true, plains_iff]; simp
theorem fit_lst {n : Nat} {xs : List D} : D.fit (n + 1) (.lst xs) = true ↔ xs.length ≤ 100000 ∧ ∀ x ∈ xs, D.fit n x = true := by
  rw [← fits_iff]; simp [D.fit]
theorem fit_tup {n : Nat} {xs : List D} : D.fit (n + 1) (.tup xs) = true ↔ xs.length ≤ 100000 ∧ ∀ x ∈ xs, D.fit n x = true := by
  rw [← fits_iff]; simp [D.fit]
theorem fit_int (n : Nat) (k : Int) : D.fit n (.int k) = true := by simp [D.fit]
theorem fit_bl (n : Nat) (k : Bool) : D.fit n (.bl k) = true := by simp [D.fit]
theorem fit_non (n : Nat) : D.fit n .non = true := by simp [D.fit]
theorem fit_rwD (n : Nat) {r : List Int} (h : r.length ≤ 100000) : D.fit (n + 1) (rwD r) = true := by
  rw [fit_tup, List.length_map]
  refine ⟨h, fun x hx => ?_⟩
  obtain ⟨k, _, e⟩ := List.mem_map.mp hx
  rw [← e]; exact fit_int n k
/-- is a list of data empty -/
theorem pEq_lnil {xs : List D} (h : D.plains 8 xs = true) : pEq (.lst xs) (.lst []) = some (.bl xs.isEmpty) := by
  have h1 : D.plain 9 (.lst xs) = true := by rw [D.plain]; exact h
  have h2 : D.plain 9 (.lst []) = true := by simp [D.plain, D.plains]
  unfold pEq D.pl
  rw [h1, h2, Bool.and_self, if_pos rfl]
  cases xs <;> simp [D.eqv, D.eqvs]
theorem pNe_lnil {xs : List D} (h : D.plains 8 xs = true) : pNe (.lst xs) (.lst []) = some (.bl (!xs.isEmpty)) := by
  have h1 : D.plain 9 (.lst xs) = true := by rw [D.plain]; exact h
  have h2 : D.plain 9 (.lst []) = true := by simp [D.plain, D.plains]
  unfold pNe D.pl
  rw [h1, h2, Bool.and_self, if_pos rfl]
  cases xs <;> simp [D.eqv, D.eqvs]
theorem plains_filter {n : Nat} {xs : List D} {P : D → Bool} (h : D.plains n xs = true) : D.plains n (xs.filter P) = true := by
  rw [plains_iff] at h ⊢
  exact fun x hx => h x (List.mem_filter.mp hx).1
@[simp] theorem pEq_lnil_int {α : Type} (f : α → Int) (xs : List α) : pEq (.lst (xs.map fun x => .int (f x))) (.lst []) = some (.bl xs.isEmpty) := by
  rw [pEq_lnil (plains_map _ 8 fun x _ => plain_int 8 _)]
  cases xs <;> rfl
@[simp] theorem pEq_lnil_ints (xs : List Int) : pEq (.lst (xs.map .int)) (.lst []) = some (.bl xs.isEmpty) := pEq_lnil_int id xs
theorem filter_empty {α : Type} (P : α → Bool) (xs : List α) : (xs.filter P).isEmpty = xs.all fun x => !P x := by
  induction xs with
  | nil => rfl
  | cons x xs ih =>
    rw [List.filter_cons, List.all_cons]
    cases P x with
    | true => rfl
    | false => exact ih
/-! ### draws -/
theorem draw_call {p : Pot} (hp : PotGood p) {f : DE} {ρ : Env'} {m : Int} (h : f ρ = retM (.int m)) (h1 : 1 ≤ m) (h2 : m < 1000000) : ∃ r p', dCallP g__law_draw [f] ρ p = .ok (.int r) p' ∧ PotGood p' ∧ 0 ≤ r ∧ r < m := by
  obtain ⟨r, p', e, q⟩ := draw_ok hp h1 h2
  exact ⟨r, p', (callP_at (dsN_at (ok_of h p) dsN_nil)).trans e, q⟩
theorem mapT_draw {α β : Type} {f : α → M β} (Q : β → Prop) : ∀ {xs : List α} {p : Pot}, PotGood p → (∀ x ∈ xs, ∀ p, PotGood p → ∃ y p', f x p = .ok y p' ∧ PotGood p' ∧ Q y) → ∃ ys p', mapT f xs p = .ok ys p' ∧ PotGood p' ∧ ys.length = xs.length ∧ ∀ y ∈ ys, Q y
  | [], p, hp, _ => ⟨[], p, rfl, hp, rfl, fun y h => by cases h⟩
  | x :: xs, p, hp, h => by
    obtain ⟨y, p1, e1, hp1, q1⟩ := h x List.mem_cons_self p hp
    obtain ⟨ys, p2, e2, hp2, l, q2⟩ := mapT_draw Q hp1 fun z hz => h z (List.mem_cons_of_mem _ hz)
    refine ⟨y :: ys, p2, ?_, hp2, by rw [List.length_cons, List.length_cons, l], fun z hz => ?_⟩
    · rw [mapT, bind_at e1, bind_at e2]
      rfl
    · rcases List.mem_cons.mp hz with h | h
      · rw [h]; exact q1
      · exact q2 z h
theorem filT_draw {α β : Type} {c : α → M Bool} {f : α → M β} (v : α → β) : ∀ {xs : List α} {p : Pot}, PotGood p → (∀ x ∈ xs, ∀ p, PotGood p → ∃ b p', c x p = .ok b p' ∧ PotGood p') → (∀ x ∈ xs, f x = retM (v x)) → ∃ (ys : List α) (p' : Pot), filT c f xs p = .ok (ys.map v) p' ∧ PotGood p' ∧ ys.Sublist xs
  | [], p, hp, _, _ => ⟨[], p, rfl, hp, List.Sublist.refl _⟩
  | x :: xs, p, hp, h, hv => by
    obtain ⟨b, p1, e1, hp1⟩ := h x List.mem_cons_self p hp
    obtain ⟨ys, p2, e2, hp2, l⟩ := filT_draw v hp1 (fun z hz => h z (List.mem_cons_of_mem _ hz)) fun z hz => hv z (List.mem_cons_of_mem _ hz)
    cases b with
    | true =>
      refine ⟨x :: ys, p2, ?_, hp2, l.cons_cons x⟩
      rw [filT, bind_at e1, if_pos rfl, hv x List.mem_cons_self, bindM_retM', bind_at e2]
      rfl
    | false =>
      refine ⟨ys, p2, ?_, hp2, l.cons x⟩
      rw [filT, bind_at e1]
      exact e2
/-- all sublists -/
def subs {α : Type} : List α → List (List α)
  | [] => [[]]
  | x :: xs => (subs xs).map (x :: ·) ++ subs xs
theorem mem_subs {α : Type} {ys xs : List α} (h : ys.Sublist xs) : ys ∈ subs xs := by
  induction h with
  | slnil => exact List.mem_cons_self
  | cons x _ ih => exact List.mem_append_right _ ih
  | cons_cons x _ ih => exact List.mem_append_left _ (List.mem_map.mpr ⟨_, ih, rfl⟩)
theorem dCmp_at {it : DI} {tg : Tg} {k : Option DE} {e : DE} {vs : List Nat} {ρ : Env'} {p p1 : Pot} {xs ys : List D} (h : it ρ = retM xs) (h2 : compGo tg k e (wipes vs ρ) xs p = .ok ys p1) : dCmp it tg k e vs ρ p = .ok (.lst ys) p1 := by
  rw [dCmp_eq, h, bindM_retM']
  have : noX (compGo tg k e (wipes vs ρ) xs) p = .ok ys p1 := by
    unfold noX
    rw [h2]
  rw [bind_at this]
  rfl
def upTo (n : Nat) : List Int := (List.range n).map fun (k : Nat) => 1 + (k : Int)
theorem mem_upTo {n : Nat} {k : Int} : k ∈ upTo n ↔ 1 ≤ k ∧ k ≤ n := by
  unfold upTo
  rw [List.mem_map]
  constructor
  · rintro ⟨j, hj, e⟩
    have := List.mem_range.mp hj
    omega
  · rintro ⟨h1, h2⟩
    exact ⟨(k - 1).toNat, List.mem_range.mpr (by omega), by omega⟩
theorem runF_ret {n : Nat} {s : DS} {ρ : Env'} {p p1 : Pot} {d : D} (h : s (padN n ρ) p = .ret d p1) : runF n s ρ p = .ok d p1 := by
  unfold runF
  rw [h]
theorem defP_ret {n : Nat} {s : DS} {ds : List D} {p p1 : Pot} {d : D} (h : s (padN n (.un :: ds.map .fz)) p = .ret d p1) : dDefP n s ds p = .ok d p1 := runF_ret h
theorem ret_at {f : DE} {ρ : Env'} {p p1 : Pot} {d : D} (h : f ρ p = .ok d p1) : sRet f ρ p = .ret d p1 := by
  unfold sRet runE
  rw [h]
theorem if_at {c f g : DE} {ρ : Env'} {b : Bool} (h : c ρ = retM (.bl b)) : dIf c f g ρ = if b then f ρ else g ρ := by
  simp only [dIf_eq, bM_eq, h, bindM_retM', asB_bl]
theorem sizes_draw {p : Pot} (hp : PotGood p) (n : Nat) (h1 : 1 ≤ n) (h2 : n ≤ 1000) : ∃ S p', g__law_sizes [.int (n : Nat)] p = .ok (rwD S) p' ∧ PotGood p' ∧ S ∈ subs (upTo n) ∧ S ≠ [] := by
  have hr := rng2_nat 1 n ((n : Int) + 1) (by omega) (by omega) (by omega) (by omega)
  have hit : itR2 (dC (.int 1)) (d2 pAdd (dV 1) (dC (.int 1))) [.un, .fz (.int (n : Nat)), .un, .un] = retM ((List.range n).map fun (k : Nat) => D.int (1 + (k : Int))) := by simp [hr]
  obtain ⟨S, p1, e1, hp1, l1⟩ := filT_draw (c := fun (k : Int) => bM (d2 pGt (dCallP g__law_draw [dC (.int 2)]) (dC (.int 0))) [.un, .fz (.int (n : Nat)), .un, .fz (.int k)]) (f := fun (k : Int) => dV 3 [.un, .fz (.int (n : Nat)), .un, .fz (.int k)]) D.int (xs := upTo n) hp (fun k _ p hp => by
    obtain ⟨r, p', e, hp', _⟩ := draw_call hp (f := dC (.int 2)) (ρ := [.un, .fz (.int (n : Nat)), .un, .fz (.int k)]) rfl (by decide) (by decide)
    refine ⟨decide (0 < r), p', ?_, hp'⟩
    rw [bM_eq, bind_at (d2_at e rfl (pGt_int _ _))]
    rfl) (fun k _ => rfl)
  have hc : compGo (.nm 3) (some (d2 pGt (dCallP g__law_draw [dC (.int 2)]) (dC (.int 0)))) (dV 3) (wipes [3] [.un, .fz (.int (n : Nat)), .un, .un]) ((List.range n).map fun (k : Nat) => D.int (1 + (k : Int))) p = .ok (S.map .int) p1 := by
    rw [compGo_some]
    unfold upTo at e1
    rw [filT_map] at e1
    rw [filT_map]
    exact e1
  have hd := dCmp_at hit hc
  by_cases q : S = []
  · subst q
    obtain ⟨r, p2, e2, hp2, r0, r1⟩ := draw_call hp1 (f := dV 1) (ρ := [.un, .fz (.int (n : Nat)), .fz (.lst []), .un]) rfl (by omega) (by omega)
    refine ⟨[1 + r], p2, ?_, hp2, ?_, by simp⟩
    · refine defP_ret (n := 4) (s := s__law_sizes) ?_
      refine (seq_nx (set_nx hd)).trans (seq_ret (ret_at ?_))
      have e0 : pNe (.lst []) (.lst []) = some (.bl false) := pNe_lnil (xs := []) (by simp [D.plains])
      have ei : d2 pNe (dV 2) (dLst []) [.un, .fz (.int (n : Nat)), .fz (.lst []), .un] = retM (.bl false) := by simp [e0]
      exact (congrFun (if_at ei) p1).trans (dTup_at (dsN_at (d2_at rfl e2 (pAdd_int 1 r)) dsN_nil))
    · exact mem_subs (List.singleton_sublist.mpr (mem_upTo.mpr (by omega)))
  · refine ⟨S, p1, ?_, hp1, mem_subs l1, q⟩
    have q2 : (S.map D.int).isEmpty = false := by
      cases S with
      | nil => exact absurd rfl q
      | cons a b => rfl
    refine defP_ret (n := 4) (s := s__law_sizes) ?_
    refine (seq_nx (set_nx hd)).trans (seq_ret (ret_at ?_))
    have ei : d2 pNe (dV 2) (dLst []) [.un, .fz (.int (n : Nat)), .fz (.lst (S.map .int)), .un] = retM (.bl true) := by
      simp [pNe_lnil (plains_map D.int 8 fun x _ => plain_int 8 x), q2, q]
    exact (congrFun (if_at ei) p1).trans rfl
end DL
/-! DX: a thing with something in it otherwise. -/
namespace DL
set_option autoImplicit false
open PySem
/-- what can be bent -/
def bdOk : Nat → D → Bool
  | _, .int i => decide (i.natAbs < 1000000)
  | _, .str x => decide (x.length ≤ 1000000)
  | k + 1, .tup xs => decide (xs.length ≤ 40000) && xs.all (bdOk k)
  | _, _ => false
theorem bdOk_fit : ∀ (k : Nat) (t : D), bdOk k t = true → D.fit k t = true
  | k, .int i, _ => fit_int k i
  | k, .str x, _ => by simp [D.fit]
  | k, .non, h => by cases k <;> cases h
  | k, .bl _, h => by cases k <;> cases h
  | k, .lst _, h => by cases k <;> cases h
  | k, .dct _ _, h => by cases k <;> cases h
  | 0, .tup xs, h => by cases h
  | k + 1, .tup xs, h => by
    rw [bdOk, Bool.and_eq_true, decide_eq_true_eq, List.all_eq_true] at h
    rw [fit_tup]
    exact ⟨by omega, fun x hx => bdOk_fit k x (h.2 x hx)⟩
theorem bdOk_odd : ∀ (k : Nat) (t : D), bdOk k t = true → oddOk t = true
  | k, .int i, h => by cases k <;> simpa [bdOk, oddOk] using h
  | k, .str x, h => by cases k <;> simpa [bdOk, oddOk] using h
  | k, .non, h => by cases k <;> cases h
  | k, .bl _, h => by cases k <;> cases h
  | k, .lst _, h => by cases k <;> cases h
  | k, .dct _ _, h => by cases k <;> cases h
  | 0, .tup xs, h => by cases h
  | k + 1, .tup xs, h => by
    rw [bdOk, Bool.and_eq_true, decide_eq_true_eq] at h
    rw [oddOk, decide_eq_true_eq]
    omega
theorem mem_cut {α : Type} {xs : List α} {l h : Option Int} {x : α} (hx : x ∈ cut xs l h) : x ∈ xs := List.mem_of_mem_drop (List.mem_of_mem_take hx)
theorem fit_str (n : Nat) (x : Str) : D.fit n (.str x) = true := by simp [D.fit]
theorem fit_odd {k : Nat} {t d : D} (h : bdOk k t = true) (hd : d ∈ oddList t) : D.fit (k + 2) d = true := by
  cases t with
  | int i =>
    simp only [oddList, List.mem_cons, List.not_mem_nil, or_false] at hd
    rcases hd with e | e | e | e | e | e | e | e | e <;> subst e <;> simp [fit_int, fit_bl, fit_non, fit_str, fit_tup]
  | str x =>
    simp only [oddList, List.mem_cons, List.not_mem_nil, or_false] at hd
    rcases hd with e | e | e | e | e | e | e | e | e <;> subst e <;> simp [fit_int, fit_bl, fit_non, fit_str, fit_tup, fit_lst]
  | tup xs =>
    cases k with
    | zero => cases h
    | succ k =>
      have h0 := h
      rw [bdOk, Bool.and_eq_true, decide_eq_true_eq, List.all_eq_true] at h
      have hf : ∀ x ∈ xs, D.fit (k + 2) x = true := fun x hx => fit_mono k (k + 2) x (by omega) (bdOk_fit k x (h.2 x hx))
      have hf1 : ∀ x ∈ xs, D.fit (k + 1) x = true := fun x hx => fit_mono k (k + 1) x (by omega) (bdOk_fit k x (h.2 x hx))
      have hc : ∀ l r, (cut xs l r).length ≤ xs.length := cut_le xs
      have c1 := hc (some (-1)) none
      have c2 := hc (some 1) none
      have c3 := hc none (some (-1))
      simp only [oddList, List.mem_cons, List.not_mem_nil, or_false] at hd
      rcases hd with e | e | e | e | e | e | e | e | e | e <;> subst e <;> simp only [fit_int, fit_bl, fit_non, fit_str, fit_tup, fit_lst]
      · refine ⟨by rw [List.length_append]; omega, fun x hx => ?_⟩
        rcases List.mem_append.mp hx with q | q
        · exact hf x q
        · exact hf x (mem_cut q)
      · exact ⟨by omega, fun x hx => hf x (mem_cut hx)⟩
      · exact ⟨by omega, hf⟩
      · exact ⟨by decide, fun x hx => by cases hx⟩
      · refine ⟨by simp, fun x hx => ?_⟩
        rw [List.mem_singleton.mp hx, fit_tup]
        exact ⟨by omega, hf1⟩
      · exact ⟨by omega, fun x hx => hf x (mem_cut hx)⟩
      · refine ⟨by rw [List.length_append]; simp; omega, fun x hx => ?_⟩
        rcases List.mem_append.mp hx with q | q
        · exact hf x q
        · rw [List.mem_singleton.mp q]; exact fit_int _ _
  | _ => cases k <;> cases h
theorem bM_at {c : DE} {ρ : Env'} {p p1 : Pot} {b : Bool} (h : c ρ p = .ok (.bl b) p1) : bM c ρ p = .ok b p1 := by
  rw [bM_eq, bind_at h]
  rfl
theorem and_at {f g : DE} {ρ : Env'} {p p1 : Pot} (h : f ρ p = .ok (.bl true) p1) : dAnd f g ρ p = g ρ p1 := by
  rw [dAnd_eq, bind_at (bM_at h), if_pos rfl]
theorem and_no {f g : DE} {ρ : Env'} {p p1 : Pot} (h : f ρ p = .ok (.bl false) p1) : dAnd f g ρ p = .ok (.bl false) p1 := by
  rw [dAnd_eq, bind_at (bM_at h), if_neg (by decide)]
  rfl
def bentC : DE := dAnd (dIsi2 .list .tuple (dV 1)) (dAnd (d2 pGt (dB (o1 pLen) [dV 1]) (dC (.int 0))) (dAnd (d2 pGt (dV 2) (dC (.int 0))) (d2 pGt (dCallP g__law_draw [dC (.int 5)]) (dC (.int 0)))))
theorem bent_guard {p : Pot} (hp : PotGood p) {k : Nat} {t : D} (ht : bdOk k t = true) (left : Int) : ∃ b p', bentC [.un, .fz t, .fz (.int left), .un, .un] p = .ok (.bl b) p' ∧ PotGood p' ∧ (b = true → 0 < left ∧ ∃ xs, t = .tup xs ∧ 0 < xs.length) := by
  cases t with
  | int i => exact ⟨false, p, and_no rfl, hp, fun h => by cases h⟩
  | str i => exact ⟨false, p, and_no rfl, hp, fun h => by cases h⟩
  | tup xs =>
    have e2 : d2 pGt (dB (o1 pLen) [dV 1]) (dC (.int 0)) [.un, .fz (.tup xs), .fz (.int left), .un, .un] = retM (.bl (decide (0 < (xs.length : Int)))) := by simp
    have e3 : d2 pGt (dV 2) (dC (.int 0)) [.un, .fz (.tup xs), .fz (.int left), .un, .un] = retM (.bl (decide (0 < left))) := by simp
    have a1 : bentC [.un, .fz (.tup xs), .fz (.int left), .un, .un] p = _ := and_at rfl
    by_cases h2 : 0 < (xs.length : Int)
    · rw [decide_eq_true h2] at e2
      by_cases h3 : 0 < left
      · rw [decide_eq_true h3] at e3
        obtain ⟨r, p', e, hp', _⟩ := draw_call hp (f := dC (.int 5)) (ρ := [.un, .fz (.tup xs), .fz (.int left), .un, .un]) rfl (by decide) (by decide)
        exact ⟨decide (0 < r), p', a1.trans ((and_at (ok_of e2 p)).trans ((and_at (ok_of e3 p)).trans (d2_at e rfl (pGt_int _ _)))), hp', fun _ => ⟨h3, xs, rfl, by omega⟩⟩
      · rw [decide_eq_false h3] at e3
        exact ⟨false, p, a1.trans ((and_at (ok_of e2 p)).trans (and_no (ok_of e3 p))), hp, fun h => by cases h⟩
    · rw [decide_eq_false h2] at e2
      exact ⟨false, p, a1.trans (and_no (ok_of e2 p)), hp, fun h => by cases h⟩
  | _ => cases k <;> cases ht
theorem bent_no {n k : Nat} {t : D} {left : Int} {p p1 : Pot} (ht : bdOk k t = true) (hp1 : PotGood p1) (h : bentC [.un, .fz t, .fz (.int left), .un, .un] p = .ok (.bl false) p1) : ∃ d p', g__law_bent (n + 1) [t, .int left] p = .ok d p' ∧ PotGood p' ∧ D.fit (k + 2) d = true := by
  obtain ⟨d, p2, e, hp2, m⟩ := odd_ok hp1 (bdOk_odd k t ht)
  refine ⟨d, p2, ?_, hp2, fit_odd ht m⟩
  refine defP_ret (n := 5) (s := s__law_bent (g__law_bent n)) ?_
  exact (guard_nx h).trans (seq_ret (ret_at ((callP_at (dsN_at rfl dsN_nil)).trans e)))
theorem guard_to {c : DE} {s t : DS} {ρ : Env'} {p p1 p2 : Pot} {d : D} (h : c ρ p = .ok (.bl true) p1) (h2 : s ρ p1 = .ret d p2) : sSeq (sIf c s sPass) t ρ p = .ret d p2 := guard_in h h2
theorem bent_ok : ∀ (n k : Nat) (t : D) (left : Int) (p : Pot), PotGood p → bdOk k t = true → left < (n : Int) + 1 → ∃ d p', g__law_bent (n + 1) [t, .int left] p = .ok d p' ∧ PotGood p' ∧ D.fit (k + 2) d = true
  | 0, k, t, left, p, hp, ht, hl => by
    obtain ⟨b, p1, e, hp1, hb⟩ := bent_guard hp ht left
    cases b with
    | true => have := (hb rfl).1; omega
    | false => exact bent_no ht hp1 e
  | n + 1, k, t, left, p, hp, ht, hl => by
    obtain ⟨b, p1, e, hp1, hb⟩ := bent_guard hp ht left
    cases b with
    | false => exact bent_no ht hp1 e
    | true =>
      obtain ⟨h0, xs, e1, hx⟩ := hb rfl
      subst e1
      cases k with
      | zero => cases ht
      | succ k =>
        rw [bdOk, Bool.and_eq_true, decide_eq_true_eq, List.all_eq_true] at ht
        obtain ⟨r, p2, e2, hp2, r0, r1⟩ := draw_call hp1 (f := dB (o1 pLen) [dV 1]) (ρ := [.un, .fz (.tup xs), .fz (.int left), .un, .un]) (m := xs.length) (by simp) (by omega) (by omega)
        have hxs : xs.getD r.toNat .non ∈ xs := by
          rw [List.getD_eq_getElem?_getD, List.getElem?_eq_getElem (by omega)]
          exact List.getElem_mem _
        obtain ⟨d, p3, e3, hp3, f3⟩ := bent_ok n k (xs.getD r.toNat .non) (left - 1) p2 hp2 (ht.2 _ hxs) (by omega)
        have hi : pIdx (.tup xs) (.int r) = some (xs.getD r.toNat .non) := by
          have := pIdx_tup (xs := xs) (k := r.toNat) (by omega)
          rwa [Int.toNat_of_nonneg r0] at this
        have c1 := cut_le xs none (some r)
        have c2 := cut_le xs (some (r + 1)) none
        refine ⟨.tup ((cut xs none (some r) ++ [d]) ++ cut xs (some (r + 1)) none), p3, ?_, hp3, ?_⟩
        · refine defP_ret (n := 5) (s := s__law_bent (g__law_bent (n + 1))) ?_
          refine guard_to e ?_
          refine (seq_nx (set_nx e2)).trans ?_
          have e4 : dCallP (g__law_bent (n + 1)) [d2 pIdx (dV 1) (dV 3), d2 pSub (dV 2) (dC (.int 1))] [.un, .fz (.tup xs), .fz (.int left), .fz (.int r), .un] p2 = .ok d p3 :=
            (callP_at (dsN_at (d2_at rfl rfl hi) (dsN_at (d2_at rfl rfl (pSub_int _ _)) dsN_nil))).trans e3
          refine (seq_nx (set_nx e4)).trans ?_
          refine (guard_nx (p1 := p3) rfl).trans ?_
          refine seq_ret (ret_at ?_)
          have h1 : (cut xs none (some r)).length + [d].length ≤ lim := by rw [lim_eq]; simp; omega
          have h2 : (cut xs none (some r) ++ [d]).length + (cut xs (some (r + 1)) none).length ≤ lim := by rw [lim_eq]; simp; omega
          have e5 : (d2 pAdd (d2 pAdd (dSl (dV 1) noIx (anIx (dV 3))) (dTup [dV 4])) (dSl (dV 1) (anIx (d2 pAdd (dV 3) (dC (.int 1)))) noIx)) [.un, .fz (.tup xs), .fz (.int left), .fz (.int r), .fz d] = retM (.tup ((cut xs none (some r) ++ [d]) ++ cut xs (some (r + 1)) none)) := by
            simp only [d2_eq, dSl_eq, dV_eq, nth_0, nth_s, noIx_eq, anIx_eq, bindM_retM', liftM_some, pSl_tup, dTup_eq, dsN_cons', dsN_nil', dC_eq, pAdd_int, pAdd, h1, h2, if_true]
          exact ok_of e5 p3
        · rw [fit_tup]
          refine ⟨by simp; omega, fun x hx => ?_⟩
          have hf : ∀ x ∈ xs, D.fit (k + 2) x = true := fun x hx => fit_mono k (k + 2) x (by omega) (bdOk_fit k x (ht.2 x hx))
          rcases List.mem_append.mp hx with q | q
          · rcases List.mem_append.mp q with q | q
            · exact hf x (mem_cut q)
            · rw [List.mem_singleton.mp q]; exact f3
          · exact hf x (mem_cut q)
theorem bdOk_rwD {r : List Int} (k : Nat) (hl : r.length ≤ 40000) (h : ∀ x ∈ r, -1000 ≤ x ∧ x ≤ 1000) : bdOk (k + 1) (rwD r) = true := by
  rw [bdOk, Bool.and_eq_true, decide_eq_true_eq, List.all_map, List.all_eq_true, List.length_map]
  refine ⟨hl, fun x hx => ?_⟩
  have := h x hx
  show bdOk k (.int x) = true
  cases k <;> simp [bdOk] <;> omega
end DL
/-! DY: steps of a law's own body. -/
namespace DL
set_option autoImplicit false
open PySem
theorem unpack_nx {is : List Nat} {f : DE} {ρ ρ1 : Env'} {p p1 : Pot} {d : D} (h : f ρ p = .ok d p1) (h2 : setTg (.tp is) d ρ = some ρ1) : sUnpack is f ρ p = .nx ρ1 p1 := by
  rw [sUnpack_eq]
  unfold bindS runE
  rw [h]
  show setO (setTg (.tp is) d ρ) p1 = _
  rw [h2]
  rfl
theorem dB_at {op : List D → Option D} {fs : List DE} {ρ : Env'} {p p1 : Pot} {xs : List D} {d : D} (h : dsN fs ρ p = .ok xs p1) (h2 : op xs = some d) : dB op fs ρ p = .ok d p1 := by
  rw [dB_eq, bind_at h, h2]
  rfl
theorem dCmp_at2 {it : DI} {tg : Tg} {k : Option DE} {e : DE} {vs : List Nat} {ρ : Env'} {p p1 p2 : Pot} {xs ys : List D} (h : it ρ p = .ok xs p1) (h2 : compGo tg k e (wipes vs ρ) xs p1 = .ok ys p2) : dCmp it tg k e vs ρ p = .ok (.lst ys) p2 := by
  rw [dCmp_eq, bind_at h]
  have : noX (compGo tg k e (wipes vs ρ) xs) p1 = .ok ys p2 := by
    unfold noX
    rw [h2]
  rw [bind_at this]
  rfl
theorem fnGo_const {i : Nat} {body : DS} {ρ : Env'} {p : Pot} : ∀ {xs : List Str}, (∀ x ∈ xs, body (put ρ i (.fn x)) p = .nx ρ p) → fnGo i body xs ρ p = .nx ρ p
  | [], _ => rfl
  | x :: xs, h => by
    rw [fnGo, h x List.mem_cons_self]
    exact fnGo_const fun z hz => h z (List.mem_cons_of_mem _ hz)
theorem raises_exc {cs hs : List Str} {nm : Str} {b : DE} {ρ : Env'} {e : Exc} {r : Bool} (h : b ρ = excM e) (hm : e.cls ∈ cs) (hr : rzGo e nm hs = some r) : dRaises cs hs nm b ρ = retM (.bl r) := by
  funext p
  unfold dRaises
  rw [h]
  show (if e.cls ∈ cs then (match rzGo e nm hs with
      | some b => Res.ok (D.bl b) p
      | none => .err) else .err) = _
  rw [if_pos hm, hr]
  rfl
theorem callF_eq {i : Nat} {fs : List (Str × (List D → M D))} {fl : List DE} {ρ : Env'} {x : Str} {g : List D → M D} {xs : List D} (h : nth ρ i = .fn x) (h2 : lookF x fs = some g) (h3 : dsN fl ρ = retM xs) : dCallF i fs fl ρ = keepM (g xs) := by
  unfold dCallF
  rw [h]
  dsimp only
  rw [h2]
  dsimp only
  rw [h3]
  rfl
theorem call_is {G : List D → M D} {fs : List DE} {ρ : Env'} {xs : List D} {d : D} (h : dsN fs ρ = retM xs) (h2 : G xs = retM d) : dCall G fs ρ = retM d := by
  rw [dCall_eq, h, bindM_retM', h2]
  rfl
/-- tuple([1 + draw(b) for k in range(1 + draw(a))]): numbers -/
theorem nums_draw {ρ : Env'} {i : Nat} {a b : Int} {f g : DE} {p : Pot} (hp : PotGood p) (ha : 1 ≤ a) (ha2 : a ≤ 1000) (hb : 1 ≤ b) (hb2 : b ≤ 1000) (hf : f ρ = retM (.int a)) (hg : ∀ x, g (put (put ρ i .un) i (.fz x)) = retM (.int b)) :
    ∃ (ns : List Int) (p' : Pot), dB (o1 pTuple) [dCmp (itR1 (d2 pAdd (dC (.int 1)) (dCallP g__law_draw [f]))) (.nm i) none (d2 pAdd (dC (.int 1)) (dCallP g__law_draw [g])) [i]] ρ p = .ok (rwD ns) p' ∧ PotGood p' ∧ 1 ≤ ns.length ∧ (ns.length : Int) ≤ a ∧ ∀ n ∈ ns, 1 ≤ n ∧ n ≤ b := by
  obtain ⟨r, p1, e1, hp1, r0, r1⟩ := draw_call hp hf ha (by omega)
  have e2 : itR1 (d2 pAdd (dC (.int 1)) (dCallP g__law_draw [f])) ρ p = .ok ((List.range (r.toNat + 1)).map fun (k : Nat) => D.int (k : Int)) p1 := by
    rw [itR1_eq, bind_at (d2_at rfl e1 (pAdd_int 1 r))]
    have e : (1 : Int) + r = ((r.toNat + 1 : Nat) : Int) := by omega
    rw [e, rng1_nat _ (by omega)]
    rfl
  obtain ⟨ys, p2, e3, hp2, hl, hq⟩ := mapT_draw (f := fun (k : Nat) => tgM (.nm i) (.int (k : Int)) (wipes [i] ρ) (d2 pAdd (dC (.int 1)) (dCallP g__law_draw [g]))) (fun y => isNum y 1 b = true) (xs := List.range (r.toNat + 1)) hp1 (fun k _ p hp => by
    obtain ⟨r, p', e, hp', q0, q1⟩ := draw_call hp (hg (.int (k : Int))) hb (by omega)
    refine ⟨.int (1 + r), p', ?_, hp', ?_⟩
    · rw [tgM_nm]
      exact d2_at rfl e (pAdd_int 1 r)
    · simp [isNum]
      omega)
  obtain ⟨ns, e4, hn⟩ := nums_of (xs := ys) (List.all_eq_true.mpr hq)
  subst e4
  refine ⟨ns, p2, ?_, hp2, ?_, ?_, hn⟩
  · refine dB_at (dsN_at (dCmp_at2 e2 ?_) dsN_nil) (pTuple_lst _)
    rw [compGo_none, mapT_map]
    exact e3
  · rw [List.length_map, List.length_range] at hl
    omega
  · rw [List.length_map, List.length_range] at hl
    omega
theorem same_no {f g : DE} {ρ : Env'} {a : D} {n : Nat} (h : f ρ = retM a) (h2 : g ρ = retM a) (hb : a.fit n = true) : dNot (dCall (g__law_same (n + 1)) [f, g]) ρ = retM (.bl false) := by
  have e := same_call h h2 hb
  rw [sameD_refl n _ hb] at e
  exact not_ret e
theorem pNe_tnil {xs : List D} (h : D.plains 8 xs = true) : pNe (.tup xs) (.tup []) = some (.bl (!xs.isEmpty)) := by
  have h1 : D.plain 9 (.tup xs) = true := by rw [D.plain]; exact h
  have h2 : D.plain 9 (.tup []) = true := by simp [D.plain, D.plains]
  unfold pNe D.pl
  rw [h1, h2, Bool.and_self, if_pos rfl]
  cases xs <;> simp [D.eqv, D.eqvs]
theorem comp_within {ρ : Env'} {j : Nat} {a b : Int} (h : ∀ x, nth (put ρ j (.fz x)) j = .fz x) (xs : List D) : compGo (.nm j) (some (dNot (dCall g__law_within [dV j, dC (.int a), dC (.int b)]))) (dV j) ρ xs = retM (xs.filter fun x => !isNum x a b) := by
  rw [compGo_some]
  simp [h]
theorem all_within {ρ : Env'} {i j : Nat} {a b : Int} {xs : List D} (hi : nth ρ i = .fz (.tup xs)) (hj : ∀ x, nth (put (wipes [j] ρ) j (.fz x)) j = .fz x) (hp : D.plains 8 xs = true) : d2 pEq (dCmp (itV (dV i)) (.nm j) (some (dNot (dCall g__law_within [dV j, dC (.int a), dC (.int b)]))) (dV j) [j]) (dLst []) ρ = retM (.bl (xs.all fun x => isNum x a b)) := by
  have e : itV (dV i) ρ = retM xs := by simp [hi]
  rw [d2_eq, dCmp_eq, e, bindM_retM', comp_within hj, noX_retM, bindM_retM', bindM_retM', dLst_eq, dsN_nil', bindM_retM', bindM_retM', pEq_lnil (plains_filter hp), filter_empty]
  simp
theorem rzGo_cls (e f : Exc) (h : e.cls = f.cls) (nm : Str) : ∀ hs : List Str, rzGo e nm hs = rzGo f nm hs
  | [] => rfl
  | c :: r => by rw [rzGo, rzGo, h, rzGo_cls e f h nm r]
end DL
/-! DZ: numbers, sizes, rising rows: what several laws ask. -/
namespace DL
set_option autoImplicit false
open PySem
theorem sum_ge {S : List Int} (hS : ∀ s ∈ S, 1 ≤ s) : ∀ {r : List Int}, (∀ x ∈ r, x ∈ S) → (r.length : Int) ≤ r.sum
  | [], _ => by simp
  | x :: r, h => by
    have h1 := hS x (h x List.mem_cons_self)
    have h2 := sum_ge hS (r := r) fun y hy => h y (List.mem_cons_of_mem _ hy)
    rw [List.length_cons, List.sum_cons]
    omega
theorem sizes_of {S : List Int} (h0 : S ≠ []) (h : ∀ s ∈ S, 1 ≤ s ∧ s ≤ 12) (hr : rise ltI S = true) (hl : S.length ≤ 12) : isSizes (rwD S) = true := by
  unfold isSizes isAsc
  rw [riseD_ints, hr, Bool.and_true, Bool.and_eq_true]
  refine ⟨?_, ?_⟩
  · unfold isRow
    dsimp only
    rw [List.length_map, nums_all, Bool.and_eq_true, Bool.and_eq_true, decide_eq_true_eq, decide_eq_true_eq, List.all_eq_true]
    refine ⟨⟨by omega, by omega⟩, fun s hs => ?_⟩
    have := h s hs
    simp [this.1, this.2]
  · cases S with
    | nil => exact absurd rfl h0
    | cons a b => rfl
/-! rising, as the law says it -/
theorem is_rise_gen {α : Type} (f : α → D) (lt : α → α → Bool) (hge : ∀ x y, pGeX (f x) (f y) = some (.bl (!lt x y))) (d : α) (xs : List α) (hl : xs.length ≤ 100000) : g__law_is_rise [.tup (xs.map f)] = retM (.bl (rise lt xs)) := by
  rw [← rise_range lt d xs]
  simp only [g__law_is_rise, dDef, s__law_is_rise, runF_eq, List.map_cons, List.map_nil, padN_cons, padN_0, padN_nil, sRet_eq, dB_eq, dsN_cons', dsN_nil', dCmp_eq, itR1_eq, d2_eq, dV_eq, nth_0, nth_s, bindM_retM', o1_eq, pLen_tup, liftM_some, dC_eq, pSub_int, List.length_map, sSeq_eq, wipes_cons, wipes_nil, put_0, put_s]
  rw [rng_pred _ (by omega)]
  simp only [bindM_retM', compGo_some, filT_map, tgM_nm, put_0, put_s, dV_eq, nth_0, nth_s]
  rw [filT_eq (fun (k : Nat) => !lt (xs.getD k d) (xs.getD (k + 1) d)) (fun (k : Nat) => D.int k) (fun k hk => by
    have hk' : k < xs.length - 1 := List.mem_range.mp hk
    have e1 := pIdx_tupf f d (xs := xs) (k := k) (by omega)
    have e2 := pIdx_tupf f d (xs := xs) (k := k + 1) (by omega)
    have e3 : ((k : Nat) : Int) + 1 = ((k + 1 : Nat) : Int) := by omega
    simp only [bM_eq, nth_0, nth_s, bindM_retM', dC_eq, dV_eq, d2_eq, liftM_some, pAdd_int, e3, e1, e2, hge, asB_bl]) (fun k hk _ => rfl)]
  simp [filter_empty]
theorem ge_lt (x y : Int) : decide (y ≤ x) = !ltI x y := by
  unfold ltI
  by_cases h : x < y <;> simp [h] <;> omega
theorem is_rise_ok (ns : List Int) (hl : ns.length ≤ 100000) : g__law_is_rise [rwD ns] = retM (.bl (rise ltI ns)) := is_rise_gen D.int ltI (fun x y => by unfold pGeX; rw [alike_int, lt_int]; rfl) 0 ns hl
/-- rows that rise within bounds are short -/
theorem rise_len : ∀ (ns : List Int) (a b : Int), rise ltI ns = true → (∀ n ∈ ns, a ≤ n ∧ n ≤ b) → (ns.length : Int) ≤ max 0 (b - a + 1)
  | [], a, b, _, _ => by simp; omega
  | [x], a, b, _, h => by
    have := h x List.mem_cons_self
    simp
    omega
  | x :: y :: r, a, b, h, hb => by
    rw [rise, Bool.and_eq_true] at h
    have hx := hb x List.mem_cons_self
    have hxy : x < y := by simpa [ltI] using h.1
    have hall : ∀ (l : List Int) (z : Int), rise ltI (z :: l) = true → ∀ n ∈ z :: l, z ≤ n := by
      intro l
      induction l with
      | nil => intro z _ n hn; rw [List.mem_singleton.mp hn]; exact Int.le_refl _
      | cons q l ih =>
        intro z hz n hn
        rw [rise, Bool.and_eq_true] at hz
        have hzq : z < q := by simpa [ltI] using hz.1
        rcases List.mem_cons.mp hn with e | e
        · omega
        · have := ih q hz.2 n e
          omega
    have := rise_len (y :: r) (a + 1) b h.2 fun n hn => ⟨by have := hall r y h.2 n hn; omega, (hb n (List.mem_cons_of_mem _ hn)).2⟩
    rw [List.length_cons]
    have hy := (hb y (List.mem_cons_of_mem _ List.mem_cons_self))
    omega
theorem need_no {a s : D} (h : isNum a 1 12 = true) (h2 : isSizes s = false) : g_need_sizes [a, s, .int 12] = excM noSizes := by
  rw [need_sizes_ok, h, h2]
  rfl
theorem need_bad {a s : D} (h : isNum a 1 12 = false) : g_need_sizes [a, s, .int 12] = excM (badNum a) := by
  rw [need_sizes_ok, h]
  rfl
theorem fit8 {n : Nat} {d : D} (h : D.fit n d = true) (hn : n ≤ 9) : D.plain 9 d = true := plain_fit 9 d (fit_mono n 9 d hn h)
theorem plains_of {n : Nat} {xs : List D} (h : D.fit n (.tup xs) = true) (hn : n ≤ 9) : D.plains 8 xs = true := by
  have := fit8 h hn
  rwa [D.plain] at this
theorem len_of {n : Nat} {xs : List D} (h : D.fit n (.tup xs) = true) : xs.length ≤ 100000 := by
  cases n with
  | zero => simp [D.fit] at h
  | succ n => exact (fit_tup.mp h).1
theorem raises_at {cs hs : List Str} {nm : Str} {b : DE} {ρ : Env'} {p p1 : Pot} {e : Exc} {r : Bool} (h : b ρ p = .exc e p1) (hm : e.cls ∈ cs) (hr : rzGo e nm hs = some r) : dRaises cs hs nm b ρ p = .ok (.bl r) p1 := by
  unfold dRaises
  rw [h]
  show (if e.cls ∈ cs then (match rzGo e nm hs with
      | some b => Res.ok (D.bl b) p1
      | none => .err) else .err) = _
  rw [if_pos hm, hr]
theorem callF_at {i : Nat} {fs : List (Str × (List D → M D))} {fl : List DE} {ρ : Env'} {p p1 : Pot} {x : Str} {g : List D → M D} {xs : List D} (h : nth ρ i = .fn x) (h2 : lookF x fs = some g) (h3 : dsN fl ρ p = .ok xs p1) : dCallF i fs fl ρ p = keepM (g xs) p1 := by
  unfold dCallF
  rw [h]
  dsimp only
  rw [h2]
  dsimp only
  rw [bind_at h3]
  rfl
theorem not_at {f : DE} {ρ : Env'} {p p1 : Pot} {b : Bool} (h : f ρ p = .ok (.bl b) p1) : dNot f ρ p = .ok (.bl (!b)) p1 := by
  rw [dNot_eq, bind_at (bM_at h)]
  rfl
theorem fnGo_good {i : Nat} {body : DS} {ρ : Env'} : ∀ {xs : List Str} {p : Pot}, PotGood p → (∀ x ∈ xs, ∀ p, PotGood p → ∃ p', body (put ρ i (.fn x)) p = .nx ρ p' ∧ PotGood p') → ∃ p', fnGo i body xs ρ p = .nx ρ p' ∧ PotGood p'
  | [], p, hp, _ => ⟨p, rfl, hp⟩
  | x :: xs, p, hp, h => by
    obtain ⟨p1, e, hp1⟩ := h x List.mem_cons_self p hp
    obtain ⟨p2, e2, hp2⟩ := fnGo_good hp1 fun z hz => h z (List.mem_cons_of_mem _ hz)
    refine ⟨p2, ?_, hp2⟩
    rw [fnGo, e]
    exact e2
/-- NoSizes, BadNumber as an own error's row tells it -/
theorem rz_noSizes : rzGo noSizes "NoSizes" ["BadNumber", "NoSizes"] = some true := by decide
theorem rz_badNum (d : D) : rzGo (badNum d) "BadNumber" ["BadNumber", "NoSizes"] = some true := (rzGo_cls (badNum d) ⟨"BadNumber", []⟩ rfl _ _).trans (by decide)
theorem all_withinE {ρ : Env'} {i j : Nat} {a b : Int} {fa fb : DE} {xs : List D} (hi : nth ρ i = .fz (.tup xs)) (hj : ∀ x, nth (put (wipes [j] ρ) j (.fz x)) j = .fz x) (ha : ∀ x, fa (put (wipes [j] ρ) j (.fz x)) = retM (.int a)) (hb : ∀ x, fb (put (wipes [j] ρ) j (.fz x)) = retM (.int b)) (hp : D.plains 8 xs = true) : d2 pEq (dCmp (itV (dV i)) (.nm j) (some (dNot (dCall g__law_within [dV j, fa, fb]))) (dV j) [j]) (dLst []) ρ = retM (.bl (xs.all fun x => isNum x a b)) := by
  have e : itV (dV i) ρ = retM xs := by simp [hi]
  have e2 : compGo (.nm j) (some (dNot (dCall g__law_within [dV j, fa, fb]))) (dV j) (wipes [j] ρ) xs = retM (xs.filter fun x => !isNum x a b) := by
    rw [compGo_some]
    simp only [wipes_cons, wipes_nil] at hj ha hb ⊢
    simp [hj, ha, hb]
  rw [d2_eq, dCmp_eq, e, bindM_retM', e2, noX_retM, bindM_retM', bindM_retM', dLst_eq, dsN_nil', bindM_retM', bindM_retM', pEq_lnil (plains_filter hp), filter_empty]
  simp
theorem rise_pw : ∀ {xs : List Int}, xs.Pairwise (· < ·) → rise ltI xs = true
  | [], _ => rfl
  | [x], _ => rfl
  | x :: y :: r, h => by
    rw [List.pairwise_cons] at h
    rw [rise, rise_pw h.2, Bool.and_true]
    have := h.1 y List.mem_cons_self
    simpa [ltI] using this
theorem intsD_D (lo : Int) (n : Nat) : intsD lo n = (List.range n).map fun (k : Nat) => D.int (lo + (k : Int)) := intsD_map lo n
@[simp] theorem dRngT_eq {it : DI} {ρ : Env'} : dRngT it ρ = bindM (it ρ) fun xs => retM (.tup xs) := (rfl)
@[simp] theorem dRngL_eq {it : DI} {ρ : Env'} : dRngL it ρ = bindM (it ρ) fun xs => retM (.lst xs) := (rfl)
theorem pSortSet_ints {ns : List Int} (h : ns.length < 64) : pSortSet (.lst (ns.map .int)) = some (.lst ((uniqS ns).map .int)) := by
  unfold pSortSet
  dsimp only
  rw [intsOf_map]
  dsimp only
  rw [if_pos h]
theorem sub_of_subs {α : Type} : ∀ {xs ys : List α}, ys ∈ subs xs → ys.Sublist xs
  | [], ys, h => by
    rw [subs, List.mem_singleton] at h
    rw [h]
    exact List.Sublist.refl _
  | x :: xs, ys, h => by
    rw [subs, List.mem_append] at h
    rcases h with h | h
    · obtain ⟨zs, hz, e⟩ := List.mem_map.mp h
      subst e
      exact (sub_of_subs hz).cons_cons x
    · exact (sub_of_subs h).cons x
theorem pw_upTo (n : Nat) : (upTo n).Pairwise (· < ·) := by
  unfold upTo
  rw [List.pairwise_map]
  exact List.pairwise_lt_range.imp fun h => by omega
theorem sizes_facts {S : List Int} {n : Nat} (h : S ∈ subs (upTo n)) (h0 : S ≠ []) (hn : n ≤ 12) : isSizes (rwD S) = true ∧ ∀ s ∈ S, 1 ≤ s ∧ s ≤ n := by
  have hs := sub_of_subs h
  have hb : ∀ s ∈ S, 1 ≤ s ∧ s ≤ (n : Int) := fun s hs' => mem_upTo.mp (hs.subset hs')
  have hl : S.length ≤ n := by
    have := hs.length_le
    unfold upTo at this
    rwa [List.length_map, List.length_range] at this
  exact ⟨sizes_of h0 (fun s hs' => by have := hb s hs'; omega) (rise_pw ((pw_upTo n).sublist hs)) (by omega), hb⟩
end DL
/-! EA: walls: joints, bonds, stones. -/
namespace DL
set_option autoImplicit false
open PySem
/-! comprehensions -/
section
variable {α : Type} {it : DI} {i : Nat} {c e : DE} {vs : List Nat} {ρ : Env'} {xs : List α}
theorem cmp_filE (inj : α → D) (P : α → Bool) (v : α → D) (h : it ρ = retM (xs.map inj)) (hc : ∀ x ∈ xs, c (put (wipes vs ρ) i (.fz (inj x))) = retM (.bl (P x))) (he : ∀ x ∈ xs, P x = true → e (put (wipes vs ρ) i (.fz (inj x))) = retM (v x)) : dCmp it (.nm i) (some c) e vs ρ = retM (.lst ((xs.filter P).map v)) := by
  rw [dCmp_eq, h, bindM_retM', compGo_some, filT_map, filT_eq (f := fun x => tgM (.nm i) (inj x) (wipes vs ρ) e) P v (fun x hx => by
    rw [tgM_nm, bM_eq, hc x hx]
    rfl) (fun x hx hp => by rw [tgM_nm, he x hx hp])]
  rfl
theorem cmp_filT (inj : α → D) (P : α → Bool) (h : it ρ = retM (xs.map inj)) (hi : ∀ d, nth (put (wipes vs ρ) i (.fz d)) i = .fz d) (hc : ∀ x ∈ xs, c (put (wipes vs ρ) i (.fz (inj x))) = retM (.bl (P x))) : dCmp it (.nm i) (some c) (dV i) vs ρ = retM (.lst ((xs.filter P).map inj)) :=
  cmp_filE inj P inj h hc fun x _ _ => by rw [dV_eq, hi]
theorem cmp_mapE (inj : α → D) (v : α → D) (h : it ρ = retM (xs.map inj)) (he : ∀ x ∈ xs, e (put (wipes vs ρ) i (.fz (inj x))) = retM (v x)) : dCmp it (.nm i) none e vs ρ = retM (.lst (xs.map v)) := by
  rw [dCmp_eq, h, bindM_retM', compGo_none, mapT_map, mapT_eq v fun x hx => by rw [tgM_nm, he x hx]]
  rfl
end
abbrev Rows := List Row
abbrev wD (rows : Rows) : D := .tup (rows.map rwD)
/-- joints -/
def js (r : Row) : List Int := (List.range (r.length - 1)).map fun k => (r.take (k + 1)).sum
theorem cut_hi1 {α : Type} (xs : List α) (k : Nat) : cut xs none (some (1 + (k : Int))) = xs.take (k + 1) := by
  have := cut_hi xs (k + 1)
  rw [← this]
  congr 2
  omega
theorem joints_comp (r : Row) (h1 : 1 ≤ r.length) (h2 : r.length ≤ 100000) : dCmp (itR2 (dC (.int 1)) (dB (o1 pLen) [dV 0])) (.nm 1) none (dB (o1 pSum) [dSl (dV 0) noIx (anIx (dV 1))]) [1] [.fz (rwD r), .un] = retM (.lst ((js r).map .int)) := by
  have hr := rng2_nat 1 (r.length - 1) (r.length : Int) (by omega) (by omega) (by omega) (by omega)
  simp only [dCmp_eq, itR2_eq, dC_eq, dB_eq, dsN_cons', dsN_nil', dV_eq, nth_0, nth_s, bindM_retM', o1_eq, pLen_tup, liftM_some, List.length_map, hr, compGo_none, mapT_map, tgM_nm, wipes_cons, wipes_nil, put_0, put_s]
  rw [mapT_eq (fun (k : Nat) => D.int (r.take (k + 1)).sum) fun k _ => by
    simp only [dSl_eq, dV_eq, nth_0, nth_s, bindM_retM', noIx_eq, anIx_eq, pSl_tup, liftM_some, cut_hi1, ← List.map_take, o1_eq, pSum_tup]]
  simp [js, Function.comp_def]
@[simp] theorem joints_ok (r : Row) (h1 : 1 ≤ r.length) (h2 : r.length ≤ 100000) : g_joints_of [rwD r] = retM (.tup ((js r).map .int)) := by
  have h := joints_comp r h1 h2
  simp [g_joints_of, dDef, s_joints_of, -dCmp_eq, h]
@[simp] theorem ljoints_ok (r : Row) (h1 : 1 ≤ r.length) (h2 : r.length ≤ 100000) : g__law_joints [rwD r] = retM (.lst ((js r).map .int)) := by
  have h := joints_comp r h1 h2
  simp [g__law_joints, dDef, s__law_joints, -dCmp_eq, h]
/-- no joint over a joint -/
def bonded (a b : Row) : Bool := (js a).all fun j => !(js b).contains j
structure Good (r : Row) : Prop where
  h1 : 1 ≤ r.length
  h2 : r.length ≤ 100000
theorem bonded_ok (a b : Row) (ha : Good a) (hb : Good b) : g_are_bonded [rwD a, rwD b] = retM (.bl (bonded a b)) := by
  have e1 := joints_ok a ha.h1 ha.h2
  have e2 := joints_ok b hb.h1 hb.h2
  have : bonded a b = !(js a).any fun j => (js b).contains j := by
    unfold bonded
    rw [List.not_any_eq_all_not]
  rw [this]
  simp [g_are_bonded, dDef, s_are_bonded, e1, e2, -List.contains_eq_mem]
theorem lbonded_ok (a b : Row) (ha : Good a) (hb : Good b) : g__law_bonded [rwD a, rwD b] = retM (.bl (bonded a b)) := by
  have e1 := ljoints_ok a ha.h1 ha.h2
  have e2 := ljoints_ok b hb.h1 hb.h2
  unfold bonded
  simp [g__law_bonded, dDef, s__law_bonded, e1, e2, -List.contains_eq_mem, filter_empty]
/-! ### stones -/
abbrev St := Nat × Nat
abbrev sD (s : St) : D := .tup [.int (s.1 : Nat), .int (s.2 : Nat)]
def rowSts (p : Row × Nat) : List St := (List.range p.1.length).map fun k => (p.2, k)
def sts (rows : Rows) : List St := rows.zipIdx.flatMap rowSts
theorem numbered_zip : ∀ (rows : Rows) (n : Nat), numbered n (rows.map rwD) = (rows.zipIdx n).map fun p => D.tup [.int (p.2 : Nat), rwD p.1]
  | [], _ => rfl
  | r :: rows, n => by rw [List.map_cons, numbered, List.zipIdx_cons, List.map_cons, numbered_zip rows (n + 1)]
theorem flatMap_mapG {α β : Type} (g : β → D) (f : α → List β) : ∀ xs : List α, xs.flatMap (fun x => (f x).map g) = (xs.flatMap f).map g
  | [] => rfl
  | x :: xs => by rw [List.flatMap_cons, List.flatMap_cons, List.map_append, flatMap_mapG g f xs]
/-- rows with no more stones than that -/
structure Few (rows : Rows) : Prop where
  l : rows.length ≤ 1000
  r : ∀ r ∈ rows, r.length ≤ 1000
theorem sts_len {rows : Rows} (h : Few rows) : (sts rows).length ≤ 1000000 := by
  have : ∀ (l : List (Row × Nat)), (∀ p ∈ l, p.1.length ≤ 1000) → (l.flatMap rowSts).length ≤ l.length * 1000 := by
    intro l
    induction l with
    | nil => intro _; simp
    | cons p l ih =>
      intro hl
      have h1 := hl p List.mem_cons_self
      have h2 := ih fun q hq => hl q (List.mem_cons_of_mem _ hq)
      rw [List.flatMap_cons, List.length_append, List.length_cons]
      unfold rowSts at h2 ⊢
      simp at h2 ⊢
      omega
  have h1 := this rows.zipIdx fun p hp => h.r _ (List.fst_mem_of_mem_zipIdx hp)
  rw [List.length_zipIdx] at h1
  have := h.l
  unfold sts
  omega
theorem stones1_ok (x0 : Sl) (ys : List D) (p : Row × Nat) (hp : p.1.length ≤ 1000) (hl : ys.length + ((rowSts p).map sD).length ≤ lim) :
    b_stones_of_1 [x0, .ow (.lst ys), .fz (.int (p.2 : Nat)), .fz (rwD p.1), .un] = nxM [x0, .ow (.lst (ys ++ (rowSts p).map sD)), .un, .un, .un] := by
  have e : (rowSts p).map sD = (List.range p.1.length).map fun (k : Nat) => sD (p.2, k) := by unfold rowSts; rw [List.map_map]; rfl
  rw [e] at hl ⊢
  have h := extD_lst (i := 1) (ρ := [x0, .ow (.lst ys), .fz (.int (p.2 : Nat)), .fz (rwD p.1), .un]) hl
  have hc : ((fun x => D.tup [D.int (p.2 : Nat), x]) ∘ fun (k : Nat) => D.int (k : Int)) = fun (k : Nat) => sD (p.2, k) := rfl
  simp [b_stones_of_1, extM_ow, rng1_nat p.1.length (by omega), hc, h]
theorem stones1_ok' (x0 : Sl) (ys : List D) (p : Row × Nat) (hp : p.1.length ≤ 1000) (hl : ys.length + ((rowSts p).map sD).length ≤ lim) :
    b__law_stones_1 [x0, .ow (.lst ys), .fz (.int (p.2 : Nat)), .fz (rwD p.1), .un] = nxM [x0, .ow (.lst (ys ++ (rowSts p).map sD)), .un, .un, .un] := by
  have e : (rowSts p).map sD = (List.range p.1.length).map fun (k : Nat) => sD (p.2, k) := by unfold rowSts; rw [List.map_map]; rfl
  rw [e] at hl ⊢
  have h := extD_lst (i := 1) (ρ := [x0, .ow (.lst ys), .fz (.int (p.2 : Nat)), .fz (rwD p.1), .un]) hl
  have hc : ((fun x => D.tup [D.int (p.2 : Nat), x]) ∘ fun (k : Nat) => D.int (k : Int)) = fun (k : Nat) => sD (p.2, k) := rfl
  simp [b__law_stones_1, extM_ow, rng1_nat p.1.length (by omega), hc, h]
theorem stones_ok (rows : Rows) (h : Few rows) : g_stones_of [wD rows] = retM (.lst ((sts rows).map sD)) := by
  have hl := sts_len h
  have hf := for_ext (tg := .tp [2, 3]) (body := b_stones_of_1) (fun ys => [.fz (wD rows), .ow (.lst ys), .un, .un, .un]) (fun (p : Row × Nat) => D.tup [.int (p.2 : Nat), rwD p.1]) (fun p => (rowSts p).map sD) rows.zipIdx []
    (by rw [flatMap_mapG]; show 0 + ((sts rows).map sD).length ≤ 16777216; rw [List.length_map]; omega)
    (fun ys p hp hl => ⟨_, rfl, stones1_ok _ ys p (h.r _ (List.fst_mem_of_mem_zipIdx hp)) hl⟩)
  rw [flatMap_mapG, ← numbered_zip rows 0, List.nil_append] at hf
  have hf2 : forGo (.tp [2, 3]) b_stones_of_1 (numbered 0 (rows.map rwD)) [.fz (wD rows), .ow (.lst []), .un, .un, .un] = nxM [.fz (wD rows), .ow (.lst ((sts rows).map sD)), .un, .un, .un] := hf
  simp [g_stones_of, dDef, s_stones_of, hf2]
theorem lstones_ok (rows : Rows) (h : Few rows) : g__law_stones [wD rows] = retM (.lst ((sts rows).map sD)) := by
  have hl := sts_len h
  have hf := for_ext (tg := .tp [2, 3]) (body := b__law_stones_1) (fun ys => [.fz (wD rows), .ow (.lst ys), .un, .un, .un]) (fun (p : Row × Nat) => D.tup [.int (p.2 : Nat), rwD p.1]) (fun p => (rowSts p).map sD) rows.zipIdx []
    (by rw [flatMap_mapG]; show 0 + ((sts rows).map sD).length ≤ 16777216; rw [List.length_map]; omega)
    (fun ys p hp hl => ⟨_, rfl, stones1_ok' _ ys p (h.r _ (List.fst_mem_of_mem_zipIdx hp)) hl⟩)
  rw [flatMap_mapG, ← numbered_zip rows 0, List.nil_append] at hf
  have hf2 : forGo (.tp [2, 3]) b__law_stones_1 (numbered 0 (rows.map rwD)) [.fz (wD rows), .ow (.lst []), .un, .un, .un] = nxM [.fz (wD rows), .ow (.lst ((sts rows).map sD)), .un, .un, .un] := hf
  simp [g__law_stones, dDef, s__law_stones, hf2]
theorem mem_sts {rows : Rows} {s : St} : s ∈ sts rows ↔ s.1 < rows.length ∧ s.2 < (rows.getD s.1 []).length := by
  unfold sts rowSts
  simp only [List.mem_flatMap, List.mem_map, List.mem_range]
  constructor
  · rintro ⟨p, hp, k, hk, e⟩
    subst e
    have h := List.mem_zipIdx_iff_getElem?.mp hp
    obtain ⟨h1, h2⟩ := List.getElem?_eq_some_iff.mp h
    refine ⟨h1, ?_⟩
    rw [List.getD_eq_getElem?_getD, h]
    exact hk
  · rintro ⟨h1, h2⟩
    refine ⟨(rows[s.1], s.1), List.mem_zipIdx_iff_getElem?.mpr (List.getElem?_eq_getElem h1), s.2, ?_, rfl⟩
    rw [List.getD_eq_getElem?_getD, List.getElem?_eq_getElem h1] at h2
    exact h2
/-! where a stone lies -/
def s0 (rows : Rows) (s : St) : Int := ((rows.getD s.1 []).take s.2).sum
def s1 (rows : Rows) (s : St) : Int := s0 rows s + (rows.getD s.1 []).getD s.2 0
theorem span_ok (rows : Rows) (s : St) (h : s ∈ sts rows) : g_span_of [wD rows, sD s] = retM (.tup [.int (s0 rows s), .int (s1 rows s)]) := by
  obtain ⟨h1, h2⟩ := mem_sts.mp h
  have e1 : pIdx (wD rows) (.int (s.1 : Nat)) = some (rwD (rows.getD s.1 [])) := pIdx_tupf rwD [] h1
  have e2 : pIdx (rwD (rows.getD s.1 [])) (.int (s.2 : Nat)) = some (.int ((rows.getD s.1 []).getD s.2 0)) := pIdx_tupf D.int 0 h2
  have e3 : pIdx (sD s) (.int 0) = some (.int (s.1 : Nat)) := rfl
  have e4 : pIdx (sD s) (.int 1) = some (.int (s.2 : Nat)) := rfl
  have e5 : pSum (.tup (cut ((rows.getD s.1 []).map D.int) none (some (s.2 : Nat)))) = some (.int (s0 rows s)) := by
    rw [cut_map, cut_hi, pSum_tup]
    rfl
  simp only [g_span_of, dDef, s_span_of, runF_eq, List.map_cons, List.map_nil, padN_cons, padN_0, padN_nil, sSeq_eq, sSet_eq, sRet_eq, d2_eq, dV_eq, dC_eq, nth_0, nth_s, bindM_retM', liftM_some, e1, e2, e3, e4, dB_eq, dsN_cons', dsN_nil', dSl_eq, noIx_eq, anIx_eq, pSl_tup, o1_eq, e5, bindS_retM, seqM_nx, put_0, put_s, dTup_eq, pAdd_int, seqM_re, outM_re]
  rfl
def over (rows : Rows) (a b : St) : Bool := decide (a.1 = b.1 + 1) && (decide (s0 rows a < s1 rows b) && decide (s0 rows b < s1 rows a))
theorem over_ok (rows : Rows) (a b : St) (ha : a ∈ sts rows) (hb : b ∈ sts rows) : g_is_over [wD rows, sD a, sD b] = retM (.bl (over rows a b)) := by
  have k1 := span_ok rows a ha
  have k2 := span_ok rows b hb
  have e1 : pIdx (sD a) (.int 0) = some (.int (a.1 : Nat)) := rfl
  have e2 : pIdx (sD b) (.int 0) = some (.int (b.1 : Nat)) := rfl
  have e3 : ∀ x y : Int, pIdx (.tup [.int x, .int y]) (.int 0) = some (.int x) := fun x y => rfl
  have e4 : ∀ x y : Int, pIdx (.tup [.int x, .int y]) (.int 1) = some (.int y) := fun x y => rfl
  unfold over
  by_cases q : a.1 = b.1 + 1
  · have q2 : ((a.1 : Nat) : Int) = (b.1 : Nat) + 1 := by omega
    simp [g_is_over, dDef, s_is_over, e1, e2, e3, e4, k1, k2, q2, q]
  · have q2 : ¬ ((a.1 : Nat) : Int) = (b.1 : Nat) + 1 := by omega
    simp [g_is_over, dDef, s_is_over, e1, e2, q2, q]
end DL
/-! EB: rows that are drawn; what is rows. -/
namespace DL
set_option autoImplicit false
open PySem
section
variable {σ α : Type} {c : DE} {body : DS} {tg : Tg}
theorem while_at (E : σ → Env') (test : σ → Bool) (I : σ → Prop) (m : σ → Nat) (hc : ∀ s, I s → bM c (E s) = retM (test s)) (hb : ∀ s p, I s → test s = true → PotGood p → ∃ t p', body (E s) p = .nx (E t) p' ∧ PotGood p' ∧ I t ∧ m t < m s) :
    ∀ (n : Nat) (s : σ) (p : Pot), I s → m s < n → PotGood p → ∃ t p', whileGo c body n (E s) p = .nx (E t) p' ∧ PotGood p' ∧ I t ∧ test t = false
  | 0, s, p, _, h, _ => absurd h (Nat.not_lt_zero _)
  | n + 1, s, p, i, h, hp => by
    have hgo : whileGo c body (n + 1) (E s) p = (if test s = true then match body (E s) p with
      | .nx ρ2 p2 => whileGo c body n ρ2 p2
      | .ct ρ2 p2 => whileGo c body n ρ2 p2
      | .brk ρ2 p2 => .nx ρ2 p2
      | r => r
    else .nx (E s) p) := by
      show runE (E s) (bM c (E s) p) (fun b p1 => if b then match body (E s) p1 with
      | .nx ρ2 p2 => whileGo c body n ρ2 p2
      | .ct ρ2 p2 => whileGo c body n ρ2 p2
      | .brk ρ2 p2 => .nx ρ2 p2
      | r => r
    else .nx (E s) p1) = _
      rw [hc s i]
      rfl
    cases q : test s with
    | false =>
      refine ⟨s, p, ?_, hp, i, q⟩
      rw [hgo, q]
      rfl
    | true =>
      obtain ⟨t, p1, e, hp1, i1, lt⟩ := hb s p i q hp
      obtain ⟨t2, p2, e2, hp2, i2, q2⟩ := while_at E test I m hc hb n t p1 i1 (by omega) hp1
      refine ⟨t2, p2, ?_, hp2, i2, q2⟩
      rw [hgo, q, e]
      exact e2
theorem for_at (E : σ → Env') (inj : α → D) (N : Nat) (I : Nat → σ → Prop) : ∀ (xs : List α) (n : Nat) (s : σ) (p : Pot), n + xs.length ≤ N → I n s → PotGood p → (∀ n s, n < N → ∀ x ∈ xs, ∀ p, I n s → PotGood p → ∃ ρ1 t p', setTg tg (inj x) (E s) = some ρ1 ∧ body ρ1 p = .nx (E t) p' ∧ PotGood p' ∧ I (n + 1) t) →
    ∃ t p', forGo tg body (xs.map inj) (E s) p = .nx (E t) p' ∧ PotGood p' ∧ I (n + xs.length) t
  | [], n, s, p, _, i, hp, _ => ⟨s, p, rfl, hp, i⟩
  | x :: xs, n, s, p, hN, i, hp, h => by
    rw [List.length_cons] at hN
    obtain ⟨ρ1, t, p1, e1, e2, hp1, i1⟩ := h n s (by omega) x List.mem_cons_self p i hp
    obtain ⟨t2, p2, e3, hp2, i2⟩ := for_at E inj N I xs (n + 1) t p1 (by omega) i1 hp1 fun n s hn z hz => h n s hn z (List.mem_cons_of_mem _ hz)
    refine ⟨t2, p2, ?_, hp2, by rw [List.length_cons]; rwa [show n + (xs.length + 1) = n + 1 + xs.length by omega]⟩
    rw [List.map_cons, forGo, e1]
    show (match body ρ1 p with
      | .nx ρ2 p2 => forGo tg body (xs.map inj) ρ2 p2
      | .ct ρ2 p2 => forGo tg body (xs.map inj) ρ2 p2
      | .brk ρ2 p2 => .nx ρ2 p2
      | r => r) = _
    rw [e2]
    exact e3
end
theorem append_at {i : Nat} {f : DE} {ρ : Env'} {p : Pot} {xs : List D} {d : D} (h : nth ρ i = .ow (.lst xs)) (h2 : f ρ = retM d) (h3 : xs.length < lim) : sAppend i f ρ p = .nx (put ρ i (.ow (.lst (xs ++ [d])))) p := by
  rw [sAppend_eq, h, h2, appM_ok h3]
  rfl
/-- rows of a width -/
structure Built (h w : Nat) (rows : Rows) : Prop where
  l1 : 1 ≤ rows.length
  l2 : rows.length ≤ h
  wd : ∃ W : Nat, 1 ≤ W ∧ W ≤ w ∧ ∀ r ∈ rows, r.sum = W ∧ ∀ x ∈ r, 1 ≤ x ∧ x ≤ 4
theorem sum_snoc (r : List Int) (x : Int) : (r ++ [x]).sum = r.sum + x := by simp
theorem len_le_sum {r : List Int} (h : ∀ x ∈ r, 1 ≤ x) : (r.length : Int) ≤ r.sum := by
  induction r with
  | nil => simp
  | cons x r ih =>
    have h1 := h x List.mem_cons_self
    have h2 := ih fun y hy => h y (List.mem_cons_of_mem _ hy)
    rw [List.length_cons, List.sum_cons]
    omega
section
variable {h0 w0 : D} {m W : Nat} {rows : Rows} {x6 : Sl}
theorem row_draw {p : Pot} (hp : PotGood p) (hW : W ≤ 100) : ∃ r p', whileGo (d2 pLt (dB (o1 pSum) [dV 7]) (dV 4)) b__law_built_1 200 [.un, .fz h0, .fz w0, .fz (.int (m : Nat)), .fz (.int (W : Nat)), .ow (.lst (rows.map rwD)), x6, .fz (.tup [])] p = .nx [.un, .fz h0, .fz w0, .fz (.int (m : Nat)), .fz (.int (W : Nat)), .ow (.lst (rows.map rwD)), x6, .fz (rwD r)] p' ∧ PotGood p' ∧ r.sum = W ∧ ∀ x ∈ r, 1 ≤ x ∧ x ≤ 4 := by
  obtain ⟨r, p', e, hp', ⟨i1, i2⟩, i3⟩ := while_at (c := d2 pLt (dB (o1 pSum) [dV 7]) (dV 4)) (body := b__law_built_1) (fun (r : Row) => [.un, .fz h0, .fz w0, .fz (.int (m : Nat)), .fz (.int (W : Nat)), .ow (.lst (rows.map rwD)), x6, .fz (rwD r)]) (fun r => decide (r.sum < (W : Int))) (fun r => (∀ x ∈ r, 1 ≤ x ∧ x ≤ 4) ∧ r.sum ≤ (W : Int)) (fun r => ((W : Int) - r.sum).toNat) (fun s _ => by simp) (fun r p hI ht hp => by
    have ht' : r.sum < (W : Int) := of_decide_eq_true ht
    obtain ⟨d, p1, e1, hp1, d0, d1⟩ := draw_call hp (f := dC (.int 4)) (ρ := [.un, .fz h0, .fz w0, .fz (.int (m : Nat)), .fz (.int (W : Nat)), .ow (.lst (rows.map rwD)), x6, .fz (rwD r)]) rfl (by decide) (by decide)
    have hl := len_le_sum fun x hx => (hI.1 x hx).1
    obtain ⟨y, hy⟩ : ∃ y : Int, (if 1 + d < (W : Int) - r.sum then 1 + d else (W : Int) - r.sum) = y := ⟨_, rfl⟩
    have hy1 : 1 ≤ y ∧ y ≤ 4 ∧ y ≤ (W : Int) - r.sum := by
      split at hy <;> omega
    have e2 : dB (o2 pMin2) [d2 pSub (dV 4) (dB (o1 pSum) [dV 7]), d2 pAdd (dC (.int 1)) (dCallP g__law_draw [dC (.int 4)])] [.un, .fz h0, .fz w0, .fz (.int (m : Nat)), .fz (.int (W : Nat)), .ow (.lst (rows.map rwD)), x6, .fz (rwD r)] p = .ok (.int y) p1 := by
      refine dB_at (xs := [.int ((W : Int) - r.sum), .int (1 + d)]) (dsN_at (ok_of (by simp) p) (dsN_at (d2_at rfl e1 (pAdd_int 1 d)) dsN_nil)) ?_
      show pMin2 (.int ((W : Int) - r.sum)) (.int (1 + d)) = _
      rw [pMin2_int, hy]
    refine ⟨r ++ [y], p1, ?_, hp1, ⟨fun x hx => ?_, by rw [sum_snoc]; omega⟩, by rw [sum_snoc]; omega⟩
    · exact (seq_nx (set_nx (d2_at (x := rwD r) (y := .tup [.int y]) rfl (dTup_at (dsN_at e2 dsN_nil)) (pAdd_tup1 r y (by rw [lim_eq]; omega))))).trans rfl
    · rcases List.mem_append.mp hx with q | q
      · exact hI.1 x q
      · rw [List.mem_singleton.mp q]; exact ⟨hy1.1, hy1.2.1⟩) 200 [] p ⟨fun x hx => (by cases hx), by simp⟩ (by simp; omega) hp
  refine ⟨r, p', e, hp', ?_, i1⟩
  have := of_decide_eq_false i3
  omega
end
theorem built_draw {p : Pot} (hp : PotGood p) (h w : Nat) (h1 : 1 ≤ h) (h2 : h ≤ 50) (w1 : 1 ≤ w) (w2 : w ≤ 50) : ∃ rows p', g__law_built [.int (h : Nat), .int (w : Nat)] p = .ok (wD rows) p' ∧ PotGood p' ∧ Built h w rows := by
  obtain ⟨a, p1, e1, hp1, a0, a1⟩ := draw_call hp (f := dV 1) (ρ := [.un, .fz (.int (h : Nat)), .fz (.int (w : Nat)), .un, .un, .un, .un, .un]) rfl (by omega) (by omega)
  obtain ⟨b, p2, e2, hp2, b0, b1⟩ := draw_call hp1 (f := dV 2) (ρ := [.un, .fz (.int (h : Nat)), .fz (.int (w : Nat)), .un, .un, .un, .un, .un]) rfl (by omega) (by omega)
  obtain ⟨m, hm⟩ : ∃ m : Nat, 1 + a = (m : Int) := ⟨(1 + a).toNat, by omega⟩
  obtain ⟨W, hW⟩ : ∃ W : Nat, 1 + b = (W : Int) := ⟨(1 + b).toNat, by omega⟩
  have hpar : sPar [3, 4] [d2 pAdd (dC (.int 1)) (dCallP g__law_draw [dV 1]), d2 pAdd (dC (.int 1)) (dCallP g__law_draw [dV 2])] [.un, .fz (.int (h : Nat)), .fz (.int (w : Nat)), .un, .un, .un, .un, .un] p = .nx [.un, .fz (.int (h : Nat)), .fz (.int (w : Nat)), .fz (.int (m : Nat)), .fz (.int (W : Nat)), .un, .un, .un] p2 := by
    rw [sPar_eq]
    unfold bindS runE
    rw [dsN_at (d2_at rfl e1 (by rw [pAdd_int, hm])) (dsN_at (d2_at rfl e2 (by rw [pAdd_int, hW])) dsN_nil)]
    rfl
  obtain ⟨rows, p3, e3, hp3, i1, i2⟩ := for_at (tg := .nm 6) (body := b__law_built_2) (fun (rows : Rows) => [.un, .fz (.int (h : Nat)), .fz (.int (w : Nat)), .fz (.int (m : Nat)), .fz (.int (W : Nat)), .ow (.lst (rows.map rwD)), .un, .un]) (fun (k : Nat) => D.int (k : Int)) m (fun n rows => rows.length = n ∧ ∀ r ∈ rows, r.sum = (W : Int) ∧ ∀ x ∈ r, 1 ≤ x ∧ x ≤ 4) (List.range m) 0 [] p2 (by simp) ⟨rfl, fun r hr => by cases hr⟩ hp2 (fun n rows hn k hk p hI hp => by
    obtain ⟨r, p', e, hp', q1, q2⟩ := row_draw (h0 := .int (h : Nat)) (w0 := .int (w : Nat)) (m := m) (W := W) (rows := rows) (x6 := .fz (.int (k : Int))) hp (by omega)
    refine ⟨_, rows ++ [r], p', rfl, ?_, hp', by rw [List.length_append, hI.1]; rfl, fun z hz => ?_⟩
    · refine (seq_nx (set_nx (d := .tup []) (p1 := p) rfl)).trans ?_
      refine (seq_nx e).trans ?_
      refine (seq_nx (append_at (d := rwD r) rfl rfl (by rw [List.length_map, hI.1, lim_eq]; omega))).trans ?_
      rw [← List.map_singleton (f := rwD), ← List.map_append]
      rfl
    · rcases List.mem_append.mp hz with q | q
      · exact hI.2 z q
      · rw [List.mem_singleton.mp q]; exact ⟨q1, q2⟩)
  have hit : itR1 (dV 3) [.un, .fz (.int (h : Nat)), .fz (.int (w : Nat)), .fz (.int (m : Nat)), .fz (.int (W : Nat)), .ow (.lst []), .un, .un] = retM ((List.range m).map fun (k : Nat) => D.int (k : Int)) := itR1_nat (n := m) rfl (by omega)
  rw [Nat.zero_add, List.length_range] at i1
  refine ⟨rows, p3, ?_, hp3, by omega, by omega, W, by omega, by omega, i2⟩
  refine defP_ret (n := 8) (s := s__law_built) ?_
  refine (seq_nx hpar).trans ?_
  refine (seq_nx (ρ1 := [.un, .fz (.int (h : Nat)), .fz (.int (w : Nat)), .fz (.int (m : Nat)), .fz (.int (W : Nat)), .ow (.lst []), .un, .un]) (p1 := p2) rfl).trans ?_
  refine (seq_nx (ρ1 := [.un, .fz (.int (h : Nat)), .fz (.int (w : Nat)), .fz (.int (m : Nat)), .fz (.int (W : Nat)), .ow (.lst (rows.map rwD)), .un, .un]) (p1 := p3) ?_).trans ?_
  · exact (seq_nx ((for_nx (congrFun hit p2)).trans e3)).trans rfl
  · exact seq_ret (ret_at (ok_of (by simp) p3))
/-- .. and each row is a row -/
theorem Built.good {h w : Nat} {rows : Rows} (b : Built h w rows) (hw : w ≤ 50) : ∀ r ∈ rows, Good r ∧ r.length ≤ w ∧ r ≠ [] := fun r hr => by
  obtain ⟨W, h1, h2, h3⟩ := b.wd
  obtain ⟨e, hx⟩ := h3 r hr
  have hl := len_le_sum fun x hx' => (hx x hx').1
  have h0 : r ≠ [] := by
    intro e2
    rw [e2] at e
    simp at e
    omega
  have : r.length ≠ 0 := fun e => h0 (List.length_eq_zero_iff.mp e)
  exact ⟨⟨by omega, by omega⟩, by omega, h0⟩
theorem Built.few {h w : Nat} {rows : Rows} (b : Built h w rows) (hh : h ≤ 50) (hw : w ≤ 50) : Few rows := ⟨by have := b.l2; omega, fun r hr => by have := (b.good hw r hr).2.1; omega⟩
end DL
/-! EC: what is rows. -/
namespace DL
set_option autoImplicit false
open PySem
/-! steps of a def, as functions -/
section
variable {c f : DE} {s t : DS} {ρ : Env'} {d : D} {n i : Nat} {ds : List D}
theorem no_M (h : c ρ = retM (.bl false)) : sSeq (sIf c s sPass) t ρ = t ρ := funext fun p => guard_ret h s t
theorem yes_M (h : c ρ = retM (.bl true)) (h2 : s ρ = reM d) : sSeq (sIf c s sPass) t ρ = reM d := funext fun p => guard_in (ok_of h p) (by rw [h2]; rfl)
theorem set_M (h : f ρ = retM d) : sSeq (sSet i f) t ρ = t (put ρ i (.fz d)) := funext fun p => seq_nx (set_nx (ok_of h p))
theorem expr_M (h : f ρ = retM d) : sSeq (sExpr f) t ρ = t ρ := by
  rw [sSeq_eq, sExpr_eq, h]
  rfl
theorem ret_M (h : f ρ = retM d) : sSeq (sRet f) t ρ = reM d := funext fun p => seq_ret (ret_at (ok_of h p))
theorem for_M {it : DI} {tg : Tg} {xs : List D} {ks : List Nat} {ρ2 : Env'} (h : it ρ = retM xs) (h2 : forGo tg s xs ρ = nxM ρ2) : sSeq (sSeq (sFor it tg s) (sKill ks)) t ρ = t (wipes ks ρ2) := by
  have : sSeq (sFor it tg s) (sKill ks) ρ = nxM (wipes ks ρ2) := by
    rw [sSeq_eq, sFor_eq, h, bindS_retM, h2, seqM_nx, sKill_eq]
  rw [sSeq_eq, this, seqM_nx]
theorem forR_M {it : DI} {tg : Tg} {xs : List D} {ks : List Nat} (h : it ρ = retM xs) (h2 : forGo tg s xs ρ = reM d) : sSeq (sSeq (sFor it tg s) (sKill ks)) t ρ = reM d := by
  have : sSeq (sFor it tg s) (sKill ks) ρ = reM d := by
    rw [sSeq_eq, sFor_eq, h, bindS_retM, h2, seqM_re]
  rw [sSeq_eq, this, seqM_re]
theorem def_M (h : s (padN n (ds.map .fz)) = reM d) : dDef n s ds = retM d := by
  show runF n s (ds.map .fz) = _
  rw [runF_eq, h, outM_re]
theorem fls_M : sSeq (sRet (dC (.bl false))) sPass ρ = reM (.bl false) := ret_M rfl
end
def rowsOf : List D → Option Rows
  | [] => some []
  | .tup ys :: r => match intsOf ys, rowsOf r with
    | some a, some b => some (a :: b)
    | _, _ => none
  | _ => none
theorem rowsOf_map : ∀ rows : Rows, rowsOf (rows.map rwD) = some rows
  | [] => rfl
  | r :: rows => by
    rw [List.map_cons, rowsOf, intsOf_map, rowsOf_map rows]
theorem rowsOf_eq : ∀ {xs : List D} {rows : Rows}, rowsOf xs = some rows → xs = rows.map rwD
  | [], _, h => by cases h; rfl
  | .tup ys :: r, _, h => by
    rw [rowsOf] at h
    split at h
    · rename_i a b h1 h2
      cases h
      rw [List.map_cons, ← rowsOf_eq h2, intsOf_eq h1]
    · cases h
  | .non :: _, _, h => by simp [rowsOf] at h
  | .bl _ :: _, _, h => by simp [rowsOf] at h
  | .int _ :: _, _, h => by simp [rowsOf] at h
  | .str _ :: _, _, h => by simp [rowsOf] at h
  | .lst _ :: _, _, h => by simp [rowsOf] at h
  | .dct _ _ :: _, _, h => by simp [rowsOf] at h
def okRows (rows : Rows) : Bool := decide (1 ≤ rows.length) && decide (rows.length ≤ 6) && (rows.all fun r => !r.isEmpty && r.all fun x => decide (1 ≤ x) && decide (x ≤ 12)) && decide ((rows.getD 0 []).sum ≤ 12) && rows.all fun r => r.sum == (rows.getD 0 []).sum
def arR (v : D) : Bool := match v with
  | .tup xs => (match rowsOf xs with
    | some rows => okRows rows
    | none => false)
  | _ => false
theorem arR_rows (rows : Rows) : arR (wD rows) = okRows rows := by
  unfold arR
  dsimp only
  rw [rowsOf_map]
theorem arR_of {v : D} (h : arR v = true) : ∃ rows, v = wD rows ∧ okRows rows = true := by
  cases v with
  | tup xs =>
    unfold arR at h
    dsimp only at h
    cases q : rowsOf xs with
    | none => rw [q] at h; cases h
    | some rows =>
      rw [q] at h
      exact ⟨rows, by rw [rowsOf_eq q], h⟩
  | _ => cases h
structure ARows (rows : Rows) : Prop where
  l1 : 1 ≤ rows.length
  l2 : rows.length ≤ 6
  r : ∀ r ∈ rows, r ≠ [] ∧ (∀ x ∈ r, 1 ≤ x ∧ x ≤ 12) ∧ r.sum = (rows.getD 0 []).sum
  w : (rows.getD 0 []).sum ≤ 12
theorem okRows_iff {rows : Rows} : okRows rows = true ↔ ARows rows := by
  unfold okRows
  simp only [Bool.and_eq_true, decide_eq_true_eq, List.all_eq_true, Bool.not_eq_true', beq_iff_eq]
  constructor
  · rintro ⟨⟨⟨⟨a, b⟩, c⟩, d⟩, e⟩
    exact ⟨a, b, fun r hr => ⟨fun e => (by have := (c r hr).1; rw [e] at this; cases this), (c r hr).2, e r hr⟩, d⟩
  · rintro ⟨a, b, c, d⟩
    refine ⟨⟨⟨⟨a, b⟩, fun r hr => ⟨?_, (c r hr).2.1⟩⟩, d⟩, fun r hr => (c r hr).2.2⟩
    cases r with
    | nil => exact absurd rfl (c _ hr).1
    | cons x r => rfl
theorem ARows.len {rows : Rows} (h : ARows rows) : ∀ r ∈ rows, 1 ≤ r.length ∧ r.length ≤ 12 := fun r hr => by
  obtain ⟨a, b, c⟩ := h.r r hr
  have := len_le_sum fun x hx => (b x hx).1
  have h0 : r.length ≠ 0 := fun e => a (List.length_eq_zero_iff.mp e)
  have := h.w
  omega
/-- a tuple of rows, each of them numbers -/
theorem rows_map {P : Row → Prop} : ∀ {xs : List D}, (∀ x ∈ xs, ∃ r, x = rwD r ∧ P r) → ∃ rows : Rows, xs = rows.map rwD ∧ ∀ r ∈ rows, P r
  | [], _ => ⟨[], rfl, fun r h => by cases h⟩
  | x :: xs, h => by
    obtain ⟨r, e, hr⟩ := h x List.mem_cons_self
    obtain ⟨rows, e2, h2⟩ := rows_map fun y hy => h y (List.mem_cons_of_mem _ hy)
    refine ⟨r :: rows, by rw [e, e2]; rfl, fun z hz => ?_⟩
    rcases List.mem_cons.mp hz with q | q
    · rw [q]; exact hr
    · exact h2 z q
theorem len_guard {ρ : Env'} {i : Nat} {xs : List D} {a b : Int} (h : nth ρ i = .fz (.tup xs)) : (dOr (dNot (dIsi .tuple (dV i))) (dNot (dChain pLe pLe (dC (.int a)) (dB (o1 pLen) [dV i]) (dC (.int b))))) ρ = retM (.bl (!(decide (a ≤ xs.length) && decide ((xs.length : Int) ≤ b)))) := by
  simp [h]
theorem tup_guard {ρ : Env'} {i : Nat} {v : D} {g : DE} (h : nth ρ i = .fz v) (h2 : isTy .tuple v = false) : (dOr (dNot (dIsi .tuple (dV i))) g) ρ = retM (.bl true) := by
  simp [h, h2]
/-- the sums of all are the first's -/
theorem ok_last {rows : Rows} (h1 : 1 ≤ rows.length) (h2 : rows.length ≤ 6) (hr : ∀ r ∈ rows, r ≠ [] ∧ ∀ x ∈ r, 1 ≤ x ∧ x ≤ 12) : okRows rows = (decide ((rows.getD 0 []).sum ≤ 12) && rows.all fun r => r.sum == (rows.getD 0 []).sum) := by
  unfold okRows
  have a1 : decide (1 ≤ rows.length) = true := decide_eq_true h1
  have a2 : decide (rows.length ≤ 6) = true := decide_eq_true h2
  have a3 : (rows.all fun r => !r.isEmpty && r.all fun x => decide (1 ≤ x) && decide (x ≤ 12)) = true := List.all_eq_true.mpr fun r hr' => by
    obtain ⟨b1, b2⟩ := hr r hr'
    rw [Bool.and_eq_true, List.all_eq_true]
    refine ⟨?_, fun x hx => ?_⟩
    · cases r with
      | nil => exact absurd rfl b1
      | cons x r => rfl
    · have := b2 x hx
      simp [this.1, this.2]
  rw [a1, a2, a3]
  rfl
theorem are_rows_ok (v : D) : g_are_rows [v] = retM (.bl (arR v)) := by
  cases hv : isTy .tuple v with
  | false =>
    have e : arR v = false := by cases v <;> first | rfl | cases hv
    rw [e]
    exact def_M (yes_M (tup_guard (i := 0) rfl hv) fls_M)
  | true =>
    cases v with
    | tup xs =>
      refine def_M ?_
      have c1 := len_guard (ρ := [.fz (.tup xs), .un, .un]) (i := 0) (a := 1) (b := 6) (xs := xs) rfl
      have c2 : dNot (dB (o1 pAll) [dCmp (itV (dV 0)) (.nm 2) none (dCall g_is_row [dV 2, dC (.int 1), dC (.int 12), dC (.int 1), dC (.int 12)]) [2]]) [.fz (.tup xs), .un, .un] = retM (.bl (!xs.all fun x => isRow x 1 12 1 12)) := by simp
      by_cases hl : (decide ((1 : Int) ≤ xs.length) && decide ((xs.length : Int) ≤ 6)) = true
      · rw [hl] at c1
        rw [Bool.and_eq_true, decide_eq_true_eq, decide_eq_true_eq] at hl
        refine (no_M c1).trans ?_
        cases hr : xs.all fun x => isRow x 1 12 1 12 with
        | true =>
          rw [hr] at c2
          refine (no_M c2).trans ?_
          obtain ⟨rows, e, hrows⟩ := rows_map (P := fun r => r ≠ [] ∧ ∀ x ∈ r, 1 ≤ x ∧ x ≤ 12) (xs := xs) fun x hx => by
            obtain ⟨ns, e, h1, h2, h3⟩ := row_of (List.all_eq_true.mp hr x hx)
            exact ⟨ns, by rw [e], fun e => (by rw [e] at h1; simp at h1), h3⟩
          subst e
          rw [List.length_map] at hl
          have hi : pIdx (wD rows) (.int 0) = some (rwD (rows.getD 0 [])) := pIdx_tupf rwD [] (k := 0) (by omega)
          rw [arR_rows, ok_last (by omega) (by omega) hrows]
          refine (set_M (d := .int (rows.getD 0 []).sum) (by simp [hi, -List.getD_eq_getElem?_getD])).trans ?_
          refine ret_M (and_ret (a := decide ((rows.getD 0 []).sum ≤ 12)) (by simp [-List.getD_eq_getElem?_getD]) fun _ => by simp [-List.getD_eq_getElem?_getD])
        | false =>
          rw [hr] at c2
          have e : arR (.tup xs) = false := by
            cases h : arR (.tup xs) with
            | false => rfl
            | true =>
              obtain ⟨rows, e, h2⟩ := arR_of h
              have A := okRows_iff.mp h2
              cases e
              have : ((rows.map rwD).all fun x => isRow x 1 12 1 12) = true := by
                rw [List.all_map, List.all_eq_true]
                intro r hr'
                obtain ⟨a1, a2⟩ := A.len r hr'
                show isRow (rwD r) 1 12 1 12 = true
                unfold isRow
                dsimp only
                rw [List.length_map, nums_all, Bool.and_eq_true, Bool.and_eq_true, decide_eq_true_eq, decide_eq_true_eq, List.all_eq_true]
                refine ⟨⟨by omega, by omega⟩, fun x hx => ?_⟩
                have := (A.r r hr').2.1 x hx
                simp [this.1, this.2]
              rw [this] at hr
              cases hr
          rw [e]
          exact yes_M c2 fls_M
      · rw [Bool.not_eq_true] at hl
        rw [hl] at c1
        have e : arR (.tup xs) = false := by
          cases h : arR (.tup xs) with
          | false => rfl
          | true =>
            obtain ⟨rows, e, h2⟩ := arR_of h
            have A := okRows_iff.mp h2
            cases e
            rw [List.length_map] at hl
            have := A.l1
            have := A.l2
            have h3 : (decide ((1 : Int) ≤ rows.length) && decide ((rows.length : Int) ≤ 6)) = true := by
              rw [Bool.and_eq_true, decide_eq_true_eq, decide_eq_true_eq]
              omega
            rw [h3] at hl
            cases hl
        rw [e]
        exact yes_M c1 fls_M
    | _ => cases hv
theorem pEq_tnil {xs : List D} (h : D.plains 8 xs = true) : pEq (.tup xs) (.tup []) = some (.bl xs.isEmpty) := by
  have h1 : D.plain 9 (.tup xs) = true := by rw [D.plain]; exact h
  have h2 : D.plain 9 (.tup []) = true := by simp [D.plain, D.plains]
  unfold pEq D.pl
  rw [h1, h2, Bool.and_self, if_pos rfl]
  cases xs <;> simp [D.eqv, D.eqvs]
/-- a tuple of numbers from 1 to 12, not empty -/
def rowOk (x : D) : Bool := match x with
  | .tup ys => !ys.isEmpty && ys.all fun y => isNum y 1 12
  | _ => false
theorem rowOk_of {x : D} (h : rowOk x = true) : ∃ r, x = rwD r ∧ (r ≠ [] ∧ ∀ y ∈ r, 1 ≤ y ∧ y ≤ 12) := by
  cases x with
  | tup ys =>
    unfold rowOk at h
    dsimp only at h
    rw [Bool.and_eq_true] at h
    obtain ⟨ns, e, hn⟩ := nums_of h.2
    subst e
    exact ⟨ns, rfl, fun e => (by rw [e] at h; simp at h), hn⟩
  | _ => cases h
theorem rowOk_row {r : Row} (h : r ≠ []) (h2 : ∀ y ∈ r, 1 ≤ y ∧ y ≤ 12) : rowOk (rwD r) = true := by
  unfold rowOk
  dsimp only
  rw [nums_all, Bool.and_eq_true, List.all_eq_true]
  refine ⟨?_, fun x hx => ?_⟩
  · cases r with
    | nil => exact absurd rfl h
    | cons x r => rfl
  · have := h2 x hx
    simp [this.1, this.2]
theorem larow1 (x0 : Sl) (x : D) (hx : D.plain 9 x = true) : b__law_are_rows_1 [x0, .fz x, .un] = if rowOk x then nxM [x0, .un, .un] else reM (.bl false) := by
  have c : (dOr (dNot (dIsi .tuple (dV 1))) (dOr (d2 pEq (dV 1) (dTup [])) (d2 pNe (dCmp (itV (dV 1)) (.nm 2) (some (dNot (dCall g__law_within [dV 2, dC (.int 1), dC (.int 12)]))) (dV 2) [2]) (dLst [])))) [x0, .fz x, .un] = retM (.bl (!rowOk x)) := by
    cases hv : isTy .tuple x with
    | false =>
      have e : rowOk x = false := by cases x <;> first | rfl | cases hv
      rw [e]
      exact tup_guard rfl hv
    | true =>
      cases x with
      | tup ys =>
        have hp : D.plains 8 ys = true := by rwa [D.plain] at hx
        have e1 : d2 pEq (dV 1) (dTup []) [x0, .fz (.tup ys), .un] = retM (.bl ys.isEmpty) := d2_ret rfl rfl (pEq_tnil hp)
        have e2 : d2 pNe (dCmp (itV (dV 1)) (.nm 2) (some (dNot (dCall g__law_within [dV 2, dC (.int 1), dC (.int 12)]))) (dV 2) [2]) (dLst []) [x0, .fz (.tup ys), .un] = retM (.bl (!ys.all fun y => isNum y 1 12)) := by
          have e : itV (dV 1) [x0, .fz (.tup ys), .un] = retM ys := rfl
          rw [d2_eq, dCmp_eq, e, bindM_retM', comp_within (fun _ => rfl), noX_retM, bindM_retM', bindM_retM', dLst_eq, dsN_nil', bindM_retM', bindM_retM', pNe_lnil (plains_filter hp), filter_empty]
          simp
        have e3 : (dNot (dIsi .tuple (dV 1))) [x0, .fz (.tup ys), .un] = retM (.bl false) := rfl
        rw [or_ret e3 fun _ => or_ret e1 fun _ => e2]
        unfold rowOk
        dsimp only
        cases ys.isEmpty <;> cases (ys.all fun y => isNum y 1 12) <;> rfl
      | _ => cases hv
  cases h : rowOk x with
  | true =>
    rw [h] at c
    exact (no_M c).trans rfl
  | false =>
    rw [h] at c
    exact yes_M c fls_M
theorem larows_ok (v : D) {n : Nat} (hf : D.fit n v = true) (hn : n ≤ 9) : g__law_are_rows [v] = retM (.bl (arR v)) := by
  cases hv : isTy .tuple v with
  | false =>
    have e : arR v = false := by cases v <;> first | rfl | cases hv
    rw [e]
    exact def_M (yes_M (tup_guard (i := 0) rfl hv) fls_M)
  | true =>
    cases v with
    | tup xs =>
      have hpl : ∀ x ∈ xs, D.plain 9 x = true := fun x hx => by
        have h1 : D.plains 8 xs = true := plains_of hf hn
        cases n with
        | zero => simp [D.fit] at hf
        | succ n => exact plain_fit 9 x (fit_mono n 9 x (by omega) ((fit_tup.mp hf).2 x hx))
      refine def_M ?_
      have c1 := len_guard (ρ := [.fz (.tup xs), .un, .un]) (i := 0) (a := 1) (b := 6) (xs := xs) rfl
      by_cases hl : (decide ((1 : Int) ≤ xs.length) && decide ((xs.length : Int) ≤ 6)) = true
      · rw [hl] at c1
        rw [Bool.and_eq_true, decide_eq_true_eq, decide_eq_true_eq] at hl
        refine (no_M c1).trans ?_
        have hfor := for_all (tg := .nm 1) (body := b__law_are_rows_1) id rowOk (.bl false) [.fz (.tup xs), .un, .un] xs (fun x hx => ⟨_, rfl, larow1 _ x (hpl x hx)⟩)
        rw [List.map_id] at hfor
        cases hr : xs.all rowOk with
        | true =>
          rw [hr, if_pos rfl] at hfor
          refine (for_M (xs := xs) rfl hfor).trans ?_
          obtain ⟨rows, e, hrows⟩ := rows_map (P := fun r => r ≠ [] ∧ ∀ x ∈ r, 1 ≤ x ∧ x ≤ 12) (xs := xs) fun x hx => rowOk_of (List.all_eq_true.mp hr x hx)
          subst e
          rw [List.length_map] at hl
          have hi : pIdx (wD rows) (.int 0) = some (rwD (rows.getD 0 [])) := pIdx_tupf rwD [] (k := 0) (by omega)
          rw [arR_rows, ok_last (by omega) (by omega) hrows]
          refine ret_M (and_ret (a := decide ((rows.getD 0 []).sum ≤ 12)) (by simp [hi, -List.getD_eq_getElem?_getD]) fun _ => ?_)
          have e1 : filT (fun r : Row => retM (!(r.sum == (rows.getD 0 []).sum))) (fun r => retM (rwD r)) rows = retM ((rows.filter fun r => !(r.sum == (rows.getD 0 []).sum)).map rwD) := filT_ret _ _ _
          have e2 : dCmp (itV (dV 0)) (.nm 1) (some (d2 pNe (dB (o1 pSum) [dV 1]) (dB (o1 pSum) [d2 pIdx (dV 0) (dC (.int 0))]))) (dV 1) [1] [.fz (wD rows), .un, .un] = retM (.lst ((rows.filter fun r => !(r.sum == (rows.getD 0 []).sum)).map rwD)) := by
            simp only [dCmp_eq, itV_eq, dV_eq, nth_0, nth_s, bindM_retM', compGo_some, filT_map, tgM_nm, wipes_cons, wipes_nil, put_0, put_s]
            rw [filT_eq (fun r : Row => !(r.sum == (rows.getD 0 []).sum)) rwD (fun r _ => by
              simp only [bM_eq, d2_eq, dB_eq, dsN_cons', dsN_nil', dV_eq, dC_eq, nth_0, nth_s, bindM_retM', o1_eq, pSum_tup, liftM_some, hi, pNe_int', asB_bl]) (fun r _ _ => rfl)]
            rfl
          refine d2_ret e2 rfl ?_
          rw [pEq_lnil (plains_map rwD 8 fun x _ => plain_rwD 7 x), List.isEmpty_map, filter_empty]
          simp
        | false =>
          rw [hr, if_neg (by decide)] at hfor
          have e : arR (.tup xs) = false := by
            cases h : arR (.tup xs) with
            | false => rfl
            | true =>
              obtain ⟨rows, e, h2⟩ := arR_of h
              have A := okRows_iff.mp h2
              cases e
              have : ((rows.map rwD).all rowOk) = true := by
                rw [List.all_map, List.all_eq_true]
                exact fun r hr' => rowOk_row (A.r r hr').1 (A.r r hr').2.1
              rw [this] at hr
              cases hr
          rw [e]
          exact forR_M (xs := xs) rfl hfor
      · rw [Bool.not_eq_true] at hl
        rw [hl] at c1
        have e : arR (.tup xs) = false := by
          cases h : arR (.tup xs) with
          | false => rfl
          | true =>
            obtain ⟨rows, e, h2⟩ := arR_of h
            have A := okRows_iff.mp h2
            cases e
            rw [List.length_map] at hl
            have := A.l1
            have := A.l2
            have h3 : (decide ((1 : Int) ≤ rows.length) && decide ((rows.length : Int) ≤ 6)) = true := by
              rw [Bool.and_eq_true, decide_eq_true_eq, decide_eq_true_eq]
              omega
            rw [h3] at hl
            cases hl
        rw [e]
        exact yes_M c1 fls_M
    | _ => cases hv
def noRows : Exc := ⟨"NoRows", []⟩
theorem need_rows_ok (v : D) : g_need_rows [v] = if arR v then retM .non else excM noRows := by
  have h := are_rows_ok v
  cases q : arR v <;> rw [q] at h <;> simp [g_need_rows, dDef, s_need_rows, h, noRows]
end DL
/-! ED: bonds, the longest joint. -/
namespace DL
set_option autoImplicit false
open PySem
theorem pairUp_rows : ∀ xs ys : Rows, pairUp (xs.map rwD) (ys.map rwD) = (xs.zip ys).map fun p => D.tup [rwD p.1, rwD p.2]
  | [], _ => by simp [pairUp]
  | x :: xs, [] => by simp [pairUp]
  | x :: xs, y :: ys => by
    rw [List.map_cons, List.map_cons, pairUp, pairUp_rows xs ys, List.zip_cons_cons, List.map_cons]
theorem zip_rise {α : Type} (lt : α → α → Bool) : ∀ xs : List α, ((xs.zip (xs.drop 1)).all fun p => lt p.1 p.2) = rise lt xs
  | [] => rfl
  | [x] => rfl
  | x :: y :: r => by
    have ih := zip_rise lt (y :: r)
    rw [rise, ← ih]
    rfl
theorem is_bond_ok (rows : Rows) (hg : ∀ r ∈ rows, Good r) : g_is_bond [wD rows] = retM (.bl (okRows rows && rise bonded rows)) := by
  have h1 := are_rows_ok (wD rows)
  rw [arR_rows] at h1
  rw [← zip_rise]
  refine def_M (ret_M (and_ret (call_is rfl h1) fun _ => ?_))
  have hz : itZ (dV 0) (dSl (dV 0) (anIx (dC (.int 1))) noIx) [.fz (wD rows), .un, .un] = retM ((rows.zip (rows.drop 1)).map fun p => D.tup [rwD p.1, rwD p.2]) := by
    have e : cut (rows.map rwD) (some 1) none = (rows.drop 1).map rwD := by
      rw [cut_map]
      congr 1
      exact cut_lo rows 1
    have e1 : dSl (dV 0) (anIx (dC (.int 1))) noIx [.fz (wD rows), .un, .un] = retM (.tup ((rows.drop 1).map rwD)) := by
      rw [← e]
      simp
    rw [itZ_eq, e1]
    show zip2 (wD rows) (.tup ((rows.drop 1).map rwD)) = _
    unfold zip2
    dsimp only
    rw [pairUp_rows]
  have hc : dCmp (itZ (dV 0) (dSl (dV 0) (anIx (dC (.int 1))) noIx)) (.tp [1, 2]) none (dCall g_are_bonded [dV 1, dV 2]) [1, 2] [.fz (wD rows), .un, .un] = retM (.lst ((rows.zip (rows.drop 1)).map fun p => D.bl (bonded p.1 p.2))) := by
    rw [dCmp_eq, hz, bindM_retM']
    simp only [compGo_none, mapT_map, tgM_tp2, wipes_cons, wipes_nil, put_0, put_s]
    rw [mapT_eq (fun p : Row × Row => D.bl (bonded p.1 p.2)) fun p hp => call_is rfl (bonded_ok p.1 p.2 (hg _ (List.of_mem_zip hp).1) (hg _ (List.mem_of_mem_drop (List.of_mem_zip hp).2)))]
    rfl
  simp [-dCmp_eq, hc]
theorem is_bond_no (v : D) (h : arR v = false) : g_is_bond [v] = retM (.bl false) := by
  have h1 := are_rows_ok v
  rw [h] at h1
  exact def_M (ret_M (and_ret (a := false) (b := true) (call_is rfl h1) fun h => by cases h))
/-! ### dicts with numbers as keys -/
section
variable {β : Type} (f : β → D)
abbrev iD (l : List (Int × β)) : D := .dct (l.map fun p => .int p.1) (l.map fun p => f p.2)
theorem keyOk_int (j : Int) (l : List (Int × β)) : keyOk (.int j) (l.map fun p => D.int p.1) = true := by
  unfold keyOk
  rw [List.all_map]
  simp [isSim, Function.comp_def]
theorem hasK_int (j : Int) : ∀ l : List (Int × β), hasK (.int j) (l.map fun p => D.int p.1) = l.any fun p => p.1 == j
  | [] => rfl
  | p :: l => by
    unfold hasK
    rw [List.map_cons, List.any_cons, List.any_cons, eqv_int]
    have := hasK_int j l
    unfold hasK at this
    rw [this]
theorem lookK_int (j : Int) : ∀ l : List (Int × β), lookK (.int j) (l.map fun p => D.int p.1) (l.map fun p => f p.2) = (l.find? fun p => p.1 == j).map fun p => f p.2
  | [] => rfl
  | p :: l => by
    rw [List.map_cons, List.map_cons, lookK, eqv_int, lookK_int j l, List.find?_cons]
    cases p.1 == j <;> rfl
end
theorem storeX_M {i : Nat} {ix f : DE} {ρ : Env'} {ks ds : List D} {k d : D} (h : nth ρ i = .ow (.dct ks ds)) (hf : f ρ = retM d) (hx : ix ρ = retM k) (hk : keyOk k ks = true) (hl : ks.length < lim) : sStoreX i ix f ρ = nxM (put ρ i (.ow (.dct (putKs k ks) (putVs k d ks ds)))) := by
  funext p
  unfold sStoreX
  rw [h]
  dsimp only
  rw [hf]
  show runE ρ (ix ρ p) _ = _
  rw [hx]
  show (if keyOk k ks = true ∧ ks.length < lim then _ else _) = _
  rw [if_pos ⟨hk, hl⟩]
  rfl
theorem dGet_M {f g h : DE} {ρ : Env'} {ks ds : List D} {k z : D} (h1 : f ρ = retM (.dct ks ds)) (h2 : g ρ = retM k) (h3 : h ρ = retM z) (hk : keyOk k ks = true) : dGet f g h ρ = retM ((lookK k ks ds).getD z) := by
  unfold dGet
  rw [h1, bindM_retM']
  dsimp only
  rw [h2, bindM_retM', h3, bindM_retM', if_pos hk]
/-! ### the longest joint -/
/-- in how many of the last courses (the last one first) a joint is -/
def cnt : List Row → Int → Nat
  | [], _ => 0
  | r :: l, j => if (js r).contains j then cnt l j + 1 else 0
def runsOf : List Row → List (Int × Int)
  | [] => []
  | r :: l => (js r).map fun j => (j, (cnt (r :: l) j : Int))
def bestOf : List Row → Int
  | [] => 0
  | r :: l => (js r).foldl (fun b j => if (cnt (r :: l) j : Int) > b then (cnt (r :: l) j : Int) else b) (bestOf l)
theorem runs_get (L : List Row) (j : Int) : ((runsOf L).find? fun p => p.1 == j).map (fun p => D.int p.2) = if 0 < cnt L j then some (.int (cnt L j)) else none := by
  cases L with
  | nil => rfl
  | cons r l =>
    unfold runsOf
    have : ∀ s : List Int, ((s.map fun j => (j, (cnt (r :: l) j : Int))).find? fun p => p.1 == j).map (fun p => D.int p.2) = if j ∈ s then some (.int (cnt (r :: l) j)) else none := by
      intro s
      induction s with
      | nil => simp
      | cons x s ih =>
        rw [List.map_cons, List.find?_cons]
        by_cases q : x = j
        · subst q
          simp
        · have q1 : (x == j) = false := by simpa using q
          simp only [q1]
          rw [ih]
          have : (j ∈ x :: s) ↔ j ∈ s := by
            rw [List.mem_cons]
            exact ⟨fun h => h.resolve_left fun e => q e.symm, .inr⟩
          by_cases q2 : j ∈ s
          · rw [if_pos q2, if_pos (this.mpr q2)]
          · rw [if_neg q2, if_neg fun h => q2 (this.mp h)]
    rw [this]
    by_cases q : j ∈ js r
    · have h2 : cnt (r :: l) j = cnt l j + 1 := by
        rw [cnt, if_pos (List.contains_iff_mem.mpr q)]
      rw [if_pos q, if_pos (by omega)]
    · have h2 : cnt (r :: l) j = 0 := by
        rw [cnt, if_neg fun h => q (List.contains_iff_mem.mp h)]
      rw [if_neg q, if_neg (by omega)]
/-! ### stones among others -/
theorem eqv_sD (a b : St) : D.eqv (sD a) (sD b) = (a == b) := by
  rw [D.eqv, D.eqvs, D.eqvs, D.eqvs, eqv_int, eqv_int, Bool.and_true]
  obtain ⟨a1, a2⟩ := a
  obtain ⟨b1, b2⟩ := b
  rw [Bool.eq_iff_iff, Bool.and_eq_true, beq_iff_eq, beq_iff_eq, beq_iff_eq, Prod.mk.injEq]
  constructor
  · rintro ⟨h1, h2⟩; exact ⟨by exact_mod_cast h1, by exact_mod_cast h2⟩
  · rintro ⟨h1, h2⟩; subst h1 h2; exact ⟨rfl, rfl⟩
theorem plain_sD (n : Nat) (s : St) : D.plain (n + 1) (sD s) = true := by simp [D.plain, D.plains]
theorem pIn_st_lst (s : St) (xs : List St) : pIn (sD s) (.lst (xs.map sD)) = some (.bl (xs.contains s)) := by
  simp only [pIn, D.pl, plain_sD, plains_map sD 9 (fun x _ => plain_sD 8 x), Bool.and_self, if_true, memD_map sD eqv_sD]
theorem pNotIn_st_lst (s : St) (xs : List St) : pNotIn (sD s) (.lst (xs.map sD)) = some (.bl (!xs.contains s)) := by simp only [pNotIn, pIn_st_lst]
theorem pIn_st_tup (s : St) (xs : List St) : pIn (sD s) (.tup (xs.map sD)) = some (.bl (xs.contains s)) := by
  simp only [pIn, D.pl, plain_sD, plains_map sD 9 (fun x _ => plain_sD 8 x), Bool.and_self, if_true, memD_map sD eqv_sD]
theorem pNotIn_st_tup (s : St) (xs : List St) : pNotIn (sD s) (.tup (xs.map sD)) = some (.bl (!xs.contains s)) := by simp only [pNotIn, pIn_st_tup]
theorem fit_sD (n : Nat) (s : St) : D.fit (n + 1) (sD s) = true := by simp [D.fit, D.fits]
theorem fit_map {α : Type} (f : α → D) (n : Nat) {xs : List α} (hl : xs.length ≤ 100000) (h : ∀ x ∈ xs, D.fit n (f x) = true) : D.fit (n + 1) (.tup (xs.map f)) = true := by
  rw [fit_tup, List.length_map]
  refine ⟨hl, fun d hd => ?_⟩
  obtain ⟨x, hx, e⟩ := List.mem_map.mp hd
  subst e
  exact h x hx
/-! unit lengths -/
def cellsT (rows : Rows) (s : St) : List Int := (List.range ((rows.getD s.1 []).getD s.2 0).toNat).map fun (k : Nat) => s0 rows s + (k : Int)
/-- numbers that are not too great -/
structure Fair (rows : Rows) : Prop where
  few : Few rows
  n : ∀ r ∈ rows, ∀ x ∈ r, 1 ≤ x ∧ x ≤ 100
theorem getD_mem {α : Type} {l : List α} {k : Nat} {d : α} (h : k < l.length) : l.getD k d ∈ l := by
  rw [List.getD_eq_getElem?_getD, List.getElem?_eq_getElem h]
  exact List.getElem_mem _
theorem sum_bd {l : List Int} (h : ∀ x ∈ l, 1 ≤ x ∧ x ≤ 100) : 0 ≤ l.sum ∧ l.sum ≤ 100 * l.length := by
  induction l with
  | nil => simp
  | cons x l ih =>
    have h1 := h x List.mem_cons_self
    have h2 := ih fun y hy => h y (List.mem_cons_of_mem _ hy)
    rw [List.sum_cons, List.length_cons]
    omega
theorem Fair.at {rows : Rows} (h : Fair rows) {s : St} (hs : s ∈ sts rows) : 0 ≤ s0 rows s ∧ s0 rows s ≤ 100000 ∧ 1 ≤ (rows.getD s.1 []).getD s.2 0 ∧ (rows.getD s.1 []).getD s.2 0 ≤ 100 := by
  obtain ⟨h1, h2⟩ := mem_sts.mp hs
  have hr := getD_mem (d := []) h1
  have hx := h.n _ hr _ (getD_mem (d := 0) h2)
  have hl := h.few.r _ hr
  have hb := sum_bd (l := (rows.getD s.1 []).take s.2) fun x hx => h.n _ hr x (List.mem_of_mem_take hx)
  have hlen : ((rows.getD s.1 []).take s.2).length ≤ 1000 := by rw [List.length_take]; omega
  unfold s0
  exact ⟨hb.1, by omega, hx.1, hx.2⟩
theorem cells_ok (rows : Rows) (h : Fair rows) (s : St) (hs : s ∈ sts rows) : g__law_cells [wD rows, sD s] = retM (.lst ((cellsT rows s).map .int)) := by
  obtain ⟨h1, h2⟩ := mem_sts.mp hs
  obtain ⟨b1, b2, b3, b4⟩ := h.at hs
  have e1 : pIdx (wD rows) (.int (s.1 : Nat)) = some (rwD (rows.getD s.1 [])) := pIdx_tupf rwD [] h1
  have e2 : pIdx (rwD (rows.getD s.1 [])) (.int (s.2 : Nat)) = some (.int ((rows.getD s.1 []).getD s.2 0)) := pIdx_tupf D.int 0 h2
  have e3 : pIdx (sD s) (.int 0) = some (.int (s.1 : Nat)) := rfl
  have e4 : pIdx (sD s) (.int 1) = some (.int (s.2 : Nat)) := rfl
  have e5 : pSum (.tup (cut ((rows.getD s.1 []).map D.int) none (some (s.2 : Nat)))) = some (.int (s0 rows s)) := by
    rw [cut_map, cut_hi, pSum_tup]
    rfl
  have i1 : ∀ x, d2 pIdx (dV 0) (d2 pIdx (dV 1) (dC (.int 0))) [.fz (wD rows), .fz (sD s), x] = retM (rwD (rows.getD s.1 [])) := fun x => d2_ret rfl (d2_ret rfl rfl e3) e1
  have c1 : dB (o1 pSum) [dSl (d2 pIdx (dV 0) (d2 pIdx (dV 1) (dC (.int 0)))) noIx (anIx (d2 pIdx (dV 1) (dC (.int 1))))] [.fz (wD rows), .fz (sD s), .un] = retM (.int (s0 rows s)) := by
    have e : dSl (d2 pIdx (dV 0) (d2 pIdx (dV 1) (dC (.int 0)))) noIx (anIx (d2 pIdx (dV 1) (dC (.int 1)))) [.fz (wD rows), .fz (sD s), .un] = retM (.tup (cut ((rows.getD s.1 []).map D.int) none (some (s.2 : Nat)))) := by
      rw [dSl_eq, i1, bindM_retM', noIx_eq, bindM_retM', anIx_eq, d2_ret rfl rfl e4]
      rfl
    rw [dB_eq, dsN_cons e rfl, bindM_retM', o1_eq, e5]
    rfl
  have hr := rng2_nat (s0 rows s) ((rows.getD s.1 []).getD s.2 0).toNat (s0 rows s + (rows.getD s.1 []).getD s.2 0) (by omega) (by omega) (by omega) (by omega)
  have c2 : dRngL (itR2 (dV 2) (d2 pAdd (dV 2) (d2 pIdx (d2 pIdx (dV 0) (d2 pIdx (dV 1) (dC (.int 0)))) (d2 pIdx (dV 1) (dC (.int 1)))))) [.fz (wD rows), .fz (sD s), .fz (.int (s0 rows s))] = retM (.lst ((cellsT rows s).map .int)) := by
    have e : d2 pAdd (dV 2) (d2 pIdx (d2 pIdx (dV 0) (d2 pIdx (dV 1) (dC (.int 0)))) (d2 pIdx (dV 1) (dC (.int 1)))) [.fz (wD rows), .fz (sD s), .fz (.int (s0 rows s))] = retM (.int (s0 rows s + (rows.getD s.1 []).getD s.2 0)) := d2_ret rfl (d2_ret (i1 _) (d2_ret rfl rfl e4) e2) rfl
    rw [dRngL_eq, itR2_eq, e]
    show bindM (rng2 (.int (s0 rows s)) _) _ = _
    rw [hr, bindM_retM']
    unfold cellsT
    rw [List.map_map]
    rfl
  exact def_M ((set_M c1).trans (ret_M c2))
theorem mem_cells {rows : Rows} (h : Fair rows) {s : St} (hs : s ∈ sts rows) {c : Int} : c ∈ cellsT rows s ↔ s0 rows s ≤ c ∧ c < s1 rows s := by
  obtain ⟨b1, b2, b3, b4⟩ := h.at hs
  unfold cellsT s1
  rw [List.mem_map]
  constructor
  · rintro ⟨k, hk, e⟩
    have := List.mem_range.mp hk
    omega
  · rintro ⟨h1, h2⟩
    exact ⟨(c - s0 rows s).toNat, List.mem_range.mpr (by omega), by omega⟩
def sharedT (rows : Rows) (a b : St) : Nat := if a.1 = b.1 + 1 then ((cellsT rows a).filter fun c => (cellsT rows b).contains c).length else 0
theorem shared_ok (rows : Rows) (h : Fair rows) (a b : St) (ha : a ∈ sts rows) (hb : b ∈ sts rows) : g__law_shared [wD rows, sD a, sD b] = retM (.int (sharedT rows a b)) := by
  have k1 := cells_ok rows h a ha
  have k2 := cells_ok rows h b hb
  have e1 : pIdx (sD a) (.int 0) = some (.int (a.1 : Nat)) := rfl
  have e2 : pIdx (sD b) (.int 0) = some (.int (b.1 : Nat)) := rfl
  unfold sharedT
  have c1 : d2 pNe (d2 pIdx (dV 1) (dC (.int 0))) (d2 pAdd (d2 pIdx (dV 2) (dC (.int 0))) (dC (.int 1))) [.fz (wD rows), .fz (sD a), .fz (sD b), .un] = retM (.bl (!((a.1 : Int) == (b.1 : Int) + 1))) := d2_ret (d2_ret rfl rfl e1) (d2_ret (d2_ret rfl rfl e2) rfl rfl) (pNe_int' _ _)
  refine def_M ?_
  by_cases q : a.1 = b.1 + 1
  · have q2 : ((a.1 : Int) == (b.1 : Int) + 1) = true := by rw [beq_iff_eq]; omega
    rw [q2] at c1
    rw [if_pos q]
    refine (no_M c1).trans (ret_M ?_)
    have hc : dCmp (itV (dCall g__law_cells [dV 0, dV 1])) (.nm 3) (some (d2 pIn (dV 3) (dCall g__law_cells [dV 0, dV 2]))) (dV 3) [3] [.fz (wD rows), .fz (sD a), .fz (sD b), .un] = retM (.lst (((cellsT rows a).filter fun c => (cellsT rows b).contains c).map .int)) := by
      have e : itV (dCall g__law_cells [dV 0, dV 1]) [.fz (wD rows), .fz (sD a), .fz (sD b), .un] = retM ((cellsT rows a).map .int) := by
        rw [itV_eq, call_is rfl k1]
        rfl
      exact cmp_filT D.int _ e (fun _ => rfl) fun c _ => d2_ret rfl (call_is rfl k2) (pIn_int_lst _ _)
    rw [dB_eq, dsN_cons hc rfl, bindM_retM', o1_eq, pLen_lst, List.length_map]
    rfl
  · have q2 : ((a.1 : Int) == (b.1 : Int) + 1) = false := by rw [← Bool.not_eq_true, beq_iff_eq]; omega
    rw [q2] at c1
    rw [if_neg q]
    exact yes_M c1 (ret_M rfl)
theorem shared_over {rows : Rows} (h : Fair rows) {a b : St} (ha : a ∈ sts rows) (hb : b ∈ sts rows) : decide (0 < (sharedT rows a b : Int)) = over rows a b := by
  obtain ⟨_, _, a3, _⟩ := h.at ha
  obtain ⟨_, _, b3, _⟩ := h.at hb
  have ea : s0 rows a < s1 rows a := by unfold s1; omega
  have eb : s0 rows b < s1 rows b := by unfold s1; omega
  unfold sharedT over
  by_cases q : a.1 = b.1 + 1
  · rw [if_pos q, decide_eq_true q, Bool.true_and, Bool.eq_iff_iff, decide_eq_true_eq, Bool.and_eq_true, decide_eq_true_eq, decide_eq_true_eq]
    constructor
    · intro hl
      have hl' : 0 < ((cellsT rows a).filter fun c => (cellsT rows b).contains c).length := by omega
      obtain ⟨c, hc⟩ := List.exists_mem_of_length_pos hl'
      obtain ⟨h1, h2⟩ := List.mem_filter.mp hc
      have h3 := (mem_cells h ha).mp h1
      have h4 := (mem_cells h hb).mp (List.contains_iff_mem.mp h2)
      omega
    · rintro ⟨h1, h2⟩
      have : (if s0 rows a < s0 rows b then s0 rows b else s0 rows a) ∈ (cellsT rows a).filter fun c => (cellsT rows b).contains c := by
        rw [List.mem_filter, List.contains_iff_mem, mem_cells h ha, mem_cells h hb]
        split <;> omega
      have := List.length_pos_of_mem this
      omega
  · rw [if_neg q, decide_eq_false q]
    rfl
end DL
/-! EE: all walls, dicts with rows as keys. -/
namespace DL
set_option autoImplicit false
open PySem
/-! ### dicts keyed by rows, the value a function of the key -/
abbrev rwDct (xs : List Row) (f : Row → Int) : D := .dct (xs.map rwD) (xs.map fun r => .int (f r))
theorem toNKs_ints : ∀ r : List Int, (toNKs (r.map .int)).isSome = true
  | [] => rfl
  | x :: r => by
    have := toNKs_ints r
    rw [Option.isSome_iff_exists] at this
    obtain ⟨l, h⟩ := this
    rw [List.map_cons, toNKs, h]
    rfl
theorem isTp_row (r : Row) : isTp (rwD r) = true := by
  unfold isTp
  dsimp only
  rw [toNKs_ints, Bool.and_true]
  exact plain_rwD 7 r
theorem keyOk_row (r : Row) (xs : List Row) : keyOk (rwD r) (xs.map rwD) = true := by
  have h : ((xs.map rwD).all isTp) = true := by
    rw [List.all_map, List.all_eq_true]
    exact fun x _ => isTp_row x
  unfold keyOk
  rw [isTp_row, h, Bool.true_and, Bool.or_true]
theorem hasK_row (r : Row) : ∀ xs : List Row, hasK (rwD r) (xs.map rwD) = xs.contains r
  | [] => rfl
  | x :: xs => by
    unfold hasK
    rw [List.map_cons, List.any_cons, eqv_rwD, List.contains_cons]
    have := hasK_row r xs
    unfold hasK at this
    rw [this]
    congr 1
    exact BEq.comm
theorem lookK_row (f : Row → Int) {r : Row} : ∀ {xs : List Row}, r ∈ xs → lookK (rwD r) (xs.map rwD) (xs.map fun r => D.int (f r)) = some (.int (f r))
  | x :: xs, h => by
    rw [List.map_cons, List.map_cons, lookK, eqv_rwD]
    by_cases q : x = r
    · subst q
      simp
    · have q1 : (x == r) = false := by simpa using q
      rw [q1]
      exact lookK_row f ((List.mem_cons.mp h).resolve_left fun e => q e.symm)
theorem pIx_row (f : Row → Int) {r : Row} {xs : List Row} (h : r ∈ xs) : pIx (rwDct xs f) (rwD r) = some (.int (f r)) := by
  unfold pIx
  dsimp only
  rw [if_pos (keyOk_row r xs), lookK_row f h]
/-- dict([(r, 1) for r in xs]) -/
theorem pairsD_row (v : Row → Int) : ∀ xs : List Row, pairsD (xs.map fun r => D.tup [rwD r, .int (v r)]) = some (xs.map fun r => (rwD r, .int (v r)))
  | [] => rfl
  | x :: xs => by rw [List.map_cons, pairsD, pairsD_row v xs]; rfl
theorem foldl_put (v : Row → Int) : ∀ (xs ys : List Row), (ys ++ xs).Nodup → (xs.map fun r => (rwD r, D.int (v r))).foldl putOne (ys.map rwD, ys.map fun r => .int (v r)) = ((ys ++ xs).map rwD, (ys ++ xs).map fun r => .int (v r))
  | [], ys, _ => by simp
  | x :: xs, ys, h => by
    have hx : ys.contains x = false := by
      rw [← Bool.not_eq_true, List.contains_iff_mem]
      intro hc
      rw [List.nodup_append] at h
      exact h.2.2 x hc x List.mem_cons_self rfl
    rw [List.map_cons, List.foldl_cons]
    have e : putOne (ys.map rwD, ys.map fun r => D.int (v r)) (rwD x, .int (v x)) = ((ys ++ [x]).map rwD, (ys ++ [x]).map fun r => .int (v r)) := by
      unfold putOne putKs putVs
      dsimp only
      rw [hasK_row, hx]
      simp
    rw [e, foldl_put v xs (ys ++ [x]) (by simpa using h)]
    simp
theorem pDict_row (v : Row → Int) (xs : List Row) (h : xs.Nodup) : pDict (.lst (xs.map fun r => D.tup [rwD r, .int (v r)])) = some (rwDct xs v) := by
  unfold pDict
  dsimp only
  rw [pairsD_row]
  dsimp only
  have : ((xs.map fun r => (rwD r, D.int (v r))).all fun p => isTp p.1) = true := by
    rw [List.all_map, List.all_eq_true]
    exact fun r _ => isTp_row r
  rw [this, Bool.true_or, if_pos rfl]
  have e := foldl_put v xs [] (by simpa using h)
  simp only [List.map_nil, List.nil_append] at e
  rw [e]
/-! ### all walls, one course more each time -/
def lastR (wl : Rows) : Row := wl.getD (wl.length - 1) []
def addC (rs : List Row) (wl : Rows) : List Rows := (rs.filter fun c => wl.isEmpty || bonded (lastR wl) c).map fun c => wl ++ [c]
theorem pAdd_wD (wl : Rows) (c : Row) (h : wl.length ≤ 1000) : pAdd (wD wl) (.tup [rwD c]) = some (wD (wl ++ [c])) := by
  have h2 : (wl.map rwD).length + [rwD c].length ≤ lim := by rw [List.length_map, lim_eq]; simp; omega
  unfold pAdd
  dsimp only
  rw [if_pos h2]
  show some (D.tup (wl.map rwD ++ [rwD c])) = some (.tup ((wl ++ [c]).map rwD))
  rw [List.map_append]
  rfl
theorem plain_wD (n : Nat) (wl : Rows) : D.plain (n + 2) (wD wl) = true := by
  rw [D.plain]
  exact plains_map rwD (n + 1) fun r _ => plain_rwD n r
theorem idx_last (wl : Rows) (h : wl ≠ []) : pIdx (wD wl) (.int (-1)) = some (rwD (lastR wl)) := by
  have hl : 1 ≤ wl.length := by
    cases wl with
    | nil => exact absurd rfl h
    | cons a b => simp
  have h0 : ¬ (0 : Int) ≤ -1 := by decide
  have h1 : (0 : Int) ≤ -1 + ((wl.map rwD).length : Nat) := by rw [List.length_map]; omega
  have e : (-1 + ((wl.map rwD).length : Nat) : Int).toNat = wl.length - 1 := by rw [List.length_map]; omega
  unfold pIdx
  dsimp only
  rw [if_neg h0, if_pos h1, e]
  exact getD_map rwD [] wl _ (by omega)
theorem ab1_ok (x0 x1 x2 x4 x5 : Sl) (rs : List Row) (hg : ∀ r ∈ rs, Good r) (ys : List D) (wl : Rows) (hw : ∀ r ∈ wl, Good r) (hl : wl.length ≤ 1000) (hy : ys.length + ((addC rs wl).map wD).length ≤ lim) :
    b__law_all_built_1 [x0, x1, x2, .fz (.lst (rs.map rwD)), x4, x5, .ow (.lst ys), .fz (wD wl), .un] = nxM [x0, x1, x2, .fz (.lst (rs.map rwD)), x4, x5, .ow (.lst (ys ++ (addC rs wl).map wD)), .un, .un] := by
  have hc : dCmp (itV (dV 3)) (.nm 8) (some (dOr (d2 pEq (dV 7) (dTup [])) (dCall g__law_bonded [d2 pIdx (dV 7) (d1 pNeg (dC (.int 1))), dV 8]))) (d2 pAdd (dV 7) (dTup [dV 8])) [8] [x0, x1, x2, .fz (.lst (rs.map rwD)), x4, x5, .ow (.lst ys), .fz (wD wl), .un] = retM (.lst ((rs.filter fun c => wl.isEmpty || bonded (lastR wl) c).map fun c => wD (wl ++ [c]))) := by
    refine cmp_filE rwD (fun c => wl.isEmpty || bonded (lastR wl) c) (fun c => wD (wl ++ [c])) rfl (fun c hc => ?_) (fun c hc _ => ?_)
    · have e1 : d2 pEq (dV 7) (dTup []) (put (wipes [8] [x0, x1, x2, .fz (.lst (rs.map rwD)), x4, x5, .ow (.lst ys), .fz (wD wl), .un]) 8 (.fz (rwD c))) = retM (.bl wl.isEmpty) := by
        refine d2_ret rfl rfl ?_
        rw [pEq_tnil (plains_map rwD 8 fun r _ => plain_rwD 7 r), List.isEmpty_map]
      refine or_ret e1 fun he => ?_
      have hne : wl ≠ [] := by
        intro e
        rw [e] at he
        cases he
      have hlast : lastR wl ∈ wl := getD_mem (by
        cases wl with
        | nil => exact absurd rfl hne
        | cons a b => simp)
      exact call_is (dsN_cons (d2_ret rfl rfl (idx_last wl hne)) (dsN_cons rfl rfl)) (lbonded_ok _ _ (hw _ hlast) (hg c hc))
    · exact d2_ret rfl rfl (pAdd_wD wl c hl)
  have e : (addC rs wl).map wD = (rs.filter fun c => wl.isEmpty || bonded (lastR wl) c).map fun c => wD (wl ++ [c]) := by unfold addC; rw [List.map_map]; rfl
  rw [e] at hy ⊢
  have h := extD_lst (i := 6) (ρ := [x0, x1, x2, .fz (.lst (rs.map rwD)), x4, x5, .ow (.lst ys), .fz (wD wl), .un]) hy
  show sSeq (sExtend 6 _) _ _ = _
  rw [sSeq_eq, sExtend_eq]
  show seqM (extM (.ow (.lst ys)) _ 6 _) _ = _
  rw [extM_ow, hc, bindS_retM, h, seqM_nx]
  rfl
def abStep (rs : List Row) (ws : List Rows) : List Rows := ws.flatMap (addC rs)
structure Wls (rs : List Row) (n : Nat) (ws : List Rows) : Prop where
  l : ws.length ≤ 100000
  w : ∀ wl ∈ ws, wl.length = n ∧ ∀ r ∈ wl, r ∈ rs
theorem flatMap_mapW (f : Rows → List Rows) : ∀ xs : List Rows, xs.flatMap (fun x => (f x).map wD) = (xs.flatMap f).map wD
  | [] => rfl
  | x :: xs => by rw [List.flatMap_cons, List.flatMap_cons, List.map_append, flatMap_mapW f xs]
theorem ab2_ok (x0 x1 x2 : Sl) (rs : List Row) (hg : ∀ r ∈ rs, Good r) (ws : List Rows) (n : Nat) (hn : n ≤ 100) (h : Wls rs n ws) (hl : (abStep rs ws).length ≤ 100000) (x5 : Sl) :
    b__law_all_built_2 [x0, x1, x2, .fz (.lst (rs.map rwD)), .fz (.lst (ws.map wD)), x5, .un, .un, .un] = nxM [x0, x1, x2, .fz (.lst (rs.map rwD)), .fz (.lst ((abStep rs ws).map wD)), .un, .un, .un, .un] := by
  have hf := for_ext (tg := .nm 7) (body := b__law_all_built_1) (fun ys => [x0, x1, x2, .fz (.lst (rs.map rwD)), .fz (.lst (ws.map wD)), x5, .ow (.lst ys), .un, .un]) wD (fun wl => (addC rs wl).map wD) ws []
    (by rw [flatMap_mapW]; show 0 + ((abStep rs ws).map wD).length ≤ 16777216; rw [List.length_map]; omega)
    (fun ys wl hwl hy => ⟨_, rfl, ab1_ok x0 x1 x2 _ x5 rs hg ys wl (fun r hr => hg r ((h.w wl hwl).2 r hr)) (by rw [(h.w wl hwl).1]; omega) hy⟩)
  rw [flatMap_mapW, List.nil_append] at hf
  show sSeq (sOwn 6 (dLst [])) _ _ = _
  have h0 : ∀ t : DS, sSeq (sOwn 6 (dLst [])) t [x0, x1, x2, .fz (.lst (rs.map rwD)), .fz (.lst (ws.map wD)), x5, .un, .un, .un] = t [x0, x1, x2, .fz (.lst (rs.map rwD)), .fz (.lst (ws.map wD)), x5, .ow (.lst []), .un, .un] := fun t => rfl
  rw [h0]
  refine (for_M rfl hf).trans ?_
  rfl
theorem abStep_wls {rs : List Row} {ws : List Rows} {n : Nat} (h : Wls rs n ws) (hl : (abStep rs ws).length ≤ 100000) : Wls rs (n + 1) (abStep rs ws) := by
  refine ⟨hl, fun wl hwl => ?_⟩
  obtain ⟨w0, h0, h1⟩ := List.mem_flatMap.mp hwl
  unfold addC at h1
  obtain ⟨c, hc, e⟩ := List.mem_map.mp h1
  subst e
  obtain ⟨a, b⟩ := h.w w0 h0
  refine ⟨by rw [List.length_append, a]; rfl, fun r hr => ?_⟩
  rcases List.mem_append.mp hr with q | q
  · exact b r q
  · rw [List.mem_singleton.mp q]; exact (List.mem_filter.mp hc).1
def builtT (rs : List Row) : Nat → List Rows
  | 0 => [[]]
  | n + 1 => abStep rs (builtT rs n)
theorem builtT_wls {rs : List Row} : ∀ n, (∀ k ≤ n, (builtT rs k).length ≤ 100000) → Wls rs n (builtT rs n)
  | 0, _ => ⟨by simp [builtT], fun wl h => by rw [List.mem_singleton.mp h]; exact ⟨rfl, fun r hr => by cases hr⟩⟩
  | n + 1, h => abStep_wls (builtT_wls n fun k hk => h k (by omega)) (h (n + 1) (Nat.le_refl _))
theorem all_built_ok (w : Nat) (hw : w ≤ 1000) (S : List Int) (rs : List Row) (hc : cmpsO w S = some rs) (hg : ∀ r ∈ rs, Good r) (h : Nat) (hh : h ≤ 100) (hl : ∀ k ≤ h, (builtT rs k).length ≤ 100000) : g__law_all_built [.int (w : Nat), rwD S, .int (h : Nat)] = retM (.lst ((builtT rs h).map wD)) := by
  have hk := comps_ok w hw S rs hc
  have hpar : ∀ t : DS, sSeq (sPar [3, 4] [dCall g__law_comps [dV 0, dV 1], dLst [dTup []]]) t [.fz (.int (w : Nat)), .fz (rwD S), .fz (.int (h : Nat)), .un, .un, .un, .un, .un, .un] = t [.fz (.int (w : Nat)), .fz (rwD S), .fz (.int (h : Nat)), .fz (.lst (rs.map rwD)), .fz (.lst [wD []]), .un, .un, .un, .un] := fun t => by
    have e : dsN [dCall g__law_comps [dV 0, dV 1], dLst [dTup []]] [.fz (.int (w : Nat)), .fz (rwD S), .fz (.int (h : Nat)), .un, .un, .un, .un, .un, .un] = retM [.lst (rs.map rwD), .lst [wD []]] := dsN_cons (call_is rfl hk) rfl
    rw [sSeq_eq, sPar_eq, e]
    rfl
  have hfor : ∀ m k : Nat, k + m ≤ h → ∀ x5 : Sl, ∀ ms : List Nat, ms.length = m → forGo (.nm 5) b__law_all_built_2 (ms.map fun (k : Nat) => D.int (k : Int)) [.fz (.int (w : Nat)), .fz (rwD S), .fz (.int (h : Nat)), .fz (.lst (rs.map rwD)), .fz (.lst ((builtT rs k).map wD)), .un, .un, .un, .un] = nxM [.fz (.int (w : Nat)), .fz (rwD S), .fz (.int (h : Nat)), .fz (.lst (rs.map rwD)), .fz (.lst ((builtT rs (k + m)).map wD)), .un, .un, .un, .un] := by
    intro m
    induction m with
    | zero =>
      intro k _ _ ms hms
      cases ms with
      | nil => rfl
      | cons a b => cases hms
    | succ m ih =>
      intro k hk2 x5 ms hms
      cases ms with
      | nil => cases hms
      | cons a ms =>
        rw [List.map_cons, forGo_cons (tg := .nm 5) rfl (ab2_ok _ _ _ rs hg (builtT rs k) k (by omega) (builtT_wls k fun j hj => hl j (by omega)) (hl (k + 1) (by omega)) _)]
        have := ih (k + 1) (by omega) x5 ms (by simpa using hms)
        rw [show k + 1 + m = k + (m + 1) by omega] at this
        exact this
  have hf := hfor h 0 (by omega) .un (List.range h) (by simp)
  rw [Nat.zero_add] at hf
  refine def_M ((hpar _).trans ?_)
  refine (for_M (itR1_nat (n := h) rfl (by omega)) hf).trans ?_
  exact ret_M rfl
end DL
/-! EF: which stones fall. -/
namespace DL
set_option autoImplicit false
open PySem
/-! ### the least, the largest -/
theorem minD_ints : ∀ (xs : List Int) (x : Int), ∃ m, minD (.int x) (xs.map .int) = .int m ∧ m ∈ x :: xs ∧ ∀ y ∈ x :: xs, m ≤ y
  | [], x => ⟨x, rfl, List.mem_singleton.mpr rfl, fun y hy => by rw [List.mem_singleton.mp hy]; exact Int.le_refl _⟩
  | y :: ys, x => by
    rw [List.map_cons, minD, lt_int]
    by_cases q : y < x
    · have q1 : ltI y x = true := by simpa [ltI] using q
      rw [if_pos q1]
      obtain ⟨m, h1, h2, h3⟩ := minD_ints ys y
      refine ⟨m, h1, List.mem_cons_of_mem _ h2, fun z hz => ?_⟩
      rcases List.mem_cons.mp hz with e | e
      · have := h3 y List.mem_cons_self; omega
      · exact h3 z e
    · have q1 : ¬ ltI y x = true := by simpa [ltI] using q
      rw [if_neg q1]
      obtain ⟨m, h1, h2, h3⟩ := minD_ints ys x
      refine ⟨m, h1, ?_, fun z hz => ?_⟩
      · rcases List.mem_cons.mp h2 with e | e
        · rw [e]; exact List.mem_cons_self
        · exact List.mem_cons_of_mem _ (List.mem_cons_of_mem _ e)
      · rcases List.mem_cons.mp hz with e | e
        · rw [e]; exact h3 x List.mem_cons_self
        · rcases List.mem_cons.mp e with e | e
          · have := h3 x List.mem_cons_self; omega
          · exact h3 z (List.mem_cons_of_mem _ e)
theorem maxD_ints : ∀ (xs : List Int) (x : Int), ∃ m, maxD (.int x) (xs.map .int) = .int m ∧ m ∈ x :: xs ∧ ∀ y ∈ x :: xs, y ≤ m
  | [], x => ⟨x, rfl, List.mem_singleton.mpr rfl, fun y hy => by rw [List.mem_singleton.mp hy]; exact Int.le_refl _⟩
  | y :: ys, x => by
    rw [List.map_cons, maxD, lt_int]
    by_cases q : x < y
    · have q1 : ltI x y = true := by simpa [ltI] using q
      rw [if_pos q1]
      obtain ⟨m, h1, h2, h3⟩ := maxD_ints ys y
      refine ⟨m, h1, List.mem_cons_of_mem _ h2, fun z hz => ?_⟩
      rcases List.mem_cons.mp hz with e | e
      · have := h3 y List.mem_cons_self; omega
      · exact h3 z e
    · have q1 : ¬ ltI x y = true := by simpa [ltI] using q
      rw [if_neg q1]
      obtain ⟨m, h1, h2, h3⟩ := maxD_ints ys x
      refine ⟨m, h1, ?_, fun z hz => ?_⟩
      · rcases List.mem_cons.mp h2 with e | e
        · rw [e]; exact List.mem_cons_self
        · exact List.mem_cons_of_mem _ (List.mem_cons_of_mem _ e)
      · rcases List.mem_cons.mp hz with e | e
        · rw [e]; exact h3 x List.mem_cons_self
        · rcases List.mem_cons.mp e with e | e
          · have := h3 x List.mem_cons_self; omega
          · exact h3 z (List.mem_cons_of_mem _ e)
theorem min_ints {xs : List Int} (h : xs ≠ []) : ∃ m, pMin (.lst (xs.map .int)) = some (.int m) ∧ m ∈ xs ∧ ∀ y ∈ xs, m ≤ y := by
  cases xs with
  | nil => exact absurd rfl h
  | cons x xs =>
    obtain ⟨m, h1, h2, h3⟩ := minD_ints xs x
    refine ⟨m, ?_, h2, h3⟩
    have a1 := allAlike_map D.int alike_int (x :: xs)
    have a2 : D.plains 8 ((x :: xs).map .int) = true := plains_map D.int 8 (fun x _ => plain_int 8 x)
    rw [List.map_cons] at a1 a2 ⊢
    unfold pMin
    dsimp only
    rw [a1, a2, h1]
    rfl
theorem max_ints {xs : List Int} (h : xs ≠ []) : ∃ m, pMax (.lst (xs.map .int)) = some (.int m) ∧ m ∈ xs ∧ ∀ y ∈ xs, y ≤ m := by
  cases xs with
  | nil => exact absurd rfl h
  | cons x xs =>
    obtain ⟨m, h1, h2, h3⟩ := maxD_ints xs x
    refine ⟨m, ?_, h2, h3⟩
    have a1 := allAlike_map D.int alike_int (x :: xs)
    have a2 : D.plains 8 ((x :: xs).map .int) = true := plains_map D.int 8 (fun x _ => plain_int 8 x)
    rw [List.map_cons] at a1 a2 ⊢
    unfold pMax
    dsimp only
    rw [a1, a2, h1]
    rfl
/-! ### a dict whose keys are stones -/
abbrev gD (L : List St) : D := .dct (L.map sD) (L.map fun _ => .bl true)
theorem isTp_sD (s : St) : isTp (sD s) = true := by
  unfold isTp
  dsimp only
  rw [show (toNKs [D.int (s.1 : Nat), .int (s.2 : Nat)]).isSome = true from rfl, Bool.and_true]
  exact plain_sD 8 s
theorem keyOk_sD (s : St) (xs : List St) : keyOk (sD s) (xs.map sD) = true := by
  have h : ((xs.map sD).all isTp) = true := by
    rw [List.all_map, List.all_eq_true]
    exact fun x _ => isTp_sD x
  unfold keyOk
  rw [isTp_sD, h, Bool.true_and, Bool.or_true]
theorem hasK_sD (s : St) : ∀ xs : List St, hasK (sD s) (xs.map sD) = xs.contains s
  | [] => rfl
  | x :: xs => by
    unfold hasK
    rw [List.map_cons, List.any_cons, eqv_sD, List.contains_cons]
    have := hasK_sD s xs
    unfold hasK at this
    rw [this]
    congr 1
    exact BEq.comm
theorem pairsD_sD {β : Type} (f : β → D) (v : St → β) : ∀ xs : List St, pairsD (xs.map fun r => D.tup [sD r, f (v r)]) = some (xs.map fun r => (sD r, f (v r)))
  | [] => rfl
  | x :: xs => by rw [List.map_cons, pairsD, pairsD_sD f v xs]; rfl
theorem foldl_putS {β : Type} (f : β → D) (v : St → β) : ∀ (xs ys : List St), (ys ++ xs).Nodup → (xs.map fun r => (sD r, f (v r))).foldl putOne (ys.map sD, ys.map fun r => f (v r)) = ((ys ++ xs).map sD, (ys ++ xs).map fun r => f (v r))
  | [], ys, _ => by simp
  | x :: xs, ys, h => by
    have hx : ys.contains x = false := by
      rw [← Bool.not_eq_true, List.contains_iff_mem]
      intro hc
      rw [List.nodup_append] at h
      exact h.2.2 x hc x List.mem_cons_self rfl
    rw [List.map_cons, List.foldl_cons]
    have e : putOne (ys.map sD, ys.map fun r => f (v r)) (sD x, f (v x)) = ((ys ++ [x]).map sD, (ys ++ [x]).map fun r => f (v r)) := by
      unfold putOne putKs putVs
      dsimp only
      rw [hasK_sD, hx]
      simp
    rw [e, foldl_putS f v xs (ys ++ [x]) (by simpa using h)]
    simp
theorem pDict_sD {β : Type} (f : β → D) (v : St → β) (xs : List St) (h : xs.Nodup) : pDict (.lst (xs.map fun r => D.tup [sD r, f (v r)])) = some (.dct (xs.map sD) (xs.map fun r => f (v r))) := by
  unfold pDict
  dsimp only
  rw [pairsD_sD]
  dsimp only
  have : ((xs.map fun r => (sD r, f (v r))).all fun p => isTp p.1) = true := by
    rw [List.all_map, List.all_eq_true]
    exact fun r _ => isTp_sD r
  rw [this, Bool.true_or, if_pos rfl]
  have e := foldl_putS f v xs [] (by simpa using h)
  simp only [List.map_nil, List.nil_append] at e
  rw [e]
theorem pMul_two (m : Int) : pMul (.int 2) (.int m) = some (.int (2 * m)) := rfl
/-! ### what holds -/
/-- stones in the course below that are over .. -/
def bears (rows : Rows) (L : List St) (s : St) : List St := (sts rows).filter fun o => !L.contains o && over rows s o
def lowL (rows : Rows) (s : St) (xs : List St) : List Int := xs.map fun o => if s0 rows o > s0 rows s then s0 rows o else s0 rows s
def highL (rows : Rows) (s : St) (xs : List St) : List Int := xs.map fun o => if s1 rows o < s1 rows s then s1 rows o else s1 rows s
/-- the middle lies over what bears -/
def Borne (rows : Rows) (L : List St) (s : St) : Prop := s.1 = 0 ∨ ((∃ o ∈ bears rows L s, 2 * (if s0 rows o > s0 rows s then s0 rows o else s0 rows s) ≤ s0 rows s + s1 rows s) ∧ ∃ o ∈ bears rows L s, s0 rows s + s1 rows s ≤ 2 * (if s1 rows o < s1 rows s then s1 rows o else s1 rows s))
instance (rows : Rows) (L : List St) (s : St) : Decidable (Borne rows L s) := by unfold Borne; infer_instance
theorem pMax2_int' (a b : Int) : pMax2 (.int a) (.int b) = some (.int (if b > a then b else a)) := pMax2_int a b
theorem holds_ok (rows : Rows) (h : Fair rows) (L : List St) (s : St) (hs : s ∈ sts rows) : g_holds [wD rows, sD s, gD L] = retM (.bl (decide (Borne rows L s))) := by
  have e0 : pIdx (sD s) (.int 0) = some (.int (s.1 : Nat)) := rfl
  have kst := stones_ok rows h.few
  have c1 : d2 pEq (d2 pIdx (dV 1) (dC (.int 0))) (dC (.int 0)) [.fz (wD rows), .fz (sD s), .fz (gD L), .un, .un, .un, .un, .un, .un, .un] = retM (.bl ((s.1 : Int) == 0)) := d2_ret (d2_ret rfl rfl e0) rfl (pEq_int _ _)
  refine def_M ?_
  by_cases q0 : s.1 = 0
  · have : ((s.1 : Int) == 0) = true := by rw [q0]; rfl
    rw [this] at c1
    have hb : decide (Borne rows L s) = true := decide_eq_true (.inl q0)
    rw [hb]
    exact yes_M c1 (ret_M rfl)
  have q1 : ((s.1 : Int) == 0) = false := by rw [← Bool.not_eq_true, beq_iff_eq]; omega
  rw [q1] at c1
  refine (no_M c1).trans ?_
  have hsp := span_ok rows s hs
  have hun : ∀ t : DS, sSeq (sUnpack [3, 4] (dCall g_span_of [dV 0, dV 1])) t [.fz (wD rows), .fz (sD s), .fz (gD L), .un, .un, .un, .un, .un, .un, .un] = t [.fz (wD rows), .fz (sD s), .fz (gD L), .fz (.int (s0 rows s)), .fz (.int (s1 rows s)), .un, .un, .un, .un, .un] := fun t => by
    funext p
    exact seq_nx (unpack_nx (ok_of (call_is (xs := [wD rows, sD s]) rfl hsp) p) rfl)
  refine (hun _).trans ?_
  have hc : dCmp (itV (dCall g_stones_of [dV 0])) (.nm 8) (some (dAnd (d2 pNotInX (dV 8) (dV 2)) (dCall g_is_over [dV 0, dV 1, dV 8]))) (dCall g_span_of [dV 0, dV 8]) [8] [.fz (wD rows), .fz (sD s), .fz (gD L), .fz (.int (s0 rows s)), .fz (.int (s1 rows s)), .un, .un, .un, .un, .un] = retM (.lst ((bears rows L s).map fun o => D.tup [.int (s0 rows o), .int (s1 rows o)])) := by
    refine cmp_filE sD (fun o => !L.contains o && over rows s o) (fun o => D.tup [.int (s0 rows o), .int (s1 rows o)]) (xs := sts rows) ?_ (fun o ho => ?_) (fun o ho _ => ?_)
    · rw [itV_eq, call_is (xs := [wD rows]) rfl kst]
      rfl
    · refine and_ret (d2_ret rfl rfl ?_) fun _ => call_is (xs := [wD rows, sD s, sD o]) rfl (over_ok rows s o hs ho)
      show pNotInX (sD o) (gD L) = _
      unfold pNotInX
      dsimp only
      rw [if_pos (keyOk_sD o L), hasK_sD]
    · exact call_is (xs := [wD rows, sD o]) rfl (span_ok rows o ho)
  refine (set_M hc).trans ?_
  have hbm : ∀ o ∈ bears rows L s, o ∈ sts rows := fun o ho => (List.mem_filter.mp ho).1
  generalize hB : bears rows L s = B at hc hbm ⊢
  by_cases hne : B = []
  · subst hne
    have hb : decide (Borne rows L s) = false := by
      refine decide_eq_false ?_
      rintro (e | ⟨⟨o, ho, _⟩, _⟩)
      · exact q0 e
      · rw [hB] at ho; cases ho
    rw [hb]
    exact yes_M (d2_ret (x := .int 0) (y := .int 0) rfl rfl rfl) (ret_M rfl)
  have hl : (((B.length : Nat) : Int) == 0) = false := by
    rw [← Bool.not_eq_true, beq_iff_eq]
    intro e
    exact hne (List.length_eq_zero_iff.mp (by omega))
  refine (no_M ?_).trans ?_
  · refine d2_ret (x := .int (B.length : Nat)) (y := .int 0) ?_ rfl ?_
    · show dB (o1 pLen) [dV 5] [.fz (wD rows), .fz (sD s), .fz (gD L), .fz (.int (s0 rows s)), .fz (.int (s1 rows s)), .fz (.lst (B.map fun o => D.tup [.int (s0 rows o), .int (s1 rows o)])), .un, .un, .un, .un] = _
      rw [dB_eq, dsN_cons (x := .lst (B.map fun o => D.tup [.int (s0 rows o), .int (s1 rows o)])) rfl rfl, bindM_retM', o1_eq, pLen_lst, List.length_map]
      rfl
    · rw [pEq_int, hl]
  obtain ⟨m, m1, m2, m3⟩ := min_ints (xs := lowL rows s B) (by unfold lowL; simpa using hne)
  obtain ⟨n, n1, n2, n3⟩ := max_ints (xs := highL rows s B) (by unfold highL; simpa using hne)
  have s6 : dB (o1 pMin) [dCmp (itV (dV 5)) (.nm 9) none (dB (o2 pMax2) [dV 3, d2 pIdx (dV 9) (dC (.int 0))]) [9]] [.fz (wD rows), .fz (sD s), .fz (gD L), .fz (.int (s0 rows s)), .fz (.int (s1 rows s)), .fz (.lst (B.map fun o => D.tup [.int (s0 rows o), .int (s1 rows o)])), .un, .un, .un, .un] = retM (.int m) := by
    have e := cmp_mapE (i := 9) (vs := [9]) (it := itV (dV 5)) (e := dB (o2 pMax2) [dV 3, d2 pIdx (dV 9) (dC (.int 0))]) (ρ := [.fz (wD rows), .fz (sD s), .fz (gD L), .fz (.int (s0 rows s)), .fz (.int (s1 rows s)), .fz (.lst (B.map fun o => D.tup [.int (s0 rows o), .int (s1 rows o)])), .un, .un, .un, .un]) (fun o => D.tup [.int (s0 rows o), .int (s1 rows o)]) (fun o => D.int (if s0 rows o > s0 rows s then s0 rows o else s0 rows s)) (xs := B) rfl (fun o ho => by
      rw [dB_eq, dsN_cons (x := .int (s0 rows s)) rfl (dsN_cons (x := .int (s0 rows o)) (d2_ret rfl rfl rfl) rfl), bindM_retM', o2_eq, pMax2_int]
      rfl)
    rw [dB_eq, dsN_cons e rfl, bindM_retM', o1_eq]
    unfold lowL at m1
    rw [List.map_map] at m1
    have e2 : B.map (fun o => D.int (if s0 rows o > s0 rows s then s0 rows o else s0 rows s)) = B.map (D.int ∘ fun o => if s0 rows o > s0 rows s then s0 rows o else s0 rows s) := rfl
    rw [e2, m1]
    rfl
  have s7 : dB (o1 pMax) [dCmp (itV (dV 5)) (.nm 9) none (dB (o2 pMin2) [dV 4, d2 pIdx (dV 9) (dC (.int 1))]) [9]] [.fz (wD rows), .fz (sD s), .fz (gD L), .fz (.int (s0 rows s)), .fz (.int (s1 rows s)), .fz (.lst (B.map fun o => D.tup [.int (s0 rows o), .int (s1 rows o)])), .fz (.int m), .un, .un, .un] = retM (.int n) := by
    have e := cmp_mapE (i := 9) (vs := [9]) (it := itV (dV 5)) (e := dB (o2 pMin2) [dV 4, d2 pIdx (dV 9) (dC (.int 1))]) (ρ := [.fz (wD rows), .fz (sD s), .fz (gD L), .fz (.int (s0 rows s)), .fz (.int (s1 rows s)), .fz (.lst (B.map fun o => D.tup [.int (s0 rows o), .int (s1 rows o)])), .fz (.int m), .un, .un, .un]) (fun o => D.tup [.int (s0 rows o), .int (s1 rows o)]) (fun o => D.int (if s1 rows o < s1 rows s then s1 rows o else s1 rows s)) (xs := B) rfl (fun o ho => by
      rw [dB_eq, dsN_cons (x := .int (s1 rows s)) rfl (dsN_cons (x := .int (s1 rows o)) (d2_ret rfl rfl rfl) rfl), bindM_retM', o2_eq, pMin2_int]
      rfl)
    rw [dB_eq, dsN_cons e rfl, bindM_retM', o1_eq]
    unfold highL at n1
    rw [List.map_map] at n1
    have e2 : B.map (fun o => D.int (if s1 rows o < s1 rows s then s1 rows o else s1 rows s)) = B.map (D.int ∘ fun o => if s1 rows o < s1 rows s then s1 rows o else s1 rows s) := rfl
    rw [e2, n1]
    rfl
  refine (set_M s6).trans ((set_M s7).trans (ret_M ?_))
  have hfin : decide (Borne rows L s) = (decide (2 * m ≤ s0 rows s + s1 rows s) && decide (s0 rows s + s1 rows s ≤ 2 * n)) := by
    rw [Bool.eq_iff_iff, decide_eq_true_eq, Bool.and_eq_true, decide_eq_true_eq, decide_eq_true_eq]
    unfold Borne
    rw [hB]
    constructor
    · rintro (e | ⟨⟨o, ho, h1⟩, ⟨o2, ho2, h2⟩⟩)
      · exact absurd e q0
      · have a1 := m3 _ (List.mem_map.mpr ⟨o, ho, rfl⟩)
        have a2 := n3 _ (List.mem_map.mpr ⟨o2, ho2, rfl⟩)
        omega
    · rintro ⟨h1, h2⟩
      obtain ⟨o, ho, e1⟩ := List.mem_map.mp m2
      obtain ⟨o2, ho2, e2⟩ := List.mem_map.mp n2
      exact .inr ⟨⟨o, ho, by rw [e1]; exact h1⟩, ⟨o2, ho2, by rw [e2]; exact h2⟩⟩
  rw [hfin]
  have p1 : pMul (.int 2) (.int m) = some (.int (2 * m)) := pMul_two m
  have p2 : pMul (.int 2) (.int n) = some (.int (2 * n)) := pMul_two n
  simp [p1, p2]
/-! ### what falls -/
def fStep1 (rows : Rows) (st : List St × List St) (s : St) : List St × List St := if st.1.contains s || decide (Borne rows st.1 s) then st else (st.1 ++ [s], st.2 ++ [s])
def fallT (rows : Rows) (lost : List St) : List St × List St := (sts rows).foldl (fStep1 rows) (lost, [])
theorem fall1_ok (rows : Rows) (h : Fair rows) (x1 : Sl) (st : List St × List St) (h1 : st.1.length ≤ 2000000) (h2 : st.2.length ≤ 2000000) (s : St) (hs : s ∈ sts rows) :
    b_fallen_1 [.fz (wD rows), x1, .ow (gD st.1), .ow (.lst (st.2.map sD)), .fz (sD s)] = nxM [.fz (wD rows), x1, .ow (gD (fStep1 rows st s).1), .ow (.lst ((fStep1 rows st s).2.map sD)), .un] := by
  obtain ⟨L, f⟩ := st
  replace h1 : L.length ≤ 2000000 := h1
  replace h2 : f.length ≤ 2000000 := h2
  have hh := holds_ok rows h L s hs
  have c1 : (dAnd (d2 pNotInX (dV 4) (dO 2)) (dNot (dLend 2 (dCall g_holds [dV 0, dV 4, dV 2])))) [.fz (wD rows), x1, .ow (gD L), .ow (.lst (f.map sD)), .fz (sD s)] = retM (.bl (!L.contains s && !decide (Borne rows L s))) := by
    refine and_ret (d2_ret rfl rfl ?_) fun _ => not_ret ?_
    · show pNotInX (sD s) (gD L) = _
      unfold pNotInX
      dsimp only
      rw [if_pos (keyOk_sD s L), hasK_sD]
    · funext p
      unfold dLend
      show (match dCall g_holds [dV 0, dV 4, dV 2] [.fz (wD rows), x1, .fz (gD L), .ow (.lst (f.map sD)), .fz (sD s)] p with
        | .ok r p1 => if r.flat then Res.ok r p1 else .err
        | _ => .err) = _
      rw [call_is (xs := [wD rows, sD s, gD L]) rfl hh]
      rfl
  unfold fStep1
  dsimp only
  cases hb : (L.contains s || decide (Borne rows L s)) with
  | true =>
    have : (!L.contains s && !decide (Borne rows L s)) = false := by rw [← Bool.not_or, hb]; rfl
    rw [this] at c1
    rw [if_pos rfl]
    show sSeq (sIf _ _ sPass) _ _ = _
    exact (no_M c1).trans rfl
  | false =>
    have : (!L.contains s && !decide (Borne rows L s)) = true := by rw [← Bool.not_or, hb]; rfl
    rw [this] at c1
    have hx : L.contains s = false := by
      rw [Bool.or_eq_false_iff] at hb
      exact hb.1
    rw [if_neg (by decide)]
    have g2 := storeX_M (i := 2) (ix := dV 4) (f := dC (.bl true)) (ρ := [.fz (wD rows), x1, .ow (gD L), .ow (.lst (f.map sD)), .fz (sD s)]) (k := sD s) rfl rfl rfl (keyOk_sD s L) (by rw [List.length_map, lim_eq]; omega)
    have e1 : putKs (sD s) (L.map sD) = (L ++ [s]).map sD := by
      unfold putKs
      rw [hasK_sD, hx, if_neg (by decide), List.map_append]
      rfl
    have e2 : putVs (sD s) (D.bl true) (L.map sD) (L.map fun _ => D.bl true) = (L ++ [s]).map fun _ => D.bl true := by
      unfold putVs
      rw [hasK_sD, hx, if_neg (by decide), List.map_append]
      rfl
    rw [e1, e2] at g2
    have hin : (sSeq (sStoreX 2 (dV 4) (dC (.bl true))) (sSeq (sAppend 3 (dV 4)) (sPass))) [.fz (wD rows), x1, .ow (gD L), .ow (.lst (f.map sD)), .fz (sD s)] = nxM [.fz (wD rows), x1, .ow (gD (L ++ [s])), .ow (.lst ((f ++ [s]).map sD)), .fz (sD s)] := by
      rw [sSeq_eq, g2, seqM_nx]
      funext p
      refine (seq_nx (append_at (i := 3) (f := dV 4) (d := sD s) rfl rfl (by rw [List.length_map, lim_eq]; omega))).trans ?_
      have e3 : (f ++ [s]).map sD = f.map sD ++ [sD s] := by simp
      rw [e3]
      rfl
    show sSeq (sIf _ _ sPass) _ _ = _
    rw [sSeq_eq]
    have hif : sIf (dAnd (d2 pNotInX (dV 4) (dO 2)) (dNot (dLend 2 (dCall g_holds [dV 0, dV 4, dV 2])))) (sSeq (sStoreX 2 (dV 4) (dC (.bl true))) (sSeq (sAppend 3 (dV 4)) (sPass))) (sPass) [.fz (wD rows), x1, .ow (gD L), .ow (.lst (f.map sD)), .fz (sD s)] = nxM [.fz (wD rows), x1, .ow (gD (L ++ [s])), .ow (.lst ((f ++ [s]).map sD)), .fz (sD s)] := by
      funext p
      rw [if_ok (ok_of c1 p), if_pos rfl, hin]
    rw [hif, seqM_nx]
    rfl
theorem fall_len (rows : Rows) : ∀ (ss : List St) (st : List St × List St), (ss.foldl (fStep1 rows) st).1.length ≤ st.1.length + ss.length ∧ (ss.foldl (fStep1 rows) st).2.length ≤ st.2.length + ss.length
  | [], st => ⟨Nat.le_refl _, Nat.le_refl _⟩
  | s :: ss, st => by
    rw [List.foldl_cons, List.length_cons]
    have := fall_len rows ss (fStep1 rows st s)
    have h1 : (fStep1 rows st s).1.length ≤ st.1.length + 1 ∧ (fStep1 rows st s).2.length ≤ st.2.length + 1 := by
      unfold fStep1
      split
      · omega
      · simp
    omega
theorem fallen_ok (rows : Rows) (h : Fair rows) (lost : List St) (hn : lost.Nodup) (hl : lost.length ≤ 1000000) : g_fallen [wD rows, .tup (lost.map sD)] = retM (.tup ((fallT rows lost).2.map sD)) := by
  have kst := stones_ok rows h.few
  have hlen := sts_len h.few
  have hd : d1 pDict (dCmp (itV (dV 1)) (.nm 4) none (dTup [dV 4, dC (.bl true)]) [4]) [.fz (wD rows), .fz (.tup (lost.map sD)), .un, .un, .un] = retM (gD lost) := by
    have e := cmp_mapE (i := 4) (vs := [4]) (it := itV (dV 1)) (e := dTup [dV 4, dC (.bl true)]) (ρ := [.fz (wD rows), .fz (.tup (lost.map sD)), .un, .un, .un]) sD (fun r => D.tup [sD r, .bl true]) (xs := lost) rfl fun x _ => rfl
    rw [d1_eq, e, bindM_retM', pDict_sD D.bl (fun _ => true) lost hn]
    rfl
  have hloop : ∀ (ss : List St) (st : List St × List St), (∀ s ∈ ss, s ∈ sts rows) → st.1.length + ss.length ≤ 2000000 → st.2.length + ss.length ≤ 2000000 → forGo (.nm 4) b_fallen_1 (ss.map sD) [.fz (wD rows), .fz (.tup (lost.map sD)), .ow (gD st.1), .ow (.lst (st.2.map sD)), .un] = nxM [.fz (wD rows), .fz (.tup (lost.map sD)), .ow (gD (ss.foldl (fStep1 rows) st).1), .ow (.lst ((ss.foldl (fStep1 rows) st).2.map sD)), .un] := by
    intro ss
    induction ss with
    | nil => intro st _ _ _; rfl
    | cons s ss ih =>
      intro st hm h1 h2
      rw [List.length_cons] at h1 h2
      rw [List.map_cons, forGo_cons (tg := .nm 4) rfl (fall1_ok rows h _ st (by omega) (by omega) s (hm s List.mem_cons_self)), List.foldl_cons]
      have hh : (fStep1 rows st s).1.length ≤ st.1.length + 1 ∧ (fStep1 rows st s).2.length ≤ st.2.length + 1 := by
        unfold fStep1
        split
        · omega
        · simp
      exact ih _ (fun x hx => hm x (List.mem_cons_of_mem _ hx)) (by omega) (by omega)
  have hf := hloop (sts rows) (lost, []) (fun _ h => h) (by show lost.length + _ ≤ _; omega) (by show 0 + _ ≤ _; omega)
  refine def_M ?_
  have h0 : ∀ t : DS, sSeq (sOwn 2 (d1 pDict (dCmp (itV (dV 1)) (.nm 4) none (dTup [dV 4, dC (.bl true)]) [4]))) t [.fz (wD rows), .fz (.tup (lost.map sD)), .un, .un, .un] = t [.fz (wD rows), .fz (.tup (lost.map sD)), .ow (gD lost), .un, .un] := fun t => by
    rw [sSeq_eq]
    show seqM (bindS (d1 _ _ _) _ _) t = _
    rw [hd]
    rfl
  refine (h0 _).trans ?_
  have h1 : ∀ t : DS, sSeq (sOwn 3 (dLst [])) t [.fz (wD rows), .fz (.tup (lost.map sD)), .ow (gD lost), .un, .un] = t [.fz (wD rows), .fz (.tup (lost.map sD)), .ow (gD lost), .ow (.lst []), .un] := fun t => rfl
  refine (h1 _).trans ?_
  refine (for_M (xs := (sts rows).map sD) ?_ hf).trans ?_
  · rw [itV_eq, call_is (xs := [wD rows]) rfl kst]
    rfl
  · refine ret_M ?_
    show dB (o1 pTuple) [dO 3] [.fz (wD rows), .fz (.tup (lost.map sD)), .ow (gD (fallT rows lost).1), .ow (.lst ((fallT rows lost).2.map sD)), .un] = _
    rw [dB_eq, dsN_cons (x := .lst ((fallT rows lost).2.map sD)) rfl rfl, bindM_retM', o1_eq, pTuple_lst]
    rfl
end DL
/-! EG: which stones fall, as the law says it. -/
namespace DL
set_option autoImplicit false
open PySem
/-! ### the stones' order -/
def stLt (a b : St) : Prop := a.1 < b.1 ∨ (a.1 = b.1 ∧ a.2 < b.2)
theorem zipIdx_pw : ∀ (rows : Rows) (n : Nat), (rows.zipIdx n).Pairwise (fun p q => p.2 < q.2) ∧ ∀ p ∈ rows.zipIdx n, n ≤ p.2
  | [], n => ⟨List.Pairwise.nil, fun p hp => by cases hp⟩
  | r :: rows, n => by
    obtain ⟨h1, h2⟩ := zipIdx_pw rows (n + 1)
    rw [List.zipIdx_cons]
    refine ⟨List.pairwise_cons.mpr ⟨fun q hq => by have := h2 q hq; show n < q.2; omega, h1⟩, fun p hp => ?_⟩
    rcases List.mem_cons.mp hp with e | e
    · rw [e]; exact Nat.le_refl _
    · have := h2 p e; omega
theorem sts_pw (rows : Rows) : (sts rows).Pairwise stLt := by
  unfold sts
  rw [List.pairwise_flatMap]
  refine ⟨fun p hp => ?_, (zipIdx_pw rows 0).1.imp fun {p q} h x hx y hy => ?_⟩
  · unfold rowSts
    rw [List.pairwise_map]
    exact List.pairwise_lt_range.imp fun {a b} h => .inr ⟨rfl, h⟩
  · unfold rowSts at hx hy
    obtain ⟨a, _, e1⟩ := List.mem_map.mp hx
    obtain ⟨b, _, e2⟩ := List.mem_map.mp hy
    subst e1 e2
    exact .inl h
theorem stLt_ne {a b : St} (h : stLt a b) : a ≠ b := fun e => by
  subst e
  rcases h with h | ⟨_, h⟩ <;> omega
theorem sts_nodup (rows : Rows) : (sts rows).Nodup := (sts_pw rows).imp fun h => stLt_ne h
/-! ### cells -/
theorem cells_len {rows : Rows} (h : Fair rows) {s : St} (hs : s ∈ sts rows) : (cellsT rows s).length ≤ 100 := by
  obtain ⟨_, _, b3, b4⟩ := h.at hs
  unfold cellsT
  rw [List.length_map, List.length_range]
  omega
theorem cells_at {rows : Rows} (h : Fair rows) {s : St} (hs : s ∈ sts rows) : pIdx (.lst ((cellsT rows s).map .int)) (.int 0) = some (.int (s0 rows s)) ∧ pIdx (.lst ((cellsT rows s).map .int)) (.int (-1)) = some (.int (s1 rows s - 1)) := by
  obtain ⟨_, _, b3, b4⟩ := h.at hs
  have hl : (cellsT rows s).length = ((rows.getD s.1 []).getD s.2 0).toNat := by
    unfold cellsT
    rw [List.length_map, List.length_range]
  constructor
  · have := pIdx_lstf D.int 0 (xs := cellsT rows s) (k := 0) (by omega)
    rw [show ((0 : Nat) : Int) = 0 from rfl] at this
    rw [this]
    unfold cellsT
    rw [List.getD_eq_getElem?_getD, List.getElem?_map, List.getElem?_range (by omega)]
    simp
  · have h0 : ¬ (0 : Int) ≤ -1 := by decide
    have h1 : (0 : Int) ≤ -1 + (((cellsT rows s).map D.int).length : Nat) := by rw [List.length_map]; omega
    have e : (-1 + (((cellsT rows s).map D.int).length : Nat) : Int).toNat = (cellsT rows s).length - 1 := by rw [List.length_map]; omega
    unfold pIdx
    dsimp only
    rw [if_neg h0, if_pos h1, e, getD_map D.int 0 (cellsT rows s) _ (by omega)]
    unfold cellsT s1
    rw [List.getD_eq_getElem?_getD (l := (List.range _).map _), List.length_map, List.length_range, List.getElem?_map, List.getElem?_range (by omega), Option.map_some, Option.getD_some]
    congr 2
    omega
/-! ### what bears, by cells -/
def hPart (rows : Rows) (L : List St) (s o : St) : List Int := if !L.contains o && ((o.1 : Int) == (s.1 : Int) - 1) then (cellsT rows o).filter fun c => (cellsT rows s).contains c else []
def heldT (rows : Rows) (L : List St) (s : St) : List Int := (sts rows).flatMap (hPart rows L s)
theorem mem_held {rows : Rows} (h : Fair rows) {L : List St} {s : St} (hs : s ∈ sts rows) {c : Int} : c ∈ heldT rows L s ↔ ∃ o ∈ bears rows L s, (s0 rows o ≤ c ∧ c < s1 rows o) ∧ s0 rows s ≤ c ∧ c < s1 rows s := by
  unfold heldT bears
  rw [List.mem_flatMap]
  constructor
  · rintro ⟨o, ho, hc⟩
    unfold hPart at hc
    split at hc
    · rename_i q
      rw [Bool.and_eq_true, beq_iff_eq] at q
      obtain ⟨a, b⟩ := List.mem_filter.mp hc
      have a' := (mem_cells h ho).mp a
      have b' := (mem_cells h hs).mp (List.contains_iff_mem.mp b)
      refine ⟨o, List.mem_filter.mpr ⟨ho, ?_⟩, a', b'⟩
      unfold over
      rw [Bool.and_eq_true, Bool.and_eq_true, Bool.and_eq_true, decide_eq_true_eq, decide_eq_true_eq, decide_eq_true_eq]
      exact ⟨q.1, by omega, by omega, by omega⟩
    · cases hc
  · rintro ⟨o, ho, a, b⟩
    obtain ⟨ho, q⟩ := List.mem_filter.mp ho
    unfold over at q
    rw [Bool.and_eq_true, Bool.and_eq_true, Bool.and_eq_true, decide_eq_true_eq, decide_eq_true_eq, decide_eq_true_eq] at q
    refine ⟨o, ho, ?_⟩
    unfold hPart
    rw [if_pos (by rw [Bool.and_eq_true, beq_iff_eq]; exact ⟨q.1, by omega⟩), List.mem_filter, List.contains_iff_mem, mem_cells h ho, mem_cells h hs]
    exact ⟨a, b⟩
theorem held_borne {rows : Rows} (h : Fair rows) {L : List St} {s : St} (hs : s ∈ sts rows) (h0 : s.1 ≠ 0) {m n : Int} (m2 : m ∈ heldT rows L s) (m3 : ∀ y ∈ heldT rows L s, m ≤ y) (n2 : n ∈ heldT rows L s) (n3 : ∀ y ∈ heldT rows L s, y ≤ n) : Borne rows L s ↔ 2 * m ≤ s0 rows s + s1 rows s ∧ s0 rows s + s1 rows s ≤ 2 * (n + 1) := by
  unfold Borne
  constructor
  · rintro (e | ⟨⟨o, ho, a⟩, ⟨o2, ho2, b⟩⟩)
    · exact absurd e h0
    · have k : ∀ o ∈ bears rows L s, s0 rows o < s1 rows s ∧ s0 rows s < s1 rows o ∧ s0 rows o < s1 rows o ∧ s0 rows s < s1 rows s := fun o ho => by
        obtain ⟨ho, q⟩ := List.mem_filter.mp ho
        unfold over at q
        rw [Bool.and_eq_true, Bool.and_eq_true, Bool.and_eq_true, decide_eq_true_eq, decide_eq_true_eq, decide_eq_true_eq] at q
        have x1 := h.at ho
        have x2 := h.at hs
        have y1 : s1 rows o = s0 rows o + (rows.getD o.1 []).getD o.2 0 := rfl
        have y2 : s1 rows s = s0 rows s + (rows.getD s.1 []).getD s.2 0 := rfl
        omega
      have k1 := k o ho
      have k2 := k o2 ho2
      have a1 := m3 _ ((mem_held h hs).mpr ⟨o, ho, (⟨by split <;> omega, by split <;> omega⟩ : s0 rows o ≤ (if s0 rows o > s0 rows s then s0 rows o else s0 rows s) ∧ _), by split <;> omega, by split <;> omega⟩)
      have a2 := n3 _ ((mem_held h hs).mpr ⟨o2, ho2, (⟨by split <;> omega, by split <;> omega⟩ : s0 rows o2 ≤ (if s1 rows o2 < s1 rows s then s1 rows o2 else s1 rows s) - 1 ∧ _), by split <;> omega, by split <;> omega⟩)
      omega
  · rintro ⟨a, b⟩
    obtain ⟨o, ho, c1, c2⟩ := (mem_held h hs).mp m2
    obtain ⟨o2, ho2, d1, d2⟩ := (mem_held h hs).mp n2
    exact .inr ⟨⟨o, ho, by split <;> omega⟩, ⟨o2, ho2, by split <;> omega⟩⟩
theorem held_none {rows : Rows} (h : Fair rows) {L : List St} {s : St} (hs : s ∈ sts rows) (h0 : s.1 ≠ 0) (e : heldT rows L s = []) : ¬ Borne rows L s := by
  rintro (q | ⟨⟨o, ho, _⟩, _⟩)
  · exact h0 q
  · have hc := (mem_held (c := if s0 rows o > s0 rows s then s0 rows o else s0 rows s) h hs (L := L)).mpr ⟨o, ho, by
      obtain ⟨ho, q⟩ := List.mem_filter.mp ho
      unfold over at q
      rw [Bool.and_eq_true, Bool.and_eq_true, Bool.and_eq_true, decide_eq_true_eq, decide_eq_true_eq, decide_eq_true_eq] at q
      have x1 := h.at ho
      have x2 := h.at hs
      have y1 : s1 rows o = s0 rows o + (rows.getD o.1 []).getD o.2 0 := rfl
      have y2 : s1 rows s = s0 rows s + (rows.getD s.1 []).getD s.2 0 := rfl
      split <;> omega⟩
    rw [e] at hc
    cases hc
/-! ### the law's fall -/
theorem hPart_len {rows : Rows} (h : Fair rows) (L : List St) (s : St) {o : St} (ho : o ∈ sts rows) : (hPart rows L s o).length ≤ 100 := by
  unfold hPart
  split
  · exact Nat.le_trans (List.length_filter_le _ _) (cells_len h ho)
  · exact Nat.zero_le _
theorem lf1_ok (rows : Rows) (h : Fair rows) (x1 x7 : Sl) (L : List St) (s : St) (hs : s ∈ sts rows) (hd : List Int) (o : St) (ho : o ∈ sts rows) (hl : hd.length + (hPart rows L s o).length ≤ lim) :
    b__law_falls_1 [.fz (wD rows), x1, .ow (.lst (L.map sD)), .fz (sD s), .fz (.lst ((cellsT rows s).map .int)), .fz (.lst (hd.map .int)), .fz (sD o), x7, .un] = nxM [.fz (wD rows), x1, .ow (.lst (L.map sD)), .fz (sD s), .fz (.lst ((cellsT rows s).map .int)), .fz (.lst ((hd ++ hPart rows L s o).map .int)), .un, x7, .un] := by
  have e0 : ∀ z : St, pIdx (sD z) (.int 0) = some (.int (z.1 : Nat)) := fun _ => rfl
  have c1 : (dAnd (d2 pNotIn (dV 6) (dO 2)) (d2 pEq (d2 pIdx (dV 6) (dC (.int 0))) (d2 pSub (d2 pIdx (dV 3) (dC (.int 0))) (dC (.int 1))))) [.fz (wD rows), x1, .ow (.lst (L.map sD)), .fz (sD s), .fz (.lst ((cellsT rows s).map .int)), .fz (.lst (hd.map .int)), .fz (sD o), x7, .un] = retM (.bl (!L.contains o && ((o.1 : Int) == (s.1 : Int) - 1))) :=
    and_ret (d2_ret rfl rfl (pNotIn_st_lst o L)) fun _ => d2_ret (d2_ret rfl rfl (e0 o)) (d2_ret (d2_ret rfl rfl (e0 s)) rfl rfl) (pEq_int _ _)
  unfold hPart at hl ⊢
  cases q : (!L.contains o && ((o.1 : Int) == (s.1 : Int) - 1)) with
  | false =>
    rw [q] at c1
    rw [if_neg (by decide), List.append_nil]
    show sSeq (sIf _ _ sPass) _ _ = _
    exact (no_M c1).trans rfl
  | true =>
    rw [q] at c1 hl
    rw [if_pos rfl] at hl ⊢
    have kc := cells_ok rows h o ho
    have hc : dCmp (itV (dCall g__law_cells [dV 0, dV 6])) (.nm 8) (some (d2 pIn (dV 8) (dV 4))) (dV 8) [8] [.fz (wD rows), x1, .ow (.lst (L.map sD)), .fz (sD s), .fz (.lst ((cellsT rows s).map .int)), .fz (.lst (hd.map .int)), .fz (sD o), x7, .un] = retM (.lst (((cellsT rows o).filter fun c => (cellsT rows s).contains c).map .int)) := by
      have e : itV (dCall g__law_cells [dV 0, dV 6]) [.fz (wD rows), x1, .ow (.lst (L.map sD)), .fz (sD s), .fz (.lst ((cellsT rows s).map .int)), .fz (.lst (hd.map .int)), .fz (sD o), x7, .un] = retM ((cellsT rows o).map .int) := by
        rw [itV_eq, call_is (xs := [wD rows, sD o]) rfl kc]
        rfl
      exact cmp_filT D.int _ e (fun _ => rfl) fun c _ => d2_ret rfl rfl (pIn_int_lst _ _)
    have ha : pAdd (.lst (hd.map .int)) (.lst (((cellsT rows o).filter fun c => (cellsT rows s).contains c).map .int)) = some (.lst ((hd ++ (cellsT rows o).filter fun c => (cellsT rows s).contains c).map .int)) := by
      unfold pAdd
      dsimp only
      rw [if_pos (by rw [List.length_map, List.length_map]; exact hl), List.map_append]
    show sSeq (sIf _ _ sPass) _ _ = _
    rw [sSeq_eq]
    have hin : sSeq (sSet 5 (d2 pAdd (dV 5) (dCmp (itV (dCall g__law_cells [dV 0, dV 6])) (.nm 8) (some (d2 pIn (dV 8) (dV 4))) (dV 8) [8]))) sPass [.fz (wD rows), x1, .ow (.lst (L.map sD)), .fz (sD s), .fz (.lst ((cellsT rows s).map .int)), .fz (.lst (hd.map .int)), .fz (sD o), x7, .un] = nxM [.fz (wD rows), x1, .ow (.lst (L.map sD)), .fz (sD s), .fz (.lst ((cellsT rows s).map .int)), .fz (.lst ((hd ++ (cellsT rows o).filter fun c => (cellsT rows s).contains c).map .int)), .fz (sD o), x7, .un] := (set_M (d2_ret rfl hc ha)).trans rfl
    have hif : sIf (dAnd (d2 pNotIn (dV 6) (dO 2)) (d2 pEq (d2 pIdx (dV 6) (dC (.int 0))) (d2 pSub (d2 pIdx (dV 3) (dC (.int 0))) (dC (.int 1))))) (sSeq (sSet 5 (d2 pAdd (dV 5) (dCmp (itV (dCall g__law_cells [dV 0, dV 6])) (.nm 8) (some (d2 pIn (dV 8) (dV 4))) (dV 8) [8]))) sPass) sPass [.fz (wD rows), x1, .ow (.lst (L.map sD)), .fz (sD s), .fz (.lst ((cellsT rows s).map .int)), .fz (.lst (hd.map .int)), .fz (sD o), x7, .un] = nxM [.fz (wD rows), x1, .ow (.lst (L.map sD)), .fz (sD s), .fz (.lst ((cellsT rows s).map .int)), .fz (.lst ((hd ++ (cellsT rows o).filter fun c => (cellsT rows s).contains c).map .int)), .fz (sD o), x7, .un] := by
      funext p
      rw [if_ok (ok_of c1 p), if_pos rfl, hin]
    rw [hif, seqM_nx]
    rfl
theorem lf1_loop (rows : Rows) (h : Fair rows) (x1 x7 : Sl) (L : List St) (s : St) (hs : s ∈ sts rows) : ∀ (os : List St) (hd : List Int), (∀ o ∈ os, o ∈ sts rows) → hd.length + 100 * os.length ≤ lim →
    forGo (.nm 6) b__law_falls_1 (os.map sD) [.fz (wD rows), x1, .ow (.lst (L.map sD)), .fz (sD s), .fz (.lst ((cellsT rows s).map .int)), .fz (.lst (hd.map .int)), .un, x7, .un] = nxM [.fz (wD rows), x1, .ow (.lst (L.map sD)), .fz (sD s), .fz (.lst ((cellsT rows s).map .int)), .fz (.lst ((hd ++ os.flatMap (hPart rows L s)).map .int)), .un, x7, .un]
  | [], hd, _, _ => by rw [List.flatMap_nil, List.append_nil]; rfl
  | o :: os, hd, hm, hl => by
    rw [List.length_cons] at hl
    have h1 := hPart_len h L s (hm o List.mem_cons_self)
    rw [List.map_cons, forGo_cons (tg := .nm 6) rfl (lf1_ok rows h x1 x7 L s hs hd o (hm o List.mem_cons_self) (by omega)), lf1_loop rows h x1 x7 L s hs os _ (fun x hx => hm x (List.mem_cons_of_mem _ hx)) (by rw [List.length_append]; omega), List.flatMap_cons, List.append_assoc]
def lfStep (rows : Rows) (L : List St) (s : St) : List St := if L.contains s || decide (Borne rows L s) then L else L ++ [s]
theorem lf2_ok (rows : Rows) (h : Fair rows) (hz : (sts rows).length ≤ 100000) (x1 x4 x5 x7 : Sl) (L : List St) (hL : L.length ≤ 2000000) (s : St) (hs : s ∈ sts rows) :
    b__law_falls_2 [.fz (wD rows), x1, .ow (.lst (L.map sD)), .fz (sD s), x4, x5, .un, x7, .un] = nxM [.fz (wD rows), x1, .ow (.lst ((lfStep rows L s).map sD)), .un, .un, .un, .un, .un, .un] := by
  have e0 : ∀ z : St, pIdx (sD z) (.int 0) = some (.int (z.1 : Nat)) := fun _ => rfl
  have c1 : (dAnd (d2 pNotIn (dV 3) (dO 2)) (d2 pGt (d2 pIdx (dV 3) (dC (.int 0))) (dC (.int 0)))) [.fz (wD rows), x1, .ow (.lst (L.map sD)), .fz (sD s), x4, x5, .un, x7, .un] = retM (.bl (!L.contains s && decide ((0 : Int) < (s.1 : Int)))) :=
    and_ret (d2_ret rfl rfl (pNotIn_st_lst s L)) fun _ => d2_ret (d2_ret rfl rfl (e0 s)) rfl (pGt_int _ _)
  show sSeq (sIf _ _ sPass) _ _ = _
  unfold lfStep
  cases q : (!L.contains s && decide ((0 : Int) < (s.1 : Int))) with
  | false =>
    rw [q] at c1
    have : (L.contains s || decide (Borne rows L s)) = true := by
      cases q1 : L.contains s with
      | true => rfl
      | false =>
        rw [q1] at q
        have h0 : s.1 = 0 := by
          have : ¬ (0 : Int) < (s.1 : Int) := by simpa using q
          omega
        rw [Bool.false_or, decide_eq_true_eq]
        exact .inl h0
    rw [if_pos this]
    exact (no_M c1).trans rfl
  | true =>
    rw [q] at c1
    obtain ⟨qc, q0⟩ := Bool.and_eq_true_iff.mp q
    have hc0 : L.contains s = false := by simpa using qc
    have h0 : s.1 ≠ 0 := by
      have : (0 : Int) < (s.1 : Int) := of_decide_eq_true q0
      omega
    have kst := lstones_ok rows h.few
    have kc := cells_ok rows h s hs
    obtain ⟨i1, i2⟩ := cells_at h hs
    have hheld : (heldT rows L s).length ≤ 10000000 := by
      have : ∀ os : List St, (∀ o ∈ os, o ∈ sts rows) → (os.flatMap (hPart rows L s)).length ≤ 100 * os.length := by
        intro os
        induction os with
        | nil => intro _; simp
        | cons o os ih =>
          intro hm
          have h1 := hPart_len h L s (hm o List.mem_cons_self)
          have h2 := ih fun x hx => hm x (List.mem_cons_of_mem _ hx)
          rw [List.flatMap_cons, List.length_append, List.length_cons]
          omega
      have := this (sts rows) fun _ h => h
      unfold heldT
      omega
    have hf := lf1_loop rows h x1 x7 L s hs (sts rows) [] (fun _ h => h) (by rw [lim_eq]; show 0 + _ ≤ _; omega)
    rw [List.nil_append] at hf
    -- the block
    have hblk : ∀ d : List St, d = (if L.contains s || decide (Borne rows L s) then L else L ++ [s]) → ∃ x5', (sSeq (sUnpack [4, 5] (dTup [dCall g__law_cells [dV 0, dV 3], dLst []])) (sSeq (sSeq (sFor (itV (dCall g__law_stones [dV 0])) (.nm 6) (b__law_falls_1)) (sKill [6])) (sSeq (sSet 7 (d2 pAdd (d2 pAdd (d2 pIdx (dV 4) (dC (.int 0))) (d2 pIdx (dV 4) (d1 pNeg (dC (.int 1))))) (dC (.int 1)))) (sSeq (sIf (dOr (d2 pEq (dV 5) (dLst [])) (dNot (dChain pLe pLe (d2 pMul (dC (.int 2)) (dB (o1 pMin) [dV 5])) (dV 7) (d2 pMul (dC (.int 2)) (d2 pAdd (dB (o1 pMax) [dV 5]) (dC (.int 1))))))) (sSeq (sAppend 2 (dV 3)) (sPass)) (sPass)) (sPass))))) [.fz (wD rows), x1, .ow (.lst (L.map sD)), .fz (sD s), x4, x5, .un, x7, .un] = nxM [.fz (wD rows), x1, .ow (.lst (d.map sD)), .fz (sD s), .fz (.lst ((cellsT rows s).map .int)), x5', .un, .fz (.int (s0 rows s + s1 rows s)), .un] := by
      intro d hd
      refine ⟨.fz (.lst ((heldT rows L s).map .int)), ?_⟩
      have hun : ∀ t : DS, sSeq (sUnpack [4, 5] (dTup [dCall g__law_cells [dV 0, dV 3], dLst []])) t [.fz (wD rows), x1, .ow (.lst (L.map sD)), .fz (sD s), x4, x5, .un, x7, .un] = t [.fz (wD rows), x1, .ow (.lst (L.map sD)), .fz (sD s), .fz (.lst ((cellsT rows s).map .int)), .fz (.lst []), .un, x7, .un] := fun t => by
        funext p
        have e : dTup [dCall g__law_cells [dV 0, dV 3], dLst []] [.fz (wD rows), x1, .ow (.lst (L.map sD)), .fz (sD s), x4, x5, .un, x7, .un] = retM (.tup [.lst ((cellsT rows s).map .int), .lst []]) := dTup_ret (dsN_cons (call_is (xs := [wD rows, sD s]) rfl kc) rfl)
        exact seq_nx (unpack_nx (ok_of e p) rfl)
      refine (hun _).trans ?_
      refine (for_M (xs := (sts rows).map sD) ?_ hf).trans ?_
      · rw [itV_eq, call_is (xs := [wD rows]) rfl kst]
        rfl
      have s7 : d2 pAdd (d2 pAdd (d2 pIdx (dV 4) (dC (.int 0))) (d2 pIdx (dV 4) (d1 pNeg (dC (.int 1))))) (dC (.int 1)) (wipes [6] [.fz (wD rows), x1, .ow (.lst (L.map sD)), .fz (sD s), .fz (.lst ((cellsT rows s).map .int)), .fz (.lst ((heldT rows L s).map .int)), .un, x7, .un]) = retM (.int (s0 rows s + s1 rows s)) := by
        refine d2_ret (d2_ret (d2_ret rfl rfl i1) (d2_ret rfl rfl i2) (pAdd_int _ _)) rfl ?_
        rw [pAdd_int]
        congr 2
        omega
      refine (set_M s7).trans ?_
      have cc : (dOr (d2 pEq (dV 5) (dLst [])) (dNot (dChain pLe pLe (d2 pMul (dC (.int 2)) (dB (o1 pMin) [dV 5])) (dV 7) (d2 pMul (dC (.int 2)) (d2 pAdd (dB (o1 pMax) [dV 5]) (dC (.int 1))))))) [.fz (wD rows), x1, .ow (.lst (L.map sD)), .fz (sD s), .fz (.lst ((cellsT rows s).map .int)), .fz (.lst ((heldT rows L s).map .int)), .un, .fz (.int (s0 rows s + s1 rows s)), .un] = retM (.bl (!decide (Borne rows L s))) := by
        by_cases hn : heldT rows L s = []
        · have hb : decide (Borne rows L s) = false := decide_eq_false (held_none h hs h0 hn)
          rw [hb, hn]
          exact or_ret (a := true) (b := true) (d2_ret (x := .lst []) (y := .lst []) rfl rfl rfl) fun h => by cases h
        · obtain ⟨m, m1, m2, m3⟩ := min_ints hn
          obtain ⟨n, n1, n2, n3⟩ := max_ints hn
          have hb := held_borne h hs h0 m2 m3 n2 n3
          have e1 : d2 pEq (dV 5) (dLst []) [.fz (wD rows), x1, .ow (.lst (L.map sD)), .fz (sD s), .fz (.lst ((cellsT rows s).map .int)), .fz (.lst ((heldT rows L s).map .int)), .un, .fz (.int (s0 rows s + s1 rows s)), .un] = retM (.bl false) := by
            refine d2_ret rfl rfl ?_
            rw [pEq_lnil (plains_map D.int 8 fun x _ => plain_int 8 x), List.isEmpty_map]
            cases q : heldT rows L s with
            | nil => exact absurd q hn
            | cons a b => rfl
          have p1 : pMul (.int 2) (.int m) = some (.int (2 * m)) := pMul_two m
          have p2 : pMul (.int 2) (.int (n + 1)) = some (.int (2 * (n + 1))) := pMul_two (n + 1)
          have hdb : decide (Borne rows L s) = (decide (2 * m ≤ s0 rows s + s1 rows s) && decide (s0 rows s + s1 rows s ≤ 2 * (n + 1))) := by
            rw [Bool.eq_iff_iff, decide_eq_true_eq, hb, Bool.and_eq_true, decide_eq_true_eq, decide_eq_true_eq]
          have e2 : (dChain pLe pLe (d2 pMul (dC (.int 2)) (dB (o1 pMin) [dV 5])) (dV 7) (d2 pMul (dC (.int 2)) (d2 pAdd (dB (o1 pMax) [dV 5]) (dC (.int 1))))) [.fz (wD rows), x1, .ow (.lst (L.map sD)), .fz (sD s), .fz (.lst ((cellsT rows s).map .int)), .fz (.lst ((heldT rows L s).map .int)), .un, .fz (.int (s0 rows s + s1 rows s)), .un] = retM (.bl (decide (Borne rows L s))) := by
            rw [hdb]
            simp [m1, n1, p1, p2]
          have := or_ret (a := false) (b := !decide (Borne rows L s)) e1 fun _ => not_ret e2
          rw [this, Bool.false_or]
      have hfin : ∀ b : Bool, b = !decide (Borne rows L s) → sIf (dOr (d2 pEq (dV 5) (dLst [])) (dNot (dChain pLe pLe (d2 pMul (dC (.int 2)) (dB (o1 pMin) [dV 5])) (dV 7) (d2 pMul (dC (.int 2)) (d2 pAdd (dB (o1 pMax) [dV 5]) (dC (.int 1))))))) (sSeq (sAppend 2 (dV 3)) (sPass)) (sPass) [.fz (wD rows), x1, .ow (.lst (L.map sD)), .fz (sD s), .fz (.lst ((cellsT rows s).map .int)), .fz (.lst ((heldT rows L s).map .int)), .un, .fz (.int (s0 rows s + s1 rows s)), .un] = nxM [.fz (wD rows), x1, .ow (.lst (d.map sD)), .fz (sD s), .fz (.lst ((cellsT rows s).map .int)), .fz (.lst ((heldT rows L s).map .int)), .un, .fz (.int (s0 rows s + s1 rows s)), .un] := by
        intro b hb
        rw [← hb] at cc
        rw [hc0, Bool.false_or] at hd
        funext p
        rw [if_ok (ok_of cc p)]
        cases b with
        | false =>
          have hB : decide (Borne rows L s) = true := by
            cases q : decide (Borne rows L s) with
            | true => rfl
            | false => rw [q] at hb; cases hb
          rw [hB, if_pos rfl] at hd
          rw [hd]
          rfl
        | true =>
          have hB : decide (Borne rows L s) = false := by
            cases q : decide (Borne rows L s) with
            | false => rfl
            | true => rw [q] at hb; cases hb
          rw [hB, if_neg (by decide)] at hd
          rw [hd, if_pos rfl]
          refine (seq_nx (append_at (i := 2) (f := dV 3) (d := sD s) rfl rfl (by rw [List.length_map, lim_eq]; omega))).trans ?_
          have e3 : (L ++ [s]).map sD = L.map sD ++ [sD s] := by simp
          rw [e3]
          rfl
      rw [sSeq_eq]
      refine (congrArg (fun m => seqM m sPass) (hfin _ rfl)).trans ?_
      rfl
    obtain ⟨x5', hb⟩ := hblk _ rfl
    rw [sSeq_eq]
    have hif : ∀ (A B : DS), A [.fz (wD rows), x1, .ow (.lst (L.map sD)), .fz (sD s), x4, x5, .un, x7, .un] = nxM [.fz (wD rows), x1, .ow (.lst ((if L.contains s || decide (Borne rows L s) then L else L ++ [s]).map sD)), .fz (sD s), .fz (.lst ((cellsT rows s).map .int)), x5', .un, .fz (.int (s0 rows s + s1 rows s)), .un] → sIf (dAnd (d2 pNotIn (dV 3) (dO 2)) (d2 pGt (d2 pIdx (dV 3) (dC (.int 0))) (dC (.int 0)))) A B [.fz (wD rows), x1, .ow (.lst (L.map sD)), .fz (sD s), x4, x5, .un, x7, .un] = nxM [.fz (wD rows), x1, .ow (.lst ((if L.contains s || decide (Borne rows L s) then L else L ++ [s]).map sD)), .fz (sD s), .fz (.lst ((cellsT rows s).map .int)), x5', .un, .fz (.int (s0 rows s + s1 rows s)), .un] := fun A B e => by
      funext p
      rw [if_ok (ok_of c1 p), if_pos rfl, e]
    rw [hif _ _ hb, seqM_nx]
    rfl
theorem lf_fst (rows : Rows) : ∀ (ss : List St) (st : List St × List St), (ss.foldl (fStep1 rows) st).1 = ss.foldl (lfStep rows) st.1
  | [], st => rfl
  | s :: ss, st => by
    rw [List.foldl_cons, List.foldl_cons, lf_fst rows ss]
    congr 1
    unfold fStep1 lfStep
    split <;> rfl
theorem lf_mem (rows : Rows) : ∀ (ss : List St) (L : List St) (x : St), x ∈ ss.foldl (lfStep rows) L → x ∈ L ∨ x ∈ ss
  | [], L, x, h => .inl h
  | s :: ss, L, x, h => by
    rw [List.foldl_cons] at h
    rcases lf_mem rows ss _ x h with h | h
    · unfold lfStep at h
      split at h
      · exact .inl h
      · rcases List.mem_append.mp h with h | h
        · exact .inl h
        · rw [List.mem_singleton.mp h]; exact .inr List.mem_cons_self
    · exact .inr (List.mem_cons_of_mem _ h)
theorem lf_keep (rows : Rows) : ∀ (ss : List St) (L : List St) (x : St), x ∈ L → x ∈ ss.foldl (lfStep rows) L
  | [], L, x, h => h
  | s :: ss, L, x, h => by
    rw [List.foldl_cons]
    refine lf_keep rows ss _ x ?_
    unfold lfStep
    split
    · exact h
    · exact List.mem_append_left _ h
/-- what the program gathers is what the law filters -/
theorem fall_snd (rows : Rows) : ∀ (ss : List St) (st : List St × List St), ss.Nodup → (ss.foldl (fStep1 rows) st).2 = st.2 ++ ss.filter fun s => (ss.foldl (lfStep rows) st.1).contains s && !st.1.contains s
  | [], st, _ => by simp
  | s :: ss, st, hn => by
    obtain ⟨hs, hn⟩ := List.nodup_cons.mp hn
    rw [List.foldl_cons, List.foldl_cons, fall_snd rows ss _ hn, List.filter_cons]
    have e1 : (fStep1 rows st s).1 = lfStep rows st.1 s := by unfold fStep1 lfStep; split <;> rfl
    rw [e1]
    by_cases q : (st.1.contains s || decide (Borne rows st.1 s)) = true
    · have e2 : lfStep rows st.1 s = st.1 := by unfold lfStep; rw [if_pos q]
      have e3 : (fStep1 rows st s).2 = st.2 := by unfold fStep1; rw [if_pos q]
      rw [e2, e3]
      have : ((ss.foldl (lfStep rows) st.1).contains s && !st.1.contains s) = false := by
        cases q2 : st.1.contains s with
        | true => simp
        | false =>
          rw [Bool.not_false, Bool.and_true, ← Bool.not_eq_true, List.contains_iff_mem]
          intro h
          rcases lf_mem rows ss _ s h with h | h
          · rw [List.contains_iff_mem.mpr h] at q2; cases q2
          · exact hs h
      rw [this, if_neg (by decide)]
    · have e2 : lfStep rows st.1 s = st.1 ++ [s] := by unfold lfStep; rw [if_neg q]
      have e3 : (fStep1 rows st s).2 = st.2 ++ [s] := by unfold fStep1; rw [if_neg q]
      rw [e2, e3]
      have q2 : st.1.contains s = false := by
        cases q2 : st.1.contains s with
        | false => rfl
        | true => rw [q2] at q; exact absurd rfl q
      have : ((ss.foldl (lfStep rows) (st.1 ++ [s])).contains s && !st.1.contains s) = true := by
        rw [q2, Bool.not_false, Bool.and_true, List.contains_iff_mem]
        exact lf_keep rows ss _ s (by simp)
      rw [this, if_pos rfl, List.append_assoc, List.singleton_append]
      congr 2
      refine List.filter_congr fun x hx => ?_
      congr 1
      have : x ≠ s := fun e => hs (by rw [← e]; exact hx)
      simp [this]
def fallsT (rows : Rows) (lost : List St) : List St := (fallT rows lost).2
theorem fallsT_is (rows : Rows) (lost : List St) : fallsT rows lost = (sts rows).filter fun s => ((sts rows).foldl (lfStep rows) lost).contains s && !lost.contains s := by
  unfold fallsT fallT
  rw [fall_snd rows (sts rows) (lost, []) (sts_nodup rows), List.nil_append]
theorem fallsT_len (rows : Rows) (lost : List St) : (fallsT rows lost).length ≤ (sts rows).length := by
  rw [fallsT_is]
  exact List.length_filter_le _ _
theorem lfalls_ok (rows : Rows) (h : Fair rows) (hz : (sts rows).length ≤ 100000) (v : D) (lost : List St) (hv : v = .tup (lost.map sD) ∨ v = .lst (lost.map sD)) (hl : lost.length ≤ 1000000) : g__law_falls [wD rows, v] = retM (.lst ((fallsT rows lost).map sD)) := by
  have kst := lstones_ok rows h.few
  have hloop : ∀ (ss : List St) (L : List St) (x4 x5 x7 : Sl), (∀ s ∈ ss, s ∈ sts rows) → L.length + ss.length ≤ 2000000 → ss ≠ [] → forGo (.nm 3) b__law_falls_2 (ss.map sD) [.fz (wD rows), .fz v, .ow (.lst (L.map sD)), .un, x4, x5, .un, x7, .un] = nxM [.fz (wD rows), .fz v, .ow (.lst ((ss.foldl (lfStep rows) L).map sD)), .un, .un, .un, .un, .un, .un] := by
    intro ss
    induction ss with
    | nil => intro L x4 x5 x7 _ _ h; exact absurd rfl h
    | cons s ss ih =>
      intro L x4 x5 x7 hm h1 _
      rw [List.length_cons] at h1
      rw [List.map_cons, forGo_cons (tg := .nm 3) rfl (lf2_ok rows h hz _ _ _ _ L (by omega) s (hm s List.mem_cons_self)), List.foldl_cons]
      by_cases e : ss = []
      · subst e; rfl
      · have hh : (lfStep rows L s).length ≤ L.length + 1 := by
          unfold lfStep
          split
          · omega
          · simp
        exact ih _ .un .un .un (fun x hx => hm x (List.mem_cons_of_mem _ hx)) (by omega) e
  have hf : forGo (.nm 3) b__law_falls_2 ((sts rows).map sD) [.fz (wD rows), .fz v, .ow (.lst (lost.map sD)), .un, .un, .un, .un, .un, .un] = nxM [.fz (wD rows), .fz v, .ow (.lst (((sts rows).foldl (lfStep rows) lost).map sD)), .un, .un, .un, .un, .un, .un] := by
    by_cases e : sts rows = []
    · rw [e]; rfl
    · exact hloop (sts rows) lost .un .un .un (fun _ h => h) (by omega) e
  have hd : d1 pList (dV 1) [.fz (wD rows), .fz v, .un, .un, .un, .un, .un, .un, .un] = retM (.lst (lost.map sD)) := by
    rcases hv with e | e <;> subst e <;> rfl
  refine def_M ?_
  have h0 : ∀ t : DS, sSeq (sOwn 2 (d1 pList (dV 1))) t [.fz (wD rows), .fz v, .un, .un, .un, .un, .un, .un, .un] = t [.fz (wD rows), .fz v, .ow (.lst (lost.map sD)), .un, .un, .un, .un, .un, .un] := fun t => by
    rw [sSeq_eq]
    show seqM (bindS (d1 _ _ _) _ _) t = _
    rw [hd]
    rfl
  refine (h0 _).trans ?_
  refine (for_M (xs := (sts rows).map sD) ?_ hf).trans ?_
  · rw [itV_eq, call_is (xs := [wD rows]) rfl kst]
    rfl
  · refine ret_M ?_
    rw [fallsT_is]
    refine cmp_filT sD (fun s => ((sts rows).foldl (lfStep rows) lost).contains s && !lost.contains s) (xs := sts rows) ?_ (fun _ => rfl) fun s _ => ?_
    · rw [itV_eq, call_is (xs := [wD rows]) rfl kst]
      rfl
    · refine and_ret (d2_ret rfl rfl (pIn_st_lst s _)) fun _ => d2_ret rfl rfl ?_
      rcases hv with e | e <;> subst e
      · exact pNotIn_st_tup s lost
      · exact pNotIn_st_lst s lost
theorem sts_le {rows : Rows} {n : Nat} (h : ∀ r ∈ rows, r.length ≤ n) : (sts rows).length ≤ rows.length * n := by
  have : ∀ (l : List (Row × Nat)), (∀ q ∈ l, q.1.length ≤ n) → (l.flatMap rowSts).length ≤ l.length * n := by
    intro l
    induction l with
    | nil => intro _; simp
    | cons q l ih =>
      intro hl
      have h1 := hl q List.mem_cons_self
      have h2 := ih fun q hq => hl q (List.mem_cons_of_mem _ hq)
      have h3 : (rowSts q).length = q.1.length := by unfold rowSts; rw [List.length_map, List.length_range]
      rw [List.flatMap_cons, List.length_append, List.length_cons, h3, Nat.succ_mul]
      omega
  have h1 := this rows.zipIdx fun q hq => h _ (List.fst_mem_of_mem_zipIdx hq)
  rw [List.length_zipIdx] at h1
  exact h1
theorem fair_ok {rows : Rows} (h : okRows rows = true) : Fair rows ∧ (sts rows).length ≤ 72 := by
  have A := okRows_iff.mp h
  have hr : ∀ r ∈ rows, r.length ≤ 12 := fun r hr => (A.len r hr).2
  have h1 := sts_le hr
  have := A.l2
  refine ⟨⟨⟨by omega, fun r h => by have := hr r h; omega⟩, fun r hr x hx => by have := (A.r r hr).2.1 x hx; omega⟩, by omega⟩
/-- which are weak; what is firm -/
def weakT (rows : Rows) : List St := (sts rows).filter fun s => !(fallsT rows [s]).isEmpty
theorem weak_of_ok (rows : Rows) (h : Fair rows) : g_weak_of [wD rows] = retM (.lst ((weakT rows).map sD)) := by
  have kst := stones_ok rows h.few
  refine def_M (ret_M ?_)
  refine cmp_filT sD (fun s => !(fallsT rows [s]).isEmpty) (xs := sts rows) ?_ (fun _ => rfl) fun s hs => ?_
  · rw [itV_eq, call_is (xs := [wD rows]) rfl kst]
    rfl
  · have k := fallen_ok rows h [s] (List.nodup_cons.mpr ⟨List.not_mem_nil, List.nodup_nil⟩) (by simp)
    refine d2_ret (x := .int ((fallsT rows [s]).length : Nat)) (y := .int 0) ?_ rfl ?_
    · rw [dB_eq, dsN_cons (x := .tup ((fallsT rows [s]).map sD)) (call_is (xs := [wD rows, .tup [sD s]]) rfl k) rfl, bindM_retM', o1_eq, pLen_tup, List.length_map]
      rfl
    · rw [pGt_int]
      cases q : fallsT rows [s] with
      | nil => rfl
      | cons a b =>
        have : (0 : Int) < (((a :: b).length : Nat) : Int) := by rw [List.length_cons]; omega
        rw [decide_eq_true this]
        rfl
theorem is_firm_ok (rows : Rows) (h : Fair rows) : g_is_firm [wD rows] = retM (.bl (okRows rows && (weakT rows).isEmpty)) := by
  have h1 := are_rows_ok (wD rows)
  rw [arR_rows] at h1
  refine def_M (ret_M (and_ret (call_is rfl h1) fun _ => ?_))
  refine d2_ret (x := .int ((weakT rows).length : Nat)) (y := .int 0) ?_ rfl ?_
  · rw [dB_eq, dsN_cons (x := .lst ((weakT rows).map sD)) (call_is (xs := [wD rows]) rfl (weak_of_ok rows h)) rfl, bindM_retM', o1_eq, pLen_lst, List.length_map]
    rfl
  · rw [pEq_int]
    cases q : weakT rows with
    | nil => rfl
    | cons a b =>
      have : (((a :: b).length : Nat) : Int) ≠ 0 := by rw [List.length_cons]; omega
      rw [beq_false_of_ne this]
      rfl
theorem is_firm_no (v : D) (h : arR v = false) : g_is_firm [v] = retM (.bl false) := by
  have h1 := are_rows_ok v
  rw [h] at h1
  exact def_M (ret_M (and_ret (a := false) (b := true) (call_is rfl h1) fun h => by cases h))
end DL
/-! EH: all rows of some things, the short ones first. -/
namespace DL
set_option autoImplicit false
open PySem
section
variable {α : Type} [BEq α] [LawfulBEq α]
def ltPr (lt : α → α → Bool) (a b : Nat × List α) : Bool := if a.1 == b.1 then (if a.2 == b.2 then false else ltL lt a.2 b.2) else decide (a.1 < b.1)
def rowsF (items : List α) (most : Nat) : List (List α) := items.foldl (fun found item => found ++ (found.filter fun r => decide (r.length < most)).map (· ++ [item])) [[]]
def rowsT (lt : α → α → Bool) (items : List α) (most : Nat) : List (List α) := (sort (ltPr lt) ((rowsF items most).map fun r => (r.length, r))).map (·.2)
/-- things that can be asked: how they stand as data -/
structure Inj (inj : α → D) (lt : α → α → Bool) : Prop where
  e : ∀ x y, D.eqv (inj x) (inj y) = (x == y)
  l : ∀ x y, D.lt (inj x) (inj y) = lt x y
  a : ∀ x y, D.alike (inj x) (inj y) = true
  p : ∀ x n, D.plain (n + 1) (inj x) = true
variable {inj : α → D} {lt : α → α → Bool}
abbrev tD (inj : α → D) (r : List α) : D := .tup (r.map inj)
abbrev prD' (inj : α → D) (p : Nat × List α) : D := .tup [.int (p.1 : Nat), tD inj p.2]
theorem eqv_tD (I : Inj inj lt) (a b : List α) : D.eqv (tD inj a) (tD inj b) = (a == b) := by
  rw [D.eqv]
  exact eqvs_map inj I.e a b
theorem lt_tD (I : Inj inj lt) (a b : List α) : D.lt (tD inj a) (tD inj b) = ltL lt a b := by
  rw [D.lt]
  exact lts_map inj lt I.e I.l a b
theorem lt_prD (I : Inj inj lt) (a b : Nat × List α) : D.lt (prD' inj a) (prD' inj b) = ltPr lt a b := by
  unfold ltPr
  rw [D.lt, D.lts, eqv_int]
  have h1 : (((a.1 : Nat) : Int) == ((b.1 : Nat) : Int)) = (a.1 == b.1) := by
    rw [Bool.eq_iff_iff, beq_iff_eq, beq_iff_eq]
    omega
  rw [h1, lt_int]
  cases a.1 == b.1 with
  | true =>
    rw [if_pos rfl, if_pos rfl, D.lts, eqv_tD I, lt_tD I]
    cases a.2 == b.2 <;> simp [D.lts]
  | false =>
    rw [if_neg (by decide), if_neg (by decide)]
    unfold ltI
    rw [Bool.eq_iff_iff, decide_eq_true_eq, decide_eq_true_eq]
    omega
theorem plain_tD (I : Inj inj lt) (n : Nat) (r : List α) : D.plain (n + 2) (tD inj r) = true := by
  rw [D.plain]
  exact plains_map inj (n + 1) fun x _ => I.p x n
theorem sorted_pr (I : Inj inj lt) (xs : List (Nat × List α)) : pSorted (.lst (xs.map (prD' inj))) = some (.lst ((sort (ltPr lt) xs).map (prD' inj))) := by
  have h1 : (xs.map (prD' inj)).all isTup1 = true := by
    rw [List.all_map, List.all_eq_true]
    exact fun r _ => rfl
  have h2 : ∀ x y : Nat × List α, D.alike (prD' inj x) (prD' inj y) = true := fun x y => by
    simp [D.alike, D.alikes, alikes_map inj I.a]
  have h3 : D.plains 8 (xs.map (prD' inj)) = true := plains_map (prD' inj) 8 fun x _ => by
    rw [D.plain, D.plains, D.plains, plain_int, plain_tD I 5]
    rfl
  simp only [pSorted, allAlike_map (prD' inj) h2, h3, h1, Bool.true_or, Bool.and_self, if_true, sortD_map (prD' inj) (ltPr lt) (lt_prD I)]
theorem rowsF_snoc (items : List α) (x : α) (most : Nat) : rowsF (items ++ [x]) most = rowsF items most ++ ((rowsF items most).filter fun r => decide (r.length < most)).map (· ++ [x]) := by
  unfold rowsF
  rw [List.foldl_append]
  rfl
theorem rowsF_len (most : Nat) : ∀ (items : List α) (f : List (List α)), (items.foldl (fun found item => found ++ (found.filter fun r => decide (r.length < most)).map (· ++ [item])) f).length ≤ f.length * 2 ^ items.length
  | [], f => by simp
  | x :: items, f => by
    rw [List.foldl_cons, List.length_cons]
    refine Nat.le_trans (rowsF_len most items _) ?_
    rw [List.length_append, List.length_map, Nat.pow_succ, Nat.mul_comm (2 ^ items.length) 2, ← Nat.mul_assoc]
    refine Nat.mul_le_mul_right _ ?_
    have := List.length_filter_le (fun r : List α => decide (r.length < most)) f
    omega
theorem rowsF_bd (most : Nat) : ∀ (items : List α) (f : List (List α)) (m : Nat), (∀ r ∈ f, r.length ≤ m) → ∀ r ∈ items.foldl (fun found item => found ++ (found.filter fun r => decide (r.length < most)).map (· ++ [item])) f, r.length ≤ m + items.length
  | [], f, m, h => fun r hr => by have := h r hr; simpa using this
  | x :: items, f, m, h => by
    rw [List.foldl_cons, List.length_cons]
    intro r hr
    have := rowsF_bd most items _ (m + 1) (fun r hr => by
      rcases List.mem_append.mp hr with e | e
      · have := h r e; omega
      · obtain ⟨z, hz, e2⟩ := List.mem_map.mp e
        have := h z (List.mem_filter.mp hz).1
        subst e2
        rw [List.length_append, List.length_singleton]
        omega) r hr
    omega
theorem lrow1_ok (I : Inj inj lt) (x0 : Sl) (most : Nat) (f : List (List α)) (x : α) (hf : f.length ≤ 5000000) (hr : ∀ r ∈ f, r.length ≤ 1000) : b__law_rows_1 [x0, .fz (.int (most : Nat)), .fz (.lst (f.map (tD inj))), .fz (inj x), .un, .un] = nxM [x0, .fz (.int (most : Nat)), .fz (.lst ((f ++ (f.filter fun r => decide (r.length < most)).map (· ++ [x])).map (tD inj))), .un, .un, .un] := by
  have hc : dCmp (itV (dV 2)) (.nm 5) (some (d2 pLt (dB (o1 pLen) [dV 5]) (dV 1))) (d2 pAdd (dV 5) (dTup [dV 3])) [5] [x0, .fz (.int (most : Nat)), .fz (.lst (f.map (tD inj))), .fz (inj x), .un, .un] = retM (.lst ((f.filter fun r => decide (r.length < most)).map fun r => tD inj (r ++ [x]))) := by
    refine cmp_filE (tD inj) (fun r => decide (r.length < most)) (fun r => tD inj (r ++ [x])) rfl (fun r _ => ?_) (fun r hrm _ => ?_)
    · refine d2_ret (x := .int (r.length : Nat)) (y := .int (most : Nat)) ?_ rfl ?_
      · show dB (o1 pLen) [dV 5] [x0, .fz (.int (most : Nat)), .fz (.lst (f.map (tD inj))), .fz (inj x), .un, .fz (tD inj r)] = _
        rw [dB_eq, dsN_cons (x := tD inj r) rfl rfl, bindM_retM', o1_eq, pLen_tup, List.length_map]
        rfl
      · rw [pLt_int]
        congr 2
        rw [Bool.eq_iff_iff, decide_eq_true_eq, decide_eq_true_eq]
        omega
    · refine d2_ret (x := tD inj r) (y := .tup [inj x]) rfl rfl ?_
      have h2 : (r.map inj).length + [inj x].length ≤ lim := by rw [List.length_map, lim_eq]; have := hr r hrm; simp; omega
      unfold pAdd
      dsimp only
      rw [if_pos h2]
      show some (D.tup (r.map inj ++ [inj x])) = some (.tup ((r ++ [x]).map inj))
      rw [List.map_append]
      rfl
  have ha : pAdd (.lst (f.map (tD inj))) (.lst ((f.filter fun r => decide (r.length < most)).map fun r => tD inj (r ++ [x]))) = some (.lst ((f ++ (f.filter fun r => decide (r.length < most)).map (· ++ [x])).map (tD inj))) := by
    have h2 : (f.map (tD inj)).length + ((f.filter fun r => decide (r.length < most)).map fun r => tD inj (r ++ [x])).length ≤ lim := by
      have := List.length_filter_le (fun r : List α => decide (r.length < most)) f
      rw [lim_eq, List.length_map, List.length_map]
      omega
    unfold pAdd
    dsimp only
    rw [if_pos h2, List.map_append, List.map_map]
    rfl
  exact (set_M (d2_ret rfl hc ha)).trans rfl
theorem law_rows_ok (I : Inj inj lt) (v : D) (items : List α) (hv : v = .lst (items.map inj) ∨ v = .tup (items.map inj)) (hl : items.length ≤ 20) (most : Nat) : g__law_rows [v, .int (most : Nat)] = retM (.lst ((rowsT lt items most).map (tD inj))) := by
  have hloop : ∀ (xs ys : List α), ys.length + xs.length ≤ 20 → forGo (.nm 3) b__law_rows_1 (xs.map inj) [.fz v, .fz (.int (most : Nat)), .fz (.lst ((rowsF ys most).map (tD inj))), .un, .un, .un] = nxM [.fz v, .fz (.int (most : Nat)), .fz (.lst ((rowsF (ys ++ xs) most).map (tD inj))), .un, .un, .un] := by
    intro xs
    induction xs with
    | nil => intro ys _; rw [List.append_nil]; rfl
    | cons x xs ih =>
      intro ys h
      rw [List.length_cons] at h
      have h1 := rowsF_len most ys [[]]
      have h2 := rowsF_bd most ys [[]] 0 (fun r hr => by rw [List.mem_singleton.mp hr]; exact Nat.le_refl _)
      have h3 : 2 ^ ys.length ≤ 2 ^ 20 := Nat.pow_le_pow_right (by decide) (by omega)
      rw [List.map_cons, forGo_cons (tg := .nm 3) rfl (lrow1_ok I _ most (rowsF ys most) x (by unfold rowsF; simp at h1 h3; omega) (fun r hr => by have := h2 r hr; omega)), ← rowsF_snoc, ih (ys ++ [x]) (by rw [List.length_append, List.length_singleton]; omega), List.append_assoc]
      rfl
  have hf := hloop items [] (by simpa using hl)
  rw [List.nil_append] at hf
  have hit : itV (dV 0) [.fz v, .fz (.int (most : Nat)), .fz (.lst [.tup []]), .un, .un, .un] = retM (items.map inj) := by
    rcases hv with e | e <;> subst e <;> rfl
  refine def_M ((set_M (d := .lst [.tup []]) rfl).trans ((for_M hit hf).trans (ret_M ?_)))
  have hp : dCmp (itV (dV 2)) (.nm 5) none (dTup [dB (o1 pLen) [dV 5], dV 5]) [5] [.fz v, .fz (.int (most : Nat)), .fz (.lst ((rowsF items most).map (tD inj))), .un, .un, .un] = retM (.lst (((rowsF items most).map fun r => (r.length, r)).map (prD' inj))) := by
    have e := cmp_mapE (i := 5) (vs := [5]) (it := itV (dV 2)) (e := dTup [dB (o1 pLen) [dV 5], dV 5]) (ρ := [.fz v, .fz (.int (most : Nat)), .fz (.lst ((rowsF items most).map (tD inj))), .un, .un, .un]) (tD inj) (fun r => prD' inj (r.length, r)) (xs := rowsF items most) rfl fun r _ => by
      refine dTup_ret (dsN_cons (x := .int (r.length : Nat)) ?_ (dsN_cons rfl rfl))
      show dB (o1 pLen) [dV 5] [.fz v, .fz (.int (most : Nat)), .fz (.lst ((rowsF items most).map (tD inj))), .un, .un, .fz (tD inj r)] = _
      rw [dB_eq, dsN_cons (x := tD inj r) rfl rfl, bindM_retM', o1_eq, pLen_tup, List.length_map]
      rfl
    rw [e, List.map_map]
    rfl
  have hs : itV (dB (o1 pSorted) [dCmp (itV (dV 2)) (.nm 5) none (dTup [dB (o1 pLen) [dV 5], dV 5]) [5]]) [.fz v, .fz (.int (most : Nat)), .fz (.lst ((rowsF items most).map (tD inj))), .un, .un, .un] = retM ((sort (ltPr lt) ((rowsF items most).map fun r => (r.length, r))).map (prD' inj)) := by
    rw [itV_eq, dB_eq, dsN_cons hp rfl, bindM_retM', o1_eq, sorted_pr I]
    rfl
  show dCmp _ (.tp [4, 5]) none (dV 5) [4, 5] [.fz v, .fz (.int (most : Nat)), .fz (.lst ((rowsF items most).map (tD inj))), .un, .un, .un] = _
  rw [dCmp_eq, hs, bindM_retM']
  simp only [compGo_none, mapT_map, tgM_tp2, wipes_cons, wipes_nil, put_0, put_s, dV_eq, nth_0, nth_s]
  rw [mapT_eq (fun p : Nat × List α => tD inj p.2) fun p _ => rfl]
  unfold rowsT
  rw [List.map_map]
  rfl
end
theorem def_exM {n : Nat} {s : DS} {ds : List D} {e : Exc} {ρ : Env'} (h : s (padN n (ds.map .fz)) = exM e ρ) : dDef n s ds = excM e := by
  show runF n s (ds.map .fz) = _
  rw [runF_eq, h, outM_ex]
/-- rows the law builds -/
theorem rows_built {h w : Nat} {rows : Rows} (b : Built h w rows) (hh : h ≤ 6) (hw : w ≤ 12) : okRows rows = true ∧ Fair rows ∧ (∀ r ∈ rows, Good r ∧ r.length ≤ w) ∧ bdOk 2 (wD rows) = true := by
  obtain ⟨W, h1, h2, h3⟩ := b.wd
  have hg := b.good (by omega)
  have h0 : rows.getD 0 [] ∈ rows := getD_mem (by have := b.l1; omega)
  have e0 := (h3 _ h0).1
  have A : ARows rows := ⟨b.l1, by have := b.l2; omega, fun r hr => ⟨(hg r hr).2.2, fun x hx => by have := (h3 r hr).2 x hx; omega, by rw [(h3 r hr).1, e0]⟩, by rw [e0]; omega⟩
  refine ⟨okRows_iff.mpr A, ⟨b.few (by omega) (by omega), fun r hr x hx => by have := (h3 r hr).2 x hx; omega⟩, fun r hr => ⟨(hg r hr).1, (hg r hr).2.1⟩, ?_⟩
  rw [bdOk, Bool.and_eq_true, decide_eq_true_eq, List.all_eq_true, List.length_map]
  refine ⟨by have := b.l2; omega, fun d hd => ?_⟩
  obtain ⟨r, hr, e⟩ := List.mem_map.mp hd
  subst e
  exact bdOk_rwD 0 (by have := (hg r hr).2.1; omega) fun y hy => by have := (h3 r hr).2 y hy; omega
/-! ### stones in order -/
def ltSt (a b : St) : Bool := if a.1 == b.1 then decide (a.2 < b.2) else decide (a.1 < b.1)
theorem injS : Inj sD ltSt := by
  refine ⟨eqv_sD, fun x y => ?_, fun x y => by simp [D.alike, D.alikes], fun x n => plain_sD n x⟩
  unfold ltSt
  rw [D.lt, D.lts, eqv_int, lt_int]
  have h1 : (((x.1 : Nat) : Int) == ((y.1 : Nat) : Int)) = (x.1 == y.1) := by
    rw [Bool.eq_iff_iff, beq_iff_eq, beq_iff_eq]
    omega
  rw [h1]
  unfold ltI
  cases x.1 == y.1 with
  | true =>
    rw [if_pos rfl, if_pos rfl, D.lts, eqv_int, lt_int, D.lts]
    unfold ltI
    by_cases q : x.2 = y.2
    · rw [q]; simp
    · have q2 : (((x.2 : Nat) : Int) == ((y.2 : Nat) : Int)) = false := by rw [← Bool.not_eq_true, beq_iff_eq]; omega
      rw [q2, if_neg (by decide), Bool.eq_iff_iff, decide_eq_true_eq, decide_eq_true_eq]
      omega
  | false =>
    rw [if_neg (by decide), if_neg (by decide), Bool.eq_iff_iff, decide_eq_true_eq, decide_eq_true_eq]
    omega
end DL
/-! EM: more steps of a def, as functions. -/
namespace DL
set_option autoImplicit false
open PySem
section
variable {c f : DE} {s t e : DS} {ρ ρ2 : Env'} {d : D} {n i : Nat} {ds : List D}
theorem def_nx (h : s (padN n (ds.map .fz)) = nxM ρ) : dDef n s ds = retM .non := by
  show runF n s (ds.map .fz) = _
  rw [runF_eq, h]
  rfl
theorem in_M (h : c ρ = retM (.bl true)) (h2 : s ρ = nxM ρ2) : sSeq (sIf c s e) t ρ = t ρ2 := by
  funext p
  rw [seq_nx (ρ1 := ρ2) (p1 := p)]
  rw [if_ok (ok_of h p), if_pos rfl, h2]
  rfl
theorem inR_M (h : c ρ = retM (.bl true)) (h2 : s ρ = reM d) : sSeq (sIf c s e) t ρ = reM d := by
  funext p
  rw [seq_ret (d := d) (p1 := p)]
  · rfl
  rw [if_ok (ok_of h p), if_pos rfl, h2]
  rfl
theorem el_M (h : c ρ = retM (.bl false)) (h2 : e ρ = nxM ρ2) : sSeq (sIf c s e) t ρ = t ρ2 := by
  funext p
  rw [seq_nx (ρ1 := ρ2) (p1 := p)]
  rw [if_ok (ok_of h p), if_neg (by decide), h2]
  rfl
theorem nx_M (h : s ρ = nxM ρ2) : sSeq s t ρ = t ρ2 := by rw [sSeq_eq, h, seqM_nx]
theorem nxR_M (h : s ρ = reM d) : sSeq s t ρ = reM d := by rw [sSeq_eq, h, seqM_re]
theorem exX_M {x : Exc} (h : s ρ = exM x ρ2) : sSeq s t ρ = exM x ρ2 := by rw [sSeq_eq, h, seqM_ex]
theorem own_M (h : f ρ = retM d) : sSeq (sOwn i f) t ρ = t (put ρ i (.ow d)) := by
  rw [sSeq_eq, sOwn_eq, h]
  rfl
theorem unpack_M {is : List Nat} (h : f ρ = retM d) (h2 : setTg (.tp is) d ρ = some ρ2) : sSeq (sUnpack is f) t ρ = t ρ2 := by
  rw [sSeq_eq, sUnpack_eq, h, bindS_retM, h2]
  rfl
theorem par_M {is : List Nat} {fs : List DE} {xs : List D} (h : dsN fs ρ = retM xs) (h2 : putAll is xs ρ = some ρ2) : sSeq (sPar is fs) t ρ = t ρ2 := by
  rw [sSeq_eq, sPar_eq, h, bindS_retM, h2]
  rfl
theorem expr_X {x : Exc} (h : f ρ = excM x) : sSeq (sExpr f) t ρ = exM x ρ := by
  rw [sSeq_eq, sExpr_eq, h]
  rfl
theorem yes_X {x : Exc} (h : c ρ = retM (.bl true)) (h2 : s ρ = exM x ρ2) : sSeq (sIf c s e) t ρ = exM x ρ2 := by
  funext p
  have h3 : sIf c s e ρ p = .exc x ρ2 p := by
    rw [if_ok (ok_of h p), if_pos rfl, h2]
    rfl
  unfold sSeq
  rw [h3]
  rfl
theorem raise0_M (k : Str) : sSeq (sRaise k [] []) t ρ = exM ⟨k, []⟩ ρ := rfl
theorem while_M {k : Nat} (h : whileGo c s k ρ = nxM ρ2) : sSeq (whileGo c s k) t ρ = t ρ2 := nx_M h
theorem itV_L {xs : List D} (h : f ρ = retM (.lst xs)) : itV f ρ = retM xs := by
  rw [itV_eq, h]
  rfl
theorem itV_T {xs : List D} (h : f ρ = retM (.tup xs)) : itV f ρ = retM xs := by
  rw [itV_eq, h]
  rfl
theorem callX_M {G : List D → M D} {fs : List DE} {xs : List D} {x : Exc} (h : dsN fs ρ = retM xs) (h2 : G xs = excM x) : dCall G fs ρ = excM x := by
  rw [dCall_eq, h, bindM_retM', h2]
  rfl
theorem storeL_M {ix f : DE} {xs : List D} {d : D} {n : Int} (h : nth ρ i = .ow (.lst xs)) (hf : f ρ = retM d) (hx : ix ρ = retM (.int n)) (h0 : 0 ≤ n) (hl : n < xs.length) : sStore i ix f ρ = nxM (put ρ i (.ow (.lst (setN xs n.toNat d)))) := by
  funext p
  unfold sStore
  rw [hf]
  show (match nth ρ i with
    | .ow (.lst xs) => runE ρ (ix ρ p) _
    | _ => .err) = _
  rw [h]
  dsimp only
  rw [hx]
  show (if 0 ≤ n ∧ n < (xs.length : Int) then _ else _) = _
  rw [if_pos ⟨h0, hl⟩]
  rfl
theorem append_M {f : DE} {xs : List D} (h : nth ρ i = .ow (.lst xs)) (h2 : f ρ = retM d) (h3 : xs.length < lim) : sSeq (sAppend i f) t ρ = t (put ρ i (.ow (.lst (xs ++ [d])))) := by
  rw [sSeq_eq, sAppend_eq, h, h2, appM_ok h3, seqM_nx]
theorem fz_M (h : nth ρ i = .ow d) : sSeq (sFz i) t ρ = t (put ρ i (.fz d)) := by
  rw [sSeq_eq, sFz_eq, h, frzM_ow, seqM_nx]
end
/-- two steps that do the same -/
theorem foldl_same {α σ : Type} (f g : σ → α → σ) (I : σ → Prop) : ∀ (xs : List α) (s : σ), I s → (∀ s, ∀ x ∈ xs, I s → f s x = g s x ∧ I (f s x)) → xs.foldl f s = xs.foldl g s
  | [], _, _, _ => rfl
  | x :: xs, s, h, hs => by
    obtain ⟨e, hi⟩ := hs s x List.mem_cons_self h
    rw [List.foldl_cons, List.foldl_cons, ← e]
    exact foldl_same f g I xs (f s x) hi fun s y hy => hs s y (List.mem_cons_of_mem _ hy)
theorem foldl_pair {α σ τ : Type} (f : σ → α → σ) (g : τ → α → τ) : ∀ (xs : List α) (s : σ) (t : τ), xs.foldl (fun (st : σ × τ) x => (f st.1 x, g st.2 x)) (s, t) = (xs.foldl f s, xs.foldl g t)
  | [], _, _ => rfl
  | x :: xs, s, t => by
    rw [List.foldl_cons, List.foldl_cons, List.foldl_cons]
    exact foldl_pair f g xs _ _
theorem foldl_inv {α σ : Type} (f : σ → α → σ) (I : σ → Prop) : ∀ (xs : List α) (s : σ), I s → (∀ s, ∀ x ∈ xs, I s → I (f s x)) → I (xs.foldl f s)
  | [], _, h, _ => h
  | x :: xs, s, h, hs => foldl_inv f I xs (f s x) (hs s x List.mem_cons_self h) fun s y hy => hs s y (List.mem_cons_of_mem _ hy)
theorem memD_not {x : D} : ∀ {ys : List D}, (∀ y ∈ ys, D.eqv y x = false) → memD x ys = false
  | [], _ => rfl
  | y :: ys, h => by
    rw [memD, h y List.mem_cons_self, memD_not fun z hz => h z (List.mem_cons_of_mem _ hz)]
    rfl
end DL
/-! EN: tuples of stones; who loses more. -/
namespace DL
set_option autoImplicit false
open PySem
theorem num_of {d : D} {a b : Int} (h : isNum d a b = true) : ∃ k : Int, d = .int k ∧ a ≤ k ∧ k ≤ b := by
  cases d with
  | int k =>
    unfold isNum at h
    dsimp only at h
    rw [Bool.and_eq_true, decide_eq_true_eq, decide_eq_true_eq] at h
    exact ⟨k, rfl, h.1, h.2⟩
  | _ => cases h
def okSt (d : D) : Bool := match d with
  | .tup ys => decide (ys.length = 2) && ys.all fun y => isNum y 0 99
  | _ => false
theorem okSt_of {d : D} (h : okSt d = true) : ∃ s : St, d = sD s ∧ s.1 ≤ 99 ∧ s.2 ≤ 99 := by
  cases d with
  | tup ys =>
    unfold okSt at h
    dsimp only at h
    rw [Bool.and_eq_true, decide_eq_true_eq] at h
    obtain ⟨h1, h2⟩ := h
    match ys, h1, h2 with
    | [x, y], _, h2 =>
      rw [List.all_cons, List.all_cons, List.all_nil, Bool.and_true, Bool.and_eq_true] at h2
      obtain ⟨k, rfl, k0, k1⟩ := num_of h2.1
      obtain ⟨l, rfl, l0, l1⟩ := num_of h2.2
      refine ⟨(k.toNat, l.toNat), ?_, by show k.toNat ≤ 99; omega, by show l.toNat ≤ 99; omega⟩
      show D.tup [.int k, .int l] = .tup [.int (k.toNat : Nat), .int (l.toNat : Nat)]
      rw [Int.toNat_of_nonneg k0, Int.toNat_of_nonneg l0]
  | _ => cases h
theorem okSt_sD (s : St) : okSt (sD s) = (decide (s.1 ≤ 99) && decide (s.2 ≤ 99)) := by
  show (decide ((2 : Nat) = 2) && (isNum (.int (s.1 : Nat)) 0 99 && (isNum (.int (s.2 : Nat)) 0 99 && true))) = _
  unfold isNum
  dsimp only
  rw [Bool.eq_iff_iff]
  simp
  omega
theorem okSts_map : ∀ {xs : List D}, xs.all okSt = true → ∃ L : List St, xs = L.map sD
  | [], _ => ⟨[], rfl⟩
  | x :: xs, h => by
    rw [List.all_cons, Bool.and_eq_true] at h
    obtain ⟨s, e, _⟩ := okSt_of h.1
    obtain ⟨L, e2⟩ := okSts_map h.2
    exact ⟨s :: L, by rw [e, e2]; rfl⟩
def isStones (rows : Rows) (v : D) : Bool := match v with
  | .tup xs => xs.all okSt && xs.all fun x => memD x ((sts rows).map sD)
  | _ => false
theorem memD_sts (s : St) (L : List St) : memD (sD s) (L.map sD) = L.contains s := memD_map sD eqv_sD s L
theorem stones_of_val {rows : Rows} {v : D} (h : isStones rows v = true) : ∃ L : List St, v = .tup (L.map sD) ∧ ∀ s ∈ L, s ∈ sts rows := by
  cases v with
  | tup xs =>
    unfold isStones at h
    dsimp only at h
    rw [Bool.and_eq_true] at h
    obtain ⟨L, e⟩ := okSts_map h.1
    subst e
    refine ⟨L, rfl, fun s hs => ?_⟩
    have := List.all_eq_true.mp h.2 (sD s) (List.mem_map.mpr ⟨s, hs, rfl⟩)
    rw [memD_sts, List.contains_iff_mem] at this
    exact this
  | _ => cases h
theorem sts_bd {rows : Rows} (ho : okRows rows = true) {s : St} (hs : s ∈ sts rows) : s.1 ≤ 99 ∧ s.2 ≤ 99 := by
  have A := okRows_iff.mp ho
  obtain ⟨h1, h2⟩ := mem_sts.mp hs
  have := A.l2
  have := (A.len _ (getD_mem (d := []) h1)).2
  omega
theorem isStones_in {rows : Rows} (ho : okRows rows = true) {L : List St} (h : ∀ s ∈ L, s ∈ sts rows) : isStones rows (.tup (L.map sD)) = true := by
  unfold isStones
  dsimp only
  rw [Bool.and_eq_true, List.all_eq_true, List.all_eq_true]
  refine ⟨fun d hd => ?_, fun d hd => ?_⟩
  · obtain ⟨s, hs, e⟩ := List.mem_map.mp hd
    have := sts_bd ho (h s hs)
    rw [← e, okSt_sD, decide_eq_true this.1, decide_eq_true this.2]
    rfl
  · obtain ⟨s, hs, e⟩ := List.mem_map.mp hd
    rw [← e, memD_sts, List.contains_iff_mem]
    exact h s hs
theorem pLt_sD (a b : St) : pLt (sD a) (sD b) = some (.bl (ltSt a b)) := by
  unfold pLt
  rw [injS.a, injS.l, show (sD a).pl = true from plain_sD 8 a, show (sD b).pl = true from plain_sD 8 b]
  rfl
theorem pGeX_sD (a b : St) : pGeX (sD a) (sD b) = some (.bl (!ltSt a b)) := by
  unfold pGeX
  rw [injS.a, injS.l, show (sD a).pl = true from plain_sD 8 a, show (sD b).pl = true from plain_sD 8 b]
  rfl
def riseD2 (v : D) : Bool := match v with
  | .tup xs => rise D.lt xs
  | _ => false
theorem rise_map {α : Type} (f : α → D) (lt : α → α → Bool) (h : ∀ x y, D.lt (f x) (f y) = lt x y) : ∀ xs : List α, rise D.lt (xs.map f) = rise lt xs
  | [] => rfl
  | [x] => rfl
  | x :: y :: r => by
    have ih := rise_map f lt h (y :: r)
    rw [List.map_cons, List.map_cons, rise, rise, h]
    rw [List.map_cons] at ih
    rw [ih]
theorem riseD2_sts (L : List St) : riseD2 (.tup (L.map sD)) = rise ltSt L := rise_map sD ltSt injS.l L
/-! ### as the law says it -/
theorem lisst1 (x0 x1 : Sl) (x : D) (hx : D.plain 9 x = true) : b__law_is_stones_1 [x0, x1, .fz x, .un] = if okSt x then nxM [x0, x1, .un, .un] else reM (.bl false) := by
  have hc : (dOr (dNot (dIsi .tuple (dV 2))) (dOr (d2 pNe (dB (o1 pLen) [dV 2]) (dC (.int 2))) (d2 pNe (dCmp (itV (dV 2)) (.nm 3) (some (dNot (dCall g__law_within [dV 3, dC (.int 0), dC (.int 99)]))) (dV 3) [3]) (dLst [])))) [x0, x1, .fz x, .un] = retM (.bl (!okSt x)) := by
    cases x with
    | tup ys =>
      have hp : D.plains 8 ys = true := by rwa [D.plain] at hx
      have e1 : d2 pNe (dB (o1 pLen) [dV 2]) (dC (.int 2)) [x0, x1, .fz (.tup ys), .un] = retM (.bl (!decide (ys.length = 2))) := by
        refine d2_ret (x := .int (ys.length : Nat)) (y := .int 2) ?_ rfl ?_
        · rw [dB_eq, dsN_cons (x := .tup ys) rfl rfl]
          rfl
        · rw [pNe_int]
          congr 3
          rw [Bool.eq_iff_iff, beq_iff_eq, decide_eq_true_eq]
          omega
      have e2 : d2 pNe (dCmp (itV (dV 2)) (.nm 3) (some (dNot (dCall g__law_within [dV 3, dC (.int 0), dC (.int 99)]))) (dV 3) [3]) (dLst []) [x0, x1, .fz (.tup ys), .un] = retM (.bl (!ys.all fun y => isNum y 0 99)) := by
        have e := comp_within (ρ := wipes [3] [x0, x1, .fz (.tup ys), .un]) (j := 3) (a := 0) (b := 99) (fun _ => rfl) ys
        refine d2_ret (x := .lst (ys.filter fun x => !isNum x 0 99)) (y := .lst []) ?_ rfl ?_
        · rw [dCmp_eq, itV_T (xs := ys) rfl, bindM_retM', e]
          rfl
        · rw [pNe_lnil (plains_filter hp), filter_empty]
          simp
      have e3 := or_ret (a := !decide (ys.length = 2)) (b := !ys.all fun y => isNum y 0 99) e1 fun _ => e2
      rw [show (!decide (ys.length = 2) || !ys.all fun y => isNum y 0 99) = !okSt (.tup ys) by unfold okSt; dsimp only; rw [Bool.not_and]] at e3
      exact or_ret (a := false) (b := !okSt (.tup ys)) (show dNot (dIsi .tuple (dV 2)) [x0, x1, .fz (.tup ys), .un] = _ from rfl) fun _ => e3
    | _ => exact or_ret (a := true) (b := true) rfl fun h => by cases h
  cases q : okSt x with
  | true =>
    rw [q] at hc
    exact (no_M hc).trans rfl
  | false =>
    rw [q] at hc
    exact yes_M hc fls_M
theorem lis_stones_ok (rows : Rows) (hF : Few rows) {n : Nat} (v : D) (fv : D.fit n v = true) (hn : n ≤ 9) : g__law_is_stones [wD rows, v] = retM (.bl (isStones rows v)) := by
  cases v with
  | tup xs =>
    have hp := plains_of fv hn
    have hpx : ∀ x ∈ xs, D.plain 8 x = true := plains_iff.mp hp
    have hl := for_all (tg := .nm 2) (body := b__law_is_stones_1) id okSt (.bl false) [.fz (wD rows), .fz (.tup xs), .un, .un] xs fun x hx => ⟨_, rfl, lisst1 _ _ x (plain_fit 9 x (fit_mono _ 9 x (by omega) (by
      cases n with
      | zero => simp [D.fit] at fv
      | succ n => exact fit_mono n (n + 1) x (by omega) ((fit_tup.mp fv).2 x hx))))⟩
    rw [List.map_id] at hl
    refine def_M ((no_M (c := dNot (dIsi .tuple (dV 1))) rfl).trans ?_)
    cases q : xs.all okSt with
    | false =>
      rw [q, if_neg (by decide)] at hl
      refine (forR_M (itV_T (xs := xs) rfl) hl).trans ?_
      unfold isStones
      dsimp only
      rw [q]
      rfl
    | true =>
      rw [q, if_pos rfl] at hl
      refine (for_M (itV_T (xs := xs) rfl) hl).trans ?_
      obtain ⟨L, e⟩ := okSts_map q
      subst e
      have kst := lstones_ok rows hF
      have e := cmp_filT (i := 2) (vs := [2]) (it := itV (dV 1)) (c := d2 pNotIn (dV 2) (dCall g__law_stones [dV 0])) (ρ := [.fz (wD rows), .fz (.tup (L.map sD)), .un, .un]) sD (fun s => !(sts rows).contains s) (xs := L) rfl (fun _ => rfl) fun s _ => d2_ret (x := sD s) (y := .lst ((sts rows).map sD)) rfl (call_is (xs := [wD rows]) rfl kst) (pNotIn_st_lst s _)
      refine ret_M (d2_ret e (y := .lst []) rfl ?_)
      rw [pEq_lnil (plains_map sD 8 fun s _ => plain_sD 7 s), List.isEmpty_map, filter_empty]
      unfold isStones
      dsimp only
      rw [q, Bool.true_and, List.all_map]
      congr 3
      funext s
      show (!!(sts rows).contains s) = memD (sD s) _
      rw [memD_sts, Bool.not_not]
  | _ => exact def_M (yes_M (c := dNot (dIsi .tuple (dV 1))) rfl (ret_M rfl))
theorem lrise_sts (L : List St) (hl : L.length ≤ 100000) : g__law_is_rise [.tup (L.map sD)] = retM (.bl (rise ltSt L)) := is_rise_gen sD ltSt pGeX_sD (0, 0) L hl
/-! ### as the program says it -/
theorem all_st_comp {it : DI} {i : Nat} {ρ : Env'} {f : DE} {xs : List D} {vs : List Nat} (P : D → Bool) (h : it ρ = retM xs) (he : ∀ x ∈ xs, f (put (wipes vs ρ) i (.fz x)) = retM (.bl (P x))) : dB (o1 pAll) [dCmp it (.nm i) none f vs] ρ = retM (.bl (xs.all P)) := by
  have e := cmp_mapE (i := i) (vs := vs) (it := it) (e := f) (ρ := ρ) id (fun x => .bl (P x)) (xs := xs) (by rw [List.map_id]; exact h) he
  rw [dB_eq, dsN_cons e rfl, bindM_retM', o1_eq, pAll_map]
  rfl
theorem in_sts_all {rows : Rows} {L : List St} {it : DI} {i j : Nat} {ρ : Env'} {vs : List Nat} (h : it ρ = retM (L.map sD)) (hi : ∀ d, nth (put (wipes vs ρ) i (.fz d)) i = .fz d) (hj : ∀ d, nth (put (wipes vs ρ) i (.fz d)) j = .fz (.lst ((sts rows).map sD))) : dB (o1 pAll) [dCmp it (.nm i) none (d2 pIn (dV i) (dV j)) vs] ρ = retM (.bl ((L.map sD).all fun x => memD x ((sts rows).map sD))) := by
  refine all_st_comp _ h fun x hx => ?_
  obtain ⟨s, hs, e⟩ := List.mem_map.mp hx
  subst e
  refine d2_ret (x := sD s) (y := .lst ((sts rows).map sD)) (by rw [dV_eq, hi]) (by rw [dV_eq, hj]) ?_
  rw [pIn_st_lst, memD_sts]
def isPr (d : D) : Bool := match d with | .tup ys => decide (ys.length = 2) | _ => false
theorem pair_ok (d : D) (ρ : Env') (i : Nat) (h : nth ρ i = .fz d) : dAnd (dIsi .tuple (dV i)) (d2 pEq (dB (o1 pLen) [dV i]) (dC (.int 2))) ρ = retM (.bl (isPr d)) := by
  have v : dV i ρ = retM d := by rw [dV_eq, h]
  have hi : dIsi .tuple (dV i) ρ = retM (.bl (isTy .tuple d)) := by rw [dIsi_eq, v]; rfl
  cases d with
  | tup ys =>
    refine and_ret (a := true) (b := decide (ys.length = 2)) hi fun _ => d2_ret (x := .int (ys.length : Nat)) (y := .int 2) ?_ rfl ?_
    · rw [dB_eq, dsN_cons v rfl]
      rfl
    · rw [pEq_int]
      congr 2
      rw [Bool.eq_iff_iff, beq_iff_eq, decide_eq_true_eq]
      omega
  | _ => exact and_ret (a := false) (b := true) hi fun h => by cases h
def nm2 (d : D) : Bool := match d with | .tup ys => ys.all fun y => isNum y 0 99 | _ => false
theorem okSt_two (d : D) : okSt d = (isPr d && nm2 d) := by
  cases d <;> rfl
theorem all_two (xs : List D) : xs.all okSt = (xs.all isPr && xs.all nm2) := by
  induction xs with
  | nil => rfl
  | cons x xs ih =>
    rw [List.all_cons, List.all_cons, List.all_cons, ih, okSt_two]
    cases isPr x <;> cases nm2 x <;> cases xs.all isPr <;> cases xs.all nm2 <;> rfl
theorem is_lost_ok (rows : Rows) (hF : Few rows) (v : D) (hl : ∀ xs, v = .tup xs → xs.length ≤ 100000) : g_is_lost [wD rows, v] = retM (.bl (isStones rows v && riseD2 v)) := by
  cases v with
  | tup xs =>
    have kst := stones_ok rows hF
    have h1 : dB (o1 pAll) [dCmp (itV (dV 1)) (.nm 4) none (dAnd (dIsi .tuple (dV 4)) (d2 pEq (dB (o1 pLen) [dV 4]) (dC (.int 2)))) [4]] [.fz (wD rows), .fz (.tup xs), .fz (.lst ((sts rows).map sD)), .un, .un] = retM (.bl (xs.all isPr)) := all_st_comp isPr (itV_T rfl) fun x _ => pair_ok x _ 4 rfl
    have h2 : dAnd (dV 3) (dB (o1 pAll) [dCmp (itV (dV 1)) (.nm 4) none (dAnd (dCall g_is_number [d2 pIdx (dV 4) (dC (.int 0)), dC (.int 0), dC (.int 99)]) (dCall g_is_number [d2 pIdx (dV 4) (dC (.int 1)), dC (.int 0), dC (.int 99)])) [4]]) [.fz (wD rows), .fz (.tup xs), .fz (.lst ((sts rows).map sD)), .fz (.bl (xs.all isPr)), .un] = retM (.bl (xs.all okSt)) := by
      rw [all_two]
      refine and_ret rfl fun hp => all_st_comp nm2 (itV_T rfl) fun x hx => ?_
      have hpx := List.all_eq_true.mp hp x hx
      cases x with
      | tup ys =>
        have : ys.length = 2 := of_decide_eq_true hpx
        match ys, this with
        | [a, b], _ =>
          refine (and_ret (a := isNum a 0 99) (b := isNum b 0 99) (call_is (xs := [a, .int 0, .int 99]) rfl (number_ok a 0 99)) fun _ => call_is (xs := [b, .int 0, .int 99]) rfl (number_ok b 0 99)).trans ?_
          unfold nm2
          dsimp only
          rw [List.all_cons, List.all_cons, List.all_nil, Bool.and_true]
      | _ => cases hpx
    refine def_M ((no_M (c := dNot (dIsi .tuple (dV 1))) rfl).trans ((set_M (d := .lst ((sts rows).map sD)) (call_is (xs := [wD rows]) rfl kst)).trans ((set_M h1).trans ((set_M h2).trans (ret_M ?_)))))
    show dAnd (dV 3) (dAnd (dCall g_do_rise [dV 1]) _) [.fz (wD rows), .fz (.tup xs), .fz (.lst ((sts rows).map sD)), .fz (.bl (xs.all okSt)), .un] = _
    unfold isStones riseD2
    dsimp only
    cases q : xs.all okSt with
    | false => exact and_ret (a := false) (b := true) rfl fun h => by cases h
    | true =>
      obtain ⟨L, e⟩ := okSts_map q
      subst e
      have hd := do_rise_ok sD ltSt pLt_sD (0, 0) L (by have := hl _ rfl; rwa [List.length_map] at this)
      refine (and_ret (a := true) rfl fun _ => and_ret (call_is (xs := [.tup (L.map sD)]) rfl hd) fun _ => in_sts_all rfl (fun _ => rfl) fun _ => rfl).trans ?_
      rw [rise_map sD ltSt injS.l, Bool.true_and, Bool.true_and, Bool.and_comm]
  | _ => exact def_M (yes_M (c := dNot (dIsi .tuple (dV 1))) rfl (ret_M rfl))
theorem arest1 (x0 x1 x3 : Sl) (x : D) : b_are_stones_1 [x0, x1, .fz x, x3, .un] = if okSt x then nxM [x0, x1, .un, x3, .un] else reM (.bl false) := by
  have hc : (dOr (dNot (dIsi .tuple (dV 2))) (dOr (d2 pNe (dB (o1 pLen) [dV 2]) (dC (.int 2))) (dNot (dB (o1 pAll) [dCmp (itV (dV 2)) (.nm 4) none (dCall g_is_number [dV 4, dC (.int 0), dC (.int 99)]) [4]])))) [x0, x1, .fz x, x3, .un] = retM (.bl (!okSt x)) := by
    cases x with
    | tup ys =>
      have e1 : d2 pNe (dB (o1 pLen) [dV 2]) (dC (.int 2)) [x0, x1, .fz (.tup ys), x3, .un] = retM (.bl (!decide (ys.length = 2))) := by
        refine d2_ret (x := .int (ys.length : Nat)) (y := .int 2) ?_ rfl ?_
        · rw [dB_eq, dsN_cons (x := .tup ys) rfl rfl]
          rfl
        · rw [pNe_int]
          congr 3
          rw [Bool.eq_iff_iff, beq_iff_eq, decide_eq_true_eq]
          omega
      have e2 : dB (o1 pAll) [dCmp (itV (dV 2)) (.nm 4) none (dCall g_is_number [dV 4, dC (.int 0), dC (.int 99)]) [4]] [x0, x1, .fz (.tup ys), x3, .un] = retM (.bl (ys.all fun y => isNum y 0 99)) := all_st_comp _ (itV_T rfl) fun y _ => call_is (xs := [y, .int 0, .int 99]) rfl (number_ok y 0 99)
      have e3 := or_ret (a := !decide (ys.length = 2)) (b := !ys.all fun y => isNum y 0 99) e1 fun _ => not_ret e2
      rw [show (!decide (ys.length = 2) || !ys.all fun y => isNum y 0 99) = !okSt (.tup ys) by unfold okSt; dsimp only; rw [Bool.not_and]] at e3
      exact or_ret (a := false) (b := !okSt (.tup ys)) (show dNot (dIsi .tuple (dV 2)) [x0, x1, .fz (.tup ys), x3, .un] = _ from rfl) fun _ => e3
    | _ => exact or_ret (a := true) (b := true) rfl fun h => by cases h
  cases q : okSt x with
  | true =>
    rw [q] at hc
    exact (no_M hc).trans rfl
  | false =>
    rw [q] at hc
    exact yes_M hc fls_M
theorem are_stones_ok (rows : Rows) (hF : Few rows) (v : D) : g_are_stones [wD rows, v] = retM (.bl (isStones rows v)) := by
  cases v with
  | tup xs =>
    have kst := stones_ok rows hF
    have hl := for_all (tg := .nm 2) (body := b_are_stones_1) id okSt (.bl false) [.fz (wD rows), .fz (.tup xs), .un, .un, .un] xs fun x hx => ⟨_, rfl, arest1 _ _ _ x⟩
    rw [List.map_id] at hl
    refine def_M ((no_M (c := dNot (dIsi .tuple (dV 1))) rfl).trans ?_)
    cases q : xs.all okSt with
    | false =>
      rw [q, if_neg (by decide)] at hl
      refine (forR_M (itV_T (xs := xs) rfl) hl).trans ?_
      unfold isStones
      dsimp only
      rw [q]
      rfl
    | true =>
      rw [q, if_pos rfl] at hl
      refine (for_M (itV_T (xs := xs) rfl) hl).trans ((set_M (d := .lst ((sts rows).map sD)) (call_is (xs := [wD rows]) rfl kst)).trans (ret_M ?_))
      obtain ⟨L, e⟩ := okSts_map q
      subst e
      unfold isStones
      dsimp only
      rw [q, Bool.true_and]
      exact in_sts_all rfl (fun _ => rfl) fun _ => rfl
  | _ => exact def_M (yes_M (c := dNot (dIsi .tuple (dV 1))) rfl (ret_M rfl))
/-! ### who loses more -/
theorem bears_sub {rows : Rows} {L1 L2 : List St} (h : ∀ s ∈ L1, s ∈ L2) {s o : St} (ho : o ∈ bears rows L2 s) : o ∈ bears rows L1 s := by
  unfold bears at ho ⊢
  rw [List.mem_filter, Bool.and_eq_true] at ho ⊢
  refine ⟨ho.1, ?_, ho.2.2⟩
  have h2 := ho.2.1
  cases q : L1.contains o with
  | false => rfl
  | true =>
    have := h o (List.contains_iff_mem.mp q)
    rw [List.contains_iff_mem.mpr this] at h2
    cases h2
theorem borne_sub {rows : Rows} {L1 L2 : List St} (h : ∀ s ∈ L1, s ∈ L2) {s : St} (hb : Borne rows L2 s) : Borne rows L1 s := by
  rcases hb with q | ⟨⟨o, ho, q1⟩, o2, ho2, q2⟩
  · exact .inl q
  · exact .inr ⟨⟨o, bears_sub h ho, q1⟩, o2, bears_sub h ho2, q2⟩
theorem lf_mono (rows : Rows) : ∀ (ss : List St) (L1 L2 : List St), (∀ s ∈ L1, s ∈ L2) → ∀ s ∈ ss.foldl (lfStep rows) L1, s ∈ ss.foldl (lfStep rows) L2
  | [], _, _, h => h
  | z :: ss, L1, L2, h => by
    rw [List.foldl_cons, List.foldl_cons]
    refine lf_mono rows ss _ _ fun s hs => ?_
    unfold lfStep at hs ⊢
    have keep : s ∈ L1 → s ∈ (if (L2.contains z || decide (Borne rows L2 z)) = true then L2 else L2 ++ [z]) := fun hs => by
      have := h s hs
      split
      · exact this
      · exact List.mem_append_left _ this
    split at hs
    · exact keep hs
    · rename_i q
      rcases List.mem_append.mp hs with e | e
      · exact keep e
      · rw [List.mem_singleton.mp e]
        have q2 : ¬ Borne rows L2 z := fun hb => q (by rw [Bool.or_eq_true]; exact .inr (decide_eq_true (borne_sub h hb)))
        split
        · rename_i q3
          rw [Bool.or_eq_true] at q3
          rcases q3 with q3 | q3
          · exact List.contains_iff_mem.mp q3
          · exact absurd (of_decide_eq_true q3) q2
        · exact List.mem_append_right _ (List.mem_singleton.mpr rfl)
theorem falls_more {rows : Rows} {L1 L2 : List St} (h : ∀ s ∈ L1, s ∈ L2) : ∀ s ∈ fallsT rows L1, s ∈ fallsT rows L2 ∨ s ∈ L2 := by
  intro s hs
  rw [fallsT_is, List.mem_filter, Bool.and_eq_true, List.contains_iff_mem] at hs
  have h2 := lf_mono rows (sts rows) L1 L2 h s hs.2.1
  by_cases q : s ∈ L2
  · exact .inr q
  · refine .inl ?_
    rw [fallsT_is, List.mem_filter, Bool.and_eq_true, List.contains_iff_mem]
    refine ⟨hs.1, h2, ?_⟩
    rw [show L2.contains s = false by rw [← Bool.not_eq_true, List.contains_iff_mem]; exact q]
    rfl
/-! ### nothing falls when none is lost -/
theorem seg_at {r : List Int} (hr : ∀ x ∈ r, 1 ≤ x) {y : Int} (h0 : 0 ≤ y) (h1 : y < r.sum) : ∃ k, k < r.length ∧ (r.take k).sum ≤ y ∧ y < (r.take k).sum + r.getD k 0 := by
  induction r generalizing y with
  | nil => simp at h1; omega
  | cons a r ih =>
    have ha := hr a List.mem_cons_self
    rw [List.sum_cons] at h1
    by_cases q : y < a
    · exact ⟨0, by simp, by simpa using h0, by simpa using q⟩
    · obtain ⟨k, k1, k2, k3⟩ := ih (fun x hx => hr x (List.mem_cons_of_mem _ hx)) (y := y - a) (by omega) (by omega)
      refine ⟨k + 1, by rw [List.length_cons]; omega, ?_, ?_⟩
      · rw [List.take_succ_cons, List.sum_cons]; omega
      · rw [List.take_succ_cons, List.sum_cons, List.getD_cons_succ]; omega
theorem take_le_sum {r : List Int} (hr : ∀ x ∈ r, 1 ≤ x) {k : Nat} (hk : k < r.length) : 0 ≤ (r.take k).sum ∧ (r.take k).sum + r.getD k 0 ≤ r.sum ∧ 1 ≤ r.getD k 0 := by
  induction r generalizing k with
  | nil => simp at hk
  | cons a r ih =>
    have ha := hr a List.mem_cons_self
    have hs : 0 ≤ r.sum := by
      have := len_le_sum (r := r) fun x hx => hr x (List.mem_cons_of_mem _ hx)
      omega
    cases k with
    | zero => simp; omega
    | succ k =>
      rw [List.length_cons] at hk
      obtain ⟨h1, h2, h3⟩ := ih (fun x hx => hr x (List.mem_cons_of_mem _ hx)) (k := k) (by omega)
      rw [List.take_succ_cons, List.sum_cons, List.sum_cons, List.getD_cons_succ]
      omega
theorem whole_borne {rows : Rows} (ho : okRows rows = true) {s : St} (hs : s ∈ sts rows) : Borne rows [] s := by
  have A := okRows_iff.mp ho
  obtain ⟨h1, h2⟩ := mem_sts.mp hs
  by_cases q : s.1 = 0
  · exact .inl q
  · have hb : s.1 - 1 < rows.length := by omega
    have r1 := A.r _ (getD_mem (d := []) h1)
    have r2 := A.r _ (getD_mem (d := []) hb)
    have g1 : ∀ x ∈ rows.getD s.1 [], 1 ≤ x := fun x hx => (r1.2.1 x hx).1
    have g2 : ∀ x ∈ rows.getD (s.1 - 1) [], 1 ≤ x := fun x hx => (r2.2.1 x hx).1
    obtain ⟨t1, t2, t3⟩ := take_le_sum g1 h2
    have es : (rows.getD s.1 []).sum = (rows.getD (s.1 - 1) []).sum := r1.2.2.trans r2.2.2.symm
    have eS0 : s0 rows s = ((rows.getD s.1 []).take s.2).sum := rfl
    have eS1 : s1 rows s = ((rows.getD s.1 []).take s.2).sum + (rows.getD s.1 []).getD s.2 0 := rfl
    have mk : ∀ y : Int, s0 rows s ≤ y → y < s1 rows s → ∃ o ∈ bears rows [] s, s0 rows o ≤ y ∧ y < s1 rows o := fun y y0 y1 => by
      obtain ⟨k, k1, k2, k3⟩ := seg_at g2 (y := y) (by omega) (by omega)
      refine ⟨(s.1 - 1, k), ?_, k2, k3⟩
      unfold bears
      rw [List.mem_filter]
      refine ⟨mem_sts.mpr ⟨hb, k1⟩, ?_⟩
      have e0 : s0 rows (s.1 - 1, k) ≤ y := k2
      have e1 : y < s1 rows (s.1 - 1, k) := k3
      unfold over
      rw [decide_eq_true (show s.1 = (s.1 - 1, k).1 + 1 by show s.1 = s.1 - 1 + 1; omega), decide_eq_true (show s0 rows s < s1 rows (s.1 - 1, k) by omega), decide_eq_true (show s0 rows (s.1 - 1, k) < s1 rows s by omega)]
      rfl
    obtain ⟨o, o1, o2, o3⟩ := mk (s0 rows s) (Int.le_refl _) (by omega)
    obtain ⟨u, u1, u2, u3⟩ := mk (s1 rows s - 1) (by omega) (by omega)
    refine .inr ⟨⟨o, o1, ?_⟩, u, u1, ?_⟩
    · split <;> omega
    · split <;> omega
theorem none_falls {rows : Rows} (ho : okRows rows = true) : fallsT rows [] = [] := by
  have h : ∀ ss : List St, (∀ s ∈ ss, s ∈ sts rows) → ss.foldl (lfStep rows) [] = [] := by
    intro ss
    induction ss with
    | nil => intro _; rfl
    | cons z ss ih =>
      intro hm
      rw [List.foldl_cons]
      have : lfStep rows [] z = [] := by
        unfold lfStep
        rw [decide_eq_true (whole_borne ho (hm z List.mem_cons_self)), Bool.or_true, if_pos rfl]
      rw [this]
      exact ih fun s hs => hm s (List.mem_cons_of_mem _ hs)
  rw [fallsT_is, h _ fun _ h => h, List.filter_eq_nil_iff]
  intro s _ hc
  simp at hc
end DL
namespace DL
theorem nodup_sub_len {α : Type} [BEq α] [LawfulBEq α] : ∀ {l D : List α}, l.Nodup → (∀ x ∈ l, x ∈ D) → l.length ≤ D.length
  | [], _, _, _ => Nat.zero_le _
  | x :: l, D, hn, hs => by
    obtain ⟨h1, h2⟩ := List.nodup_cons.mp hn
    have hx : x ∈ D := hs x List.mem_cons_self
    have ih := nodup_sub_len (l := l) (D := D.erase x) h2 fun y hy => by
      have hne : y ≠ x := fun e => h1 (e ▸ hy)
      exact (List.mem_erase_of_ne hne).2 (hs y (List.mem_cons_of_mem _ hy))
    have e := List.length_erase_of_mem hx
    have hp : 0 < D.length := List.length_pos_of_mem hx
    rw [List.length_cons]
    omega
end DL
namespace DL.K07
set_option autoImplicit false
open PySem PySem.Spec L2 PyProof.Rows DL
abbrev top (i : Nat) : Stmt := PySem.Challenge.pw_drystones_k07_stones_that_fall.main.body.getD i (.Pass ⟨0, 0, 0, 0⟩)
abbrev FnD (K : PySem.W.Frag) (x : Str) (st : Stmt) (f : Addr) (fd : FuncData) : Prop := FunD K x x (defArgs st) (defBody st) (defScope st) [] [] f fd
structure Fx (P : Program) (w : World) (K : PySem.W.Frag) (mg : Str → Option Value) (base : Heap) (T : List (Addr × Str)) : Prop where
  f_abs : mg "abs" = none
  f_all : mg "all" = none
  f_bool : mg "bool" = none
  f_dict : mg "dict" = none
  f_enumerate : mg "enumerate" = none
  f_int : mg "int" = none
  f_isinstance : mg "isinstance" = none
  f_len : mg "len" = none
  f_list : mg "list" = none
  f_max : mg "max" = none
  f_min : mg "min" = none
  f_range : mg "range" = none
  f_set : mg "set" = none
  f_sorted : mg "sorted" = none
  f_str : mg "str" = none
  f_sum : mg "sum" = none
  f_tuple : mg "tuple" = none
  d_is_number : ∃ fd, FnD K "is_number" (top 5) (He.ga K "is_number") fd
  m_is_number : mg "is_number" = some (.ref (He.ga K "is_number"))
  d_is_row : ∃ fd, FnD K "is_row" (top 6) (He.ga K "is_row") fd
  m_is_row : mg "is_row" = some (.ref (He.ga K "is_row"))
  d_do_rise : ∃ fd, FnD K "do_rise" (top 7) (He.ga K "do_rise") fd
  m_do_rise : mg "do_rise" = some (.ref (He.ga K "do_rise"))
  d_are_rows : ∃ fd, FnD K "are_rows" (top 11) (He.ga K "are_rows") fd
  m_are_rows : mg "are_rows" = some (.ref (He.ga K "are_rows"))
  d_need_rows : ∃ fd, FnD K "need_rows" (top 12) (He.ga K "need_rows") fd
  m_need_rows : mg "need_rows" = some (.ref (He.ga K "need_rows"))
  d_stones_of : ∃ fd, FnD K "stones_of" (top 13) (He.ga K "stones_of") fd
  m_stones_of : mg "stones_of" = some (.ref (He.ga K "stones_of"))
  d_span_of : ∃ fd, FnD K "span_of" (top 14) (He.ga K "span_of") fd
  m_span_of : mg "span_of" = some (.ref (He.ga K "span_of"))
  d_is_over : ∃ fd, FnD K "is_over" (top 15) (He.ga K "is_over") fd
  m_is_over : mg "is_over" = some (.ref (He.ga K "is_over"))
  d_is_lost : ∃ fd, FnD K "is_lost" (top 17) (He.ga K "is_lost") fd
  m_is_lost : mg "is_lost" = some (.ref (He.ga K "is_lost"))
  d_holds : ∃ fd, FnD K "holds" (top 18) (He.ga K "holds") fd
  m_holds : mg "holds" = some (.ref (He.ga K "holds"))
  d_fallen : ∃ fd, FnD K "fallen" (top 19) (He.ga K "fallen") fd
  m_fallen : mg "fallen" = some (.ref (He.ga K "fallen"))
  d_falls : ∃ fd, FnD K "falls" (top 20) (He.ga K "falls") fd
  m_falls : mg "falls" = some (.ref (He.ga K "falls"))
  d_weak_of : ∃ fd, FnD K "weak_of" (top 21) (He.ga K "weak_of") fd
  m_weak_of : mg "weak_of" = some (.ref (He.ga K "weak_of"))
  d_weak : ∃ fd, FnD K "weak" (top 22) (He.ga K "weak") fd
  m_weak : mg "weak" = some (.ref (He.ga K "weak"))
  d_is_firm : ∃ fd, FnD K "is_firm" (top 23) (He.ga K "is_firm") fd
  m_is_firm : mg "is_firm" = some (.ref (He.ga K "is_firm"))
  d__law_pot : ∃ fd, FnD K "_law_pot" (top 25) (He.ga K "_law_pot") fd
  m__law_pot : mg "_law_pot" = some (.ref (He.ga K "_law_pot"))
  d__law_draw : ∃ fd, FnD K "_law_draw" (top 26) (He.ga K "_law_draw") fd
  m__law_draw : mg "_law_draw" = some (.ref (He.ga K "_law_draw"))
  d__law_pick : ∃ fd, FnD K "_law_pick" (top 27) (He.ga K "_law_pick") fd
  m__law_pick : mg "_law_pick" = some (.ref (He.ga K "_law_pick"))
  d__law_same : ∃ fd, FnD K "_law_same" (top 28) (He.ga K "_law_same") fd
  m__law_same : mg "_law_same" = some (.ref (He.ga K "_law_same"))
  d__law_odd : ∃ fd, FnD K "_law_odd" (top 29) (He.ga K "_law_odd") fd
  m__law_odd : mg "_law_odd" = some (.ref (He.ga K "_law_odd"))
  d__law_bent : ∃ fd, FnD K "_law_bent" (top 30) (He.ga K "_law_bent") fd
  m__law_bent : mg "_law_bent" = some (.ref (He.ga K "_law_bent"))
  d__law_within : ∃ fd, FnD K "_law_within" (top 31) (He.ga K "_law_within") fd
  m__law_within : mg "_law_within" = some (.ref (He.ga K "_law_within"))
  d__law_is_rise : ∃ fd, FnD K "_law_is_rise" (top 32) (He.ga K "_law_is_rise") fd
  m__law_is_rise : mg "_law_is_rise" = some (.ref (He.ga K "_law_is_rise"))
  d__law_built : ∃ fd, FnD K "_law_built" (top 33) (He.ga K "_law_built") fd
  m__law_built : mg "_law_built" = some (.ref (He.ga K "_law_built"))
  d__law_are_rows : ∃ fd, FnD K "_law_are_rows" (top 34) (He.ga K "_law_are_rows") fd
  m__law_are_rows : mg "_law_are_rows" = some (.ref (He.ga K "_law_are_rows"))
  d__law_stones : ∃ fd, FnD K "_law_stones" (top 35) (He.ga K "_law_stones") fd
  m__law_stones : mg "_law_stones" = some (.ref (He.ga K "_law_stones"))
  d__law_cells : ∃ fd, FnD K "_law_cells" (top 36) (He.ga K "_law_cells") fd
  m__law_cells : mg "_law_cells" = some (.ref (He.ga K "_law_cells"))
  d__law_falls : ∃ fd, FnD K "_law_falls" (top 37) (He.ga K "_law_falls") fd
  m__law_falls : mg "_law_falls" = some (.ref (He.ga K "_law_falls"))
  d__law_is_stones : ∃ fd, FnD K "_law_is_stones" (top 38) (He.ga K "_law_is_stones") fd
  m__law_is_stones : mg "_law_is_stones" = some (.ref (He.ga K "_law_is_stones"))
  d__law_raises : ∃ fd, FnD K "_law_raises" (top 39) (He.ga K "_law_raises") fd
  m__law_raises : mg "_law_raises" = some (.ref (He.ga K "_law_raises"))
  c_MOST_WIDTH : ∃ t, mg "MOST_WIDTH" = some (.int 12 t)
  c_MOST_HEIGHT : ∃ t, mg "MOST_HEIGHT" = some (.int 6 t)
  x_NoRows : ExN K mg "NoRows"
  x_NotThere : ExN K mg "NotThere"
  e : Exm K mg ["WallError", "NoRows", "NotThere"]
  rz : RzD K mg "_law_raises" ["WallError", "NoRows", "NotThere"] ["NoRows", "NotThere"]
section
variable {P : Program} {w : World} {K : PySem.W.Frag} {mg : Str → Option Value} {base : Heap} {T : List (Addr × Str)}
theorem ok_is_number (Z : Fx P w K mg base T) : DFn P w K mg base 1 "is_number" (spN ⟨P, w, mg, T⟩ 3 g_is_number) := by
  obtain ⟨fd, FD⟩ := Z.d_is_number
  refine ⟨_, fd, ["value", "least", "most"], fn_n FD (N := ["value", "least", "most"]) (k := 0) ⟨rfl, rfl, rfl, by decide +kernel, rfl, by decide +kernel, by decide +kernel⟩ s_is_number fun cdv A outer sh F0 H E B => ?_, Z.m_is_number, FD.kp, FD.bindsN fun _ _ _ _ _ _ us hl => match us, hl with | [_, _, _], _ => rfl⟩
  exact bcons (sret (ea (eis .int (lent (ev 0)) Z.f_isinstance Z.f_int rfl rfl) (ea (ent (eis .bool (lent (ev 0)) Z.f_isinstance Z.f_bool rfl rfl)) (ea1 (ech o_le o_le (lent (ev 1)) (lent (ev 0)) (lent (ev 2))))))) (bnil)
theorem ok_is_row (Z : Fx P w K mg base T) : DFn P w K mg base 2 "is_row" (spN ⟨P, w, mg, T⟩ 5 g_is_row) := by
  have h_is_number := fun {k : Nat} (e : 1 ≤ k) => (ok_is_number Z).mono e
  obtain ⟨fd, FD⟩ := Z.d_is_row
  refine ⟨_, fd, ["value", "least", "most", "low", "high"], fn_n FD (N := ["value", "least", "most", "low", "high", "one"]) (k := 1) ⟨rfl, rfl, rfl, by decide +kernel, rfl, by decide +kernel, by decide +kernel⟩ s_is_row fun cdv A outer sh F0 H E B => ?_, Z.m_is_row, FD.kp, FD.bindsN fun _ _ _ _ _ _ us hl => match us, hl with | [_, _, _, _, _], _ => rfl⟩
  exact bcons (sif ((wo (tn (tv (eis .tuple (lent (ev 0)) Z.f_isinstance Z.f_tuple rfl rfl))) (wo1 (tn (tch o_le o_le (lent (ev 1)) (lent (bi c_len Z.f_len (alc (lent (ev 0)) (aln)) rfl)) (lent (ev 2)))))).pt) (bcons (sret (eb)) (bnil)) (bnil)) (bcons (sret (bi (c_all B.calm) Z.f_all (alc (lent (elc [("one", 5)] B (iv (ev 0)) (rnm 5) (fun _ _ _ _ _ => tnm 5 B.nd) (fun _ _ _ _ _ => ek (Bd.blk B) (h_is_number (by decide)) (ac (ev 5) (ac (ev 3) (ac (ev 4) (an))))))) (aln)) rfl)) (bnil))
theorem ok_do_rise (Z : Fx P w K mg base T) : DFn P w K mg base 1 "do_rise" (spN ⟨P, w, mg, T⟩ 1 g_do_rise) := by
  obtain ⟨fd, FD⟩ := Z.d_do_rise
  refine ⟨_, fd, ["value"], fn_n FD (N := ["value", "at"]) (k := 0) ⟨rfl, rfl, rfl, by decide +kernel, rfl, by decide +kernel, by decide +kernel⟩ s_do_rise fun cdv A outer sh F0 H E B => ?_, Z.m_do_rise, FD.kp, FD.bindsN fun _ _ _ _ _ _ us hl => match us, hl with | [_], _ => rfl⟩
  exact bcons (sret (bi (c_all B.calm) Z.f_all (alc (lent (elc [("at", 1)] B (ir1 (e2 o_sub (lent (bi c_len Z.f_len (alc (lent (ev 0)) (aln)) rfl)) (lent (ei))) rfl Z.f_range) (rnm 1) (fun _ _ _ _ _ => tnm 1 B.nd) (fun _ _ _ _ _ => ec (o_lt ((Bd.blk B).hr.mono (Nat.zero_le _))) (lent (ex (lent (ev 0)) (lent (ev 1)))) (lent (ex (lent (ev 0)) (lent (e2 o_add (lent (ev 1)) (lent (ei))))))))) (aln)) rfl)) (bnil)
theorem ok_are_rows (Z : Fx P w K mg base T) : DFn P w K mg base 3 "are_rows" (spN ⟨P, w, mg, T⟩ 1 g_are_rows) := by
  have h_is_row := fun {k : Nat} (e : 2 ≤ k) => (ok_is_row Z).mono e
  obtain ⟨tc_MOST_HEIGHT, hc_MOST_HEIGHT⟩ := Z.c_MOST_HEIGHT
  obtain ⟨tc_MOST_WIDTH, hc_MOST_WIDTH⟩ := Z.c_MOST_WIDTH
  obtain ⟨fd, FD⟩ := Z.d_are_rows
  refine ⟨_, fd, ["value"], fn_n FD (N := ["value", "wide", "course"]) (k := 2) ⟨rfl, rfl, rfl, by decide +kernel, rfl, by decide +kernel, by decide +kernel⟩ s_are_rows fun cdv A outer sh F0 H E B => ?_, Z.m_are_rows, FD.kp, FD.bindsN fun _ _ _ _ _ _ us hl => match us, hl with | [_], _ => rfl⟩
  exact bcons (sif ((wo (tn (tv (eis .tuple (lent (ev 0)) Z.f_isinstance Z.f_tuple rfl rfl))) (wo1 (tn (tch o_le o_le (lent (ei)) (lent (bi c_len Z.f_len (alc (lent (ev 0)) (aln)) rfl)) (lent (eg hc_MOST_HEIGHT)))))).pt) (bcons (sret (eb)) (bnil)) (bnil)) (bcons (sif (tn (tv (bi (c_all B.calm) Z.f_all (alc (lent (elc [("course", 2)] B (iv (ev 0)) (rnm 2) (fun _ _ _ _ _ => tnm 2 B.nd) (fun _ _ _ _ _ => ek (Bd.blk B) (h_is_row (by decide)) (ac (ev 2) (ac (ei) (ac (eg hc_MOST_WIDTH) (ac (ei) (ac (eg hc_MOST_WIDTH) (an))))))))) (aln)) rfl))) (bcons (sret (eb)) (bnil)) (bnil)) (bcons (sset 1 B.nd (bi (c_sum B.calm) Z.f_sum (alc (lent (ex (lent (ev 0)) (lent (ei)))) (aln)) rfl)) (bcons (sret (ea (ec o_le (lent (ev 1)) (lent (eg hc_MOST_WIDTH))) (ea1 (bi (c_all B.calm) Z.f_all (alc (lent (elc [("course", 2)] B (iv (ev 0)) (rnm 2) (fun _ _ _ _ _ => tnm 2 B.nd) (fun _ _ _ _ _ => ec (o_eq ((Bd.blk B).hr.mono (Nat.zero_le _))) (lent (bi (c_sum (Bd.blk B).calm) Z.f_sum (alc (lent (ev 2)) (aln)) rfl)) (lent (ev 1))))) (aln)) rfl)))) (bnil))))
theorem ok_need_rows (Z : Fx P w K mg base T) : DFn P w K mg base 4 "need_rows" (spN ⟨P, w, mg, T⟩ 1 g_need_rows) := by
  have h_are_rows := fun {k : Nat} (e : 3 ≤ k) => (ok_are_rows Z).mono e
  obtain ⟨fd, FD⟩ := Z.d_need_rows
  refine ⟨_, fd, ["rows"], fn_n FD (N := ["rows"]) (k := 3) ⟨rfl, rfl, rfl, by decide +kernel, rfl, by decide +kernel, by decide +kernel⟩ s_need_rows fun cdv A outer sh F0 H E B => ?_, Z.m_need_rows, FD.kp, FD.bindsN fun _ _ _ _ _ _ us hl => match us, hl with | [_], _ => rfl⟩
  exact bcons (sif (tn (tv (ek B (h_are_rows (by decide)) (ac (ev 0) (an))))) (bcons (sraise0 B Z.x_NoRows) (bnil)) (bnil)) (bnil)
theorem ok_stones_of (Z : Fx P w K mg base T) : DFn P w K mg base 1 "stones_of" (spN ⟨P, w, mg, T⟩ 1 g_stones_of) := by
  obtain ⟨fd, FD⟩ := Z.d_stones_of
  refine ⟨_, fd, ["rows"], fn_n FD (N := ["rows", "found", "at", "course", "number"]) (k := 0) ⟨rfl, rfl, rfl, by decide +kernel, rfl, by decide +kernel, by decide +kernel⟩ s_stones_of fun cdv A outer sh F0 H E B => ?_, Z.m_stones_of, FD.kp, FD.bindsN fun _ _ _ _ _ _ us hl => match us, hl with | [_], _ => rfl⟩
  exact bcons (sownl 1 B.nd (an)) (bcons (skill [2, 3] (sfort [2, 3] B (ie (ev 0) rfl Z.f_enumerate) (gn1 2 B.nd (gn1 3 B.nd gn0)) (bcons (sext 1 (elc [("number", 4)] B (ir1 (bi c_len Z.f_len (alc (lent (ev 3)) (aln)) rfl) rfl Z.f_range) (rnm 4) (fun _ _ _ _ _ => tnm 4 B.nd) (fun _ _ _ _ _ => et (ac (ev 2) (ac (ev 4) (an)))))) (bkill [2, 3] bnil)))) (bfz 1 (bcons (sret (ev 1)) (bnil))))
theorem ok_span_of (Z : Fx P w K mg base T) : DFn P w K mg base 1 "span_of" (spN ⟨P, w, mg, T⟩ 2 g_span_of) := by
  obtain ⟨fd, FD⟩ := Z.d_span_of
  refine ⟨_, fd, ["rows", "stone"], fn_n FD (N := ["rows", "stone", "course", "start"]) (k := 0) ⟨rfl, rfl, rfl, by decide +kernel, rfl, by decide +kernel, by decide +kernel⟩ s_span_of fun cdv A outer sh F0 H E B => ?_, Z.m_span_of, FD.kp, FD.bindsN fun _ _ _ _ _ _ us hl => match us, hl with | [_, _], _ => rfl⟩
  exact bcons (sset 2 B.nd (ex (lent (ev 0)) (lent (ex (lent (ev 1)) (lent (ei)))))) (bcons (sset 3 B.nd (bi (c_sum B.calm) Z.f_sum (alc (lent (esl (lent (ev 2)) sn (ss (ex (lent (ev 1)) (lent (ei)))))) (aln)) rfl)) (bcons (sret (et (ac (ev 3) (ac (e2 o_add (lent (ev 3)) (lent (ex (lent (ev 2)) (lent (ex (lent (ev 1)) (lent (ei))))))) (an))))) (bnil)))
theorem ok_is_over (Z : Fx P w K mg base T) : DFn P w K mg base 2 "is_over" (spN ⟨P, w, mg, T⟩ 3 g_is_over) := by
  have h_span_of := fun {k : Nat} (e : 1 ≤ k) => (ok_span_of Z).mono e
  obtain ⟨fd, FD⟩ := Z.d_is_over
  refine ⟨_, fd, ["rows", "stone", "other"], fn_n FD (N := ["rows", "stone", "other", "one", "own"]) (k := 1) ⟨rfl, rfl, rfl, by decide +kernel, rfl, by decide +kernel, by decide +kernel⟩ s_is_over fun cdv A outer sh F0 H E B => ?_, Z.m_is_over, FD.kp, FD.bindsN fun _ _ _ _ _ _ us hl => match us, hl with | [_, _, _], _ => rfl⟩
  exact bcons (sif (tc (o_ne (B.hr.mono (Nat.zero_le _))) (lent (ex (lent (ev 1)) (lent (ei)))) (lent (e2 o_add (lent (ex (lent (ev 2)) (lent (ei)))) (lent (ei))))) (bcons (sret (eb)) (bnil)) (bnil)) (bcons (sset 3 B.nd (ek B (h_span_of (by decide)) (ac (ev 0) (ac (ev 1) (an))))) (bcons (sset 4 B.nd (ek B (h_span_of (by decide)) (ac (ev 0) (ac (ev 2) (an))))) (bcons (sret (ea (ec (o_lt (B.hr.mono (Nat.zero_le _))) (lent (ex (lent (ev 3)) (lent (ei)))) (lent (ex (lent (ev 4)) (lent (ei))))) (ea1 (ec (o_lt (B.hr.mono (Nat.zero_le _))) (lent (ex (lent (ev 4)) (lent (ei)))) (lent (ex (lent (ev 3)) (lent (ei)))))))) (bnil))))
theorem ok_is_lost (Z : Fx P w K mg base T) : DFn P w K mg base 2 "is_lost" (spN ⟨P, w, mg, T⟩ 2 g_is_lost) := by
  have h_is_number := fun {k : Nat} (e : 1 ≤ k) => (ok_is_number Z).mono e
  have h_do_rise := fun {k : Nat} (e : 1 ≤ k) => (ok_do_rise Z).mono e
  have h_stones_of := fun {k : Nat} (e : 1 ≤ k) => (ok_stones_of Z).mono e
  obtain ⟨fd, FD⟩ := Z.d_is_lost
  refine ⟨_, fd, ["rows", "value"], fn_n FD (N := ["rows", "value", "some", "is_right", "own"]) (k := 1) ⟨rfl, rfl, rfl, by decide +kernel, rfl, by decide +kernel, by decide +kernel⟩ s_is_lost fun cdv A outer sh F0 H E B => ?_, Z.m_is_lost, FD.kp, FD.bindsN fun _ _ _ _ _ _ us hl => match us, hl with | [_, _], _ => rfl⟩
  exact bcons (sif (tn (tv (eis .tuple (lent (ev 1)) Z.f_isinstance Z.f_tuple rfl rfl))) (bcons (sret (eb)) (bnil)) (bnil)) (bcons (sset 2 B.nd (ek B (h_stones_of (by decide)) (ac (ev 0) (an)))) (bcons (sset 3 B.nd (bi (c_all B.calm) Z.f_all (alc (lent (elc [("own", 4)] B (iv (ev 1)) (rnm 4) (fun _ _ _ _ _ => tnm 4 B.nd) (fun _ _ _ _ _ => ea (eis .tuple (lent (ev 4)) Z.f_isinstance Z.f_tuple rfl rfl) (ea1 (ec (o_eq ((Bd.blk B).hr.mono (Nat.zero_le _))) (lent (bi c_len Z.f_len (alc (lent (ev 4)) (aln)) rfl)) (lent (ei))))))) (aln)) rfl)) (bcons (sset 3 B.nd (ea (ev 3) (ea1 (bi (c_all B.calm) Z.f_all (alc (lent (elc [("own", 4)] B (iv (ev 1)) (rnm 4) (fun _ _ _ _ _ => tnm 4 B.nd) (fun _ _ _ _ _ => ea (ek (Bd.blk B) (h_is_number (by decide)) (ac (ex (lent (ev 4)) (lent (ei))) (ac (ei) (ac (ei) (an))))) (ea1 (ek (Bd.blk B) (h_is_number (by decide)) (ac (ex (lent (ev 4)) (lent (ei))) (ac (ei) (ac (ei) (an))))))))) (aln)) rfl)))) (bcons (sret (ea (ev 3) (ea (ek B (h_do_rise (by decide)) (ac (ev 1) (an))) (ea1 (bi (c_all B.calm) Z.f_all (alc (lent (elc [("own", 4)] B (iv (ev 1)) (rnm 4) (fun _ _ _ _ _ => tnm 4 B.nd) (fun _ _ _ _ _ => ec (o_in ((Bd.blk B).hr.mono (Nat.zero_le _))) (lent (ev 4)) (lent (ev 2))))) (aln)) rfl))))) (bnil)))))
theorem ok_holds (Z : Fx P w K mg base T) : DFn P w K mg base 3 "holds" (spN ⟨P, w, mg, T⟩ 3 g_holds) := by
  have h_stones_of := fun {k : Nat} (e : 1 ≤ k) => (ok_stones_of Z).mono e
  have h_span_of := fun {k : Nat} (e : 1 ≤ k) => (ok_span_of Z).mono e
  have h_is_over := fun {k : Nat} (e : 2 ≤ k) => (ok_is_over Z).mono e
  obtain ⟨fd, FD⟩ := Z.d_holds
  refine ⟨_, fd, ["rows", "stone", "gone"], fn_n FD (N := ["rows", "stone", "gone", "start", "end", "spans", "low", "high", "other", "span"]) (k := 2) ⟨rfl, rfl, rfl, by decide +kernel, rfl, by decide +kernel, by decide +kernel⟩ s_holds fun cdv A outer sh F0 H E B => ?_, Z.m_holds, FD.kp, FD.bindsN fun _ _ _ _ _ _ us hl => match us, hl with | [_, _, _], _ => rfl⟩
  exact bcons (sif (tc (o_eq (B.hr.mono (Nat.zero_le _))) (lent (ex (lent (ev 1)) (lent (ei)))) (lent (ei))) (bcons (sret (eb)) (bnil)) (bnil)) (bcons (sunp [3, 4] B.calm (ek B (h_span_of (by decide)) (ac (ev 0) (ac (ev 1) (an)))) (gn1 3 B.nd (gn1 4 B.nd gn0))) (bcons (slci 5 [("other", 8)] B (iv (ek B (h_stones_of (by decide)) (ac (ev 0) (an)))) (rnm 8) (fun _ _ _ _ _ => tnm 8 B.nd) (fun _ _ _ _ _ => (wa (tc (o_notinX ((Bd.blk B).hr.mono (Nat.zero_le _))) (lent (ev 8)) (lent (ev 2))) (wa1 (tv (ek (Bd.blk B) (h_is_over (by decide)) (ac (ev 0) (ac (ev 1) (ac (ev 8) (an)))))))).pt) (fun _ _ _ _ _ => ek (Bd.blk B) (h_span_of (by decide)) (ac (ev 0) (ac (ev 8) (an)))) (sw_true rfl rfl rfl rfl)) (bcons (sif (tc (o_eq (B.hr.mono (Nat.zero_le _))) (lent (bi c_len Z.f_len (alc (lent (ev 5)) (aln)) rfl)) (lent (ei))) (bcons (sret (eb)) (bnil)) (bnil)) (bcons (sset 6 B.nd (bi (c_min B.calm B.hr) Z.f_min (alc (lent (elc [("span", 9)] B (iv (ev 5)) (rnm 9) (fun _ _ _ _ _ => tnm 9 B.nd) (fun _ _ _ _ _ => bi (c_max2 (Bd.blk B).calm) Z.f_max (alc (lent (ev 3)) (alc (lent (ex (lent (ev 9)) (lent (ei)))) (aln))) rfl))) (aln)) rfl)) (bcons (sset 7 B.nd (bi (c_max B.calm B.hr) Z.f_max (alc (lent (elc [("span", 9)] B (iv (ev 5)) (rnm 9) (fun _ _ _ _ _ => tnm 9 B.nd) (fun _ _ _ _ _ => bi (c_min2 (Bd.blk B).calm) Z.f_min (alc (lent (ev 4)) (alc (lent (ex (lent (ev 9)) (lent (ei)))) (aln))) rfl))) (aln)) rfl)) (bcons (sret (ech o_le o_le (lent (e2 o_mul (lent (ei)) (lent (ev 6)))) (lent (e2 o_add (lent (ev 3)) (lent (ev 4)))) (lent (e2 o_mul (lent (ei)) (lent (ev 7)))))) (bnil)))))))
theorem ok_fallen (Z : Fx P w K mg base T) : DFn P w K mg base 4 "fallen" (spN ⟨P, w, mg, T⟩ 2 g_fallen) := by
  have h_stones_of := fun {k : Nat} (e : 1 ≤ k) => (ok_stones_of Z).mono e
  have h_holds := fun {k : Nat} (e : 3 ≤ k) => (ok_holds Z).mono e
  obtain ⟨fd, FD⟩ := Z.d_fallen
  refine ⟨_, fd, ["rows", "lost"], fn_n FD (N := ["rows", "lost", "gone", "found", "stone"]) (k := 3) ⟨rfl, rfl, rfl, by decide +kernel, rfl, by decide +kernel, by decide +kernel⟩ s_fallen fun cdv A outer sh F0 H E B => ?_, Z.m_fallen, FD.kp, FD.bindsN fun _ _ _ _ _ _ us hl => match us, hl with | [_, _], _ => rfl⟩
  exact bcons (sownn 2 B.nd (ndict (lent (elc [("stone", 4)] B (iv (ev 1)) (rnm 4) (fun _ _ _ _ _ => tnm 4 B.nd) (fun _ _ _ _ _ => et (ac (ev 4) (ac (eb) (an)))))) Z.f_dict B.calm (B.hr.mono (Nat.zero_le _)))) (bcons (sownl 3 B.nd (an)) (bcons (skill [4] (sforn 4 B (iv (ek B (h_stones_of (by decide)) (ac (ev 0) (an)))) (bcons (sif ((wa (tc (o_notinX (B.hr.mono (Nat.zero_le _))) (lent (ev 4)) (eo 2)) (wa1 (tn (tv (elend 2 rfl (ek B (h_holds (by decide)) (ac (ev 0) (ac (ev 4) (ac (ev 2) (an)))))))))).pt) (bcons (sstx 2 (B.hr.mono (Nat.zero_le _)) (eb) (ev 4)) (bcons (sapp 3 (ev 4)) (bnil))) (bnil)) (bkill [4] bnil)))) (bcons (sret (bt c_tuple Z.f_tuple (alc (eo 3) (aln)) rfl)) (bnil))))
def s_falls : DS := sSeq (sExpr (dCall g_need_rows [dV 0])) (sSeq (sIf (dNot (dCall g_is_lost [dV 0, dV 1])) (sSeq (sRaise "NotThere" [] []) (sPass)) (sPass)) (sSeq (sRet (dCall g_fallen [dV 0, dV 1])) (sPass)))
def g_falls : List D → M D := dDef 2 s_falls
theorem ok_falls (Z : Fx P w K mg base T) : DFn P w K mg base 5 "falls" (spN ⟨P, w, mg, T⟩ 2 g_falls) := by
  have h_need_rows := fun {k : Nat} (e : 4 ≤ k) => (ok_need_rows Z).mono e
  have h_is_lost := fun {k : Nat} (e : 2 ≤ k) => (ok_is_lost Z).mono e
  have h_fallen := fun {k : Nat} (e : 4 ≤ k) => (ok_fallen Z).mono e
  obtain ⟨fd, FD⟩ := Z.d_falls
  refine ⟨_, fd, ["rows", "lost"], fn_n FD (N := ["rows", "lost"]) (k := 4) ⟨rfl, rfl, rfl, by decide +kernel, rfl, by decide +kernel, by decide +kernel⟩ s_falls fun cdv A outer sh F0 H E B => ?_, Z.m_falls, FD.kp, FD.bindsN fun _ _ _ _ _ _ us hl => match us, hl with | [_, _], _ => rfl⟩
  exact bcons (sexpr (ek B (h_need_rows (by decide)) (ac (ev 0) (an)))) (bcons (sif (tn (tv (ek B (h_is_lost (by decide)) (ac (ev 0) (ac (ev 1) (an)))))) (bcons (sraise0 B Z.x_NotThere) (bnil)) (bnil)) (bcons (sret (ek B (h_fallen (by decide)) (ac (ev 0) (ac (ev 1) (an))))) (bnil)))
theorem ok_weak_of (Z : Fx P w K mg base T) : DFn P w K mg base 5 "weak_of" (spN ⟨P, w, mg, T⟩ 1 g_weak_of) := by
  have h_stones_of := fun {k : Nat} (e : 1 ≤ k) => (ok_stones_of Z).mono e
  have h_fallen := fun {k : Nat} (e : 4 ≤ k) => (ok_fallen Z).mono e
  obtain ⟨fd, FD⟩ := Z.d_weak_of
  refine ⟨_, fd, ["rows"], fn_n FD (N := ["rows", "stone"]) (k := 4) ⟨rfl, rfl, rfl, by decide +kernel, rfl, by decide +kernel, by decide +kernel⟩ s_weak_of fun cdv A outer sh F0 H E B => ?_, Z.m_weak_of, FD.kp, FD.bindsN fun _ _ _ _ _ _ us hl => match us, hl with | [_], _ => rfl⟩
  exact bcons (sret (elci [("stone", 1)] B (iv (ek B (h_stones_of (by decide)) (ac (ev 0) (an)))) (rnm 1) (fun _ _ _ _ _ => tnm 1 B.nd) (fun _ _ _ _ _ => tc o_gt (lent (bi c_len Z.f_len (alc (lent (ek (Bd.blk B) (h_fallen (by decide)) (ac (ev 0) (ac (et (ac (ev 1) (an))) (an))))) (aln)) rfl)) (lent (ei))) (fun _ _ _ _ _ => ev 1))) (bnil)
def s_weak : DS := sSeq (sExpr (dCall g_need_rows [dV 0])) (sSeq (sRet (dB (o1 pTuple) [dCall g_weak_of [dV 0]])) (sPass))
def g_weak : List D → M D := dDef 1 s_weak
theorem ok_weak (Z : Fx P w K mg base T) : DFn P w K mg base 6 "weak" (spN ⟨P, w, mg, T⟩ 1 g_weak) := by
  have h_need_rows := fun {k : Nat} (e : 4 ≤ k) => (ok_need_rows Z).mono e
  have h_weak_of := fun {k : Nat} (e : 5 ≤ k) => (ok_weak_of Z).mono e
  obtain ⟨fd, FD⟩ := Z.d_weak
  refine ⟨_, fd, ["rows"], fn_n FD (N := ["rows"]) (k := 5) ⟨rfl, rfl, rfl, by decide +kernel, rfl, by decide +kernel, by decide +kernel⟩ s_weak fun cdv A outer sh F0 H E B => ?_, Z.m_weak, FD.kp, FD.bindsN fun _ _ _ _ _ _ us hl => match us, hl with | [_], _ => rfl⟩
  exact bcons (sexpr (ek B (h_need_rows (by decide)) (ac (ev 0) (an)))) (bcons (sret (bt c_tuple Z.f_tuple (alc (lent (ek B (h_weak_of (by decide)) (ac (ev 0) (an)))) (aln)) rfl)) (bnil))
theorem ok_is_firm (Z : Fx P w K mg base T) : DFn P w K mg base 6 "is_firm" (spN ⟨P, w, mg, T⟩ 1 g_is_firm) := by
  have h_are_rows := fun {k : Nat} (e : 3 ≤ k) => (ok_are_rows Z).mono e
  have h_weak_of := fun {k : Nat} (e : 5 ≤ k) => (ok_weak_of Z).mono e
  obtain ⟨fd, FD⟩ := Z.d_is_firm
  refine ⟨_, fd, ["value"], fn_n FD (N := ["value"]) (k := 5) ⟨rfl, rfl, rfl, by decide +kernel, rfl, by decide +kernel, by decide +kernel⟩ s_is_firm fun cdv A outer sh F0 H E B => ?_, Z.m_is_firm, FD.kp, FD.bindsN fun _ _ _ _ _ _ us hl => match us, hl with | [_], _ => rfl⟩
  exact bcons (sret (ea (ek B (h_are_rows (by decide)) (ac (ev 0) (an))) (ea1 (ec (o_eq (B.hr.mono (Nat.zero_le _))) (lent (bi c_len Z.f_len (alc (lent (ek B (h_weak_of (by decide)) (ac (ev 0) (an)))) (aln)) rfl)) (lent (ei)))))) (bnil)
theorem ok__law_draw (Z : Fx P w K mg base T) : DFn P w K mg base 1 "_law_draw" (spP ⟨P, w, mg, T⟩ 2 g__law_draw) := by
  obtain ⟨fd, FD⟩ := Z.d__law_draw
  refine ⟨_, fd, ["pot", "many"], fn_p FD (N := ["pot", "many", "found", "cell"]) (k := 0) ⟨rfl, rfl, rfl, by decide +kernel, rfl, by decide +kernel, by decide +kernel⟩ s__law_draw fun cdv A outer sh F0 H E a B => ?_, Z.m__law_draw, FD.kp, FD.bindsN fun _ _ _ _ _ _ us hl => match us, hl with | [_, _], _ => rfl⟩
  exact bcons (sif (tc (o_lt (B.hr.mono (Nat.zero_le _))) (lent (ev 1)) (lent (ei))) (bcons (sret (ei)) (bnil)) (bnil)) (bcons (sif (tc o_gt (lent (ppk 3 rfl)) (lent (ei))) (bcons (sset 2 B.nd (e2 o_mod (lent (bt c_int Z.f_int (alc (lent (ppk 3 rfl)) (aln)) rfl)) (lent (ev 1)))) (bcons (spk 3 rfl (e2 o_div (lent (ppk 3 rfl)) (lent (ev 1)))) (bcons (sret (ev 2)) (bnil)))) (bnil)) (bcons (sset 3 B.nd (ei)) (bcons (sif (tc (o_lt (B.hr.mono (Nat.zero_le _))) (lent (ppk 1 rfl)) (lent (bi c_len Z.f_len (alc (lent (pp0 rfl)) (aln)) rfl))) (bcons (sset 3 B.nd (ex (lent (pp0 rfl)) (lent (ppk 1 rfl)))) (bcons (spk 1 rfl (e2 o_add (lent (ppk 1 rfl)) (lent (ei)))) (bcons (sif (tc o_ge (lent (ev 3)) (lent (e2 o_pow (lent (ei)) (lent (ei))))) (bcons (spk 3 rfl (e2 o_div (lent (ev 3)) (lent (ev 1)))) (bcons (sret (e2 o_mod (lent (bt c_int Z.f_int (alc (lent (ev 3)) (aln)) rfl)) (lent (ev 1)))) (bnil))) (bnil)) (bnil)))) (bnil)) (bcons (spk 2 rfl (e2 o_mod (lent (bt c_int Z.f_int (alc (lent (e2 o_add (lent (e2 o_add (lent (e2 o_mul (lent (ppk 2 rfl)) (lent (ei)))) (lent (ev 3)))) (lent (ei)))) (aln)) rfl)) (lent (ei)))) (bcons (sret (e2 o_mod (lent (bt c_int Z.f_int (alc (lent (e2 o_add (lent (e2 o_div (lent (e2 o_mul (lent (ppk 2 rfl)) (lent (ppk 2 rfl)))) (lent (ei)))) (lent (e2 o_div (lent (ppk 2 rfl)) (lent (ei)))))) (aln)) rfl)) (lent (ev 1)))) (bnil))))))
theorem ok__law_pick (Z : Fx P w K mg base T) : DFn P w K mg base 2 "_law_pick" (spP ⟨P, w, mg, T⟩ 2 g__law_pick) := by
  have h__law_draw := fun {k : Nat} (e : 1 ≤ k) => (ok__law_draw Z).mono e
  obtain ⟨fd, FD⟩ := Z.d__law_pick
  refine ⟨_, fd, ["pot", "row"], fn_p FD (N := ["pot", "row"]) (k := 1) ⟨rfl, rfl, rfl, by decide +kernel, rfl, by decide +kernel, by decide +kernel⟩ s__law_pick fun cdv A outer sh F0 H E a B => ?_, Z.m__law_pick, FD.kp, FD.bindsN fun _ _ _ _ _ _ us hl => match us, hl with | [_, _], _ => rfl⟩
  exact bcons (sret (ex (lent (ev 1)) (lent (ekp B (h__law_draw (by decide)) rfl (ac (bi c_len Z.f_len (alc (lent (ev 1)) (aln)) rfl) (an)))))) (bnil)
theorem ok__law_same (Z : Fx P w K mg base T) : ∀ n : Nat, DFn P w K mg base (1 + n) "_law_same" (spN ⟨P, w, mg, T⟩ 2 (g__law_same n))
  | 0 => by
    obtain ⟨fd, FD⟩ := Z.d__law_same
    exact ⟨_, fd, ["found", "due"], fn_none FD rfl, Z.m__law_same, FD.kp, FD.bindsN fun _ _ _ _ _ _ us hl => match us, hl with | [_, _], _ => rfl⟩
  | n + 1 => by
    have hr := ok__law_same Z n
    obtain ⟨fd, FD⟩ := Z.d__law_same
    refine ⟨_, fd, ["found", "due"], fn_n FD (N := ["found", "due", "k"]) (k := 1 + n) ⟨rfl, rfl, rfl, by decide +kernel, rfl, by decide +kernel, by decide +kernel⟩ (s__law_same (g__law_same n)) fun cdv A outer sh F0 H E B => ?_, Z.m__law_same, FD.kp, FD.bindsN fun _ _ _ _ _ _ us hl => match us, hl with | [_, _], _ => rfl⟩
    exact bcons (sif ((wo (tv (eis .tuple (lent (ev 1)) Z.f_isinstance Z.f_tuple rfl rfl)) (wo1 (tv (eis .list (lent (ev 1)) Z.f_isinstance Z.f_list rfl rfl)))).pt) (bcons (sif ((wo (tc (o_ne (B.hr.mono (Nat.zero_le _))) (lent (eis .tuple (lent (ev 1)) Z.f_isinstance Z.f_tuple rfl rfl)) (lent (eis .tuple (lent (ev 0)) Z.f_isinstance Z.f_tuple rfl rfl))) (wo1 (tc (o_ne (B.hr.mono (Nat.zero_le _))) (lent (eis .list (lent (ev 1)) Z.f_isinstance Z.f_list rfl rfl)) (lent (eis .list (lent (ev 0)) Z.f_isinstance Z.f_list rfl rfl))))).pt) (bcons (sret (eb)) (bnil)) (bnil)) (bcons (sif (tc (o_ne (B.hr.mono (Nat.zero_le _))) (lent (bi c_len Z.f_len (alc (lent (ev 0)) (aln)) rfl)) (lent (bi c_len Z.f_len (alc (lent (ev 1)) (aln)) rfl))) (bcons (sret (eb)) (bnil)) (bnil)) (bcons (sret (ec (o_eq (B.hr.mono (Nat.zero_le _))) (lent (elci [("k", 2)] B (ir1 (bi c_len Z.f_len (alc (lent (ev 1)) (aln)) rfl) rfl Z.f_range) (rnm 2) (fun _ _ _ _ _ => tnm 2 B.nd) (fun _ _ _ _ _ => tn (tv (ek (Bd.blk B) hr (ac (ex (lent (ev 0)) (lent (ev 2))) (ac (ex (lent (ev 1)) (lent (ev 2))) (an)))))) (fun _ _ _ _ _ => ev 2))) (lent (el (an))))) (bnil)))) (bnil)) (bcons (sif (tc o_is (lent (ev 1)) (lent (en))) (bcons (sret (ec o_is (lent (ev 0)) (lent (en)))) (bnil)) (bnil)) (bcons (sif (tv (eis .str (lent (ev 1)) Z.f_isinstance Z.f_str rfl rfl)) (bcons (sret (ea (eis .str (lent (ev 0)) Z.f_isinstance Z.f_str rfl rfl) (ea1 (ec (o_eq (B.hr.mono (Nat.zero_le _))) (lent (ev 0)) (lent (ev 1)))))) (bnil)) (bnil)) (bcons (sret (ea (eis .int (lent (ev 0)) Z.f_isinstance Z.f_int rfl rfl) (ea (ec (o_eq (B.hr.mono (Nat.zero_le _))) (lent (eis .bool (lent (ev 0)) Z.f_isinstance Z.f_bool rfl rfl)) (lent (eis .bool (lent (ev 1)) Z.f_isinstance Z.f_bool rfl rfl))) (ea1 (ec (o_eq (B.hr.mono (Nat.zero_le _))) (lent (ev 0)) (lent (ev 1))))))) (bnil))))
theorem ok__law_odd (Z : Fx P w K mg base T) : DFn P w K mg base 3 "_law_odd" (spP ⟨P, w, mg, T⟩ 2 g__law_odd) := by
  have h__law_pick := fun {k : Nat} (e : 2 ≤ k) => (ok__law_pick Z).mono e
  obtain ⟨fd, FD⟩ := Z.d__law_odd
  refine ⟨_, fd, ["pot", "thing"], fn_p FD (N := ["pot", "thing", "some"]) (k := 2) ⟨rfl, rfl, rfl, by decide +kernel, rfl, by decide +kernel, by decide +kernel⟩ s__law_odd fun cdv A outer sh F0 H E a B => ?_, Z.m__law_odd, FD.kp, FD.bindsN fun _ _ _ _ _ _ us hl => match us, hl with | [_, _], _ => rfl⟩
  exact bcons (sif (tv (eis .int (lent (ev 1)) Z.f_isinstance Z.f_int rfl rfl)) (bcons (sret (ekp B (h__law_pick (by decide)) rfl (ac (el (ac (e2 o_add (lent (ev 1)) (lent (ei))) (ac (e2 o_sub (lent (ev 1)) (lent (ei))) (ac (ei) (ac (eneg (ei)) (ac (ei) (ac (eb) (ac (en) (ac (bt c_str Z.f_str (alc (lent (ev 1)) (aln)) rfl) (ac (et (ac (ev 1) (an))) (an))))))))))) (an)))) (bnil)) (bnil)) (bcons (sif (tv (eis .str (lent (ev 1)) Z.f_isinstance Z.f_str rfl rfl)) (bcons (sret (ekp B (h__law_pick (by decide)) rfl (ac (el (ac (e2 o_add (lent (ev 1)) (lent (es'))) (ac (esl (lent (ev 1)) (ss (ei)) sn) (ac (es') (ac (es') (ac (ei) (ac (en) (ac (et (ac (ev 1) (an))) (ac (el (ac (ev 1) (an))) (ac (es') (an))))))))))) (an)))) (bnil)) (bnil)) (bcons (sif (tv (eis .tuple (lent (ev 1)) Z.f_isinstance Z.f_tuple rfl rfl)) (bcons (sset 2 B.nd (el (ac (e2 o_add (lent (ev 1)) (lent (esl (lent (ev 1)) (ss (eneg (ei))) sn))) (ac (esl (lent (ev 1)) (ss (ei)) sn) (ac (bt c_list Z.f_list (alc (lent (ev 1)) (aln)) rfl) (ac (et (an)) (ac (en) (ac (ei) (ac (es') (ac (et (ac (ev 1) (an))) (ac (esl (lent (ev 1)) sn (ss (eneg (ei)))) (ac (e2 o_add (lent (ev 1)) (lent (et (ac (ei) (an))))) (an))))))))))))) (bcons (sret (ekp B (h__law_pick (by decide)) rfl (ac (ev 2) (an)))) (bnil))) (bnil)) (bcons (sret (ekp B (h__law_pick (by decide)) rfl (ac (el (ac (en) (ac (ei) (ac (es') (ac (ed0) (ac (eb) (an))))))) (an)))) (bnil))))
theorem ok__law_bent (Z : Fx P w K mg base T) : ∀ n : Nat, DFn P w K mg base (4 + n) "_law_bent" (spP ⟨P, w, mg, T⟩ 3 (g__law_bent n))
  | 0 => by
    obtain ⟨fd, FD⟩ := Z.d__law_bent
    exact ⟨_, fd, ["pot", "thing", "left"], fn_noneP FD rfl, Z.m__law_bent, FD.kp, FD.bindsN fun _ _ _ _ _ _ us hl => match us, hl with | [_, _, _], _ => rfl⟩
  | n + 1 => by
    have hr := ok__law_bent Z n
    have h__law_draw := fun {k : Nat} (e : 1 ≤ k) => (ok__law_draw Z).mono e
    have h__law_odd := fun {k : Nat} (e : 3 ≤ k) => (ok__law_odd Z).mono e
    obtain ⟨fd, FD⟩ := Z.d__law_bent
    refine ⟨_, fd, ["pot", "thing", "left"], fn_p FD (N := ["pot", "thing", "left", "at", "part"]) (k := 4 + n) ⟨rfl, rfl, rfl, by decide +kernel, rfl, by decide +kernel, by decide +kernel⟩ (s__law_bent (g__law_bent n)) fun cdv A outer sh F0 H E a B => ?_, Z.m__law_bent, FD.kp, FD.bindsN fun _ _ _ _ _ _ us hl => match us, hl with | [_, _, _], _ => rfl⟩
    exact bcons (sif ((wa (tv (eis2 .list .tuple (lent (ev 1)) Z.f_isinstance Z.f_list rfl Z.f_tuple rfl rfl)) (wa (tc o_gt (lent (bi c_len Z.f_len (alc (lent (ev 1)) (aln)) rfl)) (lent (ei))) (wa (tc o_gt (lent (ev 2)) (lent (ei))) (wa1 (tc o_gt (lent (ekp B (h__law_draw (by omega)) rfl (ac (ei) (an)))) (lent (ei))))))).pt) (bcons (sset 3 B.nd (ekp B (h__law_draw (by omega)) rfl (ac (bi c_len Z.f_len (alc (lent (ev 1)) (aln)) rfl) (an)))) (bcons (sset 4 B.nd (ekp B hr rfl (ac (ex (lent (ev 1)) (lent (ev 3))) (ac (e2 o_sub (lent (ev 2)) (lent (ei))) (an))))) (bcons (sif (tv (eis .list (lent (ev 1)) Z.f_isinstance Z.f_list rfl rfl)) (bcons (sret (e2 o_add (lent (e2 o_add (lent (esl (lent (ev 1)) sn (ss (ev 3)))) (lent (el (ac (ev 4) (an)))))) (lent (esl (lent (ev 1)) (ss (e2 o_add (lent (ev 3)) (lent (ei)))) sn)))) (bnil)) (bnil)) (bcons (sret (e2 o_add (lent (e2 o_add (lent (esl (lent (ev 1)) sn (ss (ev 3)))) (lent (et (ac (ev 4) (an)))))) (lent (esl (lent (ev 1)) (ss (e2 o_add (lent (ev 3)) (lent (ei)))) sn)))) (bnil))))) (bnil)) (bcons (sret (ekp B (h__law_odd (by omega)) rfl (ac (ev 1) (an)))) (bnil))
theorem ok__law_within (Z : Fx P w K mg base T) : DFn P w K mg base 1 "_law_within" (spN ⟨P, w, mg, T⟩ 3 g__law_within) := by
  obtain ⟨fd, FD⟩ := Z.d__law_within
  refine ⟨_, fd, ["thing", "low", "high"], fn_n FD (N := ["thing", "low", "high"]) (k := 0) ⟨rfl, rfl, rfl, by decide +kernel, rfl, by decide +kernel, by decide +kernel⟩ s__law_within fun cdv A outer sh F0 H E B => ?_, Z.m__law_within, FD.kp, FD.bindsN fun _ _ _ _ _ _ us hl => match us, hl with | [_, _, _], _ => rfl⟩
  exact bcons (sret (ea (eis .int (lent (ev 0)) Z.f_isinstance Z.f_int rfl rfl) (ea (ent (eis .bool (lent (ev 0)) Z.f_isinstance Z.f_bool rfl rfl)) (ea1 (ech o_le o_le (lent (ev 1)) (lent (ev 0)) (lent (ev 2))))))) (bnil)
theorem ok__law_is_rise (Z : Fx P w K mg base T) : DFn P w K mg base 1 "_law_is_rise" (spN ⟨P, w, mg, T⟩ 1 g__law_is_rise) := by
  obtain ⟨fd, FD⟩ := Z.d__law_is_rise
  refine ⟨_, fd, ["row"], fn_n FD (N := ["row", "k"]) (k := 0) ⟨rfl, rfl, rfl, by decide +kernel, rfl, by decide +kernel, by decide +kernel⟩ s__law_is_rise fun cdv A outer sh F0 H E B => ?_, Z.m__law_is_rise, FD.kp, FD.bindsN fun _ _ _ _ _ _ us hl => match us, hl with | [_], _ => rfl⟩
  exact bcons (sret (ec (o_eq (B.hr.mono (Nat.zero_le _))) (lent (elci [("k", 1)] B (ir1 (e2 o_sub (lent (bi c_len Z.f_len (alc (lent (ev 0)) (aln)) rfl)) (lent (ei))) rfl Z.f_range) (rnm 1) (fun _ _ _ _ _ => tnm 1 B.nd) (fun _ _ _ _ _ => tc (o_geX ((Bd.blk B).hr.mono (Nat.zero_le _))) (lent (ex (lent (ev 0)) (lent (ev 1)))) (lent (ex (lent (ev 0)) (lent (e2 o_add (lent (ev 1)) (lent (ei))))))) (fun _ _ _ _ _ => ev 1))) (lent (el (an))))) (bnil)
theorem ok__law_built (Z : Fx P w K mg base T) : DFn P w K mg base 2 "_law_built" (spP ⟨P, w, mg, T⟩ 3 g__law_built) := by
  have h__law_draw := fun {k : Nat} (e : 1 ≤ k) => (ok__law_draw Z).mono e
  obtain ⟨fd, FD⟩ := Z.d__law_built
  refine ⟨_, fd, ["pot", "high", "wide"], fn_p FD (N := ["pot", "high", "wide", "many", "width", "rows", "k", "row"]) (k := 1) ⟨rfl, rfl, rfl, by decide +kernel, rfl, by decide +kernel, by decide +kernel⟩ s__law_built fun cdv A outer sh F0 H E a B => ?_, Z.m__law_built, FD.kp, FD.bindsN fun _ _ _ _ _ _ us hl => match us, hl with | [_, _, _], _ => rfl⟩
  exact bcons (spar2 3 4 B.calm B.nd (ac (e2 o_add (lent (ei)) (lent (ekp B (h__law_draw (by decide)) rfl (ac (ev 1) (an))))) (ac (e2 o_add (lent (ei)) (lent (ekp B (h__law_draw (by decide)) rfl (ac (ev 2) (an))))) (an)))) (bcons (sownl 5 B.nd (an)) (bcons (skill [6, 7] (sforn 6 B (ir1 (ev 3) rfl Z.f_range) (bcons (sset 7 B.nd (et (an))) (bcons (swhile 200 B (tc (o_lt (B.hr.mono (Nat.zero_le _))) (lent (bi (c_sum B.calm) Z.f_sum (alc (lent (ev 7)) (aln)) rfl)) (lent (ev 4))) (bcons (sset 7 B.nd (e2 o_add (lent (ev 7)) (lent (et (ac (bi (c_min2 B.calm) Z.f_min (alc (lent (e2 o_sub (lent (ev 4)) (lent (bi (c_sum B.calm) Z.f_sum (alc (lent (ev 7)) (aln)) rfl)))) (alc (lent (e2 o_add (lent (ei)) (lent (ekp B (h__law_draw (by decide)) rfl (ac (ei) (an)))))) (aln))) rfl) (an)))))) (bnil))) (bcons (sapp 5 (ev 7)) (bkill [6, 7] bnil)))))) (bcons (sret (bt c_tuple Z.f_tuple (alc (eo 5) (aln)) rfl)) (bnil))))
theorem ok__law_are_rows (Z : Fx P w K mg base T) : DFn P w K mg base 2 "_law_are_rows" (spN ⟨P, w, mg, T⟩ 1 g__law_are_rows) := by
  have h__law_within := fun {k : Nat} (e : 1 ≤ k) => (ok__law_within Z).mono e
  obtain ⟨fd, FD⟩ := Z.d__law_are_rows
  refine ⟨_, fd, ["value"], fn_n FD (N := ["value", "row", "one"]) (k := 1) ⟨rfl, rfl, rfl, by decide +kernel, rfl, by decide +kernel, by decide +kernel⟩ s__law_are_rows fun cdv A outer sh F0 H E B => ?_, Z.m__law_are_rows, FD.kp, FD.bindsN fun _ _ _ _ _ _ us hl => match us, hl with | [_], _ => rfl⟩
  exact bcons (sif ((wo (tn (tv (eis .tuple (lent (ev 0)) Z.f_isinstance Z.f_tuple rfl rfl))) (wo1 (tn (tch o_le o_le (lent (ei)) (lent (bi c_len Z.f_len (alc (lent (ev 0)) (aln)) rfl)) (lent (ei)))))).pt) (bcons (sret (eb)) (bnil)) (bnil)) (bcons (skill [1] (sforn 1 B (iv (ev 0)) (bcons (sif ((wo (tn (tv (eis .tuple (lent (ev 1)) Z.f_isinstance Z.f_tuple rfl rfl))) (wo (tc (o_eq (B.hr.mono (Nat.zero_le _))) (lent (ev 1)) (lent (et (an)))) (wo1 (tc (o_ne (B.hr.mono (Nat.zero_le _))) (lent (elci [("one", 2)] B (iv (ev 1)) (rnm 2) (fun _ _ _ _ _ => tnm 2 B.nd) (fun _ _ _ _ _ => tn (tv (ek (Bd.blk B) (h__law_within (by decide)) (ac (ev 2) (ac (ei) (ac (ei) (an))))))) (fun _ _ _ _ _ => ev 2))) (lent (el (an))))))).pt) (bcons (sret (eb)) (bnil)) (bnil)) (bkill [1] bnil)))) (bcons (sret (ea (ec o_le (lent (bi (c_sum B.calm) Z.f_sum (alc (lent (ex (lent (ev 0)) (lent (ei)))) (aln)) rfl)) (lent (ei))) (ea1 (ec (o_eq (B.hr.mono (Nat.zero_le _))) (lent (elci [("row", 1)] B (iv (ev 0)) (rnm 1) (fun _ _ _ _ _ => tnm 1 B.nd) (fun _ _ _ _ _ => tc (o_ne ((Bd.blk B).hr.mono (Nat.zero_le _))) (lent (bi (c_sum (Bd.blk B).calm) Z.f_sum (alc (lent (ev 1)) (aln)) rfl)) (lent (bi (c_sum (Bd.blk B).calm) Z.f_sum (alc (lent (ex (lent (ev 0)) (lent (ei)))) (aln)) rfl))) (fun _ _ _ _ _ => ev 1))) (lent (el (an))))))) (bnil)))
theorem ok__law_stones (Z : Fx P w K mg base T) : DFn P w K mg base 1 "_law_stones" (spN ⟨P, w, mg, T⟩ 1 g__law_stones) := by
  obtain ⟨fd, FD⟩ := Z.d__law_stones
  refine ⟨_, fd, ["rows"], fn_n FD (N := ["rows", "found", "at", "row", "k"]) (k := 0) ⟨rfl, rfl, rfl, by decide +kernel, rfl, by decide +kernel, by decide +kernel⟩ s__law_stones fun cdv A outer sh F0 H E B => ?_, Z.m__law_stones, FD.kp, FD.bindsN fun _ _ _ _ _ _ us hl => match us, hl with | [_], _ => rfl⟩
  exact bcons (sownl 1 B.nd (an)) (bcons (skill [2, 3] (sfort [2, 3] B (ie (ev 0) rfl Z.f_enumerate) (gn1 2 B.nd (gn1 3 B.nd gn0)) (bcons (sext 1 (elc [("k", 4)] B (ir1 (bi c_len Z.f_len (alc (lent (ev 3)) (aln)) rfl) rfl Z.f_range) (rnm 4) (fun _ _ _ _ _ => tnm 4 B.nd) (fun _ _ _ _ _ => et (ac (ev 2) (ac (ev 4) (an)))))) (bkill [2, 3] bnil)))) (bfz 1 (bcons (sret (ev 1)) (bnil))))
theorem ok__law_cells (Z : Fx P w K mg base T) : DFn P w K mg base 1 "_law_cells" (spN ⟨P, w, mg, T⟩ 2 g__law_cells) := by
  obtain ⟨fd, FD⟩ := Z.d__law_cells
  refine ⟨_, fd, ["rows", "stone"], fn_n FD (N := ["rows", "stone", "start"]) (k := 0) ⟨rfl, rfl, rfl, by decide +kernel, rfl, by decide +kernel, by decide +kernel⟩ s__law_cells fun cdv A outer sh F0 H E B => ?_, Z.m__law_cells, FD.kp, FD.bindsN fun _ _ _ _ _ _ us hl => match us, hl with | [_, _], _ => rfl⟩
  exact bcons (sset 2 B.nd (bi (c_sum B.calm) Z.f_sum (alc (lent (esl (lent (ex (lent (ev 0)) (lent (ex (lent (ev 1)) (lent (ei)))))) sn (ss (ex (lent (ev 1)) (lent (ei)))))) (aln)) rfl)) (bcons (sret (elr2 (ev 2) (e2 o_add (lent (ev 2)) (lent (ex (lent (ex (lent (ev 0)) (lent (ex (lent (ev 1)) (lent (ei)))))) (lent (ex (lent (ev 1)) (lent (ei))))))) Z.f_range Z.f_list B.calm)) (bnil))
theorem ok__law_falls (Z : Fx P w K mg base T) : DFn P w K mg base 2 "_law_falls" (spN ⟨P, w, mg, T⟩ 2 g__law_falls) := by
  have h__law_stones := fun {k : Nat} (e : 1 ≤ k) => (ok__law_stones Z).mono e
  have h__law_cells := fun {k : Nat} (e : 1 ≤ k) => (ok__law_cells Z).mono e
  obtain ⟨fd, FD⟩ := Z.d__law_falls
  refine ⟨_, fd, ["rows", "lost"], fn_n FD (N := ["rows", "lost", "gone", "stone", "mine", "held", "other", "middle", "cell"]) (k := 1) ⟨rfl, rfl, rfl, by decide +kernel, rfl, by decide +kernel, by decide +kernel⟩ s__law_falls fun cdv A outer sh F0 H E B => ?_, Z.m__law_falls, FD.kp, FD.bindsN fun _ _ _ _ _ _ us hl => match us, hl with | [_, _], _ => rfl⟩
  exact bcons (sownn 2 B.nd (nlist (lent (ev 1)) Z.f_list)) (bcons (skill [3, 4, 5, 6, 7] (sforn 3 B (iv (ek B (h__law_stones (by decide)) (ac (ev 0) (an)))) (bcons (sif ((wa (tc (o_notin (B.hr.mono (Nat.zero_le _))) (lent (ev 3)) (eo 2)) (wa1 (tc o_gt (lent (ex (lent (ev 3)) (lent (ei)))) (lent (ei))))).pt) (bcons (sunp [4, 5] B.calm (et (ac (ek B (h__law_cells (by decide)) (ac (ev 0) (ac (ev 3) (an)))) (ac (el (an)) (an)))) (gn1 4 B.nd (gn1 5 B.nd gn0))) (bcons (skill [6] (sforn 6 B (iv (ek B (h__law_stones (by decide)) (ac (ev 0) (an)))) (bcons (sif ((wa (tc (o_notin (B.hr.mono (Nat.zero_le _))) (lent (ev 6)) (eo 2)) (wa1 (tc (o_eq (B.hr.mono (Nat.zero_le _))) (lent (ex (lent (ev 6)) (lent (ei)))) (lent (e2 o_sub (lent (ex (lent (ev 3)) (lent (ei)))) (lent (ei))))))).pt) (bcons (sset 5 B.nd (e2 o_add (lent (ev 5)) (lent (elci [("cell", 8)] B (iv (ek B (h__law_cells (by decide)) (ac (ev 0) (ac (ev 6) (an))))) (rnm 8) (fun _ _ _ _ _ => tnm 8 B.nd) (fun _ _ _ _ _ => tc (o_in ((Bd.blk B).hr.mono (Nat.zero_le _))) (lent (ev 8)) (lent (ev 4))) (fun _ _ _ _ _ => ev 8))))) (bnil)) (bnil)) (bkill [6] bnil)))) (bcons (sset 7 B.nd (e2 o_add (lent (e2 o_add (lent (ex (lent (ev 4)) (lent (ei)))) (lent (ex (lent (ev 4)) (lent (eneg (ei))))))) (lent (ei)))) (bcons (sif ((wo (tc (o_eq (B.hr.mono (Nat.zero_le _))) (lent (ev 5)) (lent (el (an)))) (wo1 (tn (tch o_le o_le (lent (e2 o_mul (lent (ei)) (lent (bi (c_min B.calm B.hr) Z.f_min (alc (lent (ev 5)) (aln)) rfl)))) (lent (ev 7)) (lent (e2 o_mul (lent (ei)) (lent (e2 o_add (lent (bi (c_max B.calm B.hr) Z.f_max (alc (lent (ev 5)) (aln)) rfl)) (lent (ei)))))))))).pt) (bcons (sapp 2 (ev 3)) (bnil)) (bnil)) (bnil))))) (bnil)) (bkill [3, 4, 5, 6, 7] bnil)))) (bcons (sret (elci [("stone", 3)] B (iv (ek B (h__law_stones (by decide)) (ac (ev 0) (an)))) (rnm 3) (fun _ _ _ _ _ => tnm 3 B.nd) (fun _ _ _ _ _ => (wa (tc (o_in ((Bd.blk B).hr.mono (Nat.zero_le _))) (lent (ev 3)) (eo 2)) (wa1 (tc (o_notin ((Bd.blk B).hr.mono (Nat.zero_le _))) (lent (ev 3)) (lent (ev 1))))).pt) (fun _ _ _ _ _ => ev 3))) (bnil)))
theorem ok__law_is_stones (Z : Fx P w K mg base T) : DFn P w K mg base 2 "_law_is_stones" (spN ⟨P, w, mg, T⟩ 2 g__law_is_stones) := by
  have h__law_within := fun {k : Nat} (e : 1 ≤ k) => (ok__law_within Z).mono e
  have h__law_stones := fun {k : Nat} (e : 1 ≤ k) => (ok__law_stones Z).mono e
  obtain ⟨fd, FD⟩ := Z.d__law_is_stones
  refine ⟨_, fd, ["rows", "value"], fn_n FD (N := ["rows", "value", "own", "one"]) (k := 1) ⟨rfl, rfl, rfl, by decide +kernel, rfl, by decide +kernel, by decide +kernel⟩ s__law_is_stones fun cdv A outer sh F0 H E B => ?_, Z.m__law_is_stones, FD.kp, FD.bindsN fun _ _ _ _ _ _ us hl => match us, hl with | [_, _], _ => rfl⟩
  exact bcons (sif (tn (tv (eis .tuple (lent (ev 1)) Z.f_isinstance Z.f_tuple rfl rfl))) (bcons (sret (eb)) (bnil)) (bnil)) (bcons (skill [2] (sforn 2 B (iv (ev 1)) (bcons (sif ((wo (tn (tv (eis .tuple (lent (ev 2)) Z.f_isinstance Z.f_tuple rfl rfl))) (wo (tc (o_ne (B.hr.mono (Nat.zero_le _))) (lent (bi c_len Z.f_len (alc (lent (ev 2)) (aln)) rfl)) (lent (ei))) (wo1 (tc (o_ne (B.hr.mono (Nat.zero_le _))) (lent (elci [("one", 3)] B (iv (ev 2)) (rnm 3) (fun _ _ _ _ _ => tnm 3 B.nd) (fun _ _ _ _ _ => tn (tv (ek (Bd.blk B) (h__law_within (by decide)) (ac (ev 3) (ac (ei) (ac (ei) (an))))))) (fun _ _ _ _ _ => ev 3))) (lent (el (an))))))).pt) (bcons (sret (eb)) (bnil)) (bnil)) (bkill [2] bnil)))) (bcons (sret (ec (o_eq (B.hr.mono (Nat.zero_le _))) (lent (elci [("own", 2)] B (iv (ev 1)) (rnm 2) (fun _ _ _ _ _ => tnm 2 B.nd) (fun _ _ _ _ _ => tc (o_notin ((Bd.blk B).hr.mono (Nat.zero_le _))) (lent (ev 2)) (lent (ek (Bd.blk B) (h__law_stones (by decide)) (ac (ev 0) (an))))) (fun _ _ _ _ _ => ev 2))) (lent (el (an))))) (bnil)))
abbrev qLam : Str := ("law" : Str) ++ ".<locals>." ++ "<lambda>"
theorem ok__law_pot (Z : Fx P w K mg base T) : ∃ fd, FnOk P w K mg base (L2.CX P w) 1 (He.ga K "_law_pot") fd ["script"] (spPot K) ∧ PySem.W.keepIn K (.ref (He.ga K "_law_pot")) = true ∧ Binds K fd ["script"] [] := by
  obtain ⟨fd, FD⟩ := Z.d__law_pot
  have S : FnScope ["script", "cell"] ["script"] (defScope (top 25)) := ⟨rfl, rfl, rfl, by decide +kernel, rfl, by decide +kernel, by decide +kernel⟩
  refine ⟨fd, FD.ok (k := 0) S (fun vs H Q E ⟨a, ns, e, _⟩ => by subst e; rfl) fun cdv A outer s H vs Q E hr h => ⟨tPotB K, ?_, pot_run h⟩, FD.kp, FD.bindsN fun _ _ _ _ _ _ us hl => match us, hl with | [_], _ => rfl⟩
  exact pss_one (ps_ret (pe_lst (pa_cons (pe_lc (own := [("cell", 1)]) rfl S.nd (pi_list (pe_slice sl_list (pe_var (i := 0) rfl (.inl rfl)) po_none (po_some pe_int))) (blkOk_by rfl) (fun _ _ _ _ _ => pg_name S.nd rfl (.inl rfl)) (fun _ _ _ _ _ => pts_nil) (fun _ _ _ _ _ => pe_callB call_abs rfl Z.f_abs rfl (pa_cons (pe_var (i := 1) rfl (.inl rfl)) pa_nil))) (pa_cons pe_int (pa_cons pe_int (pa_cons pe_int pa_nil))))))
def b_law_1 : DS := sSeq (sSet 3 (dCallP g__law_built [dC (.int 4), dC (.int 7)])) (sSeq (sSet 4 (dCall g__law_stones [dV 3])) (sSeq (sSet 5 (dB (o1 pTuple) [dCmp (itV (dV 4)) (.nm 11) (some (d2 pEq (dCallP g__law_draw [dC (.int 4)]) (dC (.int 0)))) (dV 11) [11]])) (sSeq (sSet 6 (dCall g_falls [dV 3, dV 5])) (sSeq (sIf (dNot (dCall (g__law_same 8) [dV 6, dB (o1 pTuple) [dCall g__law_falls [dV 3, dV 5]]])) (sSeq (sRet (dC (.bl false))) (sPass)) (sPass)) (sSeq (sSet 7 (dB (o1 pTuple) [d1 pSortSetT (d2 pAdd (dV 5) (dTup [dCallP g__law_pick [dV 4]]))])) (sSeq (sIf (d2 pNe (dCmp (itV (dV 6)) (.nm 11) (some (d2 pNotIn (dV 11) (d2 pAdd (dCall g_falls [dV 3, dV 7]) (dV 7)))) (dV 11) [11]) (dLst [])) (sSeq (sRet (dC (.bl false))) (sPass)) (sPass)) (sSeq (sSet 8 (dCmp (itV (dV 4)) (.nm 11) (some (d2 pNe (dCall g__law_falls [dV 3, dTup [dV 11]]) (dLst []))) (dV 11) [11])) (sSeq (sIf (dNot (dCall (g__law_same 8) [dCall g_weak [dV 3], dB (o1 pTuple) [dV 8]])) (sSeq (sRet (dC (.bl false))) (sPass)) (sPass)) (sSeq (sIf (dNot (dCall (g__law_same 8) [dTup [dCall g_is_firm [dV 3], dCall g_falls [dV 3, dTup []]], dTup [d2 pEq (dV 8) (dLst []), dTup []]])) (sSeq (sRet (dC (.bl false))) (sPass)) (sPass)) (sSeq (sSet 9 (dCallP (g__law_bent 8) [dV 5, dC (.int 2)])) (sSeq (sIf (dNot (dAnd (dCall g__law_is_stones [dV 3, dV 9]) (dCall g__law_is_rise [dV 9]))) (sSeq (sIf (dNot (dRaises ["WallError", "NoRows", "NotThere"] ["NoRows", "NotThere"] "NotThere" (dCall g_falls [dV 3, dV 9]))) (sSeq (sRet (dC (.bl false))) (sPass)) (sPass)) (sPass)) (sPass)) (sSeq (sSet 10 (dCallP (g__law_bent 8) [dV 3, dC (.int 2)])) (sSeq (sIf (dNot (dCall g__law_are_rows [dV 10])) (sSeq (sIf (d2 pIsNot (dCall g_is_firm [dV 10]) (dC (.bl false))) (sSeq (sRet (dC (.bl false))) (sPass)) (sPass)) (sSeq (sIf (dNot (dRaises ["WallError", "NoRows", "NotThere"] ["NoRows", "NotThere"] "NoRows" (dCall g_falls [dV 10, dTup []]))) (sSeq (sRet (dC (.bl false))) (sPass)) (sPass)) (sSeq (sIf (dNot (dRaises ["WallError", "NoRows", "NotThere"] ["NoRows", "NotThere"] "NoRows" (dCall g_weak [dV 10]))) (sSeq (sRet (dC (.bl false))) (sPass)) (sPass)) (sPass)))) (sPass)) (sSeq sPass (sKill [2, 3, 4, 5, 6, 7, 8, 9, 10])))))))))))))))
def s_law : DS := sSeq (sSeq (sFor (itR1 (dC (.int 7))) (.nm 2) (b_law_1)) (sKill [2, 3, 4, 5, 6, 7, 8, 9, 10])) (sSeq (sRet (dC (.bl true))) (sPass))
theorem sc_law : FnScope ["script", "pot", "turn", "rows", "stones", "lost", "found", "more", "due", "value", "odd", "stone"] ["script"] (defScope (top 40)) := ⟨rfl, rfl, rfl, by decide +kernel, rfl, by decide +kernel, by decide +kernel⟩
theorem ok_law {c Pt : Addr} (Z : Fx P w K mg base [(Pt, qLam)]) (TB : LamX.TabB base mg c Pt) {f : Addr} {oc dV kV doc pm ct : Value} {aN od : Option Addr} {osl : Array (Option Value)}
    (lk : K.lookup f = some ⟨oc, od, .func (PySem.W.fnOf "law" "law" (defArgs (top 40)) (defBody (top 40)) (defScope (top 40)) dV kV doc pm aN (.ref c) ct), osl⟩) (hcd : PySem.W.codeIn K (.ref c) "law" = true)
    (hl : ∀ ns : List Int, ns.length ≤ 63 → ∃ p', s_law (padN 12 []) (potOf ns) = .ret (.bl true) p') :
    FnOk P w K mg base (L2.CX P w) 16 f (PySem.W.fnOf "law" "law" (defArgs (top 40)) (defBody (top 40)) (defScope (top 40)) dV kV doc pm aN (.ref c) ct) ["script"] (spLaw K [(Pt, qLam)]) := by
  obtain ⟨fdp, Fp, kp, bp⟩ := ok__law_pot Z
  have hmT : (Pt, qLam) ∈ [(Pt, qLam)] := List.mem_singleton.mpr rfl
  have hu : ∀ p ∈ [(Pt, qLam)], p.1 = Pt → p.2 = qLam := fun p hp _ => by rw [List.mem_singleton.mp hp]
  have h_falls := fun {k : Nat} (e : 5 ≤ k) => (ok_falls Z).mono e
  have h_weak := fun {k : Nat} (e : 6 ≤ k) => (ok_weak Z).mono e
  have h_is_firm := fun {k : Nat} (e : 6 ≤ k) => (ok_is_firm Z).mono e
  have h__law_draw := fun {k : Nat} (e : 1 ≤ k) => (ok__law_draw Z).mono e
  have h__law_pick := fun {k : Nat} (e : 2 ≤ k) => (ok__law_pick Z).mono e
  have h__law_same := fun {k : Nat} (e : 9 ≤ k) => (ok__law_same Z 8).mono e
  have h__law_bent := fun {k : Nat} (e : 12 ≤ k) => (ok__law_bent Z 8).mono e
  have h__law_is_rise := fun {k : Nat} (e : 1 ≤ k) => (ok__law_is_rise Z).mono e
  have h__law_built := fun {k : Nat} (e : 2 ≤ k) => (ok__law_built Z).mono e
  have h__law_are_rows := fun {k : Nat} (e : 2 ≤ k) => (ok__law_are_rows Z).mono e
  have h__law_stones := fun {k : Nat} (e : 1 ≤ k) => (ok__law_stones Z).mono e
  have h__law_falls := fun {k : Nat} (e : 2 ≤ k) => (ok__law_falls Z).mono e
  have h__law_is_stones := fun {k : Nat} (e : 2 ≤ k) => (ok__law_is_stones Z).mono e
  refine fn_law (k := 15) lk hcd sc_law rfl (.inr rfl) rfl (Fp.mono (by decide)) Z.m__law_pot kp bp (fun A outer sh F0 H0 H E a B => ?_) hl
  exact bcons (skill [2, 3, 4, 5, 6, 7, 8, 9, 10] (sforn 2 B (ir1 (ei) rfl Z.f_range) (bcons (sset 3 B.nd (ekp B (h__law_built (by decide)) rfl (ac (ei) (ac (ei) (an))))) (bcons (sset 4 B.nd (ek B (h__law_stones (by decide)) (ac (ev 3) (an)))) (bcons (sset 5 B.nd (bt c_tuple Z.f_tuple (alc (lent (elci [("stone", 11)] B (iv (ev 4)) (rnm 11) (fun _ _ _ _ _ => tnm 11 B.nd) (fun _ _ _ _ _ => tc (o_eq ((Bd.blk B).hr.mono (Nat.zero_le _))) (lent (ekp (Bd.blk B) (h__law_draw (by decide)) rfl (ac (ei) (an)))) (lent (ei))) (fun _ _ _ _ _ => ev 11))) (aln)) rfl)) (bcons (sset 6 B.nd (ek B (h_falls (by decide)) (ac (ev 3) (ac (ev 5) (an))))) (bcons (sif (tn (tv (ek B (h__law_same (by decide)) (ac (ev 6) (ac (bt c_tuple Z.f_tuple (alc (lent (ek B (h__law_falls (by decide)) (ac (ev 3) (ac (ev 5) (an))))) (aln)) rfl) (an)))))) (bcons (sret (eb)) (bnil)) (bnil)) (bcons (sset 7 B.nd (bt c_tuple Z.f_tuple (alc (lent (esst (e2 o_add (lent (ev 5)) (lent (et (ac (ekp B (h__law_pick (by decide)) rfl (ac (ev 4) (an))) (an))))) Z.f_sorted Z.f_set B.calm (B.hr.mono (Nat.zero_le _)))) (aln)) rfl)) (bcons (sif (tc (o_ne (B.hr.mono (Nat.zero_le _))) (lent (elci [("stone", 11)] B (iv (ev 6)) (rnm 11) (fun _ _ _ _ _ => tnm 11 B.nd) (fun _ _ _ _ _ => tc (o_notin ((Bd.blk B).hr.mono (Nat.zero_le _))) (lent (ev 11)) (lent (e2 o_add (lent (ek (Bd.blk B) (h_falls (by decide)) (ac (ev 3) (ac (ev 7) (an))))) (lent (ev 7))))) (fun _ _ _ _ _ => ev 11))) (lent (el (an)))) (bcons (sret (eb)) (bnil)) (bnil)) (bcons (slci 8 [("stone", 11)] B (iv (ev 4)) (rnm 11) (fun _ _ _ _ _ => tnm 11 B.nd) (fun _ _ _ _ _ => tc (o_ne ((Bd.blk B).hr.mono (Nat.zero_le _))) (lent (ek (Bd.blk B) (h__law_falls (by decide)) (ac (ev 3) (ac (et (ac (ev 11) (an))) (an))))) (lent (el (an)))) (fun _ _ _ _ _ => ev 11) (sw_true rfl rfl rfl rfl)) (bcons (sif (tn (tv (ek B (h__law_same (by decide)) (ac (ek B (h_weak (by decide)) (ac (ev 3) (an))) (ac (bt c_tuple Z.f_tuple (alc (lent (ev 8)) (aln)) rfl) (an)))))) (bcons (sret (eb)) (bnil)) (bnil)) (bcons (sif (tn (tv (ek B (h__law_same (by decide)) (ac (et (ac (ek B (h_is_firm (by decide)) (ac (ev 3) (an))) (ac (ek B (h_falls (by decide)) (ac (ev 3) (ac (et (an)) (an)))) (an)))) (ac (et (ac (ec (o_eq (B.hr.mono (Nat.zero_le _))) (lent (ev 8)) (lent (el (an)))) (ac (et (an)) (an)))) (an)))))) (bcons (sret (eb)) (bnil)) (bnil)) (bcons (sset 9 B.nd (ekp B (h__law_bent (by decide)) rfl (ac (ev 5) (ac (ei) (an))))) (bcons (sif (tn ((wa (tv (ek B (h__law_is_stones (by decide)) (ac (ev 3) (ac (ev 9) (an))))) (wa1 (tv (ek B (h__law_is_rise (by decide)) (ac (ev 9) (an)))))).pt)) (bcons (sif (tn (tv (erz (k := 13) ["WallError", "NoRows", "NotThere"] ["NoRows", "NotThere"] Z.rz B Z.e TB rfl hmT hu (fun _ _ _ _ _ _ _ B' => ek B' (h_falls (by decide)) (ac (ev 3) (ac (ev 9) (an))))))) (bcons (sret (eb)) (bnil)) (bnil)) (bnil)) (bnil)) (bcons (sset 10 B.nd (ekp B (h__law_bent (by decide)) rfl (ac (ev 3) (ac (ei) (an))))) (bcons (sif (tn (tv (ek B (h__law_are_rows (by decide)) (ac (ev 10) (an))))) (bcons (sif (tc o_isnot (lent (ek B (h_is_firm (by decide)) (ac (ev 10) (an)))) (lent (eb))) (bcons (sret (eb)) (bnil)) (bnil)) (bcons (sif (tn (tv (erz (k := 13) ["WallError", "NoRows", "NotThere"] ["NoRows", "NotThere"] Z.rz B Z.e TB rfl hmT hu (fun _ _ _ _ _ _ _ B' => ek B' (h_falls (by decide)) (ac (ev 10) (ac (et (an)) (an))))))) (bcons (sret (eb)) (bnil)) (bnil)) (bcons (sif (tn (tv (erz (k := 13) ["WallError", "NoRows", "NotThere"] ["NoRows", "NotThere"] Z.rz B Z.e TB rfl hmT hu (fun _ _ _ _ _ _ _ B' => ek B' (h_weak (by decide)) (ac (ev 10) (an)))))) (bcons (sret (eb)) (bnil)) (bnil)) (bnil)))) (bnil)) (bkill [2, 3, 4, 5, 6, 7, 8, 9, 10] bnil))))))))))))))))) (bcons (sret (eb)) (bnil))
end
end DL.K07
namespace DL.K07
set_option autoImplicit false
open PySem PySem.Spec L2 PyProof.Rows DL
def faH : List He.Fa := [.glo "is_number", .glo "is_row", .glo "do_rise", .glo "are_rows", .glo "need_rows", .glo "stones_of", .glo "span_of", .glo "is_over", .glo "is_lost", .glo "holds", .glo "fallen", .glo "falls", .glo "weak_of", .glo "weak", .glo "is_firm", .glo "_law_pot", .glo "_law_draw", .glo "_law_pick", .glo "_law_same", .glo "_law_odd", .glo "_law_bent", .glo "_law_within", .glo "_law_is_rise", .glo "_law_built", .glo "_law_are_rows", .glo "_law_stones", .glo "_law_cells", .glo "_law_falls", .glo "_law_is_stones", .glo "_law_raises", .glo "law", .glo "WallError", .glo "NoRows", .glo "NotThere", .free "abs", .free "all", .free "bool", .free "dict", .free "enumerate", .free "int", .free "isinstance", .free "len", .free "list", .free "max", .free "min", .free "range", .free "set", .free "sorted", .free "str", .free "sum", .free "tuple", .int "MOST_WIDTH" 12, .int "MOST_HEIGHT" 6, .exc "NoRows", .exc "NotThere"]
def dH0 : He.DefD := ⟨("is_number", none), "is_number", "is_number", defArgs (top 5), defBody (top 5), defScope (top 5), [], []⟩
def dH1 : He.DefD := ⟨("is_row", none), "is_row", "is_row", defArgs (top 6), defBody (top 6), defScope (top 6), [], []⟩
def dH2 : He.DefD := ⟨("do_rise", none), "do_rise", "do_rise", defArgs (top 7), defBody (top 7), defScope (top 7), [], []⟩
def dH3 : He.DefD := ⟨("are_rows", none), "are_rows", "are_rows", defArgs (top 11), defBody (top 11), defScope (top 11), [], []⟩
def dH4 : He.DefD := ⟨("need_rows", none), "need_rows", "need_rows", defArgs (top 12), defBody (top 12), defScope (top 12), [], []⟩
def dH5 : He.DefD := ⟨("stones_of", none), "stones_of", "stones_of", defArgs (top 13), defBody (top 13), defScope (top 13), [], []⟩
def dH6 : He.DefD := ⟨("span_of", none), "span_of", "span_of", defArgs (top 14), defBody (top 14), defScope (top 14), [], []⟩
def dH7 : He.DefD := ⟨("is_over", none), "is_over", "is_over", defArgs (top 15), defBody (top 15), defScope (top 15), [], []⟩
def dH8 : He.DefD := ⟨("is_lost", none), "is_lost", "is_lost", defArgs (top 17), defBody (top 17), defScope (top 17), [], []⟩
def dH9 : He.DefD := ⟨("holds", none), "holds", "holds", defArgs (top 18), defBody (top 18), defScope (top 18), [], []⟩
def dH10 : He.DefD := ⟨("fallen", none), "fallen", "fallen", defArgs (top 19), defBody (top 19), defScope (top 19), [], []⟩
def dH11 : He.DefD := ⟨("falls", none), "falls", "falls", defArgs (top 20), defBody (top 20), defScope (top 20), [], []⟩
def dH12 : He.DefD := ⟨("weak_of", none), "weak_of", "weak_of", defArgs (top 21), defBody (top 21), defScope (top 21), [], []⟩
def dH13 : He.DefD := ⟨("weak", none), "weak", "weak", defArgs (top 22), defBody (top 22), defScope (top 22), [], []⟩
def dH14 : He.DefD := ⟨("is_firm", none), "is_firm", "is_firm", defArgs (top 23), defBody (top 23), defScope (top 23), [], []⟩
def dH15 : He.DefD := ⟨("_law_pot", none), "_law_pot", "_law_pot", defArgs (top 25), defBody (top 25), defScope (top 25), [], []⟩
def dH16 : He.DefD := ⟨("_law_draw", none), "_law_draw", "_law_draw", defArgs (top 26), defBody (top 26), defScope (top 26), [], []⟩
def dH17 : He.DefD := ⟨("_law_pick", none), "_law_pick", "_law_pick", defArgs (top 27), defBody (top 27), defScope (top 27), [], []⟩
def dH18 : He.DefD := ⟨("_law_same", none), "_law_same", "_law_same", defArgs (top 28), defBody (top 28), defScope (top 28), [], []⟩
def dH19 : He.DefD := ⟨("_law_odd", none), "_law_odd", "_law_odd", defArgs (top 29), defBody (top 29), defScope (top 29), [], []⟩
def dH20 : He.DefD := ⟨("_law_bent", none), "_law_bent", "_law_bent", defArgs (top 30), defBody (top 30), defScope (top 30), [], []⟩
def dH21 : He.DefD := ⟨("_law_within", none), "_law_within", "_law_within", defArgs (top 31), defBody (top 31), defScope (top 31), [], []⟩
def dH22 : He.DefD := ⟨("_law_is_rise", none), "_law_is_rise", "_law_is_rise", defArgs (top 32), defBody (top 32), defScope (top 32), [], []⟩
def dH23 : He.DefD := ⟨("_law_built", none), "_law_built", "_law_built", defArgs (top 33), defBody (top 33), defScope (top 33), [], []⟩
def dH24 : He.DefD := ⟨("_law_are_rows", none), "_law_are_rows", "_law_are_rows", defArgs (top 34), defBody (top 34), defScope (top 34), [], []⟩
def dH25 : He.DefD := ⟨("_law_stones", none), "_law_stones", "_law_stones", defArgs (top 35), defBody (top 35), defScope (top 35), [], []⟩
def dH26 : He.DefD := ⟨("_law_cells", none), "_law_cells", "_law_cells", defArgs (top 36), defBody (top 36), defScope (top 36), [], []⟩
def dH27 : He.DefD := ⟨("_law_falls", none), "_law_falls", "_law_falls", defArgs (top 37), defBody (top 37), defScope (top 37), [], []⟩
def dH28 : He.DefD := ⟨("_law_is_stones", none), "_law_is_stones", "_law_is_stones", defArgs (top 38), defBody (top 38), defScope (top 38), [], []⟩
def dH29 : He.DefD := ⟨("_law_raises", none), "_law_raises", "_law_raises", defArgs (top 39), defBody (top 39), defScope (top 39), [], []⟩
def dH30 : He.DefD := ⟨("law", none), "law", "law", defArgs (top 40), defBody (top 40), defScope (top 40), [], []⟩
def fnH : List He.DefD := [dH0, dH1, dH2, dH3, dH4, dH5, dH6, dH7, dH8, dH9, dH10, dH11, dH12, dH13, dH14, dH15, dH16, dH17, dH18, dH19, dH20, dH21, dH22, dH23, dH24, dH25, dH26, dH27, dH28, dH29, dH30]
def exH (K : PySem.W.Frag) : Bool := exmB K ["WallError", "NoRows", "NotThere"]
def tfH : List He.Defn := [("law", none)]
abbrev RH : PySem.W.OpenRow := PySem.W.OpenLaw.row PySem.Challenge.rw_drystones_k07_stones_that_fall
abbrev qH : Program := PySem.W.view RH.prog [40]
def hkH : PySem.W.Hook := He.hookX 5 faH fnH [] tfH exH
def obH (s : PySem.W.SharedT) : He.AlX := He.obsX 5 faH fnH [] tfH exH (HandSHeadRun.getT s)
theorem ob_eqH (s : PySem.W.SharedT) : obH s = hkH.obs s.abs := He.obsX_eq (HandSHeadRun.getT_eq s)
def loH0 : List PySem.Str := ["WallError", "NoRows", "NotThere", "is_number", "is_row", "do_rise", "MOST_WIDTH", "MOST_HEIGHT", "are_rows", "need_rows", "stones_of", "span_of", "is_over", "is_lost", "holds", "fallen", "falls", "weak_of", "weak", "is_firm", "_law_pot", "_law_draw", "_law_pick", "_law_same", "_law_odd", "_law_bent", "_law_within", "_law_is_rise", "_law_built", "_law_are_rows"]
def loH1 : List PySem.Str := ["_law_stones", "_law_cells", "_law_falls", "_law_is_stones", "_law_raises"]
abbrev loH : List PySem.Str := loH0 ++ loH1
theorem runH (w : World) : HandSHeadRun.RunEq RH qH hkH obH 4000 loH w := by
  intro os
  kernel_rfl
theorem fxH {P : Program} {w : World} {K : PySem.W.Frag} {h : Heap} {mg : Str → Option Value} {base : Heap} {T : List (Addr × Str)} (X : K.In h) (G : h.Ns mainGlobals mg) (c : He.SaysX faH fnH [] tfH exH w h K) : Fx P w K mg base T := by
  have cd := c.t.d
  have m_is_number : mg "is_number" = some (.ref (He.ga K "is_number")) := He.glo_ok X G (cd.fact 0 (f := .glo "is_number") rfl)
  have m_is_row : mg "is_row" = some (.ref (He.ga K "is_row")) := He.glo_ok X G (cd.fact 1 (f := .glo "is_row") rfl)
  have m_do_rise : mg "do_rise" = some (.ref (He.ga K "do_rise")) := He.glo_ok X G (cd.fact 2 (f := .glo "do_rise") rfl)
  have m_are_rows : mg "are_rows" = some (.ref (He.ga K "are_rows")) := He.glo_ok X G (cd.fact 3 (f := .glo "are_rows") rfl)
  have m_need_rows : mg "need_rows" = some (.ref (He.ga K "need_rows")) := He.glo_ok X G (cd.fact 4 (f := .glo "need_rows") rfl)
  have m_stones_of : mg "stones_of" = some (.ref (He.ga K "stones_of")) := He.glo_ok X G (cd.fact 5 (f := .glo "stones_of") rfl)
  have m_span_of : mg "span_of" = some (.ref (He.ga K "span_of")) := He.glo_ok X G (cd.fact 6 (f := .glo "span_of") rfl)
  have m_is_over : mg "is_over" = some (.ref (He.ga K "is_over")) := He.glo_ok X G (cd.fact 7 (f := .glo "is_over") rfl)
  have m_is_lost : mg "is_lost" = some (.ref (He.ga K "is_lost")) := He.glo_ok X G (cd.fact 8 (f := .glo "is_lost") rfl)
  have m_holds : mg "holds" = some (.ref (He.ga K "holds")) := He.glo_ok X G (cd.fact 9 (f := .glo "holds") rfl)
  have m_fallen : mg "fallen" = some (.ref (He.ga K "fallen")) := He.glo_ok X G (cd.fact 10 (f := .glo "fallen") rfl)
  have m_falls : mg "falls" = some (.ref (He.ga K "falls")) := He.glo_ok X G (cd.fact 11 (f := .glo "falls") rfl)
  have m_weak_of : mg "weak_of" = some (.ref (He.ga K "weak_of")) := He.glo_ok X G (cd.fact 12 (f := .glo "weak_of") rfl)
  have m_weak : mg "weak" = some (.ref (He.ga K "weak")) := He.glo_ok X G (cd.fact 13 (f := .glo "weak") rfl)
  have m_is_firm : mg "is_firm" = some (.ref (He.ga K "is_firm")) := He.glo_ok X G (cd.fact 14 (f := .glo "is_firm") rfl)
  have m__law_pot : mg "_law_pot" = some (.ref (He.ga K "_law_pot")) := He.glo_ok X G (cd.fact 15 (f := .glo "_law_pot") rfl)
  have m__law_draw : mg "_law_draw" = some (.ref (He.ga K "_law_draw")) := He.glo_ok X G (cd.fact 16 (f := .glo "_law_draw") rfl)
  have m__law_pick : mg "_law_pick" = some (.ref (He.ga K "_law_pick")) := He.glo_ok X G (cd.fact 17 (f := .glo "_law_pick") rfl)
  have m__law_same : mg "_law_same" = some (.ref (He.ga K "_law_same")) := He.glo_ok X G (cd.fact 18 (f := .glo "_law_same") rfl)
  have m__law_odd : mg "_law_odd" = some (.ref (He.ga K "_law_odd")) := He.glo_ok X G (cd.fact 19 (f := .glo "_law_odd") rfl)
  have m__law_bent : mg "_law_bent" = some (.ref (He.ga K "_law_bent")) := He.glo_ok X G (cd.fact 20 (f := .glo "_law_bent") rfl)
  have m__law_within : mg "_law_within" = some (.ref (He.ga K "_law_within")) := He.glo_ok X G (cd.fact 21 (f := .glo "_law_within") rfl)
  have m__law_is_rise : mg "_law_is_rise" = some (.ref (He.ga K "_law_is_rise")) := He.glo_ok X G (cd.fact 22 (f := .glo "_law_is_rise") rfl)
  have m__law_built : mg "_law_built" = some (.ref (He.ga K "_law_built")) := He.glo_ok X G (cd.fact 23 (f := .glo "_law_built") rfl)
  have m__law_are_rows : mg "_law_are_rows" = some (.ref (He.ga K "_law_are_rows")) := He.glo_ok X G (cd.fact 24 (f := .glo "_law_are_rows") rfl)
  have m__law_stones : mg "_law_stones" = some (.ref (He.ga K "_law_stones")) := He.glo_ok X G (cd.fact 25 (f := .glo "_law_stones") rfl)
  have m__law_cells : mg "_law_cells" = some (.ref (He.ga K "_law_cells")) := He.glo_ok X G (cd.fact 26 (f := .glo "_law_cells") rfl)
  have m__law_falls : mg "_law_falls" = some (.ref (He.ga K "_law_falls")) := He.glo_ok X G (cd.fact 27 (f := .glo "_law_falls") rfl)
  have m__law_is_stones : mg "_law_is_stones" = some (.ref (He.ga K "_law_is_stones")) := He.glo_ok X G (cd.fact 28 (f := .glo "_law_is_stones") rfl)
  have m__law_raises : mg "_law_raises" = some (.ref (He.ga K "_law_raises")) := He.glo_ok X G (cd.fact 29 (f := .glo "_law_raises") rfl)
  have m_law : mg "law" = some (.ref (He.ga K "law")) := He.glo_ok X G (cd.fact 30 (f := .glo "law") rfl)
  have m_WallError : mg "WallError" = some (.ref (He.ga K "WallError")) := He.glo_ok X G (cd.fact 31 (f := .glo "WallError") rfl)
  have m_NoRows : mg "NoRows" = some (.ref (He.ga K "NoRows")) := He.glo_ok X G (cd.fact 32 (f := .glo "NoRows") rfl)
  have m_NotThere : mg "NotThere" = some (.ref (He.ga K "NotThere")) := He.glo_ok X G (cd.fact 33 (f := .glo "NotThere") rfl)
  have ex : exH K = true := c.more
  unfold exH at ex
  try simp only [Bool.and_eq_true] at ex
  have x_e := ex
  exact {
    f_abs := He.free_ok X G (cd.fact 34 (f := .free "abs") rfl)
    f_all := He.free_ok X G (cd.fact 35 (f := .free "all") rfl)
    f_bool := He.free_ok X G (cd.fact 36 (f := .free "bool") rfl)
    f_dict := He.free_ok X G (cd.fact 37 (f := .free "dict") rfl)
    f_enumerate := He.free_ok X G (cd.fact 38 (f := .free "enumerate") rfl)
    f_int := He.free_ok X G (cd.fact 39 (f := .free "int") rfl)
    f_isinstance := He.free_ok X G (cd.fact 40 (f := .free "isinstance") rfl)
    f_len := He.free_ok X G (cd.fact 41 (f := .free "len") rfl)
    f_list := He.free_ok X G (cd.fact 42 (f := .free "list") rfl)
    f_max := He.free_ok X G (cd.fact 43 (f := .free "max") rfl)
    f_min := He.free_ok X G (cd.fact 44 (f := .free "min") rfl)
    f_range := He.free_ok X G (cd.fact 45 (f := .free "range") rfl)
    f_set := He.free_ok X G (cd.fact 46 (f := .free "set") rfl)
    f_sorted := He.free_ok X G (cd.fact 47 (f := .free "sorted") rfl)
    f_str := He.free_ok X G (cd.fact 48 (f := .free "str") rfl)
    f_sum := He.free_ok X G (cd.fact 49 (f := .free "sum") rfl)
    f_tuple := He.free_ok X G (cd.fact 50 (f := .free "tuple") rfl)
    d_is_number := cd.def_ 0 (d := dH0) rfl
    m_is_number := m_is_number
    d_is_row := cd.def_ 1 (d := dH1) rfl
    m_is_row := m_is_row
    d_do_rise := cd.def_ 2 (d := dH2) rfl
    m_do_rise := m_do_rise
    d_are_rows := cd.def_ 3 (d := dH3) rfl
    m_are_rows := m_are_rows
    d_need_rows := cd.def_ 4 (d := dH4) rfl
    m_need_rows := m_need_rows
    d_stones_of := cd.def_ 5 (d := dH5) rfl
    m_stones_of := m_stones_of
    d_span_of := cd.def_ 6 (d := dH6) rfl
    m_span_of := m_span_of
    d_is_over := cd.def_ 7 (d := dH7) rfl
    m_is_over := m_is_over
    d_is_lost := cd.def_ 8 (d := dH8) rfl
    m_is_lost := m_is_lost
    d_holds := cd.def_ 9 (d := dH9) rfl
    m_holds := m_holds
    d_fallen := cd.def_ 10 (d := dH10) rfl
    m_fallen := m_fallen
    d_falls := cd.def_ 11 (d := dH11) rfl
    m_falls := m_falls
    d_weak_of := cd.def_ 12 (d := dH12) rfl
    m_weak_of := m_weak_of
    d_weak := cd.def_ 13 (d := dH13) rfl
    m_weak := m_weak
    d_is_firm := cd.def_ 14 (d := dH14) rfl
    m_is_firm := m_is_firm
    d__law_pot := cd.def_ 15 (d := dH15) rfl
    m__law_pot := m__law_pot
    d__law_draw := cd.def_ 16 (d := dH16) rfl
    m__law_draw := m__law_draw
    d__law_pick := cd.def_ 17 (d := dH17) rfl
    m__law_pick := m__law_pick
    d__law_same := cd.def_ 18 (d := dH18) rfl
    m__law_same := m__law_same
    d__law_odd := cd.def_ 19 (d := dH19) rfl
    m__law_odd := m__law_odd
    d__law_bent := cd.def_ 20 (d := dH20) rfl
    m__law_bent := m__law_bent
    d__law_within := cd.def_ 21 (d := dH21) rfl
    m__law_within := m__law_within
    d__law_is_rise := cd.def_ 22 (d := dH22) rfl
    m__law_is_rise := m__law_is_rise
    d__law_built := cd.def_ 23 (d := dH23) rfl
    m__law_built := m__law_built
    d__law_are_rows := cd.def_ 24 (d := dH24) rfl
    m__law_are_rows := m__law_are_rows
    d__law_stones := cd.def_ 25 (d := dH25) rfl
    m__law_stones := m__law_stones
    d__law_cells := cd.def_ 26 (d := dH26) rfl
    m__law_cells := m__law_cells
    d__law_falls := cd.def_ 27 (d := dH27) rfl
    m__law_falls := m__law_falls
    d__law_is_stones := cd.def_ 28 (d := dH28) rfl
    m__law_is_stones := m__law_is_stones
    d__law_raises := cd.def_ 29 (d := dH29) rfl
    m__law_raises := m__law_raises
    c_MOST_WIDTH := He.int_ok X G (cd.fact 51 (f := .int "MOST_WIDTH" 12) rfl)
    c_MOST_HEIGHT := He.int_ok X G (cd.fact 52 (f := .int "MOST_HEIGHT" 6) rfl)
    x_NoRows := exn_of m_NoRows (cd.fact 53 (f := .exc "NoRows") rfl)
    x_NotThere := exn_of m_NotThere (cd.fact 54 (f := .exc "NotThere") rfl)
    e := exmB_ok x_e fun x hx => by
      simp only [List.mem_cons, List.not_mem_nil, or_false] at hx
      rcases hx with rfl | rfl | rfl
      · exact m_WallError
      · exact m_NoRows
      · exact m_NotThere
    rz := by
      obtain ⟨fd, FD⟩ := cd.def_ 29 (d := dH29) rfl
      exact ⟨_, _, _, fd, _, _, _, _, _, _, _, _, _, _, _, FD, m__law_raises, FunD.bindsN FD fun _ _ _ _ _ _ us hl => match us, hl with | [_, _], _ => rfl, ⟨rfl, rfl, rfl, by decide +kernel, rfl, by decide +kernel, by decide +kernel⟩, rfl, rfl, rfl, (.cons m_NoRows rfl (by decide) (by decide) (.cons m_NotThere rfl (by decide) (by decide) .nil))⟩
  }
end DL.K07
namespace DL.K07
set_option autoImplicit false
open PySem DL
def notThere : Exc := ⟨"NotThere", []⟩
theorem d1_at {op : D → Option D} {f : DE} {ρ : Env'} {p p1 : Pot} {x y : D} (h : f ρ p = .ok x p1) (h2 : op x = some y) : d1 op f ρ p = .ok y p1 := by
  rw [d1_eq, bind_at h, h2]
  rfl
/-! ### each stone once, in order -/
theorem prs_sts : ∀ L : List St, (∀ s ∈ L, s.1 ≤ 99 ∧ s.2 ≤ 99) → prs2 (L.map sD) = some (L.map fun s => ((s.1 : Int), (s.2 : Int)))
  | [], _ => rfl
  | s :: L, h => by
    have hs := h s List.mem_cons_self
    have h1 : pr2 (sD s) = some ((s.1 : Int), (s.2 : Int)) := by
      unfold pr2
      dsimp only
      rw [if_pos (by omega)]
    rw [List.map_cons, prs2, h1, prs_sts L fun z hz => h z (List.mem_cons_of_mem _ hz)]
    rfl
theorem sort_sts (L : List St) (hb : ∀ s ∈ L, s.1 ≤ 99 ∧ s.2 ≤ 99) (hl : L.length < 64) : ∃ M : List St, pSortSetT (.tup (L.map sD)) = some (.lst (M.map sD)) ∧ M.Pairwise stLt ∧ ∀ s, s ∈ M ↔ s ∈ L := by
  obtain ⟨cs, hcs⟩ : ∃ cs, cs = uniqS ((L.map fun s => ((s.1 : Int), (s.2 : Int))).map cd2) := ⟨_, rfl⟩
  have hm : ∀ c, c ∈ cs ↔ ∃ s ∈ L, c = (s.1 : Int) * 1000 + s.2 := fun c => by
    rw [hcs, mem_uniqS, List.map_map, List.mem_map]
    exact ⟨fun ⟨s, h1, h2⟩ => ⟨s, h1, h2.symm⟩, fun ⟨s, h1, h2⟩ => ⟨s, h1, h2.symm⟩⟩
  have hp : cs.Pairwise (· < ·) := by rw [hcs]; exact pw_uniqS _
  refine ⟨cs.map fun c => ((c / 1000).toNat, (c % 1000).toNat), ?_, ?_, fun s => ?_⟩
  · unfold pSortSetT
    dsimp only
    rw [prs_sts L hb]
    dsimp only
    rw [if_pos (by rw [List.length_map]; exact hl), ← hcs, List.map_map]
    congr 2
    refine List.map_congr_left fun c hc => ?_
    obtain ⟨s, h1, h2⟩ := (hm c).mp hc
    have := hb s h1
    show D.tup [.int (c / 1000), .int (c % 1000)] = .tup [.int ((c / 1000).toNat : Nat), .int ((c % 1000).toNat : Nat)]
    rw [Int.toNat_of_nonneg (by omega), Int.toNat_of_nonneg (by omega)]
  · rw [List.pairwise_map]
    refine List.Pairwise.imp_of_mem (fun {c d} hc hd h => ?_) hp
    obtain ⟨s, h1, h2⟩ := (hm c).mp hc
    obtain ⟨u, h3, h4⟩ := (hm d).mp hd
    have := hb s h1
    have := hb u h3
    unfold stLt
    dsimp only
    omega
  · rw [List.mem_map]
    constructor
    · rintro ⟨c, hc, e⟩
      obtain ⟨u, h1, h2⟩ := (hm c).mp hc
      have := hb u h1
      have e1 : (c / 1000).toNat = u.1 := by omega
      have e2 : (c % 1000).toNat = u.2 := by omega
      rw [e1, e2] at e
      rw [← e]
      exact h1
    · intro hs
      have := hb s hs
      refine ⟨(s.1 : Int) * 1000 + s.2, (hm _).mpr ⟨s, hs, rfl⟩, ?_⟩
      have e1 : (((s.1 : Int) * 1000 + s.2) / 1000).toNat = s.1 := by omega
      have e2 : (((s.1 : Int) * 1000 + s.2) % 1000).toNat = s.2 := by omega
      rw [e1, e2]
theorem rise_sts : ∀ {M : List St}, M.Pairwise stLt → rise ltSt M = true
  | [], _ => rfl
  | [x], _ => rfl
  | x :: y :: r, h => by
    rw [List.pairwise_cons] at h
    rw [rise, rise_sts h.2, Bool.and_true]
    have h1 := h.1 y List.mem_cons_self
    unfold ltSt
    rcases h1 with h1 | ⟨h1, h2⟩
    · rw [if_neg (by rw [beq_iff_eq]; omega)]
      exact decide_eq_true h1
    · rw [if_pos (by rw [beq_iff_eq]; exact h1)]
      exact decide_eq_true h2
/-! ### what falls -/
section
variable {rows : Rows}
theorem falls_ok (ho : okRows rows = true) (hF : Fair rows) {L : List St} (hm : ∀ s ∈ L, s ∈ sts rows) (hp : L.Pairwise stLt) (hl : L.length ≤ 100000) : g_falls [wD rows, .tup (L.map sD)] = retM (.tup ((fallsT rows L).map sD)) := by
  have kn := need_rows_ok (wD rows)
  rw [arR_rows, ho, if_pos rfl] at kn
  have kl := is_lost_ok rows hF.few (.tup (L.map sD)) fun xs e => by cases e; rw [List.length_map]; exact hl
  rw [isStones_in ho hm, riseD2_sts, rise_sts hp] at kl
  have kf := fallen_ok rows hF L (hp.imp stLt_ne) (by omega)
  exact def_M ((expr_M (call_is (xs := [wD rows]) rfl kn)).trans ((no_M (not_ret (b := true) (call_is (xs := [wD rows, .tup (L.map sD)]) rfl kl))).trans (ret_M (call_is (xs := [wD rows, .tup (L.map sD)]) rfl kf))))
theorem falls_bad (ho : okRows rows = true) (hF : Fair rows) {v : D} (hl : ∀ xs, v = .tup xs → xs.length ≤ 100000) (h : (isStones rows v && riseD2 v) = false) : g_falls [wD rows, v] = excM notThere := by
  have kn := need_rows_ok (wD rows)
  rw [arR_rows, ho, if_pos rfl] at kn
  have kl := is_lost_ok rows hF.few v hl
  rw [h] at kl
  exact def_exM ((expr_M (call_is (xs := [wD rows]) rfl kn)).trans (yes_X (not_ret (b := false) (call_is (xs := [wD rows, v]) rfl kl)) (raise0_M _)))
theorem falls_no {v w : D} (h : arR v = false) : g_falls [v, w] = excM noRows := by
  have kn := need_rows_ok v
  rw [h, if_neg (by decide)] at kn
  exact def_exM (expr_X (callX_M (xs := [v]) rfl kn))
theorem weak_no {v : D} (h : arR v = false) : g_weak [v] = excM noRows := by
  have kn := need_rows_ok v
  rw [h, if_neg (by decide)] at kn
  exact def_exM (expr_X (callX_M (xs := [v]) rfl kn))
theorem weak_ok (ho : okRows rows = true) (hF : Fair rows) : g_weak [wD rows] = retM (.tup ((weakT rows).map sD)) := by
  have kn := need_rows_ok (wD rows)
  rw [arR_rows, ho, if_pos rfl] at kn
  refine def_M ((expr_M (call_is (xs := [wD rows]) rfl kn)).trans (ret_M ?_))
  show dB (o1 pTuple) [dCall g_weak_of [dV 0]] [.fz (wD rows)] = _
  rw [dB_eq, dsN_cons (call_is (xs := [wD rows]) rfl (weak_of_ok rows hF)) rfl]
  rfl
end
theorem turn_ok (x : D) (p : Pot) (hp : PotGood p) : ∃ p', b_law_1 [.un, .un, .fz x, .un, .un, .un, .un, .un, .un, .un, .un, .un] p = .nx (padN 12 []) p' ∧ PotGood p' := by
  obtain ⟨rows, p1, e1, hp1, B⟩ := built_draw hp 4 7 (by decide) (by decide) (by decide) (by decide)
  obtain ⟨ho, hF, hg, hbd⟩ := rows_built B (by decide) (by decide)
  have hz : (sts rows).length ≤ 28 := by
    have h1 := sts_le (rows := rows) (n := 7) fun r hr => (hg r hr).2
    have h2 := Nat.mul_le_mul_right 7 B.l2
    omega
  have hne : sts rows ≠ [] := by
    have h1 : 0 < rows.length := B.l1
    have h2 := (B.good (by decide) _ (getD_mem (d := []) h1)).2.2
    exact List.ne_nil_of_mem (a := ((0, 0) : St)) (mem_sts.mpr ⟨h1, List.length_pos_iff.mpr h2⟩)
  have hpos : 1 ≤ (sts rows).length := List.length_pos_iff.mpr hne
  have s1 : dCallP g__law_built [dC (.int 4), dC (.int 7)] [.un, .un, .fz x, .un, .un, .un, .un, .un, .un, .un, .un, .un] p = .ok (wD rows) p1 := (callP_at (dsN_at rfl (dsN_at rfl dsN_nil))).trans e1
  have kst := lstones_ok rows hF.few
  have s4 : dCall g__law_stones [dV 3] [.un, .un, .fz x, .fz (wD rows), .un, .un, .un, .un, .un, .un, .un, .un] = retM (.lst ((sts rows).map sD)) := call_is (xs := [wD rows]) rfl kst
  obtain ⟨lost, p2, e2, hp2, hsub⟩ := filT_draw (c := fun (s : St) => bM (d2 pEq (dCallP g__law_draw [dC (.int 4)]) (dC (.int 0))) (put (wipes [11] [.un, .un, .fz x, .fz (wD rows), .fz (.lst ((sts rows).map sD)), .un, .un, .un, .un, .un, .un, .un]) 11 (.fz (sD s)))) (f := fun (s : St) => dV 11 (put (wipes [11] [.un, .un, .fz x, .fz (wD rows), .fz (.lst ((sts rows).map sD)), .un, .un, .un, .un, .un, .un, .un]) 11 (.fz (sD s)))) sD (xs := sts rows) hp1 (fun s _ p hp => by
    obtain ⟨r, p', e, hp', _⟩ := draw_call hp (f := dC (.int 4)) (ρ := put (wipes [11] [.un, .un, .fz x, .fz (wD rows), .fz (.lst ((sts rows).map sD)), .un, .un, .un, .un, .un, .un, .un]) 11 (.fz (sD s))) (m := 4) rfl (by decide) (by decide)
    exact ⟨r == 0, p', bM_at (d2_at e rfl (pEq_int r 0)), hp'⟩) (fun s _ => rfl)
  have hll : lost.length ≤ 28 := Nat.le_trans hsub.length_le hz
  have hlm : ∀ s ∈ lost, s ∈ sts rows := fun s hs => hsub.subset hs
  have hlp : lost.Pairwise stLt := (sts_pw rows).sublist hsub
  have s5 : dB (o1 pTuple) [dCmp (itV (dV 4)) (.nm 11) (some (d2 pEq (dCallP g__law_draw [dC (.int 4)]) (dC (.int 0)))) (dV 11) [11]] [.un, .un, .fz x, .fz (wD rows), .fz (.lst ((sts rows).map sD)), .un, .un, .un, .un, .un, .un, .un] p1 = .ok (.tup (lost.map sD)) p2 := dB_at (dsN_at (dCmp_at (xs := (sts rows).map sD) rfl (by rw [compGo_some, filT_map]; exact e2)) dsN_nil) rfl
  have kf := falls_ok ho hF hlm hlp (by omega)
  have s6 : dCall g_falls [dV 3, dV 5] [.un, .un, .fz x, .fz (wD rows), .fz (.lst ((sts rows).map sD)), .fz (.tup (lost.map sD)), .un, .un, .un, .un, .un, .un] = retM (.tup ((fallsT rows lost).map sD)) := call_is (xs := [wD rows, .tup (lost.map sD)]) rfl kf
  have hfl : ∀ L : List St, (fallsT rows L).length ≤ 100000 := fun L => Nat.le_trans (fallsT_len rows L) (by omega)
  have hfit : ∀ L : List St, L.length ≤ 100000 → D.fit 7 (.tup (L.map sD)) = true := fun L h => fit_map sD 6 h fun s _ => fit_sD 5 s
  have c1 : dNot (dCall (g__law_same 8) [dV 6, dB (o1 pTuple) [dCall g__law_falls [dV 3, dV 5]]]) [.un, .un, .fz x, .fz (wD rows), .fz (.lst ((sts rows).map sD)), .fz (.tup (lost.map sD)), .fz (.tup ((fallsT rows lost).map sD)), .un, .un, .un, .un, .un] = retM (.bl false) := by
    refine same_no (n := 7) (a := .tup ((fallsT rows lost).map sD)) rfl ?_ (hfit _ (hfl _))
    rw [dB_eq, dsN_cons (call_is (xs := [wD rows, .tup (lost.map sD)]) rfl (lfalls_ok rows hF (by omega) _ lost (.inl rfl) (by omega))) rfl]
    rfl
  obtain ⟨d, p3, e3, hp3, m3⟩ := pick_call hp2 (f := dV 4) (ρ := [.un, .un, .fz x, .fz (wD rows), .fz (.lst ((sts rows).map sD)), .fz (.tup (lost.map sD)), .fz (.tup ((fallsT rows lost).map sD)), .un, .un, .un, .un, .un]) (xs := (sts rows).map sD) rfl (by rw [List.length_map]; exact hpos) (by rw [List.length_map]; omega)
  obtain ⟨s, hs, rfl⟩ := List.mem_map.mp m3
  obtain ⟨M, m1, m2, m3'⟩ := sort_sts (lost ++ [s]) (fun z hz => sts_bd ho (by
    rcases List.mem_append.mp hz with h | h
    · exact hlm z h
    · rw [List.mem_singleton.mp h]; exact hs)) (by rw [List.length_append]; simp; omega)
  have hMm : ∀ z ∈ M, z ∈ sts rows := fun z hz => by
    rcases List.mem_append.mp ((m3' z).mp hz) with h | h
    · exact hlm z h
    · rw [List.mem_singleton.mp h]; exact hs
  have hMl : M.length ≤ 28 := Nat.le_trans (nodup_sub_len (m2.imp stLt_ne) hMm) hz
  have s7 : dB (o1 pTuple) [d1 pSortSetT (d2 pAdd (dV 5) (dTup [dCallP g__law_pick [dV 4]]))] [.un, .un, .fz x, .fz (wD rows), .fz (.lst ((sts rows).map sD)), .fz (.tup (lost.map sD)), .fz (.tup ((fallsT rows lost).map sD)), .un, .un, .un, .un, .un] p2 = .ok (.tup (M.map sD)) p3 := by
    have ha : pAdd (.tup (lost.map sD)) (.tup [sD s]) = some (.tup ((lost ++ [s]).map sD)) := by
      unfold pAdd
      dsimp only
      rw [if_pos (by rw [List.length_map, lim_eq]; simp; omega), List.map_append]
      rfl
    exact dB_at (dsN_at (d1_at (d2_at (x := .tup (lost.map sD)) rfl (dTup_at (dsN_at e3 dsN_nil)) ha) m1) dsN_nil) rfl
  have kfM := falls_ok ho hF hMm m2 (by omega)
  have c2 : d2 pNe (dCmp (itV (dV 6)) (.nm 11) (some (d2 pNotIn (dV 11) (d2 pAdd (dCall g_falls [dV 3, dV 7]) (dV 7)))) (dV 11) [11]) (dLst []) [.un, .un, .fz x, .fz (wD rows), .fz (.lst ((sts rows).map sD)), .fz (.tup (lost.map sD)), .fz (.tup ((fallsT rows lost).map sD)), .fz (.tup (M.map sD)), .un, .un, .un, .un] = retM (.bl false) := by
    have ha : pAdd (.tup ((fallsT rows M).map sD)) (.tup (M.map sD)) = some (.tup ((fallsT rows M ++ M).map sD)) := by
      have := fallsT_len rows M
      unfold pAdd
      dsimp only
      rw [if_pos (by rw [List.length_map, List.length_map, lim_eq]; omega), List.map_append]
    have e := cmp_filT (i := 11) (vs := [11]) (it := itV (dV 6)) (c := d2 pNotIn (dV 11) (d2 pAdd (dCall g_falls [dV 3, dV 7]) (dV 7))) (ρ := [.un, .un, .fz x, .fz (wD rows), .fz (.lst ((sts rows).map sD)), .fz (.tup (lost.map sD)), .fz (.tup ((fallsT rows lost).map sD)), .fz (.tup (M.map sD)), .un, .un, .un, .un]) sD (fun z => !(fallsT rows M ++ M).contains z) (xs := fallsT rows lost) rfl (fun _ => rfl) fun z _ => d2_ret (x := sD z) (y := .tup ((fallsT rows M ++ M).map sD)) rfl (d2_ret (x := .tup ((fallsT rows M).map sD)) (y := .tup (M.map sD)) (call_is (xs := [wD rows, .tup (M.map sD)]) rfl kfM) rfl ha) (pNotIn_st_tup z _)
    rw [List.filter_eq_nil_iff.mpr fun z hz hc => by
      have h1 := falls_more (L1 := lost) (L2 := M) (fun y hy => (m3' y).mpr (List.mem_append_left _ hy)) z hz
      have h2 : (fallsT rows M ++ M).contains z = true := List.contains_iff_mem.mpr (List.mem_append.mpr h1)
      rw [h2] at hc
      cases hc] at e
    exact d2_ret e rfl rfl
  have s8 : dCmp (itV (dV 4)) (.nm 11) (some (d2 pNe (dCall g__law_falls [dV 3, dTup [dV 11]]) (dLst []))) (dV 11) [11] [.un, .un, .fz x, .fz (wD rows), .fz (.lst ((sts rows).map sD)), .fz (.tup (lost.map sD)), .fz (.tup ((fallsT rows lost).map sD)), .fz (.tup (M.map sD)), .un, .un, .un, .un] = retM (.lst ((weakT rows).map sD)) := by
    refine cmp_filT sD (fun s => !(fallsT rows [s]).isEmpty) (xs := sts rows) rfl (fun _ => rfl) fun z _ => ?_
    refine d2_ret (x := .lst ((fallsT rows [z]).map sD)) (y := .lst []) (call_is (xs := [wD rows, .tup [sD z]]) rfl (lfalls_ok rows hF (by omega) _ [z] (.inl rfl) (by simp))) rfl ?_
    rw [pNe_lnil (plains_map sD 8 fun s _ => plain_sD 7 s), List.isEmpty_map]
  have hwl : (weakT rows).length ≤ 28 := Nat.le_trans (List.length_filter_le _ _) hz
  have c3 : dNot (dCall (g__law_same 8) [dCall g_weak [dV 3], dB (o1 pTuple) [dV 8]]) [.un, .un, .fz x, .fz (wD rows), .fz (.lst ((sts rows).map sD)), .fz (.tup (lost.map sD)), .fz (.tup ((fallsT rows lost).map sD)), .fz (.tup (M.map sD)), .fz (.lst ((weakT rows).map sD)), .un, .un, .un] = retM (.bl false) := by
    refine same_no (n := 7) (a := .tup ((weakT rows).map sD)) (call_is (xs := [wD rows]) rfl (weak_ok ho hF)) ?_ (hfit _ (by omega))
    rw [dB_eq, dsN_cons (x := .lst ((weakT rows).map sD)) rfl rfl]
    rfl
  have c4 : dNot (dCall (g__law_same 8) [dTup [dCall g_is_firm [dV 3], dCall g_falls [dV 3, dTup []]], dTup [d2 pEq (dV 8) (dLst []), dTup []]]) [.un, .un, .fz x, .fz (wD rows), .fz (.lst ((sts rows).map sD)), .fz (.tup (lost.map sD)), .fz (.tup ((fallsT rows lost).map sD)), .fz (.tup (M.map sD)), .fz (.lst ((weakT rows).map sD)), .un, .un, .un] = retM (.bl false) := by
    have kff := is_firm_ok rows hF
    rw [ho, Bool.true_and] at kff
    have kf0 := falls_ok ho hF (L := []) (fun s h => by cases h) List.Pairwise.nil (by simp)
    rw [none_falls ho] at kf0
    refine same_no (n := 7) (a := .tup [.bl (weakT rows).isEmpty, .tup []]) (dTup_ret (dsN_cons (call_is (xs := [wD rows]) rfl kff) (dsN_cons (call_is (xs := [wD rows, .tup []]) rfl kf0) rfl))) (dTup_ret (dsN_cons (d2_ret (x := .lst ((weakT rows).map sD)) (y := .lst []) rfl rfl ?_) (dsN_cons rfl rfl))) ?_
    · rw [pEq_lnil (plains_map sD 8 fun s _ => plain_sD 7 s), List.isEmpty_map]
    · simp [D.fit, D.fits]
  obtain ⟨v, p4, e4, hp4, fv⟩ := bent_ok 7 2 (.tup (lost.map sD)) 2 p3 hp3 (by
    rw [bdOk, Bool.and_eq_true, decide_eq_true_eq, List.all_eq_true, List.length_map]
    refine ⟨by omega, fun d hd => ?_⟩
    obtain ⟨z, hz, e⟩ := List.mem_map.mp hd
    have := sts_bd ho (hlm z hz)
    rw [← e]
    exact bdOk_rwD (r := [(z.1 : Int), (z.2 : Int)]) 0 (by simp) fun y hy => by
      simp only [List.mem_cons, List.not_mem_nil, or_false] at hy
      rcases hy with h | h <;> omega) (by decide)
  have s9 : dCallP (g__law_bent 8) [dV 5, dC (.int 2)] [.un, .un, .fz x, .fz (wD rows), .fz (.lst ((sts rows).map sD)), .fz (.tup (lost.map sD)), .fz (.tup ((fallsT rows lost).map sD)), .fz (.tup (M.map sD)), .fz (.lst ((weakT rows).map sD)), .un, .un, .un] p3 = .ok v p4 := (callP_at (dsN_at rfl (dsN_at rfl dsN_nil))).trans e4
  have hif : sIf (dNot (dAnd (dCall g__law_is_stones [dV 3, dV 9]) (dCall g__law_is_rise [dV 9]))) (sSeq (sIf (dNot (dRaises ["WallError", "NoRows", "NotThere"] ["NoRows", "NotThere"] "NotThere" (dCall g_falls [dV 3, dV 9]))) (sSeq (sRet (dC (.bl false))) (sPass)) (sPass)) (sPass)) (sPass) [.un, .un, .fz x, .fz (wD rows), .fz (.lst ((sts rows).map sD)), .fz (.tup (lost.map sD)), .fz (.tup ((fallsT rows lost).map sD)), .fz (.tup (M.map sD)), .fz (.lst ((weakT rows).map sD)), .fz v, .un, .un] p4 = .nx [.un, .un, .fz x, .fz (wD rows), .fz (.lst ((sts rows).map sD)), .fz (.tup (lost.map sD)), .fz (.tup ((fallsT rows lost).map sD)), .fz (.tup (M.map sD)), .fz (.lst ((weakT rows).map sD)), .fz v, .un, .un] p4 := by
    have hvl : ∀ xs, v = .tup xs → xs.length ≤ 100000 := fun xs e => by subst e; exact len_of fv
    have kis := lis_stones_ok rows hF.few v fv (by decide)
    have c : dNot (dAnd (dCall g__law_is_stones [dV 3, dV 9]) (dCall g__law_is_rise [dV 9])) [.un, .un, .fz x, .fz (wD rows), .fz (.lst ((sts rows).map sD)), .fz (.tup (lost.map sD)), .fz (.tup ((fallsT rows lost).map sD)), .fz (.tup (M.map sD)), .fz (.lst ((weakT rows).map sD)), .fz v, .un, .un] = retM (.bl (!(isStones rows v && riseD2 v))) := by
      refine not_ret (and_ret (call_is (xs := [wD rows, v]) rfl kis) fun h => ?_)
      obtain ⟨L, e, _⟩ := stones_of_val h
      subst e
      rw [riseD2_sts]
      exact call_is (xs := [.tup (L.map sD)]) rfl (lrise_sts L (by have := hvl _ rfl; rwa [List.length_map] at this))
    rw [if_ok (ok_of c p4)]
    cases q : (isStones rows v && riseD2 v) with
    | true => rfl
    | false =>
      rw [if_pos (by rfl)]
      have cr : dNot (dRaises ["WallError", "NoRows", "NotThere"] ["NoRows", "NotThere"] "NotThere" (dCall g_falls [dV 3, dV 9])) [.un, .un, .fz x, .fz (wD rows), .fz (.lst ((sts rows).map sD)), .fz (.tup (lost.map sD)), .fz (.tup ((fallsT rows lost).map sD)), .fz (.tup (M.map sD)), .fz (.lst ((weakT rows).map sD)), .fz v, .un, .un] = retM (.bl false) := not_ret (b := true) (raises_exc (e := notThere) (callX_M (xs := [wD rows, v]) rfl (falls_bad ho hF hvl q)) (by decide) (by decide))
      exact (guard_ret cr _ _).trans rfl
  obtain ⟨z, p5, e5, hp5, fz⟩ := bent_ok 7 2 (wD rows) 2 p4 hp4 hbd (by decide)
  have s10 : dCallP (g__law_bent 8) [dV 3, dC (.int 2)] [.un, .un, .fz x, .fz (wD rows), .fz (.lst ((sts rows).map sD)), .fz (.tup (lost.map sD)), .fz (.tup ((fallsT rows lost).map sD)), .fz (.tup (M.map sD)), .fz (.lst ((weakT rows).map sD)), .fz v, .un, .un] p4 = .ok z p5 := (callP_at (dsN_at rfl (dsN_at rfl dsN_nil))).trans e5
  have hif2 : sIf (dNot (dCall g__law_are_rows [dV 10])) (sSeq (sIf (d2 pIsNot (dCall g_is_firm [dV 10]) (dC (.bl false))) (sSeq (sRet (dC (.bl false))) (sPass)) (sPass)) (sSeq (sIf (dNot (dRaises ["WallError", "NoRows", "NotThere"] ["NoRows", "NotThere"] "NoRows" (dCall g_falls [dV 10, dTup []]))) (sSeq (sRet (dC (.bl false))) (sPass)) (sPass)) (sSeq (sIf (dNot (dRaises ["WallError", "NoRows", "NotThere"] ["NoRows", "NotThere"] "NoRows" (dCall g_weak [dV 10]))) (sSeq (sRet (dC (.bl false))) (sPass)) (sPass)) (sPass)))) (sPass) [.un, .un, .fz x, .fz (wD rows), .fz (.lst ((sts rows).map sD)), .fz (.tup (lost.map sD)), .fz (.tup ((fallsT rows lost).map sD)), .fz (.tup (M.map sD)), .fz (.lst ((weakT rows).map sD)), .fz v, .fz z, .un] p5 = .nx [.un, .un, .fz x, .fz (wD rows), .fz (.lst ((sts rows).map sD)), .fz (.tup (lost.map sD)), .fz (.tup ((fallsT rows lost).map sD)), .fz (.tup (M.map sD)), .fz (.lst ((weakT rows).map sD)), .fz v, .fz z, .un] p5 := by
    have kl := larows_ok z fz (by decide)
    have c : dNot (dCall g__law_are_rows [dV 10]) [.un, .un, .fz x, .fz (wD rows), .fz (.lst ((sts rows).map sD)), .fz (.tup (lost.map sD)), .fz (.tup ((fallsT rows lost).map sD)), .fz (.tup (M.map sD)), .fz (.lst ((weakT rows).map sD)), .fz v, .fz z, .un] = retM (.bl (!arR z)) := not_ret (call_is (xs := [z]) rfl kl)
    rw [if_ok (ok_of c p5)]
    cases q : arR z with
    | true => rfl
    | false =>
      rw [if_pos (by rfl)]
      have r1 : d2 pIsNot (dCall g_is_firm [dV 10]) (dC (.bl false)) [.un, .un, .fz x, .fz (wD rows), .fz (.lst ((sts rows).map sD)), .fz (.tup (lost.map sD)), .fz (.tup ((fallsT rows lost).map sD)), .fz (.tup (M.map sD)), .fz (.lst ((weakT rows).map sD)), .fz v, .fz z, .un] = retM (.bl false) := d2_ret (call_is (xs := [z]) rfl (is_firm_no z q)) rfl rfl
      have r2 : dNot (dRaises ["WallError", "NoRows", "NotThere"] ["NoRows", "NotThere"] "NoRows" (dCall g_falls [dV 10, dTup []])) [.un, .un, .fz x, .fz (wD rows), .fz (.lst ((sts rows).map sD)), .fz (.tup (lost.map sD)), .fz (.tup ((fallsT rows lost).map sD)), .fz (.tup (M.map sD)), .fz (.lst ((weakT rows).map sD)), .fz v, .fz z, .un] = retM (.bl false) := not_ret (b := true) (raises_exc (e := noRows) (callX_M (xs := [z, .tup []]) rfl (falls_no q)) (by decide) (by decide))
      have r3 : dNot (dRaises ["WallError", "NoRows", "NotThere"] ["NoRows", "NotThere"] "NoRows" (dCall g_weak [dV 10])) [.un, .un, .fz x, .fz (wD rows), .fz (.lst ((sts rows).map sD)), .fz (.tup (lost.map sD)), .fz (.tup ((fallsT rows lost).map sD)), .fz (.tup (M.map sD)), .fz (.lst ((weakT rows).map sD)), .fz v, .fz z, .un] = retM (.bl false) := not_ret (b := true) (raises_exc (e := noRows) (callX_M (xs := [z]) rfl (weak_no q)) (by decide) (by decide))
      exact (guard_ret r1 _ _).trans ((guard_ret r2 _ _).trans ((guard_ret r3 _ _).trans rfl))
  refine ⟨p5, ?_, hp5⟩
  refine (seq_nx (set_nx s1)).trans ?_
  refine (seq_nx (set_nx (ok_of s4 p1))).trans ?_
  refine (seq_nx (set_nx s5)).trans ?_
  refine (seq_nx (set_nx (ok_of s6 p2))).trans ?_
  refine (guard_ret c1 _ _).trans ?_
  refine (seq_nx (set_nx s7)).trans ?_
  refine (guard_ret c2 _ _).trans ?_
  refine (seq_nx (set_nx (ok_of s8 p3))).trans ?_
  refine (guard_ret c3 _ _).trans ?_
  refine (guard_ret c4 _ _).trans ?_
  refine (seq_nx (set_nx s9)).trans ?_
  refine (seq_nx hif).trans ?_
  refine (seq_nx (set_nx s10)).trans ?_
  refine (seq_nx hif2).trans ?_
  rfl
theorem lawPlain : ∀ ns : List Int, ns.length ≤ 63 → ∃ p', s_law (padN 12 []) (potOf ns) = .ret (.bl true) p' := by
  intro ns hns
  have hit : itR1 (dC (.int 7)) (padN 12 []) = retM ((List.range 7).map fun (k : Nat) => D.int (k : Int)) := itR1_nat (n := 7) rfl (by decide)
  obtain ⟨p', h1, h2⟩ := for_const (tg := .nm 2) (ρ := padN 12 []) (xs := (List.range 7).map fun (k : Nat) => D.int (k : Int)) (body := b_law_1) (fun x hx p hp => by
    obtain ⟨p', e, hp'⟩ := turn_ok x p hp
    exact ⟨_, p', rfl, e, hp'⟩) (potOf ns) (good_potOf hns)
  refine ⟨p', ?_⟩
  refine (seq_nx (ρ1 := padN 12 []) (p1 := p') ?_).trans ?_
  · exact (seq_nx ((for_nx (congrFun hit _)).trans h1)).trans rfl
  exact seq_ret (ret_at (ok_of (d := .bl true) rfl p'))
end DL.K07
namespace DL.K07
set_option autoImplicit false
open PySem PySem.Spec L2 PyProof.Rows DL
theorem lawAtH {w : World} {K : PySem.W.Frag} {h : Heap} {mg : Str → Option Value} {fa : Addr} (X : K.In h) (G : h.Ns mainGlobals mg) (hfa : mg ("law" : Str) = some (.ref fa)) (c : He.SaysX faH fnH [] tfH exH w h K) :
    LamX.LawAtS PySem.Challenge.rw_drystones_k07_stones_that_fall w K (L2.CX (PySem.Challenge.rw_drystones_k07_stones_that_fall).prog w) 16 63 "script" mg fa h := by
  have cd := c.t.d
  obtain ⟨fd, FD⟩ := cd.def_ 30 (d := dH30) rfl
  have e := hfa.symm.trans (He.glo_ok X G (cd.fact 30 (f := .glo "law") rfl))
  injection e with e
  injection e with e
  subst e
  have b := FunD.bindsA (ps := ["script"]) FD fun _ _ _ _ _ _ us hl => match us, hl with | [_], _ => rfl
  obtain ⟨oc, od, dV, kV, doc, pm, aN, cdv, ct, osl, rfl, lk, hcd, _, _⟩ := FD.ex
  obtain ⟨cc, rfl⟩ := He.codeIn_ref hcd
  have ecc : He.codeOf K ("law", none) = cc := He.codeOf_eq (p := ("law", none)) lk rfl
  have hp : (("law", none) : He.Defn) ∈ tfH := List.mem_cons_self
  refine ⟨_, [He.cT K ("law", none)], spLaw K [((He.cT K ("law", none)).2, qLam)], fun p hq => ?_, fun p hq => ?_, fun p hq => ?_, fun s u => b s [u] rfl, fun H a ns hl _ hT hS => ?_, fun base hK hN hTB => ?_⟩
  · rw [List.mem_singleton.mp hq]; exact c.empty _ hp
  · rw [List.mem_singleton.mp hq]; exact c.out _ hp
  · rw [List.mem_singleton.mp hq]; exact PySem.W.codeHd_of_K X (c.hd _ hp)
  · refine ⟨a, ns, rfl, hS, hl, fun p hq => ?_, fun _ => rfl⟩
    rw [List.mem_singleton.mp hq]
    exact LamX.TabS.nil (hT _ (List.mem_singleton.mpr rfl))
  · have TB := hTB _ (List.mem_singleton.mpr rfl)
    have ec : (He.cT K ("law", none)).1 = cc := ecc
    rw [ec] at TB
    exact ok_law (fxH X G c) TB lk hcd lawPlain
end DL.K07
open PySem PySem.W PySem.Calls PyProof.Rows
theorem PySem.Challenge.cw_drystones_k07_stones_that_fall_holds : PySem.Challenge.rw_drystones_k07_stones_that_fall.Holds := by
  w_on; o_law
  refine HandSHeadRun.head_any (r := OpenLaw.row PySem.Challenge.rw_drystones_k07_stones_that_fall) (q := DL.K07.qH) (H := DL.K07.hkH) (ob := DL.K07.obH) (M := 4000) (loose := DL.K07.loH) (d := HandSHeadRun.topDef (OpenLaw.row PySem.Challenge.rw_drystones_k07_stones_that_fall).prog 40) (kwd := []) DL.K07.ob_eqH
    (by kernel_rfl) (fun s => by kernel_rfl) DL.K07.runH (by kernel_rfl) (by kernel_rfl) (by kernel_rfl) (by rfl) (by first | assumption | decide +kernel) (by decide +kernel) ⟨rfl, rfl, rfl, rfl, rfl, by decide +kernel⟩ ?hw ?hc
  case hw => w_witness2
  case hc =>
    refine LamX.walk_ofTsE (l := PySem.Challenge.rw_drystones_k07_stones_that_fall) (n := 63) (k := 16) (x := "script") (CX := fun w => L2.CX (PySem.Challenge.rw_drystones_k07_stones_that_fall).prog w) rfl (by decide) (by kernel_rfl) ⟨rfl, by decide, by decide⟩ ?F (fun w H s e s' h => by obtain ⟨_, _, _, _, _, _, _, _, _, _, _, _, z⟩ := h; exact z)
    intro w mg fa h Y G hmg0
    obtain ⟨K, KX, c⟩ := Y
    have hmg : mg ("law" : PySem.Str) = some (.ref fa) := by
      have e : (HandSHeadRun.topDef (OpenLaw.row PySem.Challenge.rw_drystones_k07_stones_that_fall).prog 40).name = ("law" : PySem.Str) := by kernel_rfl
      rw [← e]
      exact hmg0
    exact ⟨K, KX, DL.K07.lawAtH KX G hmg c⟩

