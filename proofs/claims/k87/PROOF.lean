import PyProof.Rows.All
import PySem.Str
import HandS.ForMost
import HandS.ForExc
import HandS.Zip
import HandS.IsInst
import HandS.TryMany
import HandS.TupLe
import HandS.SortRule
import HandS.TupMul
import HandS.TupAny
import KE.DataEq
import KE.SortData
import KE.DataMinMax
import KE.DataIsa
import HandS.CallSlots
import HandS.Comp
import HandS.Style
import KE.GoesEnum
import HandS.Conv
import HandS.SetFor
import HandS.TupSets
import HandS.Strs
import HandS.WordsExc
import Wide.All
import OpenK.AllK
import Wide.FinOn
import PySem.Challenge.RW_boardwright_k87_whole_poses
set_option Elab.async false
section
set_option autoImplicit false
/-! Bw A: values as trees, the core language, its meaning. No program, no model but texts (Str). -/
namespace Bw
open PySem

/-- data: what has no identity -/
inductive PV where
  | non | bl (b : Bool) | int (i : Int) | str (s : Str)
  | tup (xs : List PV) | lst (xs : List PV)
  deriving Inhabited

/-- a value: data, a dict of data, an instance -/
inductive SV where
  | d (p : PV)
  | dic (kvs : List (PV × PV))
  | ins (c : Nat) (fs : List SV)
  /-- the law's script -/
  | scr (ns : List Int)
  deriving Inhabited

inductive Res (α : Type) where
  | ok (a : α) | exc (c : Nat) | bad
  deriving Inhabited
namespace Res
variable {α β : Type}
def bind : Res α → (α → Res β) → Res β
  | ok a, f => f a
  | exc c, _ => exc c
  | bad, _ => bad
@[simp] theorem bind_ok (a : α) (f : α → Res β) : (ok a).bind f = f a := rfl
@[simp] theorem bind_exc (c : Nat) (f : α → Res β) : (exc c).bind f = exc c := rfl
@[simp] theorem bind_bad (f : α → Res β) : (bad : Res α).bind f = bad := rfl
/-- no exception may leave here -/
def tame : Res α → Res α
  | exc _ => bad
  | r => r
@[simp] theorem tame_ok (a : α) : (ok a).tame = ok a := rfl
@[simp] theorem tame_exc (c : Nat) : (exc c : Res α).tame = bad := rfl
@[simp] theorem tame_bad : (bad : Res α).tame = bad := rfl
end Res

/-! ### == and < -/
def b2i (b : Bool) : Int := if b then 1 else 0
mutual
def pyEq : PV → PV → Bool
  | .non, .non => true
  | .bl a, .bl b => a == b
  | .bl a, .int j => decide (b2i a = j)
  | .int i, .bl b => decide (i = b2i b)
  | .int i, .int j => decide (i = j)
  | .str a, .str b => decide (a = b)
  | .tup xs, .tup ys => pyEqL xs ys
  | .lst xs, .lst ys => pyEqL xs ys
  | _, _ => false
def pyEqL : List PV → List PV → Bool
  | [], [] => true
  | x :: xs, y :: ys => pyEq x y && pyEqL xs ys
  | _, _ => false
end
/-- the number that stands for it among numbers -/
def numOf : PV → Option Int
  | .bl b => some (b2i b)
  | .int i => some i
  | _ => none
mutual
/-- can be compared by < -/
def cmpb : PV → PV → Bool
  | .int _, .int _ => true
  | .str _, .str _ => true
  | .tup xs, .tup ys => cmpbL xs ys
  | _, _ => false
def cmpbL : List PV → List PV → Bool
  | x :: xs, y :: ys => (pyEq x y || cmpb x y) && cmpbL xs ys
  | _, _ => true
end
mutual
def ltT : PV → PV → Bool
  | .int i, .int j => decide (i < j)
  | .str a, .str b => decide (a.cps.toList < b.cps.toList)
  | .bl a, .bl b => decide (b2i a < b2i b)
  | .tup xs, .tup ys => ltTL xs ys
  | .lst xs, .lst ys => ltTL xs ys
  | _, _ => false
def ltTL : List PV → List PV → Bool
  | _, [] => false
  | [], _ :: _ => true
  | x :: xs, y :: ys => if pyEq x y then ltTL xs ys else ltT x y
end
mutual
/-- of one kind, place by place -/
def alk : PV → PV → Bool
  | .non, .non => true
  | .bl _, .bl _ => true
  | .int _, .int _ => true
  | .str _, .str _ => true
  | .tup xs, .tup ys => alkL xs ys
  | .lst xs, .lst ys => alkL xs ys
  | _, _ => false
def alkL : List PV → List PV → Bool
  | x :: xs, y :: ys => alk x y && alkL xs ys
  | _, _ => true
end
def isNon : PV → Bool
  | .non => true
  | _ => false
def isTup : PV → Bool
  | .tup _ => true
  | _ => false
def isTup1 : PV → Bool
  | .tup (_ :: _) => true
  | _ => false
def line : Nat := 16777216
mutual
/-- nested n deep at most -/
def shal : Nat → PV → Bool
  | 0, .tup _ => false
  | 0, .lst _ => false
  | n + 1, .tup xs => shalL n xs
  | n + 1, .lst xs => shalL n xs
  | _, _ => true
def shalL : Nat → List PV → Bool
  | _, [] => true
  | n, x :: xs => shal n x && shalL n xs
end
def sha (p : PV) : Bool := shal 60 p

/-! ### the core language -/
inductive BOp where | add | sub | mul | fdiv | mod | pow | shl | shr | band
  deriving DecidableEq
inductive COp where | eq | ne | lt | le | gt | ge | isin | notin | is | isnot
  deriving DecidableEq
inductive Ty where | int | bool | str | tuple | list | dict
  deriving DecidableEq
/-- built-in functions of one argument -/
inductive F1 where | len | abs | int | sum | min | max | all | any | sorted | tuple | list | sortedset | lenset
  deriving DecidableEq
inductive F2 where | min | max | index
  deriving DecidableEq
inductive CT where
  | name (i : Nat) | tup (ts : List CT)
  deriving Inhabited
mutual
inductive CE where
  | int (i : Int) | str (s : Str) | bl (b : Bool) | non
  | var (i : Nat) | own (i : Nat) | glob (k : Nat)
  /-- the value is no object -/
  | flat (e : CE)
  | tup (es : List CE) | lst (es : List CE)
  | bin (op : BOp) (a b : CE) | neg (a : CE) | not (a : CE)
  | and (a b : CE) | or (a b : CE)
  | cmp (op : COp) (a b : CE) | chain (op op' : COp) (a b c : CE)
  | ife (c a b : CE)
  | idx (a i : CE) | sl (a : CE) (lo hi : Option CE) | rev (a : CE)
  | call (k : Nat) (es : List CE)
  | f1 (f : F1) (a : CE) | f2 (f : F2) (a b : CE)
  | isa (a : CE) (t : Ty)
  | lc (t : CT) (it : CI) (cs : List CE) (e : CE)
  | lc2 (t : CT) (it : CI) (cs : List CE) (t' : CT) (it' : CI) (cs' : List CE) (e : CE)
  /-- a tuple, or a list, of what a source gives -/
  | col (b : Bool) (it : CI)
  /-- len(set(a)), or sorted(set(a)) -/
  | dst (b : Bool) (a : CE)
inductive CI where
  | seq (e : CE) | rng1 (n : CE) | rng2 (lo hi : CE) | rng3 (lo hi : CE) (st : Int)
  | enum (e : CE) | zip (a b : CE) | enumzip (a b : CE)
end
instance : Inhabited CE := ⟨.non⟩
/-- what an except clause does -/
inductive HB where
  | retc (e : CE) | cont | risa (k : Nat) | rife (k : Nat) (a b : CE)
inductive CS where
  | expr (e : CE) | set (t : CT) (e : CE) | par (is : List Nat) (es : List CE)
  | own (i : Nat) (e : CE) | frz (i : Nat)
  /-- names from a display, some of them to be own -/
  | parO (is : List Nat) (os : List Bool) (es : List CE)
  | aug (i : Nat) (op : BOp) (e : CE)
  | app (i : Nat) (e : CE) | ext (i : Nat) (e : CE)
  | ife (c : CE) (a b : List CS)
  | for (t : CT) (it : CI) (body : List CS)
  | while (c : CE) (body : List CS)
  | ret (e : CE) | retN | brk | cont | pass
  | raise (k : Nat) | never
  | try (body : List CS) (hs : List (Nat × HB))
instance : Inhabited CS := ⟨.pass⟩

/-! ### the state, built-in operations -/
inductive Bx where
  | no | sh (s : SV) | ow (s : SV)
  deriving Inhabited
abbrev Gm := List Bx
structure Ctx where
  fns : List (List SV → Res SV)
  cons : List SV
  /-- the class c is the class k or below it -/
  sub : Nat → Nat → Option Bool

def chk (xs : List PV) : Res (List PV) := if xs.length ≤ line then .ok xs else .bad
def rep (n : Nat) (xs : List PV) : List PV := (List.replicate n xs).flatten
def binop : BOp → SV → SV → Res SV
  | .add, .d (.int i), .d (.int j) => .ok (.d (.int (i + j)))
  | .add, .d (.tup xs), .d (.tup ys) => (chk (xs ++ ys)).bind fun zs => .ok (.d (.tup zs))
  | .add, .d (.lst xs), .d (.lst ys) => (chk (xs ++ ys)).bind fun zs => .ok (.d (.lst zs))
  | .add, .d (.str a), .d (.str b) => if a.length + b.length ≤ line then .ok (.d (.str (a ++ b))) else .bad
  | .sub, .d (.int i), .d (.int j) => .ok (.d (.int (i - j)))
  | .mul, .d (.int i), .d (.int j) => if i.natAbs < 2 ^ 64 ∨ j.natAbs < 2 ^ 64 then .ok (.d (.int (i * j))) else .bad
  | .mul, .d (.lst xs), .d (.int n) => if n.natAbs < 2 ^ 62 ∧ xs.length * n.toNat ≤ line then .ok (.d (.lst (rep n.toNat xs))) else .bad
  | .mul, .d (.tup xs), .d (.int n) => if 1 ≤ n ∧ n ≤ 1000 ∧ xs.length ≤ 1000 ∧ xs.length ≠ 0 then .ok (.d (.tup (rep n.toNat xs))) else .bad
  | .fdiv, .d (.int i), .d (.int j) => if 0 < j ∧ j.natAbs < 1073741824 then .ok (.d (.int (i / j))) else .bad
  | .mod, .d (.int i), .d (.int j) => if 0 < j then .ok (.d (.int (i % j))) else .bad
  | .pow, .d (.int i), .d (.int j) => if 0 ≤ j ∧ j.natAbs ≤ 1000000 ∧ i.natAbs < 2 ^ 64 then .ok (.d (.int (i ^ j.toNat))) else .bad
  | .shl, .d (.int i), .d (.int j) => if 0 ≤ j ∧ j.natAbs ≤ 1000000 ∧ i.natAbs < 2 ^ 64 then .ok (.d (.int (i * 2 ^ j.toNat))) else .bad
  | .shr, .d (.int i), .d (.int j) => if 0 ≤ j then .ok (.d (.int (i / 2 ^ j.toNat))) else .bad
  | _, _, _ => .bad
def isInt? : SV → Res Int
  | .d (.int i) => .ok i
  | _ => .bad
def isBl? : SV → Res Bool
  | .d (.bl b) => .ok b
  | _ => .bad
def data? : SV → Res PV
  | .d p => .ok p
  | _ => .bad
def seq? : SV → Res (List PV)
  | .d (.tup xs) => .ok xs
  | .d (.lst xs) => .ok xs
  | _ => .bad
def cmpop : COp → SV → SV → Res Bool
  | .eq, .d p, .d q => if sha p || sha q then .ok (pyEq p q) else .bad
  | .ne, .d p, .d q => if sha p || sha q then .ok (!pyEq p q) else .bad
  | .lt, .d p, .d q => if cmpb p q && (sha p || sha q) then .ok (ltT p q) else .bad
  | .gt, .d p, .d q => if cmpb q p && (sha p || sha q) then .ok (ltT q p) else .bad
  | .le, .d p, .d q => if cmpb p q && (sha p || sha q) then .ok (!ltT q p) else .bad
  | .ge, .d p, .d q => if cmpb p q && (sha p || sha q) then .ok (!ltT p q) else .bad
  | .isin, .d p, .d (.tup ys) => if sha p then .ok (ys.any fun y => pyEq y p) else .bad
  | .isin, .d p, .d (.lst ys) => if sha p then .ok (ys.any fun y => pyEq y p) else .bad
  | .notin, .d p, .d (.tup ys) => if sha p then .ok (!ys.any fun y => pyEq y p) else .bad
  | .notin, .d p, .d (.lst ys) => if sha p then .ok (!ys.any fun y => pyEq y p) else .bad
  | .is, .d p, .d .non => .ok (isNon p)
  | .isnot, .d p, .d .non => .ok (!isNon p)
  | .is, .d (.bl a), .d (.bl b) => .ok (a == b)
  | .isnot, .d (.bl a), .d (.bl b) => .ok (!(a == b))
  | _, _, _ => .bad
def mapR {α β : Type} (f : α → Res (Option β)) : List α → Res (List β)
  | [] => .ok []
  | x :: xs => (f x).tame.bind fun y => (mapR f xs).bind fun ys => .ok (match y with | some z => z :: ys | none => ys)
/-- lists, one behind the other -/
def catR {α β : Type} (f : α → Res (List β)) : List α → Res (List β)
  | [] => .ok []
  | x :: xs => (f x).tame.bind fun ys => (catR f xs).bind fun zs => .ok (ys ++ zs)
def wipeG (Γ : Gm) : List Nat → Gm
  | [] => Γ
  | v :: vs => (wipeG Γ vs).set v .no
def datas? : List SV → Res (List PV)
  | [] => .ok []
  | s :: ss => (data? s).bind fun p => (datas? ss).bind fun ps => .ok (p :: ps)
mutual
def bindT : CT → PV → Gm → Option Gm
  | .name i, p, Γ => some (Γ.set i (.sh (.d p)))
  | .tup ts, .tup ps, Γ => bindTs ts ps Γ
  | _, _, _ => none
def bindTs : List CT → List PV → Gm → Option Gm
  | [], [], Γ => some Γ
  | t :: ts, p :: ps, Γ => (bindT t p Γ).bind fun Γ' => bindTs ts ps Γ'
  | _, _, _ => none
end
mutual
def CT.vars : CT → List Nat
  | .name i => [i]
  | .tup ts => CT.varsL ts
def CT.varsL : List CT → List Nat
  | [] => []
  | t :: ts => t.vars ++ CT.varsL ts
end
def ints? : List PV → Res (List Int)
  | [] => .ok []
  | .int i :: ps => (ints? ps).bind fun is => .ok (i :: is)
  | _ :: _ => .bad
def bools? : List PV → Res (List Bool)
  | [] => .ok []
  | .bl b :: ps => (bools? ps).bind fun bs => .ok (b :: bs)
  | _ :: _ => .bad
def minP (m : PV) (ps : List PV) : PV := ps.foldl (fun a y => if ltT y a then y else a) m
def maxP (m : PV) (ps : List PV) : PV := ps.foldl (fun a y => if ltT a y then y else a) m
/-- all of one kind, none of them None, none too deep -/
def allAlk (ps : List PV) : Bool := (ps.all fun x => ps.all fun y => alk x y) && (ps.all fun x => !isNon x && sha x)
/-- all are tuples with an item, or none is a tuple -/
def sortable (ps : List PV) : Bool := allAlk ps && ((ps.all fun x => isTup1 x) || (ps.all fun x => !isTup x))
def sortP (ps : List PV) : List PV := ps.mergeSort fun x y => !ltT y x
/-- pairs of small whole numbers, by one number each -/
def code1 : PV → Option Int
  | .tup [.int x, .int y] => if 0 ≤ x ∧ x < 64 ∧ 0 ≤ y ∧ y < 64 then some (x * 64 + y) else none
  | _ => none
def codes? : List PV → Option (List Int)
  | [] => some []
  | p :: ps => (code1 p).bind fun c => (codes? ps).bind fun cs => some (c :: cs)
def deco (c : Int) : PV := .tup [.int (c / 64), .int (c % 64)]
def tupHd : List PV → Bool
  | .tup _ :: _ => true
  | _ => false
def isLs : SV → Bool
  | .d (.lst _) => true
  | _ => false
def insI (i : Int) : List Int → List Int
  | [] => [i]
  | x :: xs => if i < x then i :: x :: xs else if i = x then x :: xs else x :: insI i xs
/-- whole numbers in order, each once -/
def sortI : List Int → List Int
  | [] => []
  | i :: is => insI i (sortI is)
theorem mem_insI {k i : Int} : ∀ {l : List Int}, k ∈ insI i l ↔ k = i ∨ k ∈ l
  | [] => by simp [insI]
  | x :: xs => by
    have ih := @mem_insI k i xs
    unfold insI
    split
    · simp
    · split
      · rename_i h; subst h; simp
      · simp only [List.mem_cons, ih]; constructor <;> (intro h; rcases h with h | h | h <;> simp [h])
theorem mem_sortI {k : Int} : ∀ {l : List Int}, k ∈ sortI l ↔ k ∈ l
  | [] => by simp [sortI]
  | x :: xs => by rw [sortI, mem_insI, @mem_sortI k xs, List.mem_cons]
theorem insI_pw {i : Int} : ∀ {l : List Int}, l.Pairwise (· < ·) → (insI i l).Pairwise (· < ·)
  | [], _ => by simp [insI]
  | x :: xs, h => by
    have ih := @insI_pw i xs (List.pairwise_cons.mp h).2
    have hx := (List.pairwise_cons.mp h).1
    unfold insI
    split
    · rename_i q
      refine List.pairwise_cons.mpr ⟨fun y hy => ?_, h⟩
      rcases List.mem_cons.mp hy with rfl | hy
      · exact q
      · have := hx y hy; omega
    · split
      · exact h
      · refine List.pairwise_cons.mpr ⟨fun y hy => ?_, ih⟩
        rcases mem_insI.mp hy with rfl | hy
        · omega
        · exact hx y hy
theorem sortI_pw : ∀ {l : List Int}, (sortI l).Pairwise (· < ·)
  | [] => by simp [sortI]
  | x :: xs => insI_pw (@sortI_pw xs)
/-- two such lists with the same numbers are one -/
theorem pw_same : ∀ {l m : List Int}, l.Pairwise (· < ·) → m.Pairwise (· < ·) → (∀ k, k ∈ l ↔ k ∈ m) → l = m
  | [], [], _, _, _ => rfl
  | [], y :: ys, _, _, e => by have := (e y).mpr (by simp); simp at this
  | x :: xs, [], _, _, e => by have := (e x).mp (by simp); simp at this
  | x :: xs, y :: ys, h, g, e => by
    have hx := (List.pairwise_cons.mp h).1
    have gy := (List.pairwise_cons.mp g).1
    have exy : x = y := by
      have a := (e x).mp (by simp)
      have b := (e y).mpr (by simp)
      rcases List.mem_cons.mp a with a | a
      · exact a
      rcases List.mem_cons.mp b with b | b
      · exact b.symm
      have := gy x a
      have := hx y b
      omega
    subst exy
    have : xs = ys := pw_same (List.pairwise_cons.mp h).2 (List.pairwise_cons.mp g).2 fun k => by
      have ek := e k
      constructor
      · intro hk
        rcases List.mem_cons.mp (ek.mp (List.mem_cons_of_mem _ hk)) with q | q
        · have := hx k hk; omega
        · exact q
      · intro hk
        rcases List.mem_cons.mp (ek.mpr (List.mem_cons_of_mem _ hk)) with q | q
        · have := gy k hk; omega
        · exact q
    rw [this]
def dedupP : List PV → List PV
  | [] => []
  | p :: ps => if ps.any (fun q => pyEq q p) then dedupP ps else p :: dedupP ps
def f1op : F1 → SV → Res SV
  | .len, .d (.tup xs) => .ok (.d (.int xs.length))
  | .len, .d (.lst xs) => .ok (.d (.int xs.length))
  | .len, .d (.str s) => .ok (.d (.int s.length))
  | .abs, .d (.int i) => .ok (.d (.int (if i < 0 then -i else i)))
  | .int, .d (.int i) => .ok (.d (.int i))
  | .int, .d (.bl b) => .ok (.d (.int (if b then 1 else 0)))
  | .sum, .d (.lst ps) => (ints? ps).bind fun is => .ok (.d (.int is.sum))
  | .min, x => (seq? x).bind fun ps => match ps with
    | [] => .bad
    | p :: ps => if allAlk (p :: ps) then .ok (.d (minP p ps)) else .bad
  | .max, x => (seq? x).bind fun ps => match ps with
    | [] => .bad
    | p :: ps => if allAlk (p :: ps) then .ok (.d (maxP p ps)) else .bad
  | .all, .d (.lst ps) => (bools? ps).bind fun bs => .ok (.d (.bl (bs.all id)))
  | .any, .d (.lst ps) => (bools? ps).bind fun bs => .ok (.d (.bl (bs.any id)))
  | .sorted, x => (seq? x).bind fun ps => if sortable ps then .ok (.d (.lst (sortP ps))) else .bad
  | .tuple, x => (seq? x).bind fun ps => .ok (.d (.tup ps))
  | .list, x => (seq? x).bind fun ps => .ok (.d (.lst ps))
  | .sortedset, x => (seq? x).bind fun ps => if (tupHd ps && isLs x) = true then (match codes? ps with
      | some cs => if cs.length < 64 then .ok (.d (.lst ((sortI cs).map deco))) else .bad
      | none => .bad)
    else (ints? ps).bind fun is => if is.length < 64 then .ok (.d (.lst ((sortI is).map PV.int))) else .bad
  | .lenset, x => (seq? x).bind fun ps => (ints? ps).bind fun is => if is.length < 64 then .ok (.d (.int (sortI is).length)) else .bad
  | _, _ => .bad
def indexP (k : Nat) (p : PV) : List PV → Res SV
  | [] => .bad
  | q :: qs => if pyEq q p then .ok (.d (.int k)) else indexP (k + 1) p qs
def f2op : F2 → SV → SV → Res SV
  | .min, .d (.int x), .d (.int y) => .ok (.d (.int (if y < x then y else x)))
  | .max, .d (.int x), .d (.int y) => .ok (.d (.int (if y > x then y else x)))
  | _, _, _ => .bad
def isaP : PV → Ty → Bool
  | .bl _, .bool => true
  | .bl _, .int => true
  | .int _, .int => true
  | .str _, .str => true
  | .tup _, .tuple => true
  | .lst _, .list => true
  | _, _ => false
def isaop : SV → Ty → Res Bool
  | .d p, t => .ok (isaP p t)
  | _, _ => .bad
/-- a place from the front, or from the end -/
def ixP (n : Nat) (i : Int) : Option Nat := if 0 ≤ i then (if i < n then some i.toNat else none) else if -(n : Int) ≤ i then some (i + n).toNat else none
def atP {α : Type} (xs : List α) (i : Int) : Option α := (ixP xs.length i).bind fun j => xs[j]?
def idxop : SV → SV → Res SV
  | .d (.tup xs), .d (.int i) => match atP xs i with
    | some p => .ok (.d p)
    | none => .bad
  | .d (.lst xs), .d (.int i) => match atP xs i with
    | some p => .ok (.d p)
    | none => .bad
  | .d (.str s), .d (.int i) => match atP s.cps.toList i with
    | some c => .ok (.d (.str ⟨#[c]⟩))
    | none => .bad
  | _, _ => .bad
/-- a slice's end -/
def sxP (n d : Nat) : Option Int → Nat
  | none => d
  | some i => if 0 ≤ i then min i.toNat n else (i + n).toNat
def cutP {α : Type} (xs : List α) (lo hi : Option Int) : List α := (xs.drop (sxP xs.length 0 lo)).take (sxP xs.length xs.length hi - sxP xs.length 0 lo)
def slop : SV → Option Int → Option Int → Res SV
  | .d (.tup xs), lo, hi => .ok (.d (.tup (cutP xs lo hi)))
  | .d (.lst xs), lo, hi => .ok (.d (.lst (cutP xs lo hi)))
  | .scr ns, lo, hi => .ok (.d (.lst (cutP (ns.map PV.int) lo hi)))
  | _, _, _ => .bad
def revop : SV → Res SV
  | .d (.lst xs) => .ok (.d (.lst xs.reverse))
  | .d (.tup xs) => .ok (.d (.tup xs.reverse))
  | _ => .bad
def enumP (k : Int) : List PV → List PV
  | [] => []
  | x :: xs => .tup [.int k, x] :: enumP (k + 1) xs
def zipP : List PV → List PV → List PV
  | x :: xs, y :: ys => .tup [x, y] :: zipP xs ys
  | _, _ => []
/-- two sequences of one kind -/
def seqs? : SV → SV → Res (List PV × List PV)
  | .d (.tup xs), .d (.tup ys) => .ok (xs, ys)
  | .d (.lst xs), .d (.lst ys) => .ok (xs, ys)
  | _, _ => .bad
def rangeP (lo st : Int) : Nat → List PV
  | 0 => []
  | n + 1 => .int lo :: rangeP (lo + st) st n
theorem rangeP_get (lo st : Int) : ∀ (n i : Nat), (rangeP lo st n)[i]? = if i < n then some (PV.int (lo + i * st)) else none
  | 0, i => by simp [rangeP]
  | n + 1, 0 => by simp [rangeP]
  | n + 1, i + 1 => by
    rw [rangeP, List.getElem?_cons_succ, rangeP_get (lo + st) st n i]
    by_cases h : i < n
    · rw [if_pos h, if_pos (by omega)]
      congr 2
      rw [show ((i + 1 : Nat) : Int) = (i : Int) + 1 by omega, Int.add_mul, Int.one_mul]
      omega
    · rw [if_neg h, if_neg (by omega)]
theorem enumP_get : ∀ (ps : List PV) (k : Int) (i : Nat), (enumP k ps)[i]? = (ps[i]?).map fun p => PV.tup [.int (k + i), p]
  | [], _, i => by simp [enumP]
  | p :: ps, k, 0 => by simp [enumP]
  | p :: ps, k, i + 1 => by
    rw [enumP, List.getElem?_cons_succ, List.getElem?_cons_succ, enumP_get ps (k + 1) i, show ((i + 1 : Nat) : Int) = (i : Int) + 1 by omega, show k + ((i : Int) + 1) = k + 1 + i by omega]
theorem zipP_get : ∀ (ps qs : List PV) (i : Nat), (zipP ps qs)[i]? = (ps[i]?).bind fun p => (qs[i]?).map fun q => PV.tup [p, q]
  | [], _, i => by simp [zipP]
  | p :: ps, [], i => by cases h : (p :: ps)[i]? <;> simp [zipP]
  | p :: ps, q :: qs, 0 => by simp [zipP]
  | p :: ps, q :: qs, i + 1 => by rw [zipP, List.getElem?_cons_succ, List.getElem?_cons_succ, List.getElem?_cons_succ, zipP_get ps qs i]
theorem rangeP_len (lo st : Int) : ∀ n, (rangeP lo st n).length = n
  | 0 => rfl
  | n + 1 => by rw [rangeP, List.length_cons, rangeP_len]
theorem enumP_len : ∀ (k : Int) (ps : List PV), (enumP k ps).length = ps.length
  | _, [] => rfl
  | k, p :: ps => by rw [enumP, List.length_cons, List.length_cons, enumP_len]
theorem zipP_len : ∀ (ps qs : List PV), (zipP ps qs).length ≤ ps.length
  | [], _ => by simp [zipP]
  | p :: ps, [] => by simp [zipP]
  | p :: ps, q :: qs => by rw [zipP, List.length_cons, List.length_cons]; exact Nat.succ_le_succ (zipP_len ps qs)
/-- how many turns a range has -/
def rangeN (lo hi st : Int) : Nat := if 0 < st then ((hi - lo + st - 1) / st).toNat else if st < 0 then ((lo - hi - st - 1) / (-st)).toNat else 0
def big (i : Int) : Bool := decide (i.natAbs < 2 ^ 62)
def rng? (lo hi st : Int) : Res (List PV) := if big lo && big hi && decide (st.natAbs < 1073741824) && decide (st ≠ 0) && decide (rangeN lo hi st ≤ line) then .ok (rangeP lo st (rangeN lo hi st)) else .bad

def flat? : SV → Res SV
  | .d .non => .ok (.d .non)
  | .d (.bl b) => .ok (.d (.bl b))
  | .d (.int i) => .ok (.d (.int i))
  | .d (.str s) => .ok (.d (.str s))
  | _ => .bad
def rdSh : Option Bx → Res SV
  | some (.sh s) => .ok s
  | _ => .bad
def rdOw : Option Bx → Res SV
  | some (.ow s) => .ok s
  | _ => .bad
def rdG : Option SV → Res SV
  | some s => .ok s
  | none => .bad
def callF : Option (List SV → Res SV) → List SV → Res SV
  | some f, ss => f ss
  | none, _ => .bad
def obind {α : Type} : Option Gm → (Gm → Res α) → Res α
  | none, _ => .bad
  | some Γ, k => k Γ
@[simp] theorem rdSh_sh (s : SV) : rdSh (some (.sh s)) = .ok s := rfl
@[simp] theorem rdOw_ow (s : SV) : rdOw (some (.ow s)) = .ok s := rfl
@[simp] theorem rdG_some (s : SV) : rdG (some s) = .ok s := rfl
@[simp] theorem callF_some (f : List SV → Res SV) (ss : List SV) : callF (some f) ss = f ss := rfl
@[simp] theorem obind_some {α : Type} (Γ : Gm) (k : Gm → Res α) : obind (some Γ) k = k Γ := rfl
/-! ### expressions -/
mutual
def ev (G : Ctx) : CE → Gm → Res SV
  | .int i, _ => .ok (.d (.int i))
  | .str s, _ => .ok (.d (.str s))
  | .bl b, _ => .ok (.d (.bl b))
  | .non, _ => .ok (.d .non)
  | .var i, Γ => rdSh Γ[i]?
  | .own i, Γ => rdOw Γ[i]?
  | .glob k, _ => rdG G.cons[k]?
  | .flat e, Γ => (ev G e Γ).bind flat?
  | .tup es, Γ => (evL G es Γ).bind fun ss => (datas? ss).bind fun ps => .ok (.d (.tup ps))
  | .lst es, Γ => (evL G es Γ).bind fun ss => (datas? ss).bind fun ps => .ok (.d (.lst ps))
  | .bin op a b, Γ => (ev G a Γ).bind fun x => (ev G b Γ).bind fun y => binop op x y
  | .neg a, Γ => (ev G a Γ).bind fun x => (isInt? x).bind fun i => .ok (.d (.int (-i)))
  | .not a, Γ => (ev G a Γ).bind fun x => (isBl? x).bind fun b => .ok (.d (.bl (!b)))
  | .and a b, Γ => (ev G a Γ).bind fun x => (isBl? x).bind fun c => if c then ev G b Γ else .ok (.d (.bl false))
  | .or a b, Γ => (ev G a Γ).bind fun x => (isBl? x).bind fun c => if c then .ok (.d (.bl true)) else ev G b Γ
  | .cmp op a b, Γ => (ev G a Γ).bind fun x => (ev G b Γ).bind fun y => (cmpop op x y).bind fun c => .ok (.d (.bl c))
  | .chain op op' a b c, Γ => (ev G a Γ).bind fun x => (ev G b Γ).bind fun y => (cmpop op x y).bind fun r =>
      if r then (ev G c Γ).bind fun z => (cmpop op' y z).bind fun r' => .ok (.d (.bl r')) else .ok (.d (.bl false))
  | .ife c a b, Γ => (ev G c Γ).bind fun x => (isBl? x).bind fun r => if r then ev G a Γ else ev G b Γ
  | .idx a i, Γ => (ev G a Γ).bind fun x => (ev G i Γ).bind fun y => idxop x y
  | .sl a lo hi, Γ => (ev G a Γ).bind fun x => (evO G lo Γ).bind fun l => (evO G hi Γ).bind fun h => slop x l h
  | .rev a, Γ => (ev G a Γ).bind fun x => revop x
  | .call k es, Γ => (evL G es Γ).bind fun ss => callF G.fns[k]? ss
  | .f1 f a, Γ => (ev G a Γ).bind fun x => f1op f x
  | .f2 f a b, Γ => (ev G a Γ).bind fun x => (ev G b Γ).bind fun y => f2op f x y
  | .isa a t, Γ => (ev G a Γ).bind fun x => (isaop x t).bind fun b => .ok (.d (.bl b))
  | .lc t it cs e, Γ => (evI G it Γ).bind fun xs =>
      (mapR (fun x => obind (bindT t x Γ) fun Γ' => (evC G cs Γ').bind fun c => if c then (ev G e Γ').bind fun y => (data? y).bind fun p => .ok (some p) else .ok none) xs).bind fun ys => .ok (.d (.lst ys))
  | .lc2 t it cs t' it' cs' e, Γ => (evI G it Γ).bind fun xs =>
      (catR (fun x => obind (bindT t x (wipeG Γ (t.vars ++ t'.vars))) fun Γ1 => (evC G cs Γ1).bind fun c => if c then (evI G it' Γ1).bind fun ys => mapR (fun y => obind (bindT t' y Γ1) fun Γ' => (evC G cs' Γ').bind fun c => if c then (ev G e Γ').bind fun y => (data? y).bind fun p => .ok (some p) else .ok none) ys
          else .ok []) xs).bind fun zs => (chk zs).bind fun zs => .ok (.d (.lst zs))
  | .dst b a, Γ => (ev G a Γ).bind fun x => f1op (if b then .lenset else .sortedset) x
  | .col b it, Γ => (evI G it Γ).bind fun xs => .ok (.d (if b then .tup xs else .lst xs))
def evL (G : Ctx) : List CE → Gm → Res (List SV)
  | [], _ => .ok []
  | e :: es, Γ => (ev G e Γ).bind fun x => (evL G es Γ).bind fun xs => .ok (x :: xs)
/-- a slice's end -/
def evO (G : Ctx) : Option CE → Gm → Res (Option Int)
  | none, _ => .ok none
  | some e, Γ => (ev G e Γ).bind fun x => (isInt? x).bind fun i => .ok (some i)
/-- a clause's tests: all hold -/
def evC (G : Ctx) : List CE → Gm → Res Bool
  | [], _ => .ok true
  | e :: es, Γ => (ev G e Γ).bind fun x => (isBl? x).bind fun c => if c then evC G es Γ else .ok false
def evI (G : Ctx) : CI → Gm → Res (List PV)
  | .seq e, Γ => (ev G e Γ).bind fun x => seq? x
  | .rng1 b, Γ => (ev G b Γ).bind fun y => (isInt? y).bind fun j => rng? 0 j 1
  | .rng2 a b, Γ => (ev G a Γ).bind fun x => (isInt? x).bind fun i => (ev G b Γ).bind fun y => (isInt? y).bind fun j => rng? i j 1
  | .rng3 a b st, Γ => (ev G a Γ).bind fun x => (isInt? x).bind fun i => (ev G b Γ).bind fun y => (isInt? y).bind fun j => rng? i j st
  | .enum e, Γ => (ev G e Γ).bind fun x => (seq? x).bind fun xs => .ok (enumP 0 xs)
  | .zip a b, Γ => (ev G a Γ).bind fun x => (ev G b Γ).bind fun y => (seqs? x y).bind fun z => .ok (zipP z.1 z.2)
  | .enumzip a b, Γ => (ev G a Γ).bind fun x => (ev G b Γ).bind fun y => (seqs? x y).bind fun z => .ok (enumP 0 (zipP z.1 z.2))
end

/-! ### statements -/
inductive Out where
  | nx (Γ : Gm) | ret (s : SV) | brk (Γ : Gm) | cont (Γ : Gm) | exc (c : Nat) (Γ : Gm) | bad
  deriving Inhabited
def Res.out {α : Type} (r : Res α) (Γ : Gm) (k : α → Out) : Out :=
  match r with
  | .ok a => k a
  | .exc c => .exc c Γ
  | .bad => .bad
@[simp] theorem Res.out_ok {α : Type} (a : α) (Γ : Gm) (k : α → Out) : (Res.ok a).out Γ k = k a := rfl
@[simp] theorem Res.out_exc {α : Type} (c : Nat) (Γ : Gm) (k : α → Out) : (Res.exc c : Res α).out Γ k = .exc c Γ := rfl
@[simp] theorem Res.out_bad {α : Type} (Γ : Gm) (k : α → Out) : (Res.bad : Res α).out Γ k = .bad := rfl
def Out.next (o : Out) (k : Gm → Out) : Out :=
  match o with
  | .nx Γ => k Γ
  | o => o
@[simp] theorem Out.next_nx (Γ : Gm) (k : Gm → Out) : (Out.nx Γ).next k = k Γ := rfl
@[simp] theorem Out.next_ret (s : SV) (k : Gm → Out) : (Out.ret s).next k = .ret s := rfl
@[simp] theorem Out.next_brk (Γ : Gm) (k : Gm → Out) : (Out.brk Γ).next k = .brk Γ := rfl
@[simp] theorem Out.next_cont (Γ : Gm) (k : Gm → Out) : (Out.cont Γ).next k = .cont Γ := rfl
@[simp] theorem Out.next_exc (c : Nat) (Γ : Gm) (k : Gm → Out) : (Out.exc c Γ).next k = .exc c Γ := rfl
@[simp] theorem Out.next_bad (k : Gm → Out) : Out.bad.next k = .bad := rfl
/-- a turn's end: go on, leave the loop, or leave the def -/
def Out.loop (o : Out) (k : Gm → Out) : Out :=
  match o with
  | .nx Γ => k Γ
  | .cont Γ => k Γ
  | .brk Γ => .nx Γ
  | o => o
@[simp] theorem Out.loop_nx (Γ : Gm) (k : Gm → Out) : (Out.nx Γ).loop k = k Γ := rfl
@[simp] theorem Out.loop_cont (Γ : Gm) (k : Gm → Out) : (Out.cont Γ).loop k = k Γ := rfl
@[simp] theorem Out.loop_brk (Γ : Gm) (k : Gm → Out) : (Out.brk Γ).loop k = .nx Γ := rfl
@[simp] theorem Out.loop_ret (s : SV) (k : Gm → Out) : (Out.ret s).loop k = .ret s := rfl
@[simp] theorem Out.loop_exc (c : Nat) (Γ : Gm) (k : Gm → Out) : (Out.exc c Γ).loop k = .exc c Γ := rfl
@[simp] theorem Out.loop_bad (k : Gm → Out) : Out.bad.loop k = .bad := rfl
def forR (f : PV → Gm → Out) : List PV → Gm → Out
  | [], Γ => .nx Γ
  | x :: xs, Γ => (f x Γ).loop fun Γ' => forR f xs Γ'
/-- n turns at most -/
def wit (c : Gm → Res Bool) (f : Gm → Out) : Nat → Gm → Out
  | 0, _ => .bad
  | n + 1, Γ => (c Γ).out Γ fun b => if b then (f Γ).loop fun Γ' => wit c f n Γ' else .nx Γ
open Classical in
noncomputable def whileR (c : Gm → Res Bool) (f : Gm → Out) (Γ : Gm) : Out :=
  if h : ∃ n, wit c f n Γ ≠ .bad then wit c f h.choose Γ else .bad
theorem wit_more {c : Gm → Res Bool} {f : Gm → Out} : ∀ {n : Nat} {Γ : Gm}, wit c f n Γ ≠ .bad → wit c f (n + 1) Γ = wit c f n Γ
  | 0, _, h => absurd rfl h
  | n + 1, Γ, h => by
    have ih := fun Γ' => @wit_more c f n Γ'
    show (c Γ).out Γ _ = (c Γ).out Γ _
    rw [show wit c f (n + 1) Γ = (c Γ).out Γ fun b => if b then (f Γ).loop fun Γ' => wit c f n Γ' else .nx Γ from rfl] at h
    cases hc : c Γ with
    | bad => rfl
    | exc k => rfl
    | ok b =>
      cases b with
      | false => rfl
      | true =>
        rw [hc] at h
        simp only [Res.out_ok, if_true] at h ⊢
        cases hf : f Γ with
        | nx Γ' => rw [hf] at h; exact ih Γ' h
        | cont Γ' => rw [hf] at h; exact ih Γ' h
        | _ => rfl
theorem wit_le {c : Gm → Res Bool} {f : Gm → Out} {n m : Nat} {Γ : Gm} (l : n ≤ m) (h : wit c f n Γ ≠ .bad) : wit c f m Γ = wit c f n Γ := by
  induction m with
  | zero => rw [Nat.le_zero.mp l]
  | succ m ih =>
    rcases Nat.lt_or_ge m n with l' | l'
    · rw [show n = m + 1 by omega]
    · have e := ih l'
      rw [← e]; exact wit_more (by rw [e]; exact h)
theorem while_of {c : Gm → Res Bool} {f : Gm → Out} {n : Nat} {Γ : Gm} (h : wit c f n Γ ≠ .bad) : whileR c f Γ = wit c f n Γ := by
  unfold whileR
  have e : ∃ n, wit c f n Γ ≠ .bad := ⟨n, h⟩
  rw [dif_pos e]
  rcases Nat.le_total n e.choose with l | l
  · exact wit_le l h
  · exact (wit_le l e.choose_spec).symm
theorem while_eq (c : Gm → Res Bool) (f : Gm → Out) (Γ : Gm) : whileR c f Γ = (c Γ).out Γ fun b => if b then (f Γ).loop fun Γ' => whileR c f Γ' else .nx Γ := by
  by_cases h : ∃ n, wit c f n Γ ≠ .bad
  · obtain ⟨n, h⟩ := h
    rw [while_of h]
    cases n with
    | zero => exact absurd rfl h
    | succ n =>
      show (c Γ).out Γ _ = (c Γ).out Γ _
      rw [show wit c f (n + 1) Γ = (c Γ).out Γ fun b => if b then (f Γ).loop fun Γ' => wit c f n Γ' else .nx Γ from rfl] at h
      cases hc : c Γ with
      | bad => rfl
      | exc k => rfl
      | ok b =>
        cases b with
        | false => rfl
        | true =>
          rw [hc] at h
          simp only [Res.out_ok, if_true] at h ⊢
          cases hf : f Γ with
          | nx Γ' => rw [hf] at h; exact (while_of h).symm
          | cont Γ' => rw [hf] at h; exact (while_of h).symm
          | _ => rfl
  · have no : ∀ n, wit c f n Γ = .bad := fun n => Classical.byContradiction fun q => h ⟨n, q⟩
    have e : whileR c f Γ = .bad := by unfold whileR; rw [dif_neg h]
    rw [e]
    have n1 := no 1
    cases hc : c Γ with
    | bad => rfl
    | exc k => simp [wit, hc] at n1
    | ok b =>
      cases b with
      | false => simp [wit, hc] at n1
      | true =>
        simp only [Res.out_ok, if_true]
        cases hf : f Γ with
        | nx Γ' =>
          have z : ∀ n, wit c f n Γ' = .bad := fun n => by have q := no (n + 1); simpa [wit, hc, hf] using q
          have : whileR c f Γ' = .bad := by unfold whileR; rw [dif_neg (fun ⟨n, q⟩ => q (z n))]
          simp [this]
        | cont Γ' =>
          have z : ∀ n, wit c f n Γ' = .bad := fun n => by have q := no (n + 1); simpa [wit, hc, hf] using q
          have : whileR c f Γ' = .bad := by unfold whileR; rw [dif_neg (fun ⟨n, q⟩ => q (z n))]
          simp [this]
        | bad => rfl
        | ret s => simp [wit, hc, hf] at n1
        | brk s => simp [wit, hc, hf] at n1
        | exc k s => simp [wit, hc, hf] at n1
def sets : List Nat → List SV → Gm → Gm
  | i :: is, s :: ss, Γ => sets is ss (Γ.set i (.sh s))
  | _, _, Γ => Γ
def setsO : List Nat → List Bool → List SV → Gm → Gm
  | i :: is, o :: os, s :: ss, Γ => setsO is os ss (Γ.set i (if o then .ow s else .sh s))
  | _, _, _, Γ => Γ
def augop : BOp → SV → SV → Res SV
  | .add, .d (.int i), .d (.int j) => .ok (.d (.int (i + j)))
  | .sub, .d (.int i), .d (.int j) => .ok (.d (.int (i - j)))
  | _, _, _ => .bad
def lst? : SV → Res (List PV)
  | .d (.lst ps) => .ok ps
  | _ => .bad
def oout : Option Gm → (Gm → Out) → Out
  | none, _ => .bad
  | some Γ, k => k Γ
def setR (Γ : Gm) : CT → SV → Out
  | .name i, s => .nx (Γ.set i (.sh s))
  | t, .d p => oout (bindT t p Γ) fun Γ' => .nx Γ'
  | _, _ => .bad
def owO : Option Bx → (SV → Out) → Out
  | some (.ow s), k => k s
  | _, _ => .bad
def shO : Option Bx → (SV → Out) → Out
  | some (.sh s), k => k s
  | _, _ => .bad
def owL : Option Bx → (List PV → Out) → Out
  | some (.ow (.d (.lst xs))), k => k xs
  | _, _ => .bad
def appR (Γ : Gm) (i : Nat) (xs : List PV) : SV → Out
  | .d p => if xs.length < line then .nx (Γ.set i (.ow (.d (.lst (xs ++ [p]))))) else .bad
  | _ => .bad
@[simp] theorem oout_some (Γ : Gm) (k : Gm → Out) : oout (some Γ) k = k Γ := rfl
@[simp] theorem owO_ow (s : SV) (k : SV → Out) : owO (some (.ow s)) k = k s := rfl
@[simp] theorem shO_sh (s : SV) (k : SV → Out) : shO (some (.sh s)) k = k s := rfl
@[simp] theorem owL_ow (xs : List PV) (k : List PV → Out) : owL (some (.ow (.d (.lst xs)))) k = k xs := rfl
@[simp] theorem setR_name (Γ : Gm) (i : Nat) (s : SV) : setR Γ (.name i) s = .nx (Γ.set i (.sh s)) := rfl
@[simp] theorem setR_tup (Γ : Gm) (ts : List CT) (p : PV) : setR Γ (.tup ts) (.d p) = oout (bindT (.tup ts) p Γ) fun Γ' => .nx Γ' := rfl
/-- the clause that takes an error of the class c -/
def caught (G : Ctx) (c : Nat) (Γ : Gm) : List (Nat × HB) → Out
  | [] => .exc c Γ
  | (k, h) :: hs => match G.sub c k with
    | some true => (match h with
      | .retc e => (ev G e Γ).out Γ fun s => .ret s
      | .cont => .cont Γ
      | _ => .bad)
    | some false => caught G c Γ hs
    | none => .bad
mutual
noncomputable def run (G : Ctx) : CS → Gm → Out
  | .expr e, Γ => (ev G e Γ).out Γ fun _ => .nx Γ
  | .set t e, Γ => (ev G e Γ).out Γ fun s => setR Γ t s
  | .par is es, Γ => (evL G es Γ).out Γ fun ss => .nx (sets is ss Γ)
  | .own i e, Γ => (ev G e Γ).out Γ fun s => .nx (Γ.set i (.ow s))
  | .parO is os es, Γ => (evL G es Γ).out Γ fun ss => .nx (setsO is os ss Γ)
  | .frz i, Γ => owO Γ[i]? fun s => .nx (Γ.set i (.sh s))
  | .aug i op e, Γ => shO Γ[i]? fun x => (ev G e Γ).out Γ fun y => (augop op x y).out Γ fun z => .nx (Γ.set i (.sh z))
  | .app i e, Γ => owL Γ[i]? fun xs => (ev G e Γ).out Γ fun s => appR Γ i xs s
  | .ext i e, Γ => owL Γ[i]? fun xs => (ev G e Γ).out Γ fun s => (lst? s).out Γ fun ps => if xs.length + ps.length ≤ line then .nx (Γ.set i (.ow (.d (.lst (xs ++ ps))))) else .bad
  | .ife c a b, Γ => (ev G c Γ).out Γ fun x => (isBl? x).out Γ fun r => if r then runs G a Γ else runs G b Γ
  | .for t it body, Γ => (evI G it Γ).out Γ fun xs => forR (fun x Γ => oout (bindT t x Γ) fun Γ' => runs G body Γ') xs Γ
  | .while c body, Γ => whileR (fun Γ => (ev G c Γ).bind isBl?) (fun Γ => runs G body Γ) Γ
  | .ret e, Γ => (ev G e Γ).out Γ fun s => .ret s
  | .retN, _ => .ret (.d .non)
  | .brk, Γ => .brk Γ
  | .cont, Γ => .cont Γ
  | .pass, Γ => .nx Γ
  | .raise k, Γ => .exc k Γ
  | .never, _ => .bad
  | .try body hs, Γ => match runs G body Γ with
    | .exc c Γ' => caught G c Γ' hs
    | o => o
noncomputable def runs (G : Ctx) : List CS → Gm → Out
  | [], Γ => .nx Γ
  | s :: ss, Γ => (run G s Γ).next fun Γ' => runs G ss Γ'
end
/-- a def's end -/
def Out.fin : Out → Res SV
  | .ret s => .ok s
  | .nx _ => .ok (.d .non)
  | .exc c _ => .exc c
  | _ => .bad
/-- a def: p parameters, n names in all -/
noncomputable def fn (G : Ctx) (p n : Nat) (body : List CS) (args : List SV) : Res SV :=
  if args.length = p then (runs G body (args.map Bx.sh ++ List.replicate (n - p) Bx.no)).fin else .bad
end Bw
end

section
set_option autoImplicit false
set_option linter.all false
/-! Bw B: how a tree lies in the abstract heap; the shared region; readings by trees. -/
namespace Bw
open PySem L2
abbrev Fr' := PySem.W.Frag

/-- of a heap R ⊑ H: what may be read -/
def Sub (R H : Hp) : Prop := ∀ a o, R a = some o → H a = some o
theorem Sub.refl {R : Hp} : Sub R R := fun _ _ h => h
theorem Sub.trans {A B C : Hp} (h : Sub A B) (g : Sub B C) : Sub A C := fun a o e => g a o (h a o e)

theorem Sub.rd {R H : Hp} (h : Sub R H) {a : Addr} {u : HO} (r : Rd R a u) : Rd H a u := by
  rcases r with r | ⟨o, r⟩
  · exact .inl (h _ _ r)
  · exact .inr ⟨o, h _ _ r⟩
theorem Sub.seqL {K : Fr'} {R H : Hp} (h : Sub R H) {a : Addr} {xs : List V} (r : SqL K R a xs) : SqL K H a xs := by
  rcases r with r | r
  · exact .inl (h.rd r)
  · exact .inr r
theorem Sub.seqT {K : Fr'} {R H : Hp} (h : Sub R H) {a : Addr} {xs : List V} (r : SqT K R a xs) : SqT K H a xs := by
  rcases r with r | r
  · exact .inl (h.rd r)
  · exact .inr r

mutual
def RpD (K : Fr') (R : Hp) : PV → V → Prop
  | .non, v => v = .non
  | .bl b, v => v = .bl b
  | .int i, v => v = .int i
  | .str s, v => v = .str s ∧ s.length ≤ line
  | .tup xs, v => ∃ a vs, v = .ref a ∧ SqT K R a vs ∧ xs.length ≤ line ∧ RpL K R xs vs
  | .lst xs, v => ∃ a vs, v = .ref a ∧ R a = some (.lst vs) ∧ xs.length ≤ line ∧ RpL K R xs vs
def RpL (K : Fr') (R : Hp) : List PV → List V → Prop
  | [], vs => vs = []
  | x :: xs, vs => ∃ v ws, vs = v :: ws ∧ RpD K R x v ∧ RpL K R xs ws
end
def RpS (K : Fr') (R : Hp) : SV → V → Prop
  | .d p, v => RpD K R p v
  | .scr ns, v => ∃ a, v = .ref a ∧ SqL K R a (ns.map V.int) ∧ ns.length ≤ line
  | _, _ => False
def RpSs (K : Fr') (R : Hp) : List SV → List V → Prop
  | [], vs => vs = []
  | x :: xs, vs => ∃ v ws, vs = v :: ws ∧ RpS K R x v ∧ RpSs K R xs ws

mutual
theorem RpD.mono {K : Fr'} {R R' : Hp} (h : Sub R R') : ∀ {p : PV} {v : V}, RpD K R p v → RpD K R' p v
  | .non, _, r => r
  | .bl _, _, r => r
  | .int _, _, r => r
  | .str _, _, r => r
  | .tup _, _, ⟨a, vs, e, s, z, r⟩ => ⟨a, vs, e, h.seqT s, z, RpL.mono h r⟩
  | .lst _, _, ⟨a, vs, e, s, z, r⟩ => ⟨a, vs, e, h _ _ s, z, RpL.mono h r⟩
theorem RpL.mono {K : Fr'} {R R' : Hp} (h : Sub R R') : ∀ {p : List PV} {v : List V}, RpL K R p v → RpL K R' p v
  | [], _, r => r
  | _ :: _, _, ⟨v, ws, e, r, rs⟩ => ⟨v, ws, e, RpD.mono h r, RpL.mono h rs⟩
end
theorem RpS.mono {K : Fr'} {R R' : Hp} (h : Sub R R') {s : SV} {v : V} (r : RpS K R s v) : RpS K R' s v := by
  cases s with
  | d p => exact RpD.mono h r
  | scr _ => obtain ⟨a, e, q, z⟩ := r; exact ⟨a, e, h.seqL q, z⟩
  | dic _ => exact r
  | ins _ _ => exact r
theorem RpSs.mono {K : Fr'} {R R' : Hp} (h : Sub R R') : ∀ {s : List SV} {v : List V}, RpSs K R s v → RpSs K R' s v
  | [], _, r => r
  | _ :: _, _, ⟨v, ws, e, r, rs⟩ => ⟨v, ws, e, r.mono h, RpSs.mono h rs⟩

theorem RpL.len {K : Fr'} {R : Hp} : ∀ {ps : List PV} {vs : List V}, RpL K R ps vs → vs.length = ps.length
  | [], _, r => by rw [show _ = [] from r]; rfl
  | _ :: _, _, ⟨v, ws, e, _, rs⟩ => by rw [e]; simp [RpL.len rs]
theorem RpL.get {K : Fr'} {R : Hp} : ∀ {ps : List PV} {vs : List V} {i : Nat} {v : V}, RpL K R ps vs → vs[i]? = some v → ∃ p, ps[i]? = some p ∧ RpD K R p v
  | [], _, _, _, r, e => by rw [show _ = [] from r] at e; simp at e
  | p :: _, _, 0, _, ⟨v, ws, e1, r, rs⟩, e => by subst e1; simp at e; subst e; exact ⟨p, rfl, r⟩
  | _ :: _, _, i + 1, _, ⟨v, ws, e1, r, rs⟩, e => by
    subst e1
    obtain ⟨p, h1, h2⟩ := RpL.get (i := i) rs (by simpa using e)
    exact ⟨p, by simpa using h1, h2⟩
theorem RpL.get' {K : Fr'} {R : Hp} : ∀ {ps : List PV} {vs : List V} {i : Nat} {p : PV}, RpL K R ps vs → ps[i]? = some p → ∃ v, vs[i]? = some v ∧ RpD K R p v
  | [], _, _, _, _, e => by simp at e
  | p :: _, _, 0, _, ⟨v, ws, e1, r, rs⟩, e => by subst e1; simp at e; subst e; exact ⟨v, rfl, r⟩
  | _ :: _, _, i + 1, _, ⟨v, ws, e1, r, rs⟩, e => by
    subst e1
    obtain ⟨v, h1, h2⟩ := RpL.get' (i := i) rs (by simpa using e)
    exact ⟨v, by simpa using h1, h2⟩
theorem RpL.append {K : Fr'} {R : Hp} : ∀ {ps qs : List PV} {vs ws : List V}, RpL K R ps vs → RpL K R qs ws → RpL K R (ps ++ qs) (vs ++ ws)
  | [], _, _, _, r, s => by rw [show _ = [] from r]; exact s
  | _ :: _, _, _, _, ⟨v, ws, e, r, rs⟩, s => by subst e; exact ⟨v, _, rfl, r, RpL.append rs s⟩
theorem RpL.take {K : Fr'} {R : Hp} : ∀ {ps : List PV} {vs : List V} (n : Nat), RpL K R ps vs → RpL K R (ps.take n) (vs.take n)
  | _, _, 0, _ => by simp [RpL]
  | [], _, n + 1, r => by rw [show _ = [] from r]; simp [RpL]
  | _ :: _, _, n + 1, ⟨v, ws, e, r, rs⟩ => by subst e; exact ⟨v, _, rfl, r, RpL.take n rs⟩
theorem RpL.drop {K : Fr'} {R : Hp} : ∀ {ps : List PV} {vs : List V} (n : Nat), RpL K R ps vs → RpL K R (ps.drop n) (vs.drop n)
  | _, _, 0, r => r
  | [], _, n + 1, r => by rw [show _ = [] from r]; simp [RpL]
  | _ :: _, _, n + 1, ⟨v, ws, e, r, rs⟩ => by subst e; exact RpL.drop n rs
theorem RpL.one {K : Fr'} {R : Hp} {p : PV} {v : V} (r : RpD K R p v) : RpL K R [p] [v] := ⟨v, [], rfl, r, rfl⟩
theorem RpL.rev {K : Fr'} {R : Hp} : ∀ {ps : List PV} {vs : List V}, RpL K R ps vs → RpL K R ps.reverse vs.reverse
  | [], _, r => by rw [show _ = [] from r]; exact rfl
  | _ :: _, _, ⟨v, ws, e, r, rs⟩ => by
    subst e
    rw [List.reverse_cons, List.reverse_cons]
    exact (RpL.rev rs).append (.one r)

/-! ### regions that grow -/
structure Grow (H R H' R' : Hp) : Prop where
  same : Sub H H'
  reg : Sub R R'
  sub : Sub R' H'
  old : ∀ a, H a ≠ none → R' a = R a
theorem Grow.refl {H R : Hp} (h : Sub R H) : Grow H R H R := ⟨.refl, .refl, h, fun _ _ => rfl⟩
theorem Grow.trans {H R H1 R1 H2 R2 : Hp} (g : Grow H R H1 R1) (g' : Grow H1 R1 H2 R2) : Grow H R H2 R2 :=
  ⟨g.same.trans g'.same, g.reg.trans g'.reg, g'.sub, fun a n => by
    rw [g'.old a ?_, g.old a n]
    cases e : H a with
    | none => exact absurd e n
    | some o => rw [g.same a o e]; simp⟩
/-- a new shared object -/
theorem Grow.new {H R : Hp} (h : Sub R H) {p : Addr} (hp : H p = none) (o : HO) : Grow H R (upd H p o) (upd R p o) := by
  refine ⟨fun a u e => ?_, fun a u e => ?_, fun a u e => ?_, fun a n => ?_⟩
  · rw [upd_ne (ne_of_none e hp)]; exact e
  · rw [upd_ne (ne_of_none (h _ _ e) hp)]; exact e
  · by_cases c : a = p
    · subst c; rw [upd_same] at e ⊢; exact e
    · rw [upd_ne c] at e ⊢; exact h _ _ e
  · by_cases c : a = p
    · subst c; exact absurd hp n
    · rw [upd_ne c]
/-- a new object that is hidden -/
theorem Grow.hid {H R : Hp} (h : Sub R H) {p : Addr} (hp : H p = none) (o : HO) : Grow H R (upd H p o) R := by
  refine ⟨fun a u e => ?_, .refl, fun a u e => ?_, fun a n => rfl⟩
  · rw [upd_ne (ne_of_none e hp)]; exact e
  · rw [upd_ne (ne_of_none (h _ _ e) hp)]; exact h _ _ e

/-! ### the state of a def -/

/-- everything made since the entry, and what is shared -/
def Rall (H0 R H : Hp) : Hp := fun a => match H0 a with
  | none => H a
  | some _ => R a
theorem Rall.sub {H0 R H : Hp} (h : Sub R H) : Sub (Rall H0 R H) H := fun a o e => by
  unfold Rall at e
  cases q : H0 a with
  | none => rw [q] at e; exact e
  | some _ => rw [q] at e; exact h _ _ e
theorem Rall.of {H0 R H : Hp} (h : Sub R H) : Sub R (Rall H0 R H) := fun a o e => by
  unfold Rall
  cases q : H0 a with
  | none => exact h _ _ e
  | some _ => exact e

structure RelR (K : Fr') (H0 R0 R : Hp) (Γ : Gm) (σ : St) (H : Hp) : Prop where
  same : Sub H0 H
  sub : Sub R H
  sub0 : Sub R0 R
  old : ∀ a, H0 a ≠ none → R a = R0 a
  slot : ∀ (i : Nat) (s : SV), Γ[i]? = some (.sh s) → ∃ v, σ[i]? = some (some v) ∧ RpS K R s v
  own : ∀ (i : Nat) (s : SV), Γ[i]? = some (.ow s) → ∃ (a : Addr) (vs : List V) (ps : List PV), s = SV.d (.lst ps) ∧ σ[i]? = some (some (.ref a)) ∧ H a = some (.lst vs) ∧ RpL K R ps vs ∧ ps.length ≤ line ∧ R a = none ∧ H0 a = none
  apart : ∀ (i j : Nat) (s t : SV) (a : Addr), i ≠ j → Γ[i]? = some (.ow s) → Γ[j]? = some (.ow t) → σ[i]? = some (some (.ref a)) → σ[j]? = some (some (.ref a)) → False
  len : Γ.length = σ.length
theorem RelR.grow {K : Fr'} {H0 R0 R R' : Hp} {Γ : Gm} {σ : St} {H H' : Hp} (r : RelR K H0 R0 R Γ σ H) (g : Grow H R H' R') : RelR K H0 R0 R' Γ σ H' := by
  refine ⟨r.same.trans g.same, g.sub, r.sub0.trans g.reg, fun a n => ?_, fun i s e => ?_, fun i s e => ?_, r.apart, r.len⟩
  · rw [g.old a, r.old a n]
    cases e : H0 a with
    | none => exact absurd e n
    | some o => rw [r.same a o e]; simp
  · obtain ⟨v, h1, h2⟩ := r.slot i s e
    exact ⟨v, h1, h2.mono g.reg⟩
  · obtain ⟨a, vs, ps, h1, h2, h3, h4, h5, h6, h7⟩ := r.own i s e
    refine ⟨a, vs, ps, h1, h2, g.same _ _ h3, h4.mono g.reg, h5, ?_, h7⟩
    rw [g.old a (by rw [h3]; simp)]; exact h6

/-! ### readings -/
/-- what stays fixed through a body: the written part, the entry's heap and region, the classes of errors, the wish of errors -/
structure Fr where
  K : Fr'
  H0 : Hp
  R0 : Hp
  cls : Nat → Value
  W : WX
/-- how a value is told: shared; shared but for its own top; anything made here -/
inductive Md where | e | t | f
  deriving DecidableEq
def Rm (F : Fr) (R H : Hp) : Md → SV → V → Prop
  | .e, s, v => RpS F.K R s v
  | .t, s, v => RpS F.K R s v ∨ ∃ (ps : List PV) (a : Addr) (vs : List V), s = SV.d (.lst ps) ∧ v = .ref a ∧ H a = some (.lst vs) ∧ RpL F.K R ps vs ∧ ps.length ≤ line ∧ F.H0 a = none
  | .f, s, v => RpS F.K (Rall F.H0 R H) s v
def Md.le : Md → Md → Bool
  | .e, _ => true
  | .t, .t => true
  | .t, .f => true
  | .f, .f => true
  | _, _ => false
theorem Rm.le {F : Fr} {R H : Hp} (h : Sub R H) {m m' : Md} (l : m.le m' = true) {s : SV} {v : V} (r : Rm F R H m s v) : Rm F R H m' s v := by
  cases m <;> cases m' <;> try (cases l; done)
  · exact r
  · exact .inl r
  · exact RpS.mono (Rall.of h) r
  · exact r
  · rcases r with r | ⟨ps, a, vs, e1, e2, h1, h2, h3, h4⟩
    · exact RpS.mono (Rall.of h) r
    · subst e1 e2
      refine ⟨a, vs, rfl, ?_, h3, h2.mono (Rall.of h)⟩
      unfold Rall; rw [h4]; exact h1
  · exact r
theorem Rm.grow {F : Fr} {R H R' H' : Hp} (g : Grow H R H' R') {m : Md} {s : SV} {v : V} (r : Rm F R H m s v) : Rm F R' H' m s v := by
  cases m with
  | e => exact RpS.mono g.reg r
  | t =>
    rcases r with r | ⟨ps, a, vs, e1, e2, h1, h2, h3, h4⟩
    · exact .inl (RpS.mono g.reg r)
    · exact .inr ⟨ps, a, vs, e1, e2, g.same _ _ h1, h2.mono g.reg, h3, h4⟩
  | f =>
    refine RpS.mono (fun a o e => ?_) r
    unfold Rall at e ⊢
    cases q : F.H0 a with
    | none => rw [q] at e; exact g.same _ _ e
    | some _ => rw [q] at e; exact g.reg _ _ e

/-- what is wanted behind a reckoning -/
def Post (F : Fr) (m : Md) (R : Hp) (σ : St) (H : Hp) (r : Res SV) (Q : VK) : Prop :=
  match r with
  | .ok s => ∀ v H' R', Grow H R H' R' → Rm F R' H' m s v → Q v H'
  | .exc c => ∀ H' R', Grow H R H' R' → F.W (F.cls c) none σ H'
  | .bad => False
theorem Post.grow {F : Fr} {m : Md} {R R1 H H1 : Hp} {σ : St} {r : Res SV} {Q : VK} (h : Post F m R σ H r Q) (g : Grow H R H1 R1) : Post F m R1 σ H1 r Q := by
  cases r with
  | ok s => exact fun v H' R' g' rv => h v H' R' (g.trans g') rv
  | exc c => exact fun H' R' g' => h H' R' (g.trans g')
  | bad => exact h
theorem Post.mono {F : Fr} {m : Md} {R H : Hp} {σ : St} {r : Res SV} {Q Q' : VK} (h : Post F m R σ H r Q) (k : ∀ v H', Q v H' → Q' v H') : Post F m R σ H r Q' := by
  cases r with
  | ok s => exact fun v H' R' g' rv => k _ _ (h v H' R' g' rv)
  | exc c => exact h
  | bad => exact h
theorem Post.bind {F : Fr} {m m' : Md} {R H : Hp} {σ : St} {r : Res SV} {f : SV → Res SV} {Q : VK} (hs : Sub R H) (h : Post F m' R σ H (r.bind f) Q) :
    Post F m R σ H r (fun x H1 => ∃ s R1, r = .ok s ∧ Grow H R H1 R1 ∧ Rm F R1 H1 m s x ∧ Post F m' R1 σ H1 (f s) Q) := by
  cases r with
  | ok s => exact fun v H1 R1 g rv => ⟨s, R1, rfl, g, rv, Post.grow (r := f s) h g⟩
  | exc c => exact h
  | bad => exact h
/-- the value as it stands -/
theorem Post.now {F : Fr} {m : Md} {R H : Hp} {σ : St} {s : SV} {Q : VK} {v : V} (hs : Sub R H) (h : Post F m R σ H (.ok s) Q) (r : Rm F R H m s v) : Q v H := h v H R (.refl hs) r
theorem Post.new {F : Fr} {m : Md} {R H : Hp} {σ : St} {s : SV} {Q : VK} {p : Addr} {o : HO} (hs : Sub R H) (h : Post F m R σ H (.ok s) Q) (hp : H p = none) (r : RpS F.K (upd R p o) s (.ref p)) : Q (.ref p) (upd H p o) :=
  h _ _ _ (.new hs hp o) (Rm.le (m := .e) (Grow.new hs hp o).sub rfl r)

/-- the reading of an expression by a tree -/
def Rd' (F : Fr) (m : Md) (g : Gm → Res SV) : TE := fun σ H Q => ∃ Γ R, RelR F.K F.H0 F.R0 R Γ σ H ∧ Post F m R σ H (g Γ) Q
/-- .. of a list of them -/
def Rms (F : Fr) (R H : Hp) (m : Md) : List SV → List V → Prop
  | [], vs => vs = []
  | x :: xs, vs => ∃ v ws, vs = v :: ws ∧ Rm F R H m x v ∧ Rms F R H m xs ws
theorem Rms.grow {F : Fr} {R H R' H' : Hp} (g : Grow H R H' R') {m : Md} : ∀ {s : List SV} {v : List V}, Rms F R H m s v → Rms F R' H' m s v
  | [], _, r => r
  | _ :: _, _, ⟨v, ws, e, r, rs⟩ => ⟨v, ws, e, r.grow g, Rms.grow g rs⟩
def PostL (F : Fr) (m : Md) (R : Hp) (σ : St) (H : Hp) (r : Res (List SV)) (Q : List V → Hp → Prop) : Prop :=
  match r with
  | .ok s => ∀ v H' R', Grow H R H' R' → Rms F R' H' m s v → Q v H'
  | .exc c => ∀ H' R', Grow H R H' R' → F.W (F.cls c) none σ H'
  | .bad => False
theorem PostL.grow {F : Fr} {m : Md} {R R1 H H1 : Hp} {σ : St} {r : Res (List SV)} {Q : List V → Hp → Prop} (h : PostL F m R σ H r Q) (g : Grow H R H1 R1) : PostL F m R1 σ H1 r Q := by
  cases r with
  | ok s => exact fun v H' R' g' rv => h v H' R' (g.trans g') rv
  | exc c => exact fun H' R' g' => h H' R' (g.trans g')
  | bad => exact h
def RdL (F : Fr) (m : Md) (g : Gm → Res (List SV)) : TA := fun σ H Q => ∃ Γ R, RelR F.K F.H0 F.R0 R Γ σ H ∧ PostL F m R σ H (g Γ) Q
/-- .. of a test -/
def PostB (F : Fr) (R : Hp) (σ : St) (H : Hp) (r : Res Bool) (Q : Bool → Hp → Prop) : Prop :=
  match r with
  | .ok b => ∀ H' R', Grow H R H' R' → Q b H'
  | .exc c => ∀ H' R', Grow H R H' R' → F.W (F.cls c) none σ H'
  | .bad => False
def RdB (F : Fr) (g : Gm → Res Bool) : TT := fun σ H Q => ∃ Γ R, RelR F.K F.H0 F.R0 R Γ σ H ∧ PostB F R σ H (g Γ) Q
theorem PostB.grow {F : Fr} {R R1 H H1 : Hp} {σ : St} {r : Res Bool} {Q : Bool → Hp → Prop} (h : PostB F R σ H r Q) (g : Grow H R H1 R1) : PostB F R1 σ H1 r Q := by
  cases r with
  | ok s => exact fun H' R' g' => h H' R' (g.trans g')
  | exc c => exact fun H' R' g' => h H' R' (g.trans g')
  | bad => exact h

theorem peImp {X : Cx} {e : Expr} {t t' : TE} (h : PE X e t) (k : ∀ σ H Q, t' σ H Q → t σ H Q) : PE X e t' := ⟨fun pins s σ H Q I q => h.run pins s σ H Q I (k σ H Q q)⟩
theorem ptImp {X : Cx} {e : Expr} {t t' : TT} (h : PT X e t) (k : ∀ σ H Q, t' σ H Q → t σ H Q) : PT X e t' := ⟨fun pins s σ H Q I q => h.run pins s σ H Q I (k σ H Q q)⟩
theorem paImp {X : Cx} {e : List Expr} {t t' : TA} (h : PA X e t) (k : ∀ σ H Q, t' σ H Q → t σ H Q) : PA X e t' := ⟨fun pos pins s σ H Q I q => h.run pos pins s σ H Q I (k σ H Q q)⟩
end Bw
end

section
set_option autoImplicit false
set_option linter.all false
/-! Bw C: trees in the machine's own heap; == and < of them. -/
namespace Bw
open PySem L2 PySem.SeqAt Ob
mutual
def CpD (h : Heap) : PV → Value → Prop
  | .non, u => u = .none
  | .bl b, u => u = .bool b
  | .int i, u => ∃ t, u = .int i t
  | .str s, u => ∃ t, u = .str s t
  | .tup xs, u => ∃ a us, u = .ref a ∧ h.IsTuple a us.toArray ∧ CpL h xs us
  | .lst xs, u => ∃ a us, u = .ref a ∧ h.IsList a us.toArray ∧ CpL h xs us
def CpL (h : Heap) : List PV → List Value → Prop
  | [], us => us = []
  | x :: xs, us => ∃ u ws, us = u :: ws ∧ CpD h x u ∧ CpL h xs ws
end
section
variable {X : Cx} {pins : List (Addr × Obj)} {σ : L2.St} {H : Hp} {s : Shared}
mutual
theorem cp_of (I : Inv X pins σ H s) {R : Hp} (hs : Sub R H) : ∀ {p : PV} {x : V} {u : Value}, RpD X.K R p x → RelV x u → CpD s.heap p u
  | .non, _, _, e, r => by subst e; exact r
  | .bl _, _, _, e, r => by subst e; exact r
  | .int _, _, _, e, r => by subst e; exact r
  | .str _, _, _, e, r => by obtain ⟨e, _⟩ := e; subst e; exact r
  | .tup _, _, _, ⟨a, vs, e, sq, _, rs⟩, r => by
    subst e
    obtain ⟨its, rv, ht, _⟩ := I.tuple (hs.seqT sq)
    exact ⟨a, its, r, ht, cpl_of I hs rs rv⟩
  | .lst _, _, _, ⟨a, vs, e, sq, _, rs⟩, r => by
    subst e
    obtain ⟨its, rv, ht, _⟩ := I.list (SqL.of (hs _ _ sq))
    exact ⟨a, its, r, ht.isList, cpl_of I hs rs rv⟩
theorem cpl_of (I : Inv X pins σ H s) {R : Hp} (hs : Sub R H) : ∀ {ps : List PV} {xs : List V} {us : List Value}, RpL X.K R ps xs → Vals xs us → CpL s.heap ps us
  | [], _, _, e, r => by rw [show _ = [] from e] at r; cases r; rfl
  | _ :: _, _, _, ⟨v, ws, e, r1, rs⟩, r => by
    subst e
    cases r with
    | cons r2 rr => exact ⟨_, _, rfl, cp_of I hs r1 r2, cpl_of I hs rs rr⟩
end
end
theorem CpL.len {h : Heap} : ∀ {ps : List PV} {us : List Value}, CpL h ps us → us.length = ps.length
  | [], _, r => by rw [show _ = [] from r]; rfl
  | _ :: _, _, ⟨v, ws, e, _, rs⟩ => by rw [e]; simp [CpL.len rs]
theorem CpL.at {h : Heap} : ∀ {ps : List PV} {us : List Value} {j : Nat} (h1 : j < ps.length) (h2 : j < us.length), CpL h ps us → CpD h ps[j] us[j]
  | [], _, _, h1, _, r => absurd h1 (by simp)
  | p :: ps, _, 0, h1, h2, ⟨v, ws, e, r, rs⟩ => by subst e; exact r
  | p :: ps, _, j + 1, h1, h2, ⟨v, ws, e, r, rs⟩ => by
    subst e
    exact CpL.at (ps := ps) (by simpa using h1) (by simpa using h2) rs
theorem CpL.mem {h : Heap} : ∀ {ps : List PV} {us : List Value} {u : Value}, CpL h ps us → u ∈ us → ∃ p ∈ ps, CpD h p u
  | [], _, _, r, hm => by rw [show _ = [] from r] at hm; simp at hm
  | p :: ps, _, u, ⟨v, ws, e, r, rs⟩, hm => by
    subst e
    rcases List.mem_cons.mp hm with rfl | hm
    · exact ⟨p, List.mem_cons_self, r⟩
    · obtain ⟨q, h1, h2⟩ := CpL.mem rs hm
      exact ⟨q, List.mem_cons_of_mem _ h1, h2⟩
theorem tup_obj {h : Heap} {a : Addr} {us ws : List Value} (x : h.IsTuple a us.toArray) (y : h.IsTuple a ws.toArray) : us = ws := by
  obtain ⟨o, e, _, n, d⟩ := x
  obtain ⟨o', e', _, n', d'⟩ := y
  rw [e] at e'; cases e'
  rw [d] at d'
  injection d' with d1 _
  simpa using congrArg Array.toList d1
theorem lst_obj {h : Heap} {a : Addr} {us ws : List Value} (x : h.IsList a us.toArray) (y : h.IsList a ws.toArray) : us = ws := by
  obtain ⟨o, e, _, n, d⟩ := x
  obtain ⟨o', e', _, n', d'⟩ := y
  rw [e] at e'; cases e'
  rw [d] at d'
  injection d' with d1 _
  simpa using congrArg Array.toList d1
theorem not_both {h : Heap} {a : Addr} {us ws : List Value} (x : h.IsTuple a us.toArray) (y : h.IsList a ws.toArray) : False := by
  obtain ⟨o, e, c, _⟩ := x
  obtain ⟨o', e', c', _⟩ := y
  rw [e] at e'; cases e'
  rw [c] at c'
  exact absurd c' (by decide)
mutual
/-- what lies there is one tree -/
theorem CpD.inj {h : Heap} : ∀ {p q : PV} {u : Value}, CpD h p u → CpD h q u → p = q
  | .non, q, u, e, r => by subst e; cases q <;> first | rfl | (cases r; done) | (obtain ⟨_, r⟩ := r; cases r; done) | (obtain ⟨_, _, r, _⟩ := r; cases r; done)
  | .bl b, q, u, e, r => by
    subst e
    cases q <;> first | (cases r; rfl) | (cases r; done) | (obtain ⟨_, r⟩ := r; cases r; done) | (obtain ⟨_, _, r, _⟩ := r; cases r; done)
  | .int b, q, u, ⟨t, e⟩, r => by
    subst e
    cases q <;> first | (cases r; done) | (obtain ⟨_, r⟩ := r; cases r; first | rfl | done) | (obtain ⟨_, _, r, _⟩ := r; cases r; done)
  | .str b, q, u, ⟨t, e⟩, r => by
    subst e
    cases q <;> first | (cases r; done) | (obtain ⟨_, r⟩ := r; cases r; first | rfl | done) | (obtain ⟨_, _, r, _⟩ := r; cases r; done)
  | .tup xs, q, u, ⟨a, us, e, t, rs⟩, r => by
    subst e
    cases q with
    | tup ys =>
      obtain ⟨b, ws, e2, t2, rs2⟩ := r
      cases e2
      have := tup_obj t t2
      subst this
      rw [CpL.inj rs rs2]
    | lst ys =>
      obtain ⟨b, ws, e2, t2, rs2⟩ := r
      cases e2
      exact (not_both t t2).elim
    | non => cases r
    | bl _ => cases r
    | int _ => obtain ⟨_, r⟩ := r; cases r
    | str _ => obtain ⟨_, r⟩ := r; cases r
  | .lst xs, q, u, ⟨a, us, e, t, rs⟩, r => by
    subst e
    cases q with
    | lst ys =>
      obtain ⟨b, ws, e2, t2, rs2⟩ := r
      cases e2
      have := lst_obj t t2
      subst this
      rw [CpL.inj rs rs2]
    | tup ys =>
      obtain ⟨b, ws, e2, t2, rs2⟩ := r
      cases e2
      exact (not_both t2 t).elim
    | non => cases r
    | bl _ => cases r
    | int _ => obtain ⟨_, r⟩ := r; cases r
    | str _ => obtain ⟨_, r⟩ := r; cases r
theorem CpL.inj {h : Heap} : ∀ {p q : List PV} {u : List Value}, CpL h p u → CpL h q u → p = q
  | [], q, u, e, r => by
    have e : u = [] := e
    subst e
    cases q with
    | nil => rfl
    | cons _ _ => obtain ⟨_, _, e, _⟩ := r; cases e
  | x :: xs, q, u, ⟨v, ws, e, r1, rs⟩, r => by
    subst e
    cases q with
    | nil => cases (show _ = [] from r)
    | cons _ _ =>
      obtain ⟨_, _, e, r2, rs2⟩ := r
      cases e
      rw [CpD.inj r1 r2, CpL.inj rs rs2]
end
mutual
theorem pyEq_refl : ∀ p : PV, pyEq p p = true
  | .non => rfl
  | .bl b => by simp [pyEq]
  | .int b => by simp [pyEq]
  | .str b => by simp [pyEq]
  | .tup xs => pyEqL_refl xs
  | .lst xs => pyEqL_refl xs
theorem pyEqL_refl : ∀ p : List PV, pyEqL p p = true
  | [] => rfl
  | x :: xs => by simp [pyEqL, pyEq_refl x, pyEqL_refl xs]
end
/-- .. as a look at the places -/
theorem pyEqL_range : ∀ (ps qs : List PV) (f : Nat → Bool), (∀ j (h1 : j < ps.length) (h2 : j < qs.length), f j = pyEq ps[j] qs[j]) →
    pyEqL ps qs = ((List.range (min ps.length qs.length)).all f && decide (ps.length = qs.length))
  | [], [], f, h => by simp [pyEqL]
  | [], q :: qs, f, h => by simp [pyEqL]
  | p :: ps, [], f, h => by simp [pyEqL]
  | p :: ps, q :: qs, f, h => by
    have ih := pyEqL_range ps qs (fun j => f (j + 1)) fun j h1 h2 => by
      have := h (j + 1) (by simpa using h1) (by simpa using h2)
      simpa using this
    have h0 := h 0 (by simp) (by simp)
    have hm : min (p :: ps).length (q :: qs).length = min ps.length qs.length + 1 := by simp only [List.length_cons]; omega
    rw [hm, List.range_succ_eq_map, List.all_cons, List.all_map, h0]
    show (pyEq p q && pyEqL ps qs) = _
    rw [ih]
    have hd : decide ((p :: ps).length = (q :: qs).length) = decide (ps.length = qs.length) := by simp
    rw [hd, Bool.and_assoc]
    rfl
/-- is it deep -/
theorem shalL_at {n : Nat} : ∀ {ps : List PV} {j : Nat} (h : j < ps.length), shalL n ps = true → shal n ps[j] = true
  | [], _, h, _ => absurd h (by simp)
  | p :: ps, 0, _, e => by simp [shalL] at e; exact e.1
  | p :: ps, j + 1, h, e => by simp [shalL] at e; exact shalL_at (ps := ps) (by simpa using h) e.2
section
variable {A : Around} {s : Shared}
theorem shal_sub {n : Nat} {xs ys : List PV} {j : Nat} (h1 : j < xs.length) (h2 : j < ys.length) (h : shalL n xs = true ∨ shalL n ys = true) : shal n xs[j] = true ∨ shal n ys[j] = true :=
  h.imp (shalL_at h1) (shalL_at h2)
/-- two lists, two tuples -/
def twin : PV → PV → Bool
  | .tup _, .tup _ => true
  | .lst _, .lst _ => true
  | _, _ => false
theorem eq_flat {p q : PV} {u w : Value} (hp : CpD s.heap p u) (hq : CpD s.heap q w) (hu : A.units < cLine) (hn : twin p q = false) : EqAt A s u w (pyEq p q) ∧ RcAt A s u w (pyEq p q) := by
  cases p with
  | non =>
    obtain rfl : u = _ := hp
    cases q with
    | non => obtain rfl : w = _ := hq; exact ⟨.same _, .none_none⟩
    | bl b => obtain rfl : w = _ := hq; exact ⟨.none_bool b, .none_bool b⟩
    | int j => obtain ⟨t, rfl⟩ := hq; exact ⟨.none_int j t, .none_int j t⟩
    | str z => obtain ⟨t, rfl⟩ := hq; exact ⟨.none_str z t, .none_str z t⟩
    | tup ys => obtain ⟨a, us, rfl, ht, _⟩ := hq; exact ⟨.none_tuple ht hu, .none_tuple ht hu⟩
    | lst ys => obtain ⟨a, us, rfl, ht, _⟩ := hq; exact ⟨.none_list ht hu, .none_list ht hu⟩
  | bl a =>
    obtain rfl : u = _ := hp
    cases q with
    | non => obtain rfl : w = _ := hq; exact ⟨.bool_none a, .bool_none a⟩
    | bl b => obtain rfl : w = _ := hq; exact ⟨.bool_bool a b, .bool_bool a b⟩
    | int j => obtain ⟨t, rfl⟩ := hq; exact ⟨.bool_int a j t, .bool_int a j t⟩
    | str z => obtain ⟨t, rfl⟩ := hq; exact ⟨.bool_str a z t, .bool_str a z t⟩
    | tup ys => obtain ⟨b, us, rfl, ht, _⟩ := hq; exact ⟨.bool_tuple a ht hu, .bool_tuple a ht hu⟩
    | lst ys => obtain ⟨b, us, rfl, ht, _⟩ := hq; exact ⟨.bool_list a ht hu, .bool_list a ht hu⟩
  | int a =>
    obtain ⟨t', rfl⟩ := hp
    cases q with
    | non => obtain rfl : w = _ := hq; exact ⟨.int_none a t', .int_none a t'⟩
    | bl b => obtain rfl : w = _ := hq; exact ⟨.int_bool a t' b, .int_bool a t' b⟩
    | int j => obtain ⟨t, rfl⟩ := hq; exact ⟨.int_int a t' j t, .int_int a t' j t⟩
    | str z => obtain ⟨t, rfl⟩ := hq; exact ⟨.int_str a t' z t, .int_str a t' z t⟩
    | tup ys => obtain ⟨b, us, rfl, ht, _⟩ := hq; exact ⟨.int_tuple a t' ht hu, .int_tuple a t' ht hu⟩
    | lst ys => obtain ⟨b, us, rfl, ht, _⟩ := hq; exact ⟨.int_list a t' ht hu, .int_list a t' ht hu⟩
  | str a =>
    obtain ⟨t', rfl⟩ := hp
    cases q with
    | non => obtain rfl : w = _ := hq; exact ⟨.str_none a t', .str_none a t'⟩
    | bl b => obtain rfl : w = _ := hq; exact ⟨.str_bool a t' b, .str_bool a t' b⟩
    | int j => obtain ⟨t, rfl⟩ := hq; exact ⟨.str_int a t' j t, .str_int a t' j t⟩
    | str z => obtain ⟨t, rfl⟩ := hq; exact ⟨by simpa [pyEq, Bool.beq_eq_decide_eq] using EqAt.str_str a t' z t, by simpa [pyEq, Bool.beq_eq_decide_eq] using RcAt.str_str a t' z t⟩
    | tup ys => obtain ⟨b, us, rfl, ht, _⟩ := hq; exact ⟨.str_tuple a t' ht hu, .str_tuple a t' ht hu⟩
    | lst ys => obtain ⟨b, us, rfl, ht, _⟩ := hq; exact ⟨.str_list a t' ht hu, .str_list a t' ht hu⟩
  | tup xs =>
    obtain ⟨a, us, rfl, ht, rs⟩ := hp
    cases q with
    | non => obtain rfl : w = _ := hq; exact ⟨.tuple_none ht hu, .tuple_none ht hu⟩
    | bl b => obtain rfl : w = _ := hq; exact ⟨.tuple_bool b ht hu, .tuple_bool b ht hu⟩
    | int j => obtain ⟨t, rfl⟩ := hq; exact ⟨.tuple_int j t ht hu, .tuple_int j t ht hu⟩
    | str z => obtain ⟨t, rfl⟩ := hq; exact ⟨.tuple_str z t ht hu, .tuple_str z t ht hu⟩
    | tup ys => cases hn
    | lst ys => obtain ⟨b, ws, rfl, ht2, _⟩ := hq; exact ⟨.tuple_list ht ht2 hu, .tuple_list ht ht2 hu⟩
  | lst xs =>
    obtain ⟨a, us, rfl, ht, rs⟩ := hp
    cases q with
    | non => obtain rfl : w = _ := hq; exact ⟨.list_none ht hu, .list_none ht hu⟩
    | bl b => obtain rfl : w = _ := hq; exact ⟨.list_bool b ht hu, .list_bool b ht hu⟩
    | int j => obtain ⟨t, rfl⟩ := hq; exact ⟨.list_int j t ht hu, .list_int j t ht hu⟩
    | str z => obtain ⟨t, rfl⟩ := hq; exact ⟨.list_str z t ht hu, .list_str z t ht hu⟩
    | tup ys => obtain ⟨b, ws, rfl, ht2, _⟩ := hq; exact ⟨.list_tuple ht ht2 hu, .list_tuple ht ht2 hu⟩
    | lst ys => cases hn
/-- u == w of two trees -/
theorem eq_cp : ∀ (n : Nat) {A : Around} {p q : PV} {u w : Value}, CpD s.heap p u → CpD s.heap q w → A.units + n < cLine → (shal n p = true ∨ shal n q = true) → EqAt A s u w (pyEq p q) ∧ RcAt A s u w (pyEq p q) := by
  intro n
  induction n with
  | zero =>
    intro A p q u w hp hq hu hs
    have hu : A.units < cLine := by omega
    refine eq_flat hp hq hu ?_
    cases p <;> cases q <;> first | rfl | (simp [shal] at hs)
  | succ n ih =>
    intro A p q u w hp hq hu hs
    have hu0 : A.units < cLine := by omega
    have hu1 : A.in1.units + n < cLine := by show A.units + 1 + n < _; omega
    by_cases ht : twin p q = false
    · exact eq_flat hp hq hu0 ht
    cases p <;> cases q <;> first | exact absurd rfl ht | skip
    · rename_i xs ys
      have hs : shalL n xs = true ∨ shalL n ys = true := hs
      obtain ⟨a, us, rfl, ha, ra⟩ := hp
      obtain ⟨b, ws, rfl, hb, rb⟩ := hq
      have la := ra.len
      have lb := rb.len
      have e := pyEqL_range xs ys (fun j => pyEq (xs.getD j .non) (ys.getD j .non)) fun j h1 h2 => by simp [h1, h2]
      have rc : RcAt A s (.ref a) (.ref b) (pyEq (.tup xs) (.tup ys)) := by
        have q := RcAt.tuples (A := A) (s := s) (e := fun j => pyEq (xs.getD j .non) (ys.getD j .non)) ha hb hu0 fun j h1 h2 => by
          have k1 : j < us.length := by simpa using h1
          have k2 : j < ws.length := by simpa using h2
          have z := (ih (A := A.in1) (ra.at (by omega) k1) (rb.at (by omega) k2) hu1 (shal_sub _ _ hs)).1
          have e1 : xs.getD j .non = xs[j]'(by omega) := by simp [show j < xs.length by omega]
          have e2 : ys.getD j .non = ys[j]'(by omega) := by simp [show j < ys.length by omega]
          rw [e1, e2]
          simpa using z
        have e3 : (us.toArray.size == ws.toArray.size) = decide (xs.length = ys.length) := by simp [la, lb, Bool.beq_eq_decide_eq]
        rw [e3] at q
        have e4 : min us.toArray.size ws.toArray.size = min xs.length ys.length := by simp [la, lb]
        rw [e4, ← e] at q
        exact q
      refine ⟨?_, rc⟩
      by_cases hab : a = b
      · subst hab
        have := tup_obj ha hb
        subst this
        have := CpL.inj ra rb
        subst this
        rw [pyEq_refl]
        exact .same _
      · exact .of_refs hab rc
    · rename_i xs ys
      have hs : shalL n xs = true ∨ shalL n ys = true := hs
      obtain ⟨a, us, rfl, ha, ra⟩ := hp
      obtain ⟨b, ws, rfl, hb, rb⟩ := hq
      have la := ra.len
      have lb := rb.len
      have e := pyEqL_range xs ys (fun j => pyEq (xs.getD j .non) (ys.getD j .non)) fun j h1 h2 => by simp [h1, h2]
      have rc : RcAt A s (.ref a) (.ref b) (pyEq (.lst xs) (.lst ys)) := by
        show RcAt A s (.ref a) (.ref b) (pyEqL xs ys)
        by_cases hl : xs.length = ys.length
        · have q := RcAt.lists (A := A) (s := s) (e := fun j => pyEq (xs.getD j .non) (ys.getD j .non)) ha hb (by simp [la, lb, hl]) hu0 fun j h1 h2 => by
            have k1 : j < us.length := by simpa using h1
            have k2 : j < ws.length := by simpa using h2
            have z := (ih (A := A.in1) (ra.at (by omega) k1) (rb.at (by omega) k2) hu1 (shal_sub _ _ hs)).1
            have e1 : xs.getD j .non = xs[j]'(by omega) := by simp [show j < xs.length by omega]
            have e2 : ys.getD j .non = ys[j]'(by omega) := by simp [show j < ys.length by omega]
            rw [e1, e2]
            simpa using z
          have e4 : us.toArray.size = min xs.length ys.length := by simp [la, hl]
          rw [e4] at q
          rw [e, decide_eq_true hl, Bool.and_true]
          exact q
        · rw [e, decide_eq_false hl, Bool.and_false]
          exact RcAt.lists_lengths ha hb (by simp [la, lb, hl]) hu0
      refine ⟨?_, rc⟩
      by_cases hab : a = b
      · subst hab
        have := lst_obj ha hb
        subst this
        have := CpL.inj ra rb
        subst this
        rw [pyEq_refl]
        exact .same _
      · exact .of_refs hab rc
end
end Bw
end

section
set_option autoImplicit false
set_option linter.all false
/-! Bw D: the order of trees. -/
namespace Bw
open PySem L2 PySem.SeqAt Ob
mutual
theorem pyEq_comm : ∀ p q : PV, pyEq p q = pyEq q p
  | .non, q => by cases q <;> rfl
  | .bl a, q => by cases q <;> first | rfl | (simp only [pyEq]; exact Bool.beq_comm) | (simp only [pyEq, eq_comm])
  | .int a, q => by cases q <;> first | rfl | (simp only [pyEq, eq_comm])
  | .str a, q => by cases q <;> first | rfl | (simp only [pyEq, eq_comm])
  | .tup xs, q => by cases q <;> first | rfl | exact pyEqL_comm _ _
  | .lst xs, q => by cases q <;> first | rfl | exact pyEqL_comm _ _
theorem pyEqL_comm : ∀ p q : List PV, pyEqL p q = pyEqL q p
  | [], [] => rfl
  | [], _ :: _ => rfl
  | _ :: _, [] => rfl
  | x :: xs, y :: ys => by simp only [pyEqL]; rw [pyEq_comm x y, pyEqL_comm xs ys]
end
mutual
theorem cmpb_comm : ∀ p q : PV, cmpb p q = cmpb q p
  | .non, q => by cases q <;> rfl
  | .bl a, q => by cases q <;> rfl
  | .int a, q => by cases q <;> rfl
  | .str a, q => by cases q <;> rfl
  | .tup xs, q => by cases q <;> first | rfl | exact cmpbL_comm _ _
  | .lst xs, q => by cases q <;> rfl
theorem cmpbL_comm : ∀ p q : List PV, cmpbL p q = cmpbL q p
  | [], [] => rfl
  | [], _ :: _ => rfl
  | _ :: _, [] => rfl
  | x :: xs, y :: ys => by simp only [cmpbL]; rw [pyEq_comm x y, cmpbL_comm xs ys, cmpb_comm x y]
end
/-- lexicographic: F at the first unlike pair, z by the lengths -/
def lexG (F : PV → PV → Bool) (z : Nat → Nat → Bool) : List PV → List PV → Bool
  | x :: xs, y :: ys => if pyEq x y then lexG F z xs ys else F x y
  | xs, ys => z xs.length ys.length
theorem lexG_at {F : PV → PV → Bool} {z : Nat → Nat → Bool} (hz : ∀ a b, z (a + 1) (b + 1) = z a b) : ∀ (xs ys : List PV) (e r : Nat → Bool) (i n m : Nat),
    n = xs.length → m = ys.length →
    (∀ j (h1 : j < xs.length) (h2 : j < ys.length), e (i + j) = pyEq xs[j] ys[j]) → (∀ j (h1 : j < xs.length) (h2 : j < ys.length), r (i + j) = F xs[j] ys[j]) →
    lexAt e r (z (xs.length) (ys.length)) i (min n m) = lexG F z xs ys
  | [], ys, e, r, i, n, m, hn, hm, _, _ => by
    have : min n m = 0 := by simp [hn]
    rw [this]; simp [lexAt, lexG]
  | x :: xs, [], e, r, i, n, m, hn, hm, _, _ => by
    have : min n m = 0 := by simp [hm]
    rw [this]; simp [lexAt, lexG]
  | x :: xs, y :: ys, e, r, i, n, m, hn, hm, he, hr => by
    have q : min n m = min xs.length ys.length + 1 := by simp only [hn, hm, List.length_cons]; omega
    rw [q, lexAt_succ]
    have e0 := he 0 (by simp) (by simp)
    have r0 := hr 0 (by simp) (by simp)
    simp only [Nat.add_zero, List.getElem_cons_zero] at e0 r0
    rw [e0, r0]
    show _ = if pyEq x y then lexG F z xs ys else F x y
    by_cases c : pyEq x y = true
    · rw [if_pos c, if_pos c]
      have ih := lexG_at hz xs ys e r (i + 1) _ _ rfl rfl (fun j h1 h2 => by
        have := he (j + 1) (by simpa using h1) (by simpa using h2)
        rw [show i + 1 + j = i + (j + 1) by omega]
        simpa using this) (fun j h1 h2 => by
        have := hr (j + 1) (by simpa using h1) (by simpa using h2)
        rw [show i + 1 + j = i + (j + 1) by omega]
        simpa using this)
      rw [← ih]
      congr 1
      exact hz _ _
    · rw [if_neg c, if_neg c]
theorem ltTL_lex : ∀ xs ys : List PV, ltTL xs ys = lexG ltT (fun a b => decide (a < b)) xs ys
  | [], [] => rfl
  | [], _ :: _ => by simp [ltTL, lexG]
  | _ :: _, [] => by simp [ltTL, lexG]
  | x :: xs, y :: ys => by simp only [ltTL, lexG]; rw [ltTL_lex xs ys]
theorem gtTL_lex : ∀ xs ys : List PV, ltTL ys xs = lexG (fun x y => ltT y x) (fun a b => decide (a > b)) xs ys
  | [], [] => rfl
  | [], _ :: _ => by simp [ltTL, lexG]
  | _ :: _, [] => by simp [ltTL, lexG]
  | x :: xs, y :: ys => by simp only [ltTL, lexG]; rw [gtTL_lex xs ys, pyEq_comm y x]
theorem leTL_lex : ∀ xs ys : List PV, (!ltTL ys xs) = lexG (fun x y => !ltT y x) (fun a b => decide (a ≤ b)) xs ys
  | [], [] => rfl
  | [], _ :: _ => by simp [ltTL, lexG]
  | _ :: _, [] => by simp [ltTL, lexG]
  | x :: xs, y :: ys => by
    simp only [ltTL, lexG]; rw [← leTL_lex xs ys, pyEq_comm y x]
    split <;> rfl
theorem geTL_lex : ∀ xs ys : List PV, (!ltTL xs ys) = lexG (fun x y => !ltT x y) (fun a b => decide (a ≥ b)) xs ys
  | [], [] => rfl
  | [], _ :: _ => by simp [ltTL, lexG]
  | _ :: _, [] => by simp [ltTL, lexG]
  | x :: xs, y :: ys => by
    simp only [ltTL, lexG]; rw [← geTL_lex xs ys]
    split <;> rfl
theorem cmpbL_at : ∀ {xs ys : List PV}, cmpbL xs ys = true → ∀ j (h1 : j < xs.length) (h2 : j < ys.length), pyEq xs[j] ys[j] = false → cmpb xs[j] ys[j] = true
  | [], _, _, _, h1, _, _ => absurd h1 (by simp)
  | _ :: _, [], _, _, _, h2, _ => absurd h2 (by simp)
  | x :: xs, y :: ys, h, 0, _, _, hn => by
    simp only [cmpbL, Bool.and_eq_true, Bool.or_eq_true] at h
    simp only [List.getElem_cons_zero] at hn ⊢
    exact h.1.resolve_left (by rw [hn]; simp)
  | x :: xs, y :: ys, h, j + 1, h1, h2, hn => by
    simp only [cmpbL, Bool.and_eq_true, Bool.or_eq_true] at h
    simp only [List.getElem_cons_succ] at hn ⊢
    exact cmpbL_at h.2 j _ _ hn
section
variable {s : Shared}
/-- the four orders of two trees -/
theorem lt_cp : ∀ (n : Nat) {A : Around} {p q : PV} {u w : Value}, CpD s.heap p u → CpD s.heap q w → A.units + n < cLine → (shal n p = true ∨ shal n q = true) → cmpb p q = true →
    Ob.RcOp .Lt A s u w (ltT p q) ∧ Ob.RcOp .Gt A s u w (ltT q p) ∧ Ob.RcOp .LtE A s u w (!ltT q p) ∧ Ob.RcOp .GtE A s u w (!ltT p q) := by
  intro n
  induction n with
  | zero =>
    intro A p q u w hp hq hu hs hc
    cases p <;> cases q <;> first | (cases hc; done) | (simp [shal] at hs; done) | skip
    · rename_i i j
      obtain ⟨t, rfl⟩ := hp
      obtain ⟨t', rfl⟩ := hq
      have e1 : decide (i ≤ j) = (!decide (j < i)) := by rw [← decide_not]; exact decide_eq_decide.mpr (by omega)
      have e2 : decide (j ≤ i) = (!decide (i < j)) := by rw [← decide_not]; exact decide_eq_decide.mpr (by omega)
      exact ⟨.lt_int i j t t', .gt_int i j t t', e1 ▸ .le_int i j t t', e2 ▸ .ge_int i j t t'⟩
    · obtain ⟨t, rfl⟩ := hp
      obtain ⟨t', rfl⟩ := hq
      exact ⟨fun _ _ _ _ h => PyProof.Rows.lt_str h, fun _ _ _ _ h => PySem.P.gt_str h, fun _ _ _ _ h => PySem.P.le_str h, fun _ _ _ _ h => PySem.P.ge_str h⟩
  | succ n ih =>
    intro A p q u w hp hq hu hs hc
    have hu0 : A.units < cLine := by omega
    have hu1 : A.in1.units + n < cLine := by show A.units + 1 + n < _; omega
    cases p <;> cases q <;> first | (cases hc; done) | skip
    · rename_i i j
      obtain ⟨t, rfl⟩ := hp
      obtain ⟨t', rfl⟩ := hq
      have e1 : decide (i ≤ j) = (!decide (j < i)) := by rw [← decide_not]; exact decide_eq_decide.mpr (by omega)
      have e2 : decide (j ≤ i) = (!decide (i < j)) := by rw [← decide_not]; exact decide_eq_decide.mpr (by omega)
      exact ⟨.lt_int i j t t', .gt_int i j t t', e1 ▸ .le_int i j t t', e2 ▸ .ge_int i j t t'⟩
    · obtain ⟨t, rfl⟩ := hp
      obtain ⟨t', rfl⟩ := hq
      exact ⟨fun _ _ _ _ h => PyProof.Rows.lt_str h, fun _ _ _ _ h => PySem.P.gt_str h, fun _ _ _ _ h => PySem.P.le_str h, fun _ _ _ _ h => PySem.P.ge_str h⟩
    · rename_i xs ys
      have hs : shalL n xs = true ∨ shalL n ys = true := hs
      have hc : cmpbL xs ys = true := hc
      obtain ⟨a, us, rfl, ha, ra⟩ := hp
      obtain ⟨b, ws, rfl, hb, rb⟩ := hq
      have la := ra.len
      have lb := rb.len
      have g1 : ∀ j, j < xs.length → xs.getD j .non = xs.getD j .non := fun _ _ => rfl
      have ex : ∀ j (h : j < xs.length), xs.getD j .non = xs[j] := fun j h => by simp [h]
      have ey : ∀ j (h : j < ys.length), ys.getD j .non = ys[j] := fun j h => by simp [h]
      have he : ∀ j (h1 : j < us.toArray.size) (h2 : j < ws.toArray.size), EqAt A.in1 s us.toArray[j] ws.toArray[j] (pyEq (xs.getD j .non) (ys.getD j .non)) := fun j h1 h2 => by
        have k1 : j < us.length := by simpa using h1
        have k2 : j < ws.length := by simpa using h2
        rw [ex j (by omega), ey j (by omega)]
        simpa using (eq_cp n (A := A.in1) (ra.at (by omega) k1) (rb.at (by omega) k2) hu1 (shal_sub _ _ hs)).1
      have hr : ∀ j (h1 : j < us.toArray.size) (h2 : j < ws.toArray.size), pyEq (xs.getD j .non) (ys.getD j .non) = false →
          Ob.RcOp .Lt A.in1 s us.toArray[j] ws.toArray[j] (ltT (xs.getD j .non) (ys.getD j .non)) ∧ Ob.RcOp .Gt A.in1 s us.toArray[j] ws.toArray[j] (ltT (ys.getD j .non) (xs.getD j .non)) ∧
          Ob.RcOp .LtE A.in1 s us.toArray[j] ws.toArray[j] (!ltT (ys.getD j .non) (xs.getD j .non)) ∧ Ob.RcOp .GtE A.in1 s us.toArray[j] ws.toArray[j] (!ltT (xs.getD j .non) (ys.getD j .non)) := fun j h1 h2 hn => by
        have k1 : j < us.length := by simpa using h1
        have k2 : j < ws.length := by simpa using h2
        have z := ih (A := A.in1) (ra.at (by omega) k1) (rb.at (by omega) k2) hu1 (shal_sub (by omega) (by omega) hs) (cmpbL_at hc j (by omega) (by omega) (by rw [ex j (by omega), ey j (by omega)] at hn; exact hn))
        rw [← ex j (by omega), ← ey j (by omega)] at z
        simpa using z
      have s1 : us.toArray.size = xs.length := by simp [la]
      have s2 : ws.toArray.size = ys.length := by simp [lb]
      refine ⟨?_, ?_, ?_, ?_⟩
      · have q := Ob.RcOp.tuples_lt (r := fun j => ltT (xs.getD j .non) (ys.getD j .non)) ha hb hu0 he fun j h1 h2 hn => (hr j h1 h2 hn).1
        rw [s1, s2, lexG_at (F := ltT) (z := fun a b => decide (a < b)) (fun a b => by simp) xs ys _ _ 0 _ _ rfl rfl (fun j h1 h2 => by simp [h1, h2]) (fun j h1 h2 => by simp [h1, h2]), ← ltTL_lex] at q
        exact q
      · have q := Ob.RcOp.tuples_gt (r := fun j => ltT (ys.getD j .non) (xs.getD j .non)) ha hb hu0 he fun j h1 h2 hn => (hr j h1 h2 hn).2.1
        rw [s1, s2, lexG_at (F := fun x y => ltT y x) (z := fun a b => decide (a > b)) (fun a b => by simp) xs ys _ _ 0 _ _ rfl rfl (fun j h1 h2 => by simp [h1, h2]) (fun j h1 h2 => by simp [h1, h2]), ← gtTL_lex] at q
        exact q
      · have q := Ob.RcOp.tuples_le (r := fun j => !ltT (ys.getD j .non) (xs.getD j .non)) ha hb hu0 he fun j h1 h2 hn => (hr j h1 h2 hn).2.2.1
        rw [s1, s2, lexG_at (F := fun x y => !ltT y x) (z := fun a b => decide (a ≤ b)) (fun a b => by simp) xs ys _ _ 0 _ _ rfl rfl (fun j h1 h2 => by simp [h1, h2]) (fun j h1 h2 => by simp [h1, h2]), ← leTL_lex] at q
        exact q
      · have q := Ob.RcOp.tuples_ge (r := fun j => !ltT (xs.getD j .non) (ys.getD j .non)) ha hb hu0 he fun j h1 h2 hn => (hr j h1 h2 hn).2.2.2
        rw [s1, s2, lexG_at (F := fun x y => !ltT x y) (z := fun a b => decide (a ≥ b)) (fun a b => by simp) xs ys _ _ 0 _ _ rfl rfl (fun j h1 h2 => by simp [h1, h2]) (fun j h1 h2 => by simp [h1, h2]), ← geTL_lex] at q
        exact q
end
end Bw
end

section
set_option autoImplicit false
set_option linter.all false
set_option maxRecDepth 100000
set_option maxHeartbeats 4000000
/-! Bw E0: t * 1 is t. -/
namespace Bw
open PySem L2 PySem.Spec PyProof.Rows
theorem tuple_one (l : Addr) (items : Array Value) (n : Nat) (dd : Option Addr) (sl : Array (Option Value)) (u : Tok) :
    Meets (Builtin.«tuple.__mul__» ⟨[.ref l, .int 1 u], []⟩) (fun _ R s => s.heap.get? l = some { cls := .type "tuple", dict := dd, data := .seq items n, slots := sl } ∧ R (.ok (.ret (Value.ref l))) s) :=
  .of_wp fun prog w A R s h => by
    obtain ⟨hp, g, d, tk, os⟩ := s
    obtain ⟨hl, h⟩ := h
    have f1 := AutoSeq1.idx_int
    have c0 : ¬ (decide ((1 : Int) < -(2 ^ 63)) || decide ((1 : Int) ≥ 2 ^ 63)) = true := by decide
    have c1 : (items.isEmpty || (1 : Int) == 1) = true := by simp
    wp_walk using wpAny_loadPart' hl
    repeat (first
      | (refine wpAny_ite_false (decide_eq_false c0) ?_; wp_walk using wpAny_loadPart' hl)
      | (refine wpAny_ite_true (decide_eq_true c1) ?_; wp_walk using wpAny_loadPart' hl))
    exact ⟨_, rfl, h⟩
def rOne (K : PySem.W.Frag) : R2 := fun x y H Q => ∃ l xs, x = .ref l ∧ y = .int 1 ∧ SqT K H l xs ∧ Q (.ref l) H
theorem op_one {X : Cx} : OpR X (binaryOp .Mult) (rOne X.K) := by
  intro pins st σ H x y v u Q J ra rb h
  obtain ⟨l, xs, rfl, rfl, hT, q⟩ := h
  cases ra
  obtain ⟨tk, rfl⟩ := rb
  obtain ⟨its, r, ⟨⟨cl, dd, dt, sl⟩, ho, hc, n, hd⟩, hs⟩ := J.tuple hT
  simp only at hc hd
  subst hc hd
  have fin : EP X pins σ Q (.ref l) st := ⟨.ref l, H, J, rfl, q⟩
  exact wpAny_binaryOp_repeat_ref (T := "tuple") (U := "int") (by decide) ⟨_, ho, rfl⟩ (fun z => typeIs_int z 1 tk) noFill_tuple_mul F.fills_int_mul F.slot_int_rmul repeat_tuple F.slot_int_index.lookup
    (call_meets F.slot_int_rmul (typeIs_int st 1 tk) F.entry_int_rmul (F.args_int_rmul_2 _ _) (int_rmul_tuple 1 tk l its.toArray n dd sl) ⟨ho, rfl, ⟨_, ho, rfl⟩, call_meets F.slot_tuple_mul ⟨_, ho, rfl⟩ F.entry_tuple_mul (F.args_tuple_mul_2 _ _) (tuple_one l its.toArray n dd sl tk) ⟨ho, fin⟩⟩)
end Bw
end

section
set_option autoImplicit false
set_option linter.all false
/-! Bw E: the operations, by values. -/
namespace Bw
open PySem L2 PySem.SeqAt Ob
theorem line_eq : line = sizeLine := by rw [sizeLine_eq]; rfl
/-- two operands that may be read, and what is wanted of g of them -/
def rB (F : Fr) (m : Md) (g : SV → SV → Res SV) : R2 := fun x y H Q => ∃ s t R σ, Sub R H ∧ Rm F R H .t s x ∧ Rm F R H .t t y ∧ Post F m R σ H (g s t) Q
section
variable {X : Cx} {F : Fr} {pins : List (Addr × Obj)} {σ : L2.St} {H R : Hp} {s : Shared} {x : V}
theorem Rm.non (r : Rm F R H .t (.d .non) x) : x = .non := by
  rcases r with r | ⟨_, _, _, e, _⟩
  · exact r
  · cases e
theorem Rm.bl {b : Bool} (r : Rm F R H .t (.d (.bl b)) x) : x = .bl b := by
  rcases r with r | ⟨_, _, _, e, _⟩
  · exact r
  · cases e
theorem Rm.int {i : Int} (r : Rm F R H .t (.d (.int i)) x) : x = .int i := by
  rcases r with r | ⟨_, _, _, e, _⟩
  · exact r
  · cases e
theorem Rm.str {z : Str} (r : Rm F R H .t (.d (.str z)) x) : x = .str z ∧ z.length ≤ sizeLine := by
  rcases r with r | ⟨_, _, _, e, _⟩
  · rw [← line_eq]; exact r
  · cases e
theorem Rm.tup {ps : List PV} (r : Rm F R H .t (.d (.tup ps)) x) : ∃ a vs, x = .ref a ∧ SqT F.K R a vs ∧ RpL F.K R ps vs ∧ ps.length ≤ line := by
  rcases r with r | ⟨_, _, _, e, _⟩
  · obtain ⟨a, vs, e, h, z, q⟩ := r
    exact ⟨a, vs, e, h, q, z⟩
  · cases e
theorem Rm.lst {ps : List PV} (hs : Sub R H) (r : Rm F R H .t (.d (.lst ps)) x) : ∃ a vs, x = .ref a ∧ H a = some (.lst vs) ∧ RpL F.K R ps vs ∧ ps.length ≤ line := by
  rcases r with r | ⟨qs, a, vs, e, e2, h, q, z, _⟩
  · obtain ⟨a, vs, e, h, z, q⟩ := r
    exact ⟨a, vs, e, hs _ _ h, q, z⟩
  · cases e
    exact ⟨a, vs, e2, h, q, z⟩
theorem Rm.dic {ks : List (PV × PV)} (r : Rm F R H .t (.dic ks) x) : False := by
  rcases r with r | ⟨_, _, _, e, _⟩
  · exact r
  · cases e
theorem Rm.scr {ns : List Int} (r : Rm F R H .t (.scr ns) x) : ∃ a, x = .ref a ∧ SqL F.K R a (ns.map V.int) ∧ ns.length ≤ line := by
  rcases r with r | ⟨_, _, _, e, _⟩
  · exact r
  · cases e
theorem Rm.ins {c : Nat} {ks : List SV} (r : Rm F R H .t (.ins c ks) x) : False := by
  rcases r with r | ⟨_, _, _, e, _⟩
  · exact r
  · cases e
/-- the tree in the machine's heap -/
theorem Inv.cpT (I : Inv X pins σ H s) (hK : F.K = X.K) (hs : Sub R H) {p : PV} {u : Value} (r : Rm F R H .t (.d p) x) (ru : RelV x u) : CpD s.heap p u := by
  rcases r with r | ⟨qs, a, vs, e, e2, h, q, z, _⟩
  · exact cp_of I hs (by rw [← hK]; exact r) ru
  · cases e
    subst e2
    obtain ⟨its, rv, ht, _⟩ := I.list (SqL.of h)
    exact ⟨a, its, ru, ht.isList, cpl_of I hs (by rw [← hK]; exact q) rv⟩
/-- a new tuple, a new list -/
theorem RpS.newT {p : Addr} {ps : List PV} {vs : List V} {R : Hp} (hp : R p = none) (r : RpL F.K R ps vs) (z : ps.length ≤ line) : RpS F.K (upd R p (.tup vs)) (.d (.tup ps)) (.ref p) :=
  ⟨p, vs, rfl, .of upd_same, z, r.mono fun a o e => by rw [upd_ne (ne_of_none e hp)]; exact e⟩
theorem RpS.newL {p : Addr} {ps : List PV} {vs : List V} {R : Hp} (hp : R p = none) (r : RpL F.K R ps vs) (z : ps.length ≤ line) : RpS F.K (upd R p (.lst vs)) (.d (.lst ps)) (.ref p) :=
  ⟨p, vs, rfl, upd_same, z, r.mono fun a o e => by rw [upd_ne (ne_of_none e hp)]; exact e⟩
theorem Sub.none (hs : Sub R H) {p : Addr} (h : H p = none) : R p = none := by
  cases e : R p with
  | none => rfl
  | some o => rw [hs _ _ e] at h; cases h
theorem Post.newT {Q : VK} {ps : List PV} {vs : List V} (hs : Sub R H) (h : Post F .e R σ H (.ok (.d (.tup ps))) Q) {p : Addr} (hp : H p = none) (r : RpL F.K R ps vs) (z : ps.length ≤ line) : Q (.ref p) (upd H p (.tup vs)) :=
  h _ _ _ (.new hs hp _) (RpS.newT (F := F) (hs.none hp) r z)
theorem Post.newL {Q : VK} {ps : List PV} {vs : List V} (hs : Sub R H) (h : Post F .e R σ H (.ok (.d (.lst ps))) Q) {p : Addr} (hp : H p = none) (r : RpL F.K R ps vs) (z : ps.length ≤ line) : Q (.ref p) (upd H p (.lst vs)) :=
  h _ _ _ (.new hs hp _) (RpS.newL (F := F) (hs.none hp) r z)
def opOf : BOp → Operator
  | .add => .Add | .sub => .Sub | .mul => .Mult | .fdiv => .FloorDiv | .mod => .Mod | .pow => .Pow | .shl => .LShift | .shr => .RShift | .band => .BitAnd
theorem op_bin (hK : F.K = X.K) (op : BOp) : OpR X (binaryOp (opOf op)) (rB F .e (binop op)) := by
  intro pins s σ H x y v u Q I rx ry ⟨a, b, R, σ', hs, ra, rb, h⟩
  have bad : ∀ {α : Prop}, Post F .e R σ' H .bad Q → α := fun h => h.elim
  cases a with
  | dic _ => exact ra.dic.elim
  | ins _ _ => exact ra.ins.elim
  | scr _ => cases op <;> exact bad h
  | d p =>
  cases b with
  | dic _ => exact rb.dic.elim
  | ins _ _ => exact rb.ins.elim
  | scr _ => cases op <;> cases p <;> exact bad h
  | d q =>
  cases op
  case add =>
    cases p <;> cases q <;> first | exact bad h | skip
    · obtain rfl := ra.int; obtain rfl := rb.int
      exact op_add pins s σ H _ _ v u Q I rx ry ⟨_, _, rfl, rfl, Post.now hs h rfl⟩
    · obtain ⟨rfl, z1⟩ := ra.str; obtain ⟨rfl, z2⟩ := rb.str
      rename_i i j
      have h : Post F .e R σ' H (if i.length + j.length ≤ line then Res.ok (.d (.str (i ++ j))) else .bad) Q := h
      by_cases c : i.length + j.length ≤ line
      · rw [if_pos c] at h
        refine op_add_str pins s σ H _ _ v u Q I rx ry ⟨_, _, rfl, rfl, line_eq ▸ c, Post.now hs h ⟨rfl, ?_⟩⟩
        show (i.cps ++ j.cps).size ≤ line
        rw [Array.size_append]; exact c
      · rw [if_neg c] at h; exact h.elim
    · obtain ⟨a1, vs1, rfl, s1, r1, z1⟩ := ra.tup
      obtain ⟨a2, vs2, rfl, s2, r2, z2⟩ := rb.tup
      rename_i xs ys
      have h : Post F .e R σ' H ((chk (xs ++ ys)).bind fun zs => .ok (.d (.tup zs))) Q := h
      unfold chk at h
      by_cases c : (xs ++ ys).length ≤ line
      · rw [if_pos c] at h
        simp only [Res.bind_ok] at h
        have l1 := r1.len
        have l2 := r2.len
        have c' : xs.length + ys.length ≤ line := by simpa using c
        rw [hK] at s1 s2
        refine op_catA pins s σ H _ _ v u Q I rx ry ⟨a1, a2, vs1, vs2, rfl, rfl, hs.seqT s1, hs.seqT s2, by rw [← line_eq]; omega, fun e => ?_, fun _ e => ?_, fun _ _ p hp => ?_⟩
        · have : xs = [] := List.length_eq_zero_iff.mp (by rw [← l1, e]; rfl)
          subst this
          exact Post.now hs h ⟨a2, vs2, rfl, hK ▸ s2, c, r2⟩
        · have : ys = [] := List.length_eq_zero_iff.mp (by rw [← l2, e]; rfl)
          subst this
          exact Post.now hs h ⟨a1, vs1, rfl, hK ▸ s1, c, by rw [List.append_nil]; exact r1⟩
        · exact Post.newT hs h hp (r1.append r2) c
      · rw [if_neg c] at h; exact h.elim
    · obtain ⟨a1, vs1, rfl, s1, r1, z1⟩ := ra.lst hs
      obtain ⟨a2, vs2, rfl, s2, r2, z2⟩ := rb.lst hs
      rename_i xs ys
      have h : Post F .e R σ' H ((chk (xs ++ ys)).bind fun zs => .ok (.d (.lst zs))) Q := h
      unfold chk at h
      by_cases c : (xs ++ ys).length ≤ line
      · rw [if_pos c] at h
        simp only [Res.bind_ok] at h
        have l1 := r1.len
        have l2 := r2.len
        have c' : xs.length + ys.length ≤ line := by simpa using c
        exact op_cat pins s σ H _ _ v u Q I rx ry ⟨a1, a2, vs1, vs2, rfl, rfl, s1, s2, by rw [← line_eq]; omega, fun p hp => Post.newL hs h hp (r1.append r2) c⟩
      · rw [if_neg c] at h; exact h.elim
  case sub =>
    cases p <;> cases q <;> first | exact bad h | skip
    obtain rfl := ra.int; obtain rfl := rb.int
    exact op_sub pins s σ H _ _ v u Q I rx ry ⟨_, _, rfl, rfl, Post.now hs h rfl⟩
  case mul =>
    cases p <;> cases q <;> first | exact bad h | skip
    · rename_i i j
      obtain rfl := ra.int; obtain rfl := rb.int
      have h : Post F .e R σ' H (if i.natAbs < 2 ^ 64 ∨ j.natAbs < 2 ^ 64 then Res.ok (.d (.int (i * j))) else .bad) Q := h
      by_cases c : i.natAbs < 2 ^ 64 ∨ j.natAbs < 2 ^ 64
      · rw [if_pos c] at h
        exact op_mul pins s σ H _ _ v u Q I rx ry ⟨_, _, rfl, rfl, (show (-(2 ^ 64) < i ∧ i < 2 ^ 64) ∨ (-(2 ^ 64) < j ∧ j < 2 ^ 64) by omega), Post.now hs h rfl⟩
      · rw [if_neg c] at h; exact h.elim
    · rename_i xs n
      obtain rfl := rb.int
      obtain ⟨a1, vs1, rfl, s1, r1, z1⟩ := ra.tup
      have h : Post F .e R σ' H (if 1 ≤ n ∧ n ≤ 1000 ∧ xs.length ≤ 1000 ∧ xs.length ≠ 0 then Res.ok (.d (.tup (rep n.toNat xs))) else .bad) Q := h
      by_cases c : 1 ≤ n ∧ n ≤ 1000 ∧ xs.length ≤ 1000 ∧ xs.length ≠ 0
      · rw [if_pos c] at h
        have l1 := r1.len
        rw [hK] at s1
        have hr : ∀ m : Nat, RpL F.K R (List.replicate m xs).flatten (List.replicate m vs1).flatten := fun m => by
          induction m with
          | zero => exact rfl
          | succ m ih => rw [List.replicate_succ, List.replicate_succ, List.flatten_cons, List.flatten_cons]; exact r1.append ih
        by_cases one : n = 1
        · subst one
          refine op_one pins s σ H _ _ v u Q I rx ry ⟨a1, vs1, rfl, rfl, hs.seqT s1, Post.now hs h ?_⟩
          have e : rep (1 : Int).toNat xs = xs := by simp [rep]
          rw [e]
          exact ⟨a1, vs1, rfl, by rw [hK]; exact s1, z1, r1⟩
        refine op_repT pins s σ H _ _ v u Q I rx ry ⟨a1, n, vs1, rfl, rfl, hs.seqT s1, fun e => c.2.2.2 (by rw [← l1, e]; rfl), by omega, c.2.1, by omega, fun p hp => Post.newT hs h hp (hr _) ?_⟩
        show (List.replicate n.toNat xs).flatten.length ≤ line
        rw [List.length_flatten, List.map_replicate, List.sum_replicate_nat]
        have : n.toNat ≤ 1000 := by omega
        exact Nat.le_trans (Nat.mul_le_mul this c.2.2.1) (by decide)
      · rw [if_neg c] at h; exact h.elim
    · rename_i xs n
      obtain rfl := rb.int
      obtain ⟨a1, vs1, rfl, s1, r1, z1⟩ := ra.lst hs
      have h : Post F .e R σ' H (if n.natAbs < 2 ^ 62 ∧ xs.length * n.toNat ≤ line then Res.ok (.d (.lst (rep n.toNat xs))) else .bad) Q := h
      by_cases c : n.natAbs < 2 ^ 62 ∧ xs.length * n.toNat ≤ line
      · rw [if_pos c] at h
        have l1 := r1.len
        have hr : ∀ m : Nat, RpL F.K R (List.replicate m xs).flatten (List.replicate m vs1).flatten := fun m => by
          induction m with
          | zero => exact rfl
          | succ m ih => rw [List.replicate_succ, List.replicate_succ, List.flatten_cons, List.flatten_cons]; exact r1.append ih
        refine op_rep pins s σ H _ _ v u Q I rx ry ⟨a1, n, vs1, rfl, rfl, s1, by omega, by omega, by rw [l1, ← line_eq]; exact c.2, fun p hp => Post.newL hs h hp (hr _) ?_⟩
        show (List.replicate n.toNat xs).flatten.length ≤ line
        rw [List.length_flatten, List.map_replicate, List.sum_replicate_nat, Nat.mul_comm]
        exact c.2
      · rw [if_neg c] at h; exact h.elim
  case fdiv =>
    cases p <;> cases q <;> first | exact bad h | skip
    rename_i i j
    obtain rfl := ra.int; obtain rfl := rb.int
    have h : Post F .e R σ' H (if 0 < j ∧ j.natAbs < 1073741824 then Res.ok (.d (.int (i / j))) else .bad) Q := h
    by_cases c : 0 < j ∧ j.natAbs < 1073741824
    · rw [if_pos c] at h
      exact op_fdiv pins s σ H _ _ v u Q I rx ry ⟨_, _, rfl, rfl, (show 0 < j ∧ j < 1073741824 by omega), Post.now hs h rfl⟩
    · rw [if_neg c] at h; exact h.elim
  case mod =>
    cases p <;> cases q <;> first | exact bad h | skip
    rename_i i j
    obtain rfl := ra.int; obtain rfl := rb.int
    have h : Post F .e R σ' H (if 0 < j then Res.ok (.d (.int (i % j))) else .bad) Q := h
    by_cases c : 0 < j
    · rw [if_pos c] at h
      exact op_mod pins s σ H _ _ v u Q I rx ry ⟨_, _, rfl, rfl, c, Post.now hs h rfl⟩
    · rw [if_neg c] at h; exact h.elim
  case pow =>
    cases p <;> cases q <;> first | exact bad h | skip
    rename_i i j
    obtain rfl := ra.int; obtain rfl := rb.int
    have h : Post F .e R σ' H (if 0 ≤ j ∧ j.natAbs ≤ 1000000 ∧ i.natAbs < 2 ^ 64 then Res.ok (.d (.int (i ^ j.toNat))) else .bad) Q := h
    by_cases c : 0 ≤ j ∧ j.natAbs ≤ 1000000 ∧ i.natAbs < 2 ^ 64
    · rw [if_pos c] at h
      exact op_pow pins s σ H _ _ v u Q I rx ry ⟨_, _, rfl, rfl, (show 0 ≤ j ∧ j ≤ 1000000 ∧ i.natAbs < 2 ^ 64 by omega), Post.now hs h rfl⟩
    · rw [if_neg c] at h; exact h.elim
  case shl =>
    cases p <;> cases q <;> first | exact bad h | skip
    rename_i i j
    obtain rfl := ra.int; obtain rfl := rb.int
    have h : Post F .e R σ' H (if 0 ≤ j ∧ j.natAbs ≤ 1000000 ∧ i.natAbs < 2 ^ 64 then Res.ok (.d (.int (i * 2 ^ j.toNat))) else .bad) Q := h
    by_cases c : 0 ≤ j ∧ j.natAbs ≤ 1000000 ∧ i.natAbs < 2 ^ 64
    · rw [if_pos c] at h
      exact op_shl pins s σ H _ _ v u Q I rx ry ⟨_, _, rfl, rfl, (show 0 ≤ j ∧ j ≤ 1000000 ∧ i.natAbs < 2 ^ 64 by omega), Post.now hs h rfl⟩
    · rw [if_neg c] at h; exact h.elim
  case shr =>
    cases p <;> cases q <;> first | exact bad h | skip
    rename_i i j
    obtain rfl := ra.int; obtain rfl := rb.int
    have h : Post F .e R σ' H (if 0 ≤ j then Res.ok (.d (.int (i / 2 ^ j.toNat))) else .bad) Q := h
    by_cases c : 0 ≤ j
    · rw [if_pos c] at h
      exact op_shr pins s σ H _ _ v u Q I rx ry ⟨_, _, rfl, rfl, c, Post.now hs h rfl⟩
    · rw [if_neg c] at h; exact h.elim
  case band =>
    cases p <;> cases q <;> exact bad h
end
end Bw
end

section
set_option autoImplicit false
set_option linter.all false
/-! Bw F: trees as the library's data. -/
namespace Bw
open PySem L2 PySem.SeqAt PySem.W
mutual
def toD : PV → PyData
  | .non => .none
  | .bl b => .bool b
  | .int i => .int i
  | .str s => .str s
  | .tup xs => .tuple (toDL xs)
  | .lst xs => .list (toDL xs)
def toDL : List PV → List PyData
  | [] => []
  | x :: xs => toD x :: toDL xs
end
theorem toDL_map : ∀ xs : List PV, toDL xs = xs.map toD
  | [] => rfl
  | x :: xs => by rw [toDL, toDL_map xs]; rfl
mutual
theorem reads_of {h : Heap} : ∀ {p : PV} {u : Value}, CpD h p u → ∃ as, Reads h u (toD p) as
  | .non, u, e => by obtain rfl : u = _ := e; exact ⟨_, .none⟩
  | .bl b, u, e => by obtain rfl : u = _ := e; exact ⟨_, .bool b⟩
  | .int i, _, ⟨t, e⟩ => by subst e; exact ⟨_, .int i t⟩
  | .str i, _, ⟨t, e⟩ => by subst e; exact ⟨_, .str i t⟩
  | .tup xs, _, ⟨a, us, e, ⟨o, h1, h2, n, h3⟩, rs⟩ => by
    obtain ⟨as, r⟩ := readsL_of rs
    subst e; exact ⟨as, .tuple h1 h2 h3 (by simpa using r)⟩
  | .lst xs, _, ⟨a, us, e, ⟨o, h1, h2, n, h3⟩, rs⟩ => by
    obtain ⟨as, r⟩ := readsL_of rs
    subst e; exact ⟨a :: as, .list h1 h2 h3 (by simpa using r)⟩
theorem readsL_of {h : Heap} : ∀ {p : List PV} {u : List Value}, CpL h p u → ∃ as, ReadsAll h u (toDL p) as
  | [], u, e => by obtain rfl : u = _ := e; exact ⟨_, .nil⟩
  | x :: xs, _, ⟨u, ws, e, r, rs⟩ => by
    obtain ⟨as, h1⟩ := reads_of r
    obtain ⟨bs, h2⟩ := readsL_of rs
    subst e; exact ⟨_, .cons h1 h2⟩
end
mutual
theorem plain_toD : ∀ p : PV, (toD p).plain = true
  | .non => rfl
  | .bl b => rfl
  | .int i => rfl
  | .str i => rfl
  | .tup xs => plainL_toD xs
  | .lst xs => plainL_toD xs
theorem plainL_toD : ∀ p : List PV, PyData.plainAll (toDL p) = true
  | [] => rfl
  | x :: xs => by rw [toDL, PyData.plainAll, plain_toD x, plainL_toD xs]; rfl
end
mutual
theorem depth_toD : ∀ (p : PV) (n : Nat), shal n p = true ↔ (toD p).depth ≤ n
  | .non, n => by cases n <;> simp [shal, toD, PyData.depth]
  | .bl b, n => by cases n <;> simp [shal, toD, PyData.depth]
  | .int i, n => by cases n <;> simp [shal, toD, PyData.depth]
  | .str i, n => by cases n <;> simp [shal, toD, PyData.depth]
  | .tup xs, 0 => by simp [shal, toD, PyData.depth]
  | .tup xs, n + 1 => by simp only [shal, toD, PyData.depth]; rw [depthL_toD xs n]; omega
  | .lst xs, 0 => by simp [shal, toD, PyData.depth]
  | .lst xs, n + 1 => by simp only [shal, toD, PyData.depth]; rw [depthL_toD xs n]; omega
theorem depthL_toD : ∀ (p : List PV) (n : Nat), shalL n p = true ↔ PyData.depthAll (toDL p) ≤ n
  | [], n => by simp [shalL, toDL, PyData.depthAll]
  | x :: xs, n => by
    simp only [shalL, toDL, PyData.depthAll, Bool.and_eq_true]
    rw [depth_toD x n, depthL_toD xs n]; omega
end
mutual
theorem eqv_toD : ∀ p q : PV, PyData.eqv (toD p) (toD q) = pyEq p q
  | .non, q => by cases q <;> simp [toD, PyData.eqv, pyEq]
  | .bl b, q => by cases q <;> first | (simp [toD, PyData.eqv, pyEq, Bw.b2i, Bool.beq_eq_decide_eq]; done) | (simp only [toD, PyData.eqv, pyEq, Bw.b2i, Bool.beq_eq_decide_eq]; exact decide_eq_decide.mpr Iff.rfl)
  | .int i, q => by cases q <;> first | (simp [toD, PyData.eqv, pyEq, Bw.b2i, Bool.beq_eq_decide_eq]; done) | (simp only [toD, PyData.eqv, pyEq, Bw.b2i, Bool.beq_eq_decide_eq]; exact decide_eq_decide.mpr Iff.rfl)
  | .str i, q => by cases q <;> simp [toD, PyData.eqv, pyEq, Bool.beq_eq_decide_eq]
  | .tup xs, q => by cases q <;> first | (simp [toD, PyData.eqv, pyEq]; done) | (simp only [toD, PyData.eqv, pyEq]; exact eqvL_toD _ _)
  | .lst xs, q => by cases q <;> first | (simp [toD, PyData.eqv, pyEq]; done) | (simp only [toD, PyData.eqv, pyEq]; exact eqvL_toD _ _)
theorem eqvL_toD : ∀ p q : List PV, PyData.eqvAll (toDL p) (toDL q) = pyEqL p q
  | [], [] => by simp [toDL, PyData.eqvAll, pyEqL]
  | [], _ :: _ => by simp [toDL, PyData.eqvAll, pyEqL]
  | _ :: _, [] => by simp [toDL, PyData.eqvAll, pyEqL]
  | x :: xs, y :: ys => by simp only [toDL, PyData.eqvAll, pyEqL]; rw [eqv_toD x y, eqvL_toD xs ys]
end
mutual
theorem alk_toD : ∀ p q : PV, alike (toD p) (toD q) = alk p q
  | .non, q => by cases q <;> simp [toD, alike, alk]
  | .bl b, q => by cases q <;> simp [toD, alike, alk]
  | .int i, q => by cases q <;> simp [toD, alike, alk]
  | .str i, q => by cases q <;> simp [toD, alike, alk]
  | .tup xs, q => by cases q <;> first | (simp [toD, alike, alk]; done) | (simp only [toD, alike, alk]; exact alkL_toD _ _)
  | .lst xs, q => by cases q <;> first | (simp [toD, alike, alk]; done) | (simp only [toD, alike, alk]; exact alkL_toD _ _)
theorem alkL_toD : ∀ p q : List PV, alikeAll (toDL p) (toDL q) = alkL p q
  | [], [] => by simp [toDL, alikeAll, alkL]
  | [], _ :: _ => by simp [toDL, alikeAll, alkL]
  | _ :: _, [] => by simp [toDL, alikeAll, alkL]
  | x :: xs, y :: ys => by simp only [toDL, alikeAll, alkL]; rw [alk_toD x y, alkL_toD xs ys]
end
mutual
theorem lt_toD : ∀ p q : PV, alk p q = true → dataLt (toD p) (toD q) = ltT p q
  | .non, q, h => by cases q <;> first | (cases h; done) | (simp [toD, ltT, dataLt, keyToks]; done) | rfl
  | .bl b, q, h => by cases q <;> first | (cases h; done) | (simp only [toD, ltT]; exact dataLt_bool _ _)
  | .int i, q, h => by cases q <;> first | (cases h; done) | (simp only [toD, ltT]; exact dataLt_int _ _)
  | .str i, q, h => by cases q <;> first | (cases h; done) | (simp only [toD, ltT]; exact dataLt_str _ _)
  | .tup xs, q, h => by cases q <;> first | (cases h; done) | (simp only [toD, ltT, dataLt_tuple]; exact ltL_toD _ _ h)
  | .lst xs, q, h => by cases q <;> first | (cases h; done) | (simp only [toD, ltT, dataLt_list]; exact ltL_toD _ _ h)
theorem ltL_toD : ∀ p q : List PV, alkL p q = true → PyProof.Rows.lexLt PyProof.Rows.itemOrd (keyToksAll (toDL p)) (keyToksAll (toDL q)) = ltTL p q
  | [], [], h => by simp [toDL, ltTL]; rfl
  | [], _ :: _, h => by simp [toDL, ltTL]; rfl
  | _ :: _, [], h => by simp [toDL, ltTL]; rfl
  | x :: xs, y :: ys, h => by
    simp only [alkL, Bool.and_eq_true] at h
    simp only [toDL, ltTL]
    rw [dataLt_cons (by rw [alk_toD]; exact h.1), eqv_toD, ltL_toD xs ys h.2, lt_toD x y h.1]
end
end Bw
end

section
set_option autoImplicit false
set_option linter.all false
/-! Bw G: comparisons, built-in functions, items and slices. -/
namespace Bw
open PySem L2 PySem.SeqAt
section
variable {X : Cx} {F : Fr} {pins : List (Addr × Obj)} {σ : L2.St} {H R : Hp} {s : Shared} {x : V}
def copOf : COp → CmpOp
  | .eq => .Eq | .ne => .NotEq | .lt => .Lt | .le => .LtE | .gt => .Gt | .ge => .GtE | .isin => .In | .notin => .NotIn | .is => .Is | .isnot => .IsNot
def rC (F : Fr) (op : COp) : R2 := rB F .e fun s t => (cmpop op s t).bind fun c => .ok (.d (.bl c))
theorem fin_b {Q : VK} {b : Bool} {σ' : L2.St} (I : Inv X pins σ H s) (hs : Sub R H) (h : Post F .e R σ' H (.ok (.d (.bl b))) Q) : EP X pins σ Q (.bool b) s := ⟨.bl b, H, I, rfl, Post.now hs h rfl⟩
theorem post_if {c : Bool} {r : SV} {Q : VK} {m : Md} {σ' : L2.St} (h : Post F m R σ' H ((if c = true then Res.ok r else .bad : Res SV)) Q) : c = true ∧ Post F m R σ' H (.ok r) Q := by
  cases c with
  | true => exact ⟨rfl, h⟩
  | false => exact h.elim
theorem post_ifb {c r : Bool} {Q : VK} {m : Md} {σ' : L2.St} (h : Post F m R σ' H ((if c = true then Res.ok r else .bad : Res Bool).bind fun c => .ok (.d (.bl c))) Q) : c = true ∧ Post F m R σ' H (.ok (.d (.bl r))) Q := by
  cases c with
  | true => exact ⟨rfl, h⟩
  | false => exact h.elim
theorem any_cp {h : Heap} {ps : List PV} {us : List Value} {e : PV → Bool} {f : Value → Bool} (r : CpL h ps us) (k : ∀ p u, CpD h p u → f u = e p) : us.any f = ps.any e := by
  induction ps generalizing us with
  | nil => rw [show us = [] from r]; rfl
  | cons p ps ih =>
    obtain ⟨u, ws, e1, r1, rs⟩ := r
    rw [e1, List.any_cons, List.any_cons, k _ _ r1, ih rs]
open Classical in
/-- the tree at a value -/
noncomputable def treeAt (h : Heap) (u : Value) : PV := if q : ∃ p, CpD h p u then q.choose else .non
theorem treeAt_eq {h : Heap} {p : PV} {u : Value} (r : CpD h p u) : treeAt h u = p := by
  have q : ∃ p, CpD h p u := ⟨p, r⟩
  unfold treeAt
  rw [dif_pos q]
  exact q.choose_spec.inj r
theorem ne_run {p q : PV} {u w : Value} {A : Around} {P : Program} {wd : World} {E Q : Value → Shared → Prop} (r1 : CpD s.heap p u) (r2 : CpD s.heap q w) (hu : A.units + 60 < cLine) (hs : (sha p || sha q) = true) (h : Q (.bool (!pyEq p q)) s) :
    wpAny (model P wd) A (compareOp .NotEq u w) Q E s := by
  obtain ⟨as, ra⟩ := reads_of r1
  obtain ⟨bs, rb⟩ := reads_of r2
  refine ne_plain ra rb (plain_toD p) (plain_toD q) ?_ (by rw [eqv_toD]; exact h)
  rcases Bool.or_eq_true_iff.mp hs with k | k
  · have := (depth_toD p 60).mp k; omega
  · have := (depth_toD q 60).mp k; omega
theorem op_cmp (hK : F.K = X.K) (hu : X.A.units + 100 < cLine) (op : COp) : OpR X (compareOp (copOf op)) (rC F op) := by
  intro pins s σ H x y v u Q I rx ry ⟨a, b, R, σ', hs, ra, rb, h⟩
  have bad : ∀ {α : Prop}, Post F .e R σ' H .bad Q → α := fun h => h.elim
  cases a with
  | dic _ => exact ra.dic.elim
  | ins _ _ => exact ra.ins.elim
  | scr _ => cases op <;> exact bad h
  | d p =>
  cases b with
  | dic _ => exact rb.dic.elim
  | ins _ _ => exact rb.ins.elim
  | scr _ => cases op <;> exact bad h
  | d q =>
  have cp := Inv.cpT I hK hs ra rx
  have cq := Inv.cpT I hK hs rb ry
  have dp : (sha p || sha q) = true → shal 60 p = true ∨ shal 60 q = true := fun k => Bool.or_eq_true_iff.mp k
  cases op
  case eq =>
    obtain ⟨c, h⟩ := post_ifb (c := sha p || sha q) (r := pyEq p q) h
    exact (eq_cp 60 cp cq (by omega) (dp c)).2 _ _ _ _ (fin_b I hs h)
  case ne =>
    obtain ⟨c, h⟩ := post_ifb (c := sha p || sha q) (r := !pyEq p q) h
    exact ne_run cp cq (by omega) c (fin_b I hs h)
  case lt =>
    obtain ⟨c, h⟩ := post_ifb (c := cmpb p q && (sha p || sha q)) (r := ltT p q) h
    simp only [Bool.and_eq_true] at c
    exact (lt_cp 60 cp cq (by omega) (dp c.2) c.1).1 _ _ _ _ (fin_b I hs h)
  case gt =>
    obtain ⟨c, h⟩ := post_ifb (c := cmpb q p && (sha p || sha q)) (r := ltT q p) h
    simp only [Bool.and_eq_true] at c
    exact (lt_cp 60 cp cq (by omega) (dp c.2) (by rw [cmpb_comm]; exact c.1)).2.1 _ _ _ _ (fin_b I hs h)
  case le =>
    obtain ⟨c, h⟩ := post_ifb (c := cmpb p q && (sha p || sha q)) (r := !ltT q p) h
    simp only [Bool.and_eq_true] at c
    exact (lt_cp 60 cp cq (by omega) (dp c.2) c.1).2.2.1 _ _ _ _ (fin_b I hs h)
  case ge =>
    obtain ⟨c, h⟩ := post_ifb (c := cmpb p q && (sha p || sha q)) (r := !ltT p q) h
    simp only [Bool.and_eq_true] at c
    exact (lt_cp 60 cp cq (by omega) (dp c.2) c.1).2.2.2 _ _ _ _ (fin_b I hs h)
  case isin =>
    cases q <;> first | exact bad h | skip
    · rename_i ys
      obtain ⟨c, h⟩ := post_ifb (c := sha p) (r := ys.any fun y => pyEq y p) h
      obtain ⟨l, us, rfl, hl, rs⟩ := cq
      refine in_tupleAt (fun w => pyEq (treeAt s.heap w) p) hl (fun w hm => ?_) ?_
      · obtain ⟨t, _, ht⟩ := rs.mem (show w ∈ us by simpa using hm)
        rw [treeAt_eq ht]
        exact (eq_cp 60 (A := X.A.in1) ht cp (by show X.A.units + 1 + 60 < _; omega) (.inr c)).1
      · have e : (us.toArray.any fun w => pyEq (treeAt s.heap w) p) = ys.any fun y => pyEq y p := by
          rw [List.any_toArray]
          exact any_cp rs fun t w ht => by rw [treeAt_eq ht]
        rw [e]
        exact fin_b I hs h
    · rename_i ys
      obtain ⟨c, h⟩ := post_ifb (c := sha p) (r := ys.any fun y => pyEq y p) h
      obtain ⟨l, us, rfl, hl, rs⟩ := cq
      refine in_listAt (fun w => pyEq (treeAt s.heap w) p) hl (fun w hm => ?_) ?_
      · obtain ⟨t, _, ht⟩ := rs.mem (show w ∈ us by simpa using hm)
        rw [treeAt_eq ht]
        exact (eq_cp 60 (A := X.A.in1) ht cp (by show X.A.units + 1 + 60 < _; omega) (.inr c)).1
      · have e : (us.toArray.any fun w => pyEq (treeAt s.heap w) p) = ys.any fun y => pyEq y p := by
          rw [List.any_toArray]
          exact any_cp rs fun t w ht => by rw [treeAt_eq ht]
        rw [e]
        exact fin_b I hs h
  case notin =>
    cases q <;> first | exact bad h | skip
    · rename_i ys
      obtain ⟨c, h⟩ := post_ifb (c := sha p) (r := !ys.any fun y => pyEq y p) h
      obtain ⟨l, us, rfl, hl, rs⟩ := cq
      refine notIn_tupleAt (fun w => pyEq (treeAt s.heap w) p) hl (fun w hm => ?_) ?_
      · obtain ⟨t, _, ht⟩ := rs.mem (show w ∈ us by simpa using hm)
        rw [treeAt_eq ht]
        exact (eq_cp 60 (A := X.A.in1) ht cp (by show X.A.units + 1 + 60 < _; omega) (.inr c)).1
      · have e : (us.toArray.any fun w => pyEq (treeAt s.heap w) p) = ys.any fun y => pyEq y p := by
          rw [List.any_toArray]
          exact any_cp rs fun t w ht => by rw [treeAt_eq ht]
        rw [e]
        exact fin_b I hs h
    · rename_i ys
      obtain ⟨c, h⟩ := post_ifb (c := sha p) (r := !ys.any fun y => pyEq y p) h
      obtain ⟨l, us, rfl, hl, rs⟩ := cq
      refine notIn_listAt (fun w => pyEq (treeAt s.heap w) p) hl (fun w hm => ?_) ?_
      · obtain ⟨t, _, ht⟩ := rs.mem (show w ∈ us by simpa using hm)
        rw [treeAt_eq ht]
        exact (eq_cp 60 (A := X.A.in1) ht cp (by show X.A.units + 1 + 60 < _; omega) (.inr c)).1
      · have e : (us.toArray.any fun w => pyEq (treeAt s.heap w) p) = ys.any fun y => pyEq y p := by
          rw [List.any_toArray]
          exact any_cp rs fun t w ht => by rw [treeAt_eq ht]
        rw [e]
        exact fin_b I hs h
  case is =>
    cases q with
    | non =>
      obtain rfl := rb.non
      refine op_isN pins s σ H _ _ v u Q I rx ry ⟨rfl, ?_⟩
      have e : decide (x = .non) = isNon p := by
        cases p with
        | non => rw [ra.non]; rfl
        | bl b => rw [ra.bl]; rfl
        | int b => rw [ra.int]; rfl
        | str b => rw [ra.str.1]; rfl
        | tup b => obtain ⟨_, _, e, _⟩ := ra.tup; rw [e]; rfl
        | lst b => obtain ⟨_, _, e, _⟩ := ra.lst hs; rw [e]; rfl
      rw [e]
      exact Post.now hs h rfl
    | bl b =>
      cases p <;> first | exact bad h | skip
      obtain rfl := ra.bl; obtain rfl := rb.bl
      refine op_is_bl pins s σ H _ _ v u Q I rx ry ⟨_, _, rfl, rfl, ?_⟩
      refine Post.now hs h ?_
      show V.bl _ = V.bl _
      rw [Bool.beq_eq_decide_eq]
    | int _ => cases p <;> exact bad h
    | str _ => cases p <;> exact bad h
    | tup _ => cases p <;> exact bad h
    | lst _ => cases p <;> exact bad h
  case isnot =>
    cases q with
    | non =>
      obtain rfl := rb.non
      refine op_notN pins s σ H _ _ v u Q I rx ry ⟨rfl, ?_⟩
      have e : decide (x = .non) = isNon p := by
        cases p with
        | non => rw [ra.non]; rfl
        | bl b => rw [ra.bl]; rfl
        | int b => rw [ra.int]; rfl
        | str b => rw [ra.str.1]; rfl
        | tup b => obtain ⟨_, _, e, _⟩ := ra.tup; rw [e]; rfl
        | lst b => obtain ⟨_, _, e, _⟩ := ra.lst hs; rw [e]; rfl
      rw [e]
      exact Post.now hs h rfl
    | bl b =>
      cases p <;> first | exact bad h | skip
      obtain rfl := ra.bl; obtain rfl := rb.bl
      refine op_isnot_bl pins s σ H _ _ v u Q I rx ry ⟨_, _, rfl, rfl, ?_⟩
      refine Post.now hs h ?_
      show V.bl _ = V.bl _
      rw [Bool.beq_eq_decide_eq]
    | int _ => cases p <;> exact bad h
    | str _ => cases p <;> exact bad h
    | tup _ => cases p <;> exact bad h
    | lst _ => cases p <;> exact bad h
end
end Bw
end

section
set_option autoImplicit false
set_option linter.all false
/-! Bw H: built-in functions of one argument. -/
namespace Bw
open PySem L2 PySem.SeqAt PySem.W PyProof.Rows
section
variable {X : Cx} {F : Fr} {pins : List (Addr × Obj)} {σ : L2.St} {H R : Hp} {s : Shared} {x : V}
/-- one operand that may be read, and what is wanted of g of it -/
def rF (F : Fr) (g : SV → Res SV) : List V → Hp → VK → Prop := fun xs H Q => ∃ x s R σ, xs = [x] ∧ Sub R H ∧ Rm F R H .t s x ∧ Post F .e R σ H (g s) Q
/-- a row that is read: list or tuple -/
theorem Rm.seq {s : SV} {ps : List PV} (hs : Sub R H) (r : Rm F R H .t s x) (e : seq? s = .ok ps) : ∃ a vs, x = .ref a ∧ (SqL F.K H a vs ∨ SqT F.K H a vs) ∧ RpL F.K R ps vs ∧ ps.length ≤ line := by
  cases s with
  | dic _ => exact r.dic.elim
  | ins _ _ => exact r.ins.elim
  | scr _ => cases e
  | d p =>
    cases p <;> first | (cases e; done) | skip
    · cases e
      obtain ⟨a, vs, e1, h, q, z⟩ := r.tup
      exact ⟨a, vs, e1, .inr (hs.seqT h), q, z⟩
    · cases e
      obtain ⟨a, vs, e1, h, q, z⟩ := r.lst hs
      exact ⟨a, vs, e1, .inl (.of h), q, z⟩
theorem seqR {s : SV} : (∃ ps, seq? s = .ok ps) ∨ seq? s = .bad := by
  cases s with
  | d p => cases p <;> first | exact .inr rfl | exact .inl ⟨_, rfl⟩
  | _ => exact .inr rfl
theorem alk_dest {ps : List PV} (h : allAlk ps = true) : (∀ p ∈ ps, ∀ q ∈ ps, alk p q = true) ∧ (∀ p ∈ ps, isNon p = false ∧ sha p = true) := by
  unfold allAlk at h
  simp only [Bool.and_eq_true, List.all_eq_true, Bool.not_eq_true'] at h
  exact ⟨h.1, h.2⟩
theorem alkAll {ps : List PV} (h : allAlk ps = true) : AllAlike (ps.map toD) := fun d hd d' hd' => by
  obtain ⟨p, hp, rfl⟩ := List.mem_map.mp hd
  obtain ⟨q, hq, rfl⟩ := List.mem_map.mp hd'
  rw [alk_toD]; exact (alk_dest h).1 p hp q hq
theorem noNone {p : PV} (h : isNon p = false) : toD p ≠ .none := by cases p <;> first | (cases h; done) | (intro e; cases e)
theorem sortable_to {ps : List PV} (h : sortable ps = true) : allAlk ps = true ∧ Sortable (ps.map toD) := by
  unfold sortable at h
  simp only [Bool.and_eq_true, Bool.or_eq_true, List.all_eq_true, Bool.not_eq_true'] at h
  refine ⟨h.1, ?_⟩
  rcases h.2 with k | k
  · refine .inl fun d hd => ?_
    obtain ⟨p, hp, rfl⟩ := List.mem_map.mp hd
    have := k p hp
    cases p with
    | tup xs =>
      cases xs with
      | nil => cases this
      | cons y ys => exact ⟨_, _, rfl⟩
    | _ => cases this
  · refine .inr fun d hd => ?_
    obtain ⟨p, hp, rfl⟩ := List.mem_map.mp hd
    refine ⟨noNone ((alk_dest h.1).2 p hp).1, fun xs e => ?_⟩
    have := k p hp
    cases p with
    | tup _ => cases this
    | _ => cases e
theorem sortP_eq {ps : List PV} (h : allAlk ps = true) : ps.mergeSort (dataLe false toD) = sortP ps := by
  unfold sortP
  refine sort_congr fun a ha b hb => ?_
  show (!dataLt (toD b) (toD a)) = _
  rw [lt_toD b a ((alk_dest h).1 b hb a ha)]
theorem each_of {h : Heap} {ps : List PV} {xs : List V} {us : List Value} {K : Fr'} {R : Hp} (rp : RpL K R ps xs) (rv : Vals xs us) (rc : CpL h ps us) :
    EachIs (fun u p => ∃ x, RelV x u ∧ RpD K R p x) us ps ∧ EachIs (fun u p => ∃ as, Reads h u (toD p) as) us ps := by
  induction ps generalizing xs us with
  | nil =>
    obtain rfl : us = [] := rc
    exact ⟨.nil, .nil⟩
  | cons p ps ih =>
    obtain ⟨x, ws, rfl, r1, rs⟩ := rp
    obtain ⟨u, us', rfl, c1, cs⟩ := rc
    cases rv with
    | cons v1 vs1 =>
      obtain ⟨e1, e2⟩ := ih rs vs1 cs
      exact ⟨.cons ⟨x, v1, r1⟩ e1, .cons (reads_of c1) e2⟩
theorem each_back {K : Fr'} {R : Hp} : ∀ {ps : List PV} {us : List Value}, EachIs (fun u p => ∃ x, RelV x u ∧ RpD K R p x) us ps → ∃ xs, Vals xs us ∧ RpL K R ps xs
  | [], [], _ => ⟨[], .nil, rfl⟩
  | p :: ps, u :: us, h => by
    cases h with
    | cons a b =>
      obtain ⟨x, v, r⟩ := a
      obtain ⟨xs, vs, rs⟩ := each_back b
      exact ⟨x :: xs, .cons v vs, x, xs, rfl, r, rs⟩
theorem sort_len (ps : List PV) : (sortP ps).length = ps.length := List.length_mergeSort _
end
end Bw
end

section
set_option autoImplicit false
set_option linter.all false
/-! Bw I: sorted, min, max of rows. -/
namespace Bw
open PySem L2 PySem.SeqAt PySem.W PyProof.Rows
section
variable {prog : Program} {w : World} {A : Around} {E : Value → Shared → Prop} {s : Shared}
/-- the items of a tuple, in a new list -/
theorem gather_tup {t : Addr} {vs : List Value} {Q : List Value → Shared → Prop} (ht : s.heap.IsTuple t vs.toArray) (hz : vs.length ≤ sizeLine)
    (hq : Q vs { s with heap := (s.heap.push (seqObj "list" #[] 0)).update s.heap.objs.size (Obj.mapSeq (· ++ vs.toArray)) }) : wpAny (model prog w) A (collect (.ref t)) Q E s := by
  obtain ⟨ob, hob, hcl, k, hda⟩ := id ht
  have hob2 : (s.heap.push (seqObj "list" #[] 0)).get? t = some ob := Heap.get?_push_of_some _ hob
  have hnew : (s.heap.push (seqObj "list" #[] 0)).get? s.heap.objs.size = some (seqObj "list" #[] 0) := Heap.get?_push_size _ rfl
  have same : (#[] ++ vs.toArray : Array Value).toList = vs := by simp
  unfold collect
  refine wpAny_bind (wpAny_runValue (codeAny_builtin entry_proto_collect' (?_ : wpAny _ _ (do again (.builtin "list.__iadd__" ⟨[← newList [], .ref t], []⟩)) _ _ s)))
  refine wpAny_bind (wpAny_newList (wpAny_pure ⟨Code.quiet_builtin _ (by decide +kernel), codeAny_builtin entry_list_iadd' (?_ : wpAny _ _ (Builtin.List.listExtendWith (.ref s.heap.objs.size) (.ref t) (.ref s.heap.objs.size)) _ _ { s with heap := s.heap.push (seqObj "list" #[] 0) })⟩))
  unfold Builtin.List.listExtendWith
  refine wpAny_bind (wpAny_typeOf (T := "tuple") ⟨ob, hob2, hcl⟩ ?_)
  have h2 : (Value.type "tuple" == Value.type "tuple") = true := rfl
  rw [if_pos (by rw [h2, Bool.or_true])]
  refine wpAny_bind (listItems_at hob2 hda (wpAny_bind (listItems_at (xs := #[]) (n := 0) hnew rfl ?_)))
  rw [if_neg (by simp)]
  refine wpAny_bind (listUpdate_at (xs := #[]) (n := 0) hnew rfl (wpAny_pure ?_) (Nat.zero_le _) (by show (#[] ++ vs.toArray).size ≤ sizeLine + 1; rw [Array.size_append]; simp; omega))
  show wpAny (model prog w) A (do
      let got ← load s.heap.objs.size
      match got.data with
      | .seq xs _ => pure xs.toList
      | _ => unsupported "internal:collect") Q E { s with heap := (s.heap.push (seqObj "list" #[] 0)).update s.heap.objs.size (Obj.mapSeq (· ++ vs.toArray)) }
  refine wpAny_bind (wpAny_load (get?_update_seq hnew _) (?_ : wpAny _ _ (pure ((#[] : Array Value) ++ vs.toArray).toList) Q E _))
  rw [same]
  exact wpAny_pure hq
/-- sorted of a list or a tuple -/
theorem sorted_row {l : Addr} {vs : List Value} {ps : List PV} {R : Value → PV → Prop} {Q : Value → Shared → Prop} (hl : s.heap.IsList l vs.toArray ∨ s.heap.IsTuple l vs.toArray) (e : EachIs R vs ps)
    (er : EachIs (fun v p => ∃ as, Reads s.heap v (toD p) as) vs ps) (hs : sortable ps = true) (hz : ps.length ≤ sizeLine) (hu : A.units + 70 < cLine)
    (hq : ∀ out : List Value, EachIs R out (sortP ps) → Q (.ref (s.heap.objs.size + 1)) { s with heap := sortedAll s.heap vs (List.toArray out) }) :
    wpAny (model prog w) A (call (.builtin "sorted") [.ref l]) Q E s := by
  obtain ⟨ha, hk⟩ := sortable_to hs
  have hal := alkAll ha
  have hd : ∀ p, p ∈ ps → A.units + 2 + (toD p).depth < cLine := fun p hp => by
    have := (depth_toD p 60).mp ((alk_dest ha).2 p hp).2
    omega
  have hlen := e.length
  have fin : ∀ out : List Value, out.length = ps.length → EachIs R out (ps.mergeSort (dataLe false toD)) → Q (.ref (s.heap.objs.size + 1)) { s with heap := sortedAll s.heap vs (List.toArray out) } := fun out _ eo => hq out (by rw [← sortP_eq ha]; exact eo)
  rcases hl with hl | hl
  · exact sorted_data hl e er hal hk hz hd fin
  · refine Calls.call_function_entry kind_sorted plain_sorted entry_sorted (args_sorted1 _) ?_
    have hvz : vs.length ≤ sizeLine := by rw [hlen]; exact hz
    have sz : ((s.heap.push (seqObj "list" #[] 0)).update s.heap.objs.size (Obj.mapSeq (· ++ vs.toArray))).objs.size = s.heap.objs.size + 1 := by rw [Heap.size_update, size_push']
    unfold Builtin.«sorted»
    refine wpAny_bind (m := checkCount "sorted" 1 1 _) (wpAny_pure (wpAny_bind (gather_tup hl hvz (wpAny_bind (wpAny_newList ?_ hvz)))))
    show wpAny _ _ _ _ _ { s with heap := copyHeap s.heap vs }
    rw [sz]
    have er' : EachIs (fun v p => ∃ as, Reads (sortingHeap (copyHeap s.heap vs) (s.heap.objs.size + 1) vs) v (toD p) as) vs ps := er.mono fun _ _ ⟨as, r⟩ => ⟨as, PyProof.Rows.Reads.keeps (fun _ _ => sorting_copy_old) r⟩
    have S := SortsAt.data (prog := prog) (w := w) (A := A.in1.in1) (s := { s with heap := sortingHeap (copyHeap s.heap vs) (s.heap.objs.size + 1) vs }) (each_map (R := fun v d => ∃ as, Reads (sortingHeap (copyHeap s.heap vs) (s.heap.objs.size + 1) vs) v d as) toD er') hal hk (bound_map (A := A.in1.in1) hd)
    refine wpAny_bind (wpAny_holding (wpAny_call_entry slot_list_sort ⟨_, copyHeap_at s.heap vs, rfl⟩ entry_list_sort (list_sort_vals (s := { s with heap := copyHeap s.heap vs }) (copyHeap_at s.heap vs) S hvz ?_) (args_list_sort _)))
    refine ⟨_, rfl, wpAny_pure ⟨_, rfl, ?_⟩⟩
    exact fin _ (by rw [sortVals_length false rfl]; exact hlen) (sortVals_data false e er' hal)
end
end Bw
end

section
set_option autoImplicit false
set_option linter.all false
/-! Bw J: the built-in functions of one argument by trees. -/
namespace Bw
open PySem L2 PySem.SeqAt PySem.W PyProof.Rows
mutual
theorem toD_inj : ∀ {p q : PV}, toD p = toD q → p = q
  | .non, q, h => by cases q <;> first | rfl | cases h
  | .bl _, q, h => by cases q <;> first | (cases h; rfl) | cases h
  | .int _, q, h => by cases q <;> first | (cases h; rfl) | cases h
  | .str _, q, h => by cases q <;> first | (cases h; rfl) | cases h
  | .tup xs, q, h => by
    cases q with
    | tup ys =>
      simp only [toD, PyData.tuple.injEq] at h
      rw [toDL_inj h]
    | _ => cases h
  | .lst xs, q, h => by
    cases q with
    | lst ys =>
      simp only [toD, PyData.list.injEq] at h
      rw [toDL_inj h]
    | _ => cases h
theorem toDL_inj : ∀ {p q : List PV}, toDL p = toDL q → p = q
  | [], [], _ => rfl
  | [], _ :: _, h => by cases h
  | _ :: _, [], h => by cases h
  | x :: xs, y :: ys, h => by
    simp only [toDL, List.cons.injEq] at h
    rw [toD_inj h.1, toDL_inj h.2]
end
theorem foldl_mem {f : PV → PV → PV} (hf : ∀ a y, f a y = a ∨ f a y = y) : ∀ (ps : List PV) (p : PV), ps.foldl f p ∈ p :: ps
  | [], p => List.mem_cons_self
  | q :: ps, p => by
    have ih := foldl_mem hf ps (f p q)
    rw [List.foldl_cons]
    rcases List.mem_cons.mp ih with e | e
    · rw [e]
      rcases hf p q with e | e <;> rw [e] <;> simp
    · exact List.mem_cons_of_mem _ (List.mem_cons_of_mem _ e)
theorem minP_mem (p : PV) (ps : List PV) : minP p ps ∈ p :: ps := foldl_mem (fun a y => by split <;> simp) ps p
theorem maxP_mem (p : PV) (ps : List PV) : maxP p ps ∈ p :: ps := foldl_mem (fun a y => by split <;> simp) ps p
theorem minD_toD : ∀ (ps : List PV) (p : PV), (∀ a ∈ p :: ps, ∀ b ∈ p :: ps, alk a b = true) → minD (toD p) (ps.map toD) = toD (minP p ps)
  | [], p, _ => rfl
  | q :: ps, p, h => by
    show minD (if dataLt (toD q) (toD p) then toD q else toD p) (ps.map toD) = toD (minP (if ltT q p then q else p) ps)
    rw [lt_toD q p (h q (by simp) p (by simp))]
    by_cases c : ltT q p = true
    · rw [if_pos c, if_pos c]
      exact minD_toD ps q fun a ha b hb => h a (List.mem_cons_of_mem _ ha) b (List.mem_cons_of_mem _ hb)
    · rw [if_neg c, if_neg c]
      exact minD_toD ps p fun a ha b hb => h a (by rcases List.mem_cons.mp ha with rfl | ha <;> simp [*]) b (by rcases List.mem_cons.mp hb with rfl | hb <;> simp [*])
theorem maxD_toD : ∀ (ps : List PV) (p : PV), (∀ a ∈ p :: ps, ∀ b ∈ p :: ps, alk a b = true) → maxD (toD p) (ps.map toD) = toD (maxP p ps)
  | [], p, _ => rfl
  | q :: ps, p, h => by
    show maxD (if dataLt (toD p) (toD q) then toD q else toD p) (ps.map toD) = toD (maxP (if ltT p q then q else p) ps)
    rw [lt_toD p q (h p (by simp) q (by simp))]
    by_cases c : ltT p q = true
    · rw [if_pos c, if_pos c]
      exact maxD_toD ps q fun a ha b hb => h a (List.mem_cons_of_mem _ ha) b (List.mem_cons_of_mem _ hb)
    · rw [if_neg c, if_neg c]
      exact maxD_toD ps p fun a ha b hb => h a (by rcases List.mem_cons.mp ha with rfl | ha <;> simp [*]) b (by rcases List.mem_cons.mp hb with rfl | hb <;> simp [*])
theorem depthAll_le {n : Nat} : ∀ {ps : List PV}, (∀ p ∈ ps, (toD p).depth ≤ n) → PyData.depthAll (ps.map toD) ≤ n
  | [], _ => Nat.zero_le _
  | p :: ps, h => by
    rw [List.map_cons, PyData.depthAll]
    have h1 := h p List.mem_cons_self
    have h2 := depthAll_le (ps := ps) fun q hq => h q (List.mem_cons_of_mem _ hq)
    omega
section
variable {X : Cx} {F : Fr} {pins : List (Addr × Obj)} {σ : L2.St} {H R : Hp} {s : Shared} {x : V}
theorem RpL.mem {K : Fr'} {R : Hp} {ps : List PV} {vs : List V} {i : Nat} {v : V} (r : RpL K R ps vs) (e : vs[i]? = some v) : ∃ p, ps[i]? = some p ∧ RpD K R p v := r.get e
/-- min, max of a row: f the fold by trees, fd the library's -/
theorem best_row {nm : String} {fP : PV → List PV → PV} {fD : PyData → List PyData → PyData} (hfd : ∀ (ps : List PV) (p : PV), (∀ a ∈ p :: ps, ∀ b ∈ p :: ps, alk a b = true) → fD (toD p) (ps.map toD) = toD (fP p ps))
    (hm : ∀ p ps, fP p ps ∈ p :: ps)
    (rl : ∀ {l : Addr} {vs : Array Value} {x : PyData} {xs : List PyData} {as : List Addr} {Q : Value → Shared → Prop}, s.heap.IsList l vs → ReadsAll s.heap vs.toList (x :: xs) as → AlikeAll (x :: xs) → X.A.units + 1 + PyData.depthAll (x :: xs) < cLine →
      (∀ (i : Nat) v h' tk bs, vs[i]? = some v → Reads h' v (fD x xs) bs → (∀ b o, s.heap.get? b = some o → h'.get? b = some o) → Q v { s with heap := h', toks := tk }) → wpAny (model X.prog X.w) X.A (call (.builtin nm) [.ref l]) Q X.xe s)
    (rt : ∀ {l : Addr} {vs : Array Value} {x : PyData} {xs : List PyData} {as : List Addr} {Q : Value → Shared → Prop}, s.heap.IsTuple l vs → ReadsAll s.heap vs.toList (x :: xs) as → AlikeAll (x :: xs) → X.A.units + 1 + PyData.depthAll (x :: xs) < cLine →
      (∀ (i : Nat) v h' tk bs, vs[i]? = some v → Reads h' v (fD x xs) bs → (∀ b o, s.heap.get? b = some o → h'.get? b = some o) → Q v { s with heap := h', toks := tk }) → wpAny (model X.prog X.w) X.A (call (.builtin nm) [.ref l]) Q X.xe s)
    (I : Inv X pins σ H s) (hu : X.A.units + 100 < cLine) {a : Addr} {vs : List V} {p : PV} {ps : List PV} (hs : Sub R H) (sq : SqL X.K H a vs ∨ SqT X.K H a vs) (r : RpL X.K R (p :: ps) vs) (ha : allAlk (p :: ps) = true) {Q : VK}
    (hq : ∀ v, RpD X.K R (fP p ps) v → Q v H) : wpAny (model X.prog X.w) X.A (call (.builtin nm) [.ref a]) (EP X pins σ Q) X.xe s := by
  obtain ⟨d1, d2⟩ := alk_dest ha
  have hA : AlikeAll (toD p :: ps.map toD) := by
    refine ⟨fun x hx y hy => ?_, fun x hx => ?_⟩
    · exact alkAll ha x hx y hy
    · obtain ⟨q, hq, rfl⟩ := List.mem_map.mp (show x ∈ (p :: ps).map toD from hx)
      exact noNone (d2 q hq).1
  have hd : X.A.units + 1 + PyData.depthAll (toD p :: ps.map toD) < cLine := by
    have : PyData.depthAll ((p :: ps).map toD) ≤ 60 := depthAll_le fun q hq => (depth_toD q 60).mp (d2 q hq).2
    have e : (p :: ps).map toD = toD p :: ps.map toD := rfl
    rw [e] at this
    omega
  have key : ∀ {its : List Value}, Vals vs its → CpL s.heap (p :: ps) its → ∀ (i : Nat) v h' tk bs, its.toArray[i]? = some v → Reads h' v (fD (toD p) (ps.map toD)) bs → (∀ b o, s.heap.get? b = some o → h'.get? b = some o) → EP X pins σ Q v { s with heap := h', toks := tk } := fun {its} rv rc i v h' tk bs hv hr hk => by
    have hv : its[i]? = some v := by simpa using hv
    obtain ⟨y, hy, ry⟩ : ∃ y, vs[i]? = some y ∧ RelV y v := by
      cases e : vs[i]? with
      | none => have := rv.none_of e; rw [hv] at this; cases this
      | some y =>
        obtain ⟨u, h1, h2⟩ := rv.get e
        rw [hv] at h1; cases h1
        exact ⟨y, rfl, h2⟩
    obtain ⟨q, hq1, hq2⟩ := r.get hy
    have hi : i < its.length := (List.getElem?_eq_some_iff.mp hv).1
    have hi2 : i < (p :: ps).length := (List.getElem?_eq_some_iff.mp hq1).1
    have cq := rc.at hi2 hi
    have e1 : (p :: ps)[i] = q := (List.getElem?_eq_some_iff.mp hq1).2
    have e2 : its[i] = v := (List.getElem?_eq_some_iff.mp hv).2
    rw [e1, e2] at cq
    obtain ⟨as, rq⟩ := reads_of cq
    have rq' := PyProof.Rows.Reads.keeps hk rq
    rw [hfd ps p d1] at hr
    have e3 := alike_unique _ _ _ _ _ (by rw [alk_toD]; exact d1 q (List.mem_of_getElem? hq1) _ (hm p ps)) rq' hr
    have e4 := toD_inj e3
    subst e4
    exact ⟨y, H, I.kept (t' := tk) hk, ry, hq _ hq2⟩
  rcases sq with sq | sq
  · obtain ⟨its, rv, hl, hz⟩ := I.list sq
    have rc := cpl_of I hs r rv
    obtain ⟨as, ra⟩ := readsL_of rc
    exact rl (vs := its.toArray) hl.isList (by rw [toDL_map] at ra; simpa using ra) hA hd (key rv rc)
  · obtain ⟨its, rv, hl, hz⟩ := I.tuple sq
    have rc := cpl_of I hs r rv
    obtain ⟨as, ra⟩ := readsL_of rc
    exact rt (vs := its.toArray) hl (by rw [toDL_map] at ra; simpa using ra) hA hd (key rv rc)
end
end Bw
end

section
set_option autoImplicit false
set_option linter.all false
/-! Bw K: the calls of built-in functions, items, slices, isinstance. -/
namespace Bw
open PySem L2 PySem.SeqAt PySem.W PyProof.Rows
section
variable {X : Cx} {F : Fr} {pins : List (Addr × Obj)} {σ : L2.St} {H R : Hp} {s : Shared} {x : V}
def f1val : F1 → Value
  | .len => .builtin "len" | .abs => .builtin "abs" | .int => .type "int" | .sum => .builtin "sum" | .min => .builtin "min" | .max => .builtin "max"
  | .all => .builtin "all" | .any => .builtin "any" | .sorted => .builtin "sorted" | .tuple => .type "tuple" | .list => .type "list" | .sortedset => .none | .lenset => .none
theorem post_seq {s : SV} {g : List PV → Res SV} {Q : VK} {m : Md} {σ' : L2.St} (h : Post F m R σ' H ((seq? s).bind g) Q) : ∃ ps, seq? s = .ok ps ∧ Post F m R σ' H (g ps) Q := by
  rcases seqR (s := s) with ⟨ps, e⟩ | e
  · rw [e] at h; exact ⟨ps, e, h⟩
  · rw [e] at h; exact h.elim
theorem ints_all : ∀ {ps : List PV} {is : List Int}, ints? ps = .ok is → ps = is.map PV.int
  | [], is, h => by cases h; rfl
  | p :: ps, is, h => by
    cases p <;> first | (cases h; done) | skip
    rename_i i
    have h : (ints? ps).bind (fun is => Res.ok (i :: is)) = .ok is := h
    cases e : ints? ps with
    | ok js => rw [e] at h; cases h; rw [ints_all e]; rfl
    | exc c => rw [e] at h; cases h
    | bad => rw [e] at h; cases h
theorem bools_all : ∀ {ps : List PV} {is : List Bool}, bools? ps = .ok is → ps = is.map PV.bl
  | [], is, h => by cases h; rfl
  | p :: ps, is, h => by
    cases p <;> first | (cases h; done) | skip
    rename_i i
    have h : (bools? ps).bind (fun is => Res.ok (i :: is)) = .ok is := h
    cases e : bools? ps with
    | ok js => rw [e] at h; cases h; rw [bools_all e]; rfl
    | exc c => rw [e] at h; cases h
    | bad => rw [e] at h; cases h
theorem ints_exc (ps : List PV) : (∃ is, ints? ps = .ok is) ∨ ints? ps = .bad := by
  induction ps with
  | nil => exact .inl ⟨_, rfl⟩
  | cons p ps ih =>
    cases p <;> first | exact .inr rfl | skip
    rename_i i
    show (∃ is, (ints? ps).bind (fun is => Res.ok (i :: is)) = .ok is) ∨ (ints? ps).bind (fun is => Res.ok (i :: is)) = .bad
    rcases ih with ⟨is, e⟩ | e
    · exact .inl ⟨_, by rw [e]; rfl⟩
    · exact .inr (by rw [e]; rfl)
theorem bools_exc (ps : List PV) : (∃ is, bools? ps = .ok is) ∨ bools? ps = .bad := by
  induction ps with
  | nil => exact .inl ⟨_, rfl⟩
  | cons p ps ih =>
    cases p <;> first | exact .inr rfl | skip
    rename_i i
    show (∃ is, (bools? ps).bind (fun is => Res.ok (i :: is)) = .ok is) ∨ (bools? ps).bind (fun is => Res.ok (i :: is)) = .bad
    rcases ih with ⟨is, e⟩ | e
    · exact .inl ⟨_, by rw [e]; rfl⟩
    · exact .inr (by rw [e]; rfl)
theorem vals_int {K : Fr'} {R : Hp} : ∀ {is : List Int} {vs : List V}, RpL K R (is.map PV.int) vs → vs = is.map V.int
  | [], _, r => r
  | i :: is, _, ⟨v, ws, e, r, rs⟩ => by rw [e, show v = _ from r, vals_int rs]; rfl
theorem vals_bl {K : Fr'} {R : Hp} : ∀ {is : List Bool} {vs : List V}, RpL K R (is.map PV.bl) vs → vs = is.map V.bl
  | [], _, r => r
  | i :: is, _, ⟨v, ws, e, r, rs⟩ => by rw [e, show v = _ from r, vals_bl rs]; rfl
theorem cr_f1 (hK : F.K = X.K) (hc : X.calm = true) (hu : X.A.units + 100 < cLine) (f : F1) (hf : f ≠ .sortedset ∧ f ≠ .lenset) : CallR X (f1val f) (rF F (f1op f)) := by
  intro pins s σ H xs us Q I rxs ⟨x, sv, R, σ', ex, hs, r, h⟩
  subst ex
  have bad : ∀ {α : Prop}, Post F .e R σ' H .bad Q → α := fun h => h.elim
  have hh : X.A.handled = none := I.ok.hd hc
  cases f
  case len =>
    cases sv with
    | dic _ => exact r.dic.elim
    | ins _ _ => exact r.ins.elim
    | scr _ => exact bad h
    | d p =>
      cases p <;> first | exact bad h | skip
      · obtain ⟨rfl, z⟩ := r.str
        exact call_len_str pins s σ H _ us Q I rxs ⟨_, rfl, z, Post.now hs h rfl⟩
      · obtain ⟨a, vs, rfl, sq, q, z⟩ := r.tup
        rw [hK] at sq
        exact call_len_seq pins s σ H _ us Q I rxs ⟨_, _, rfl, .inr (hs.seqT sq), Post.now hs h (by rw [q.len]; rfl)⟩
      · obtain ⟨a, vs, rfl, sq, q, z⟩ := r.lst hs
        exact call_len_seq pins s σ H _ us Q I rxs ⟨_, _, rfl, .inl (.of sq), Post.now hs h (by rw [q.len]; rfl)⟩
  case abs =>
    cases sv with
    | d p =>
      cases p <;> first | exact bad h | skip
      obtain rfl := r.int
      exact call_abs pins s σ H _ us Q I rxs ⟨_, rfl, Post.now hs h rfl⟩
    | _ => exact bad h
  case int =>
    cases sv with
    | d p =>
      cases p <;> first | exact bad h | skip
      · obtain rfl := r.bl
        exact call_int1 pins s σ H _ us Q I rxs (.inr ⟨_, rfl, Post.now hs h rfl⟩)
      · obtain rfl := r.int
        exact call_int1 pins s σ H _ us Q I rxs (.inl ⟨_, rfl, Post.now hs h rfl⟩)
    | _ => exact bad h
  case sum =>
    cases sv with
    | d p =>
      cases p <;> first | exact bad h | skip
      rename_i ps
      obtain ⟨a, vs, rfl, sq, q, z⟩ := r.lst hs
      have h2 : Post F .e R σ' H ((ints? ps).bind fun is => .ok (.d (.int is.sum))) Q := h
      clear h
      rcases ints_exc ps with ⟨is, e⟩ | e
      · rw [e] at h2
        have e2 := ints_all e
        subst e2
        have e3 := vals_int q
        subst e3
        exact cr_sum hc pins s σ H _ us Q I rxs ⟨_, _, rfl, .of sq, Post.now hs h2 rfl⟩
      · rw [e] at h2; exact bad h2
    | _ => exact bad h
  case all =>
    cases sv with
    | d p =>
      cases p <;> first | exact bad h | skip
      rename_i ps
      obtain ⟨a, vs, rfl, sq, q, z⟩ := r.lst hs
      have h2 : Post F .e R σ' H ((bools? ps).bind fun is => .ok (.d (.bl (is.all id)))) Q := h
      clear h
      rcases bools_exc ps with ⟨is, e⟩ | e
      · rw [e] at h2
        have e2 := bools_all e
        subst e2
        have e3 := vals_bl q
        subst e3
        exact cr_all hc pins s σ H _ us Q I rxs ⟨_, _, rfl, .of sq, Post.now hs h2 rfl⟩
      · rw [e] at h2; exact bad h2
    | _ => exact bad h
  case any =>
    cases sv with
    | d p =>
      cases p <;> first | exact bad h | skip
      rename_i ps
      obtain ⟨a, vs, rfl, sq, q, z⟩ := r.lst hs
      have h2 : Post F .e R σ' H ((bools? ps).bind fun is => .ok (.d (.bl (is.any id)))) Q := h
      clear h
      rcases bools_exc ps with ⟨is, e⟩ | e
      · rw [e] at h2
        have e2 := bools_all e
        subst e2
        have e3 := vals_bl q
        subst e3
        exact cr_any hc pins s σ H _ us Q I rxs ⟨_, _, rfl, .of sq, Post.now hs h2 rfl⟩
      · rw [e] at h2; exact bad h2
    | _ => exact bad h
  case min =>
    obtain ⟨ps, e, h⟩ := post_seq (s := sv) h
    obtain ⟨a, vs, rfl, sq, q, z⟩ := r.seq hs e
    cases ps with
    | nil => exact bad h
    | cons p ps =>
      obtain ⟨c, h⟩ := post_if (c := allAlk (p :: ps)) (r := .d (minP p ps)) h
      rw [hK] at sq q
      rw [Vals.ref1 rxs]
      exact best_row minD_toD minP_mem (fun hl hr ha hu hq => min_list_data hh hl hr ha hu hq) (fun hl hr ha hu hq => min_tuple_data hh hl hr ha hu hq) I hu hs sq q c fun v rv => Post.now hs h (show RpD F.K R _ v by rw [hK]; exact rv)
  case max =>
    obtain ⟨ps, e, h⟩ := post_seq (s := sv) h
    obtain ⟨a, vs, rfl, sq, q, z⟩ := r.seq hs e
    cases ps with
    | nil => exact bad h
    | cons p ps =>
      obtain ⟨c, h⟩ := post_if (c := allAlk (p :: ps)) (r := .d (maxP p ps)) h
      rw [hK] at sq q
      rw [Vals.ref1 rxs]
      exact best_row maxD_toD maxP_mem (fun hl hr ha hu hq => max_list_data hh hl hr ha hu hq) (fun hl hr ha hu hq => max_tuple_data hh hl hr ha hu hq) I hu hs sq q c fun v rv => Post.now hs h (show RpD F.K R _ v by rw [hK]; exact rv)
  case sorted =>
    obtain ⟨ps, e, h⟩ := post_seq (s := sv) h
    obtain ⟨a, vs, rfl, sq, q, z⟩ := r.seq hs e
    obtain ⟨c, h⟩ := post_if (c := sortable ps) (r := .d (.lst (sortP ps))) h
    rw [hK] at sq
    rw [Vals.ref1 rxs]
    have go : ∀ {its : List Value}, Vals vs its → (s.heap.IsList a its.toArray ∨ s.heap.IsTuple a its.toArray) → wpAny (model X.prog X.w) X.A (call (f1val .sorted) [.ref a]) (EP X pins σ Q) X.xe s := fun {its} rv hl => by
      have q' := q
      rw [hK] at q'
      obtain ⟨e1, e2⟩ := each_of q rv (cpl_of I hs q' rv)
      refine sorted_row hl e1 e2 c (by rw [← line_eq]; exact z) (by omega) fun out eo => ?_
      obtain ⟨ws, vw, rw'⟩ := each_back eo
      obtain ⟨ep, he'⟩ := sortedAll_at s.heap its out.toArray
      have l1 := rw'.len
      rw [sort_len] at l1
      have hlen : ws.length ≤ sizeLine := by rw [l1, ← line_eq]; exact z
      exact ⟨.ref _, upd H (s.heap.objs.size + 1) (.lst ws), I.laid (t' := s.toks) (fun _ _ => sortedAll_old) (Nat.le_succ _) ⟨hlen, out, ep, vw, he'⟩, rfl, Post.newL hs h (I.hok.fresh (Nat.le_succ _)) rw' (by rw [sort_len]; exact z)⟩
    rcases sq with sq | sq
    · obtain ⟨its, rv, hl, hz⟩ := I.list sq
      exact go rv (.inl hl.isList)
    · obtain ⟨its, rv, hl, hz⟩ := I.tuple sq
      exact go rv (.inr hl)
  case tuple =>
    obtain ⟨ps, e, h⟩ := post_seq (s := sv) h
    cases sv with
    | d p =>
      cases p <;> first | (cases e; done) | skip
      · cases e
        obtain ⟨a, vs, rfl, sq, q, z⟩ := r.tup
        rw [hK] at sq
        exact call_tuple_of pins s σ H _ us Q I rxs ⟨a, vs, rfl, .inr ⟨hs.seqT sq, Post.now hs h ⟨a, vs, rfl, hK ▸ sq, z, q⟩⟩⟩
      · cases e
        obtain ⟨a, vs, rfl, sq, q, z⟩ := r.lst hs
        exact call_tuple_of pins s σ H _ us Q I rxs ⟨a, vs, rfl, .inl ⟨.of sq, fun l hl => Post.newT hs h hl q z⟩⟩
    | _ => cases e
  case list =>
    obtain ⟨ps, e, h⟩ := post_seq (s := sv) h
    obtain ⟨a, vs, rfl, sq, q, z⟩ := r.seq hs e
    rw [hK] at sq
    exact call_list_of pins s σ H _ us Q I rxs ⟨a, vs, rfl, sq, fun l hl => Post.newL hs h hl q z⟩
  case sortedset => exact absurd rfl hf.1
  case lenset => exact absurd rfl hf.2
end
end Bw
end

section
set_option autoImplicit false
set_option linter.all false
/-! Bw L: items, slices, isinstance, the greater of two. -/
namespace Bw
open PySem L2 PySem.SeqAt PySem.W PyProof.Rows
section
variable {X : Cx} {F : Fr} {pins : List (Addr × Obj)} {σ : L2.St} {H R : Hp} {s : Shared} {x : V}
theorem atI_of {K : Fr'} {R : Hp} {ps : List PV} {vs : List V} {i : Int} {p : PV} (r : RpL K R ps vs) (h : atP ps i = some p) : ∃ v, atI vs i = some v ∧ RpD K R p v := by
  unfold atP at h
  cases e : ixP ps.length i with
  | none => rw [e] at h; cases h
  | some j =>
    rw [e] at h
    obtain ⟨v, h1, h2⟩ := r.get' (show ps[j]? = some p from h)
    refine ⟨v, ?_, h2⟩
    have e2 : ixN vs.length i = some j := by rw [r.len]; exact e
    unfold atI
    rw [e2]
    exact h1
theorem ix_op (hK : F.K = X.K) : IxR X (rB F .e idxop) := by
  intro value slice pins s σ H x y v u Q I rx ry ⟨a, b, R, σ', hs, ra, rb, h⟩ hpl
  have bad : ∀ {α : Prop}, Post F .e R σ' H .bad Q → α := fun h => h.elim
  cases a with
  | dic _ => exact ra.dic.elim
  | ins _ _ => exact ra.ins.elim
  | scr _ => exact bad h
  | d p =>
  cases b with
  | dic _ => exact rb.dic.elim
  | ins _ _ => exact rb.ins.elim
  | scr _ => cases p <;> exact bad h
  | d q =>
  cases p <;> cases q <;> first | exact bad h | skip
  · rename_i z i
    obtain rfl := rb.int
    obtain ⟨rfl, hz⟩ := ra.str
    have h : Post F .e R σ' H (match atP z.cps.toList i with | some c => .ok (.d (.str ⟨#[c]⟩)) | none => .bad) Q := h
    cases e : atP z.cps.toList i with
    | none => rw [e] at h; exact bad h
    | some c =>
      rw [e] at h
      exact ix_str value slice pins s σ H _ _ v u Q I rx ry ⟨_, _, c, rfl, rfl, hz, e, Post.now hs h ⟨rfl, by show (1 : Nat) ≤ line; decide⟩⟩ hpl
  · rename_i ps i
    obtain rfl := rb.int
    obtain ⟨a, vs, rfl, sq, q, z⟩ := ra.tup
    have h : Post F .e R σ' H (match atP ps i with | some p => .ok (.d p) | none => .bad) Q := h
    cases e : atP ps i with
    | none => rw [e] at h; exact bad h
    | some p =>
      rw [e] at h
      obtain ⟨w, h1, h2⟩ := atI_of q e
      rw [hK] at sq
      exact ix_tup value slice pins s σ H _ _ v u Q I rx ry ⟨a, vs, i, w, rfl, rfl, hs.seqT sq, h1, Post.now hs h h2⟩ hpl
  · rename_i ps i
    obtain rfl := rb.int
    obtain ⟨a, vs, rfl, sq, q, z⟩ := ra.lst hs
    have h : Post F .e R σ' H (match atP ps i with | some p => .ok (.d p) | none => .bad) Q := h
    cases e : atP ps i with
    | none => rw [e] at h; exact bad h
    | some p =>
      rw [e] at h
      obtain ⟨w, h1, h2⟩ := atI_of q e
      exact ix_list value slice pins s σ H _ _ v u Q I rx ry ⟨a, vs, i, w, rfl, rfl, .of sq, h1, Post.now hs h h2⟩ hpl
theorem sx_eq (n d : Nat) (o : Option Int) : HT.sIx n d o = sxP n d o := by
  cases o with
  | none => rfl
  | some i =>
    show (if i < 0 then (i + n).toNat else min i.toNat n) = if 0 ≤ i then min i.toNat n else (i + n).toNat
    by_cases c : i < 0
    · rw [if_pos c, if_neg (by omega)]
    · rw [if_neg c, if_pos (by omega)]
theorem cut_of {K : Fr'} {R : Hp} {ps : List PV} {vs : List V} {lo hi : Option Int} (r : RpL K R ps vs) : RpL K R (cutP ps lo hi) (cutV vs lo hi) := by
  show RpL K R ((ps.drop _).take _) ((vs.drop _).take _)
  rw [r.len, sx_eq, sx_eq]
  exact (r.drop _).take _
theorem cut_le {α : Type} (ps : List α) (lo hi : Option Int) : (cutP ps lo hi).length ≤ ps.length := by
  unfold cutP
  rw [List.length_take, List.length_drop]; omega
def rSl (F : Fr) : V → Option Int → Option Int → Hp → VK → Prop := fun x lo hi H Q => ∃ s R σ, Sub R H ∧ Rm F R H .t s x ∧ Post F .e R σ H (slop s lo hi) Q
theorem scr_rp {K : Fr'} {R : Hp} : ∀ (ns : List Int), RpL K R (ns.map PV.int) (ns.map V.int)
  | [] => rfl
  | n :: ns => ⟨_, _, rfl, rfl, scr_rp ns⟩
theorem sl_op (hK : F.K = X.K) : SlR X (rSl F) := by
  intro pins s σ H x v vl vu lo hi sl Q I rx his pl pu ⟨a, R, σ', hs, ra, h⟩
  have bad : ∀ {α : Prop}, Post F .e R σ' H .bad Q → α := fun h => h.elim
  cases a with
  | dic _ => exact ra.dic.elim
  | ins _ _ => exact ra.ins.elim
  | scr ns =>
    obtain ⟨a, rfl, sq, z⟩ := ra.scr
    rw [hK] at sq
    refine sl_list pins s σ H _ v vl vu lo hi sl Q I rx his pl pu ⟨a, _, rfl, hs.seqL sq, fun p hp => Post.newL hs h hp (cut_of (scr_rp ns)) ?_⟩
    exact Nat.le_trans (cut_le _ _ _) (by rw [List.length_map]; exact z)
  | d p =>
  cases p <;> first | exact bad h | skip
  · obtain ⟨a, vs, rfl, sq, q, z⟩ := ra.tup
    rename_i ps
    rw [hK] at sq
    refine sl_tupA pins s σ H _ v vl vu lo hi sl Q I rx his pl pu ⟨a, vs, rfl, hs.seqT sq, fun e => ?_, fun _ p hp => Post.newT hs h hp (cut_of q) (Nat.le_trans (cut_le _ _ _) z)⟩
    have e1 : cutP ps lo hi = ps := by
      unfold cutP
      rw [← sx_eq, ← sx_eq, ← q.len, e.1, e.2, List.drop_zero, q.len, Nat.sub_zero, List.take_length]
    have h : Post F .e R σ' H (.ok (.d (.tup (cutP ps lo hi)))) Q := h
    rw [e1] at h
    exact Post.now hs h ⟨a, vs, rfl, hK ▸ sq, z, q⟩
  · obtain ⟨a, vs, rfl, sq, q, z⟩ := ra.lst hs
    exact sl_list pins s σ H _ v vl vu lo hi sl Q I rx his pl pu ⟨a, vs, rfl, .of sq, fun p hp => Post.newL hs h hp (cut_of q) (Nat.le_trans (cut_le _ _ _) z)⟩
def tyName : Ty → String
  | .int => "int" | .bool => "bool" | .str => "str" | .tuple => "tuple" | .list => "list" | .dict => "dict"
def rIsa (F : Fr) (t : Ty) : List V → Hp → VK → Prop := fun xs H Q => ∃ x s R σ, xs = [x, .ty (tyName t)] ∧ Sub R H ∧ Rm F R H .t s x ∧ Post F .e R σ H ((isaop s t).bind fun b => .ok (.d (.bl b))) Q
theorem cr_isa (hK : F.K = X.K) (t : Ty) : CallR X (.builtin "isinstance") (rIsa F t) := by
  intro pins s σ H xs us Q I rxs ⟨x, sv, R, σ', ex, hs, r, h⟩
  subst ex
  have bad : ∀ {α : Prop}, Post F .e R σ' H .bad Q → α := fun h => h.elim
  cases sv with
  | dic _ => exact r.dic.elim
  | ins _ _ => exact r.ins.elim
  | scr _ => exact bad h
  | d p =>
    cases rxs with
    | cons r1 rr =>
      cases rr with
      | cons r2 rr =>
        cases rr
        rename_i u w
        obtain rfl : w = Value.type (tyName t) := r2
        obtain ⟨as, rd⟩ := reads_of (Inv.cpT I hK hs r r1)
        have fin : ∀ (b : Bool), b = isaP p t → ∀ tk, s.toks ≤ tk → EP X pins σ Q (.bool b) { s with toks := tk } := fun b e tk _ => by
          subst e
          have J : Inv X pins σ H { s with toks := tk } := I.tok _
          exact ⟨.bl _, H, J, rfl, Post.now hs h rfl⟩
        cases t
        · exact isinstance_int_data rd (fin _ (by cases p <;> rfl))
        · exact isinstance_bool_data rd (fin _ (by cases p <;> rfl))
        · exact isinstance_str_data rd (fin _ (by cases p <;> rfl))
        · exact isinstance_tuple_data rd (fin _ (by cases p <;> rfl))
        · exact isinstance_list_data rd (fin _ (by cases p <;> rfl))
        · exact isinstance_dict_data rd (fin _ (by cases p <;> rfl))
def f2val : F2 → Value
  | .min => .builtin "min" | .max => .builtin "max" | .index => .none
def rF2 (F : Fr) (g : SV → SV → Res SV) : List V → Hp → VK → Prop := fun xs H Q => ∃ x y s t R σ, xs = [x, y] ∧ Sub R H ∧ Rm F R H .t s x ∧ Rm F R H .t t y ∧ Post F .e R σ H (g s t) Q
theorem cr_f2 (hc : X.calm = true) (f : F2) (hf : f ≠ .index) : CallR X (f2val f) (rF2 F (f2op f)) := by
  intro pins s σ H xs us Q I rxs ⟨x, y, sv, tv, R, σ', ex, hs, r, r', h⟩
  subst ex
  have bad : ∀ {α : Prop}, Post F .e R σ' H .bad Q → α := fun h => h.elim
  cases f
  case index => exact absurd rfl hf
  case min =>
    cases sv with
    | d p =>
      cases p <;> first | exact bad h | skip
      cases tv with
      | d q =>
        cases q <;> first | exact bad h | skip
        obtain rfl := r.int
        obtain rfl := r'.int
        exact call_min2 hc pins s σ H _ us Q I rxs ⟨_, _, rfl, Post.now hs h rfl⟩
      | _ => exact bad h
    | _ => exact bad h
  case max =>
    cases sv with
    | d p =>
      cases p <;> first | exact bad h | skip
      cases tv with
      | d q =>
        cases q <;> first | exact bad h | skip
        obtain rfl := r.int
        obtain rfl := r'.int
        exact call_max2 hc pins s σ H _ us Q I rxs ⟨_, _, rfl, Post.now hs h rfl⟩
      | _ => exact bad h
    | _ => exact bad h
end
end Bw
end

section
set_option autoImplicit false
set_option linter.all false
/-! Bw M: does the core text say what the program's text says? -/
namespace Bw
open PySem L2
structure Inf where
  N : List Str
  fns : List Str
  cons : List Str
  exs : List Str
def nmB (x : Str) : Bool := !(x == ("__debug__" : Str)) && !(x == ("__classdict__" : Str)) && !(x == ("__name__" : Str))
def visB (sc : Scope) (x : Str) : Bool := match sc.names.lookup x with
  | some .local => true
  | some .cell => true
  | some .free => true
  | _ => false
def locB (sc : Scope) (x : Str) : Bool := match sc.names.lookup x with
  | some .local => true
  | some .cell => true
  | _ => false
def glB (sc : Scope) (x : Str) : Bool := match sc.names.lookup x with
  | some .globalImplicit => true
  | _ => false
/-- neither a star, a slice nor a set -/
def tame : Expr → Bool
  | .Starred _ _ => false
  | .Slice _ _ _ _ => false
  | .Set _ _ _ => false
  | _ => true
def f1name : F1 → String
  | .len => "len" | .abs => "abs" | .int => "int" | .sum => "sum" | .min => "min" | .max => "max" | .all => "all" | .any => "any"
  | .sorted => "sorted" | .tuple => "tuple" | .list => "list" | .sortedset => "sorted" | .lenset => "len"
def f2name : F2 → String
  | .min => "min" | .max => "max" | .index => "index"
def builtins : List String := ["len", "abs", "int", "sum", "min", "max", "all", "any", "sorted", "tuple", "list", "isinstance", "bool", "str", "dict", "range", "enumerate", "zip", "set"]
/-- the mode of a display -/
def Md.disp : Md → Md
  | .e => .e
  | _ => .f
def Md.sup : Md → Md → Md
  | .e, .e => .e
  | _, _ => .f
/-- the mode of what an operation makes -/
def Md.op1 : Md → Md
  | .f => .f
  | _ => .e
def Md.op (a b : Md) : Md := (a.sup b).op1
mutual
def md : CE → Md
  | .own _ => .t
  | .and _ b => md b
  | .bin _ a b => (md a).op (md b)
  | .cmp _ a b => (md a).op (md b)
  | .idx a b => (md a).op (md b)
  | .f1 _ a => (md a).op1
  | .f2 _ a b => (md a).op (md b)
  | .isa a _ => (md a).op1
  | .or _ b => md b
  | .tup es => (mdL es).disp
  | .lst es => (mdL es).disp
  | .call _ es => (mdL es).disp
  | .ife _ a b => (md a).sup (md b)
  | _ => .e
def mdL : List CE → Md
  | [] => .e
  | e :: es => (md e).sup (mdL es)
end
def le_t (m : Md) : Bool := m.le .t
def isTupE : Expr → Bool
  | .Tuple _ _ _ => true
  | _ => false
def isRng : CI → Bool
  | .rng1 _ => true
  | .rng2 _ _ => true
  | _ => false
/-- how a source is told -/
def mdI : CI → Md
  | .seq e => md e
  | .enum e => md e
  | .zip a b => (md a).sup (md b)
  | .enumzip a b => (md a).sup (md b)
  | _ => .e
mutual
def okT (I : Inf) (sc : Scope) : CT → Expr → Bool
  | .name i, .Name x _ => decide (I.N[i]? = some x) && locB sc x
  | .tup ts, .Tuple xs _ _ => okTs I sc ts xs
  | _, _ => false
def okTs (I : Inf) (sc : Scope) : List CT → List Expr → Bool
  | [], [] => true
  | t :: ts, x :: xs => okT I sc t x && okTs I sc ts xs
  | _, _ => false
end
/-- the block's own names with their places -/
def ownOf (N : List Str) (vs : List Nat) : List (Str × Nat) := vs.filterMap fun i => (N[i]?).map fun x => (x, i)
mutual
def okE (I : Inf) (sc : Scope) : CE → Expr → Bool
  | .int i, x => (match x with
    | .Constant (.int j) _ _ => decide (i = j)
    | _ => false)
  | .str s, x => (match x with
    | .Constant (.str z) _ _ => decide (s = z) && decide (s.length ≤ line)
    | _ => false)
  | .bl b, x => (match x with
    | .Constant (.bool c) _ _ => b == c
    | _ => false)
  | .non, x => (match x with
    | .Constant .none _ _ => true
    | _ => false)
  | .var i, x => (match x with
    | .Name n _ => decide (I.N[i]? = some n) && visB sc n && nmB n
    | _ => false)
  | .own i, x => (match x with
    | .Name n _ => decide (I.N[i]? = some n) && visB sc n && nmB n
    | _ => false)
  | .glob k, x => (match x with
    | .Name n _ => decide (I.cons[k]? = some n) && glB sc n && nmB n
    | _ => false)
  | .flat e, x => okE I sc e x
  | .tup es, x => (match x with
    | .Tuple xs _ _ => okL I sc es xs && decide (es.length ≤ 1000)
    | _ => false)
  | .lst es, x => (match x with
    | .List xs _ => okL I sc es xs && decide (es.length ≤ 1000)
    | _ => false)
  | .bin op a b, x => (match x with
    | .BinOp y o z _ => decide (o = opOf op) && okE I sc a y && okE I sc b z
    | _ => false)
  | .neg a, x => (match x with
    | .UnaryOp .USub y _ => okE I sc a y
    | _ => false)
  | .not a, x => (match x with
    | .UnaryOp .Not y _ => okE I sc a y
    | _ => false)
  | .and a b, x => (match x with
    | .BoolOp .And [y, z] _ => okE I sc a y && okE I sc b z
    | .BoolOp .And (y :: z :: w :: r) p => okE I sc a y && okE I sc b (.BoolOp .And (z :: w :: r) p)
    | _ => false)
  | .or a b, x => (match x with
    | .BoolOp .Or [y, z] _ => okE I sc a y && okE I sc b z
    | .BoolOp .Or (y :: z :: w :: r) p => okE I sc a y && okE I sc b (.BoolOp .Or (z :: w :: r) p)
    | _ => false)
  | .cmp op a b, x => (match x with
    | .Compare y [o] [z] _ => decide (o = copOf op) && okE I sc a y && okE I sc b z && tame z
    | _ => false)
  | .chain op op' a b c, x => (match x with
    | .Compare y [o, o'] [z, w] _ => decide (o = copOf op) && decide (o' = copOf op') && okE I sc a y && okE I sc b z && okE I sc c w && le_t (md a) && le_t (md b) && le_t (md c) && tame w
    | _ => false)
  | .ife c a b, x => (match x with
    | .IfExp w y z _ => okE I sc c w && okE I sc a y && okE I sc b z
    | _ => false)
  | .idx a i, x => (match x with
    | .Subscript y z _ => okE I sc a y && okE I sc i z && tame z
    | _ => false)
  | .sl a lo hi, x => (match x with
    | .Subscript y (.Slice l h none _) _ => okE I sc a y && le_t (md a) && okO I sc lo l && okO I sc hi h
    | _ => false)
  | .rev a, x => (match x with
    | .Subscript y (.Slice none none (some (.UnaryOp .USub (.Constant (.int 1) _ _) _)) _) _ => okE I sc a y && le_t (md a)
    | _ => false)
  | .call k es, x => (match x with
    | .Call (.Name n _) (y :: ys) [] _ => decide (I.fns[k]? = some n) && glB sc n && nmB n && okL I sc es (y :: ys)
    | _ => false)
  | .f1 f a, x => (match x with
    | .Call (.Name n _) [y] [] _ => decide (n = Str.ofString (f1name f)) && decide (f ≠ .sortedset) && decide (f ≠ .lenset) && glB sc n && okE I sc a y && tame y
    | _ => false)
  | .f2 f a b, x => (match x with
    | .Call (.Name n _) [y, z] [] _ => decide (n = Str.ofString (f2name f)) && decide (f ≠ .index) && glB sc n && okE I sc a y && tame y && okE I sc b z && tame z
    | _ => false)
  | .isa a t, x => (match x with
    | .Call (.Name n _) [y, .Name z _] [] _ => decide (n = Str.ofString "isinstance") && decide (z = Str.ofString (tyName t)) && glB sc n && glB sc z && okE I sc a y && tame y
    | _ => false)
  | .col b it, x => (match x with
    | .Call (.Name n _) [y] [] _ => decide (n = Str.ofString (if b then "tuple" else "list")) && glB sc n && tame y && isRng it && okI I sc it x y
    | _ => false)
  | .dst b a, x => (match x with
    | .Call (.Name n _) [.Call (.Name m _) [y] [] _] [] _ => decide (n = Str.ofString (if b then "len" else "sorted")) && decide (m = Str.ofString "set") && glB sc n && glB sc m && tame y && le_t (md a) && okE I sc a y
    | _ => false)
  | .lc t it cs e, x => (match x with
    | .ListComp elt [⟨tg, iter, ifs, 0⟩] scope _ => okI I sc it tg iter && le_t (mdI it) && tame iter && blkC I.N sc scope (ownOf I.N t.vars) && ((ownOf I.N t.vars).map (·.2) == t.vars) && okT I scope t tg && okC I scope cs ifs && okE I scope e elt && (md e == .e)
    | _ => false)
  | .lc2 t it cs t' it' cs' e, x => (match x with
    | .ListComp elt [⟨tg, iter, ifs, 0⟩, ⟨tg1, iter1, ifs1, 0⟩] scope _ => okI I sc it tg iter && le_t (mdI it) && tame iter && blkC I.N sc scope (ownOf I.N (t.vars ++ t'.vars)) && ((ownOf I.N (t.vars ++ t'.vars)).map (·.2) == t.vars ++ t'.vars) && okT I scope t tg && okC I scope cs ifs &&
        okI I scope it' tg1 iter1 && (mdI it' == .e) && tame iter1 && okT I scope t' tg1 && okC I scope cs' ifs1 && okE I scope e elt && (md e == .e)
    | _ => false)
def okL (I : Inf) (sc : Scope) : List CE → List Expr → Bool
  | [], [] => true
  | e :: es, x :: xs => okE I sc e x && tame x && okL I sc es xs
  | _, _ => false
def okO (I : Inf) (sc : Scope) : Option CE → Option Expr → Bool
  | none, none => true
  | some e, some x => okE I sc e x && le_t (md e) && tame x
  | _, _ => false
/-- tests: at most one -/
def okC (I : Inf) (sc : Scope) : List CE → List Expr → Bool
  | [], xs => xs.isEmpty
  | e :: es, xs => es.isEmpty && (match xs with
    | [x] => okE I sc e x
    | _ => false)
def okI (I : Inf) (sc : Scope) : CI → Expr → Expr → Bool
  | .seq e, _, x => okE I sc e x && le_t (md e)
  | .rng1 b, _, x => (match x with
    | .Call (.Name n _) [y] [] _ => decide (n = Str.ofString "range") && glB sc n && okE I sc b y && tame y
    | _ => false)
  | .rng2 a b, _, x => (match x with
    | .Call (.Name n _) [y, z] [] _ => decide (n = Str.ofString "range") && glB sc n && okE I sc a y && tame y && okE I sc b z && tame z
    | _ => false)
  | .rng3 a b st, _, x => (match x with
    | .Call (.Name n _) [y, z, .Constant (.int j) _ _] [] _ => decide (n = Str.ofString "range") && glB sc n && okE I sc a y && tame y && okE I sc b z && tame z && decide (j = st)
    | .Call (.Name n _) [y, z, .UnaryOp .USub (.Constant (.int j) _ _) _] [] _ => decide (n = Str.ofString "range") && glB sc n && okE I sc a y && tame y && okE I sc b z && tame z && decide (-j = st)
    | _ => false)
  | .enum e, tg, x => isTupE tg && (match x with
    | .Call (.Name n _) [y] [] _ => decide (n = Str.ofString "enumerate") && glB sc n && okE I sc e y && tame y && le_t (md e)
    | _ => false)
  | .zip a b, tg, x => isTupE tg && (match x with
    | .Call (.Name n _) [y, z] [] _ => decide (n = Str.ofString "zip") && glB sc n && okE I sc a y && tame y && okE I sc b z && tame z && le_t ((md a).sup (md b))
    | _ => false)
  | .enumzip _ _, _, _ => false
end
theorem eqMd {a b : Md} (h : (a == b) = true) : a = b := by simpa using h
theorem starEach_tame {e : Expr} (h : tame e = true) (es : List Expr) (env : PySem.Env) : starEach (e :: es) env = (false, eval e env) :: starEach es env := by
  cases e <;> first | rfl | cases h
theorem sub_tame {e : Expr} (h : tame e = true) : PlainIx e := by
  cases e <;> first | exact (fun _ _ => rfl) | cases h
theorem behind_tame {e : Expr} (h : tame e = true) (op : CmpOp) : behindInMarks op e = false := by
  cases e <;> first | rfl | cases h
theorem folded_tame {e : Expr} (h : tame e = true) (env : PySem.Env) (x : Value) : foldedSetIterable e env x = pure x := by
  cases e <;> first | rfl | cases h
end Bw
end

section
set_option autoImplicit false
set_option linter.all false
/-! Bw N: each construct's reading by trees. -/
namespace Bw
open PySem L2
/-- what a def of the text is worth, by trees -/
def spT (K : Fr') (cls : Nat → Value) (n : Nat) (Φ : List SV → Res SV) : Sp := fun vs H Q E => ∃ ss R, vs.length = n ∧ Sub R H ∧ RpSs K R ss vs ∧
  (match Φ ss with
   | .ok r => ∀ v H' R', Grow H R H' R' → RpS K R' r v → Q v H'
   | .exc c => ∀ H' R', Grow H R H' R' → E (cls c) none H'
   | .bad => False)
/-- the name of an own class of errors that is called with a text -/
def ExcAt (K : Fr') (mg : Str → Option Value) (u : Value) (x : Str) : Prop := ∃ C, u = .ref C ∧ mg x = some (.ref C) ∧ PySem.W.keepIn K (.ref C) = true ∧ PySem.W.subIn K (.ref C) (.type "BaseException") = some true ∧
  PySem.W.typeIn K (.ref C) = some (.type "type") ∧ PySem.W.excIn K C [.type "ValueError", .type "Exception", .type "BaseException", .type "object"] "ValueError.__new__" = true
structure Cok (I : Inf) (G : Ctx) (F : Fr) (X : Cx) (sc : Scope) : Prop where
  hK : F.K = X.K
  hN : X.N = I.N
  nd : I.N.Nodup
  calm : X.calm = true
  un : X.A.units + 100 < cLine
  fnc : ∀ x, sc.names.lookup x = some .cell → X.fn x = true
  sc : ∀ x k, sc.names.lookup x = some k → X.env.scope.names.lookup x = some k ∨ (k = .free ∧ X.env.scope.names.lookup x = some .cell)
  bl : ∀ x ∈ builtins, X.mg (Str.ofString x) = none
  cons : ∀ (k : Nat) (x : Str) (s : SV), I.cons[k]? = some x → G.cons[k]? = some s → ∃ u v, X.mg x = some u ∧ RelV v u ∧ ∀ R, RpS X.K R s v
  fns : ∀ (k : Nat) (x : Str), I.fns[k]? = some x → ∃ f fd ps Φ l, G.fns[k]? = some Φ ∧ X.mg x = some (.ref f) ∧ PySem.W.keepIn X.K (.ref f) = true ∧ Binds X.K fd ps [] ∧ Room l X.A ∧
    (∀ ss, Φ ss ≠ .bad → ss.length = ps.length) ∧ FnOk X.prog X.w X.K X.mg X.base (L2.CX X.prog X.w) l f fd ps (spT X.K F.cls ps.length Φ)
  takes : Takes X F.W
  exs : ∀ (k : Nat) (x : Str), I.exs[k]? = some x → ExcAt X.K X.mg (F.cls k) x
  sub : ∀ (j k : Nat) (b : Bool), G.sub j k = some b → PySem.W.exmOne X.K (F.cls j) (F.cls k) = some b
section
variable {I : Inf} {G : Ctx} {F : Fr} {X : Cx} {sc : Scope} {pos : Pos}
theorem vis_of (C : Cok I G F X sc) {x : Str} (h : visB sc x = true) : Vis X.env.scope x := by
  unfold visB at h
  split at h
  · rcases C.sc _ _ (by assumption) with e | ⟨e, _⟩
    · exact .inl e
    · cases e
  · rcases C.sc _ _ (by assumption) with e | ⟨e, _⟩
    · exact .inr (.inl e)
    · cases e
  · rcases C.sc _ _ (by assumption) with e | ⟨_, e⟩
    · exact .inr (.inr e)
    · exact .inr (.inl e)
  · cases h
theorem gl_of (C : Cok I G F X sc) {x : Str} (h : glB sc x = true) : Gl X x := by
  unfold glB at h
  split at h
  · rcases C.sc _ _ (by assumption) with e | ⟨e, _⟩
    · exact e
    · cases e
  · cases h
theorem loc_of (C : Cok I G F X sc) {x : Str} (h : locB sc x = true) : Loc X.env.scope x := by
  unfold locB at h
  split at h
  · rcases C.sc _ _ (by assumption) with e | ⟨e, _⟩
    · exact .inl e
    · cases e
  · rcases C.sc _ _ (by assumption) with e | ⟨e, _⟩
    · exact .inr e
    · cases e
  · cases h
theorem nm_dest {x : Str} (h : nmB x = true) : (x == ("__debug__" : Str)) = false ∧ (x == ("__classdict__" : Str)) = false ∧ x ≠ "__name__" := by
  unfold nmB at h
  simp only [Bool.and_eq_true, Bool.not_eq_true'] at h
  refine ⟨h.1.1, h.1.2, fun e => ?_⟩
  have := h.2
  rw [e] at this
  simp at this
theorem peLe {e : Expr} {g : Gm → Res SV} {m m' : Md} (h : PE X e (Rd' F m g)) (l : m.le m' = true) : PE X e (Rd' F m' g) := peImp h fun σ H Q ⟨Γ, R, rel, p⟩ => by
  refine ⟨Γ, R, rel, ?_⟩
  cases e : g Γ with
  | ok s => rw [e] at p; exact fun v H' R' gr rv => p v H' R' gr (rv.le gr.sub l)
  | exc c => rw [e] at p; exact p
  | bad => rw [e] at p; exact p
theorem peEq {e : Expr} {g g' : Gm → Res SV} {m : Md} (h : PE X e (Rd' F m g)) (k : ∀ Γ, g' Γ = g Γ) : PE X e (Rd' F m g') := by
  have : g' = g := funext k
  rw [this]; exact h
/-! ### names, constants -/
theorem r_const {e : Expr} {v : V} {s : SV} (h : PE X e (tC v)) (k : ∀ R, RpS F.K R s v) : PE X e (Rd' F .e fun _ => .ok s) := peImp h fun σ H Q ⟨Γ, R, rel, p⟩ => Post.now rel.sub p (k R)
theorem r_var (C : Cok I G F X sc) {i : Nat} {x : Str} (h1 : I.N[i]? = some x) (h2 : visB sc x = true) (h3 : nmB x = true) : PE X (.Name x pos) (Rd' F .e (ev G (.var i))) := by
  refine peImp (pe_var (i := i) (by rw [C.hN]; exact h1) (vis_of C h2) (nm_dest h3).1 (nm_dest h3).2.1) fun σ H Q ⟨Γ, R, rel, p⟩ => ?_
  have p : Post F .e R σ H (match Γ[i]? with | some (.sh s) => .ok s | _ => .bad) Q := p
  split at p
  · rename_i s e
    obtain ⟨v, e1, r⟩ := rel.slot i s e
    exact ⟨v, e1, Post.now rel.sub p r⟩
  · exact p.elim
theorem r_own (C : Cok I G F X sc) {i : Nat} {x : Str} (h1 : I.N[i]? = some x) (h2 : visB sc x = true) (h3 : nmB x = true) : PE X (.Name x pos) (Rd' F .t (ev G (.own i))) := by
  refine peImp (pe_var (i := i) (by rw [C.hN]; exact h1) (vis_of C h2) (nm_dest h3).1 (nm_dest h3).2.1) fun σ H Q ⟨Γ, R, rel, p⟩ => ?_
  have p : Post F .t R σ H (match Γ[i]? with | some (.ow s) => .ok s | _ => .bad) Q := p
  split at p
  · rename_i s e
    obtain ⟨a, vs, ps, rfl, e2, e3, e4, e5, e6, e7⟩ := rel.own i s e
    exact ⟨.ref a, e2, Post.now rel.sub p (.inr ⟨ps, a, vs, rfl, rfl, e3, e4, e5, e7⟩)⟩
  · exact p.elim
theorem r_glob (C : Cok I G F X sc) {k : Nat} {x : Str} (h1 : I.cons[k]? = some x) (h2 : glB sc x = true) (h3 : nmB x = true) : PE X (.Name x pos) (Rd' F .e (ev G (.glob k))) := by
  cases e : G.cons[k]? with
  | none => exact ⟨fun pins s σ H Q I ⟨Γ, R, rel, p⟩ => by
      have p : Post F .e R σ H (match G.cons[k]? with | some s => .ok s | none => .bad) Q := p
      rw [e] at p; exact p.elim⟩
  | some s =>
    obtain ⟨u, v, e1, e2, e3⟩ := C.cons k x s h1 e
    refine peEq (r_const (pe_glob (gl_of C h2) e1 e2 (nm_dest h3).1) fun R => by rw [C.hK]; exact e3 R) fun Γ => ?_
    show (match G.cons[k]? with | some s => Res.ok s | none => .bad) = _
    rw [e]
/-! ### operators -/
/-- what grew from everything made here, hidden -/
theorem Grow.veil {H0 R H H' R' : Hp} (h : Sub R H) (g : Grow H (Rall H0 R H) H' R') : Grow H R H' R := ⟨g.same, .refl, h.trans g.same, fun _ _ => rfl⟩
theorem veil_sub {H0 R H H' R' : Hp} (h0 : Sub H0 H) (g : Grow H (Rall H0 R H) H' R') : Sub R' (Rall H0 R H') := fun a o e => by
  cases q : H0 a with
  | none => unfold Rall; rw [q]; exact g.sub _ _ e
  | some u =>
    have e2 := g.old a (by rw [h0 _ _ q]; simp)
    rw [e2] at e
    unfold Rall at e ⊢
    rw [q] at e ⊢
    exact e
theorem Post.all {R H : Hp} {σ : L2.St} {r : Res SV} {Q : VK} (h0 : Sub F.H0 H) (hs : Sub R H) (h : Post F .f R σ H r Q) : Post F .e (Rall F.H0 R H) σ H r Q := by
  cases r with
  | bad => exact h
  | exc c => exact fun H' R' g => h H' R (g.veil hs)
  | ok s => exact fun v H' R' g rv => h v H' R (g.veil hs) (RpS.mono (veil_sub h0 g) rv)
theorem op_cases (a b : Md) : (a.le .t = true ∧ b.le .t = true ∧ a.op b = .e) ∨ a.op b = .f := by cases a <;> cases b <;> simp [Md.op, Md.sup, Md.op1, Md.le]
/-- two operands in a row -/
theorem rd_two {ga gb : Gm → Res SV} {op : SV → SV → Res SV} {K : V → V → Hp → VK → Prop}
    (hr : ∀ x y s t R σ H Q, Sub R H → Rm F R H .t s x → Rm F R H .t t y → Post F .e R σ H (op s t) Q → K x y H Q) {σ : L2.St} {H : Hp} {Q : VK} (h : Rd' F .e (fun Γ => (ga Γ).bind fun x => (gb Γ).bind fun y => op x y) σ H Q) :
    Rd' F .t ga σ H fun x H1 => Rd' F .t gb σ H1 fun y H2 => K x y H2 Q := by
  obtain ⟨Γ, R, rel, p⟩ := h
  refine ⟨Γ, R, rel, (Post.bind (m := .t) rel.sub p).mono fun x H1 ⟨s, R1, _, g1, rx, p1⟩ => ?_⟩
  exact ⟨Γ, R1, rel.grow g1, (Post.bind (m := .t) g1.sub p1).mono fun y H2 ⟨t, R2, _, g2, ry, p2⟩ => hr _ _ s t R2 σ _ _ g2.sub (rx.grow g2) ry p2⟩
theorem rd_twoF {ga gb : Gm → Res SV} {op : SV → SV → Res SV} {K : V → V → Hp → VK → Prop}
    (hr : ∀ x y s t R σ H Q, Sub R H → Rm F R H .t s x → Rm F R H .t t y → Post F .e R σ H (op s t) Q → K x y H Q) {σ : L2.St} {H : Hp} {Q : VK} (h : Rd' F .f (fun Γ => (ga Γ).bind fun x => (gb Γ).bind fun y => op x y) σ H Q) :
    Rd' F .f ga σ H fun x H1 => Rd' F .f gb σ H1 fun y H2 => K x y H2 Q := by
  obtain ⟨Γ, R, rel, p⟩ := h
  refine ⟨Γ, R, rel, (Post.bind (m := .f) rel.sub p).mono fun x H1 ⟨s, R1, _, g1, rx, p1⟩ => ?_⟩
  exact ⟨Γ, R1, rel.grow g1, (Post.bind (m := .f) g1.sub p1).mono fun y H2 ⟨t, R2, _, g2, ry, p2⟩ => hr _ _ s t (Rall F.H0 R2 H2) σ _ _ (Rall.sub g2.sub) (.inl (rx.grow g2)) (.inl ry) (p2.all ((rel.same.trans g1.same).trans g2.same) g2.sub)⟩
theorem le_f (m : Md) : m.le .f = true := by cases m <;> rfl
theorem r_twoG {a b e : Expr} {ga gb : Gm → Res SV} {op : SV → SV → Res SV} {ma mb : Md} {K : V → V → Hp → VK → Prop} (ha : PE X a (Rd' F ma ga)) (hb : PE X b (Rd' F mb gb))
    (mk : ∀ {ta tb : TE}, PE X a ta → PE X b tb → PE X e (fun σ H Q => ta σ H fun x H1 => tb σ H1 fun y H2 => K x y H2 Q))
    (hr : ∀ x y s t R σ H Q, Sub R H → Rm F R H .t s x → Rm F R H .t t y → Post F .e R σ H (op s t) Q → K x y H Q) : PE X e (Rd' F (ma.op mb) fun Γ => (ga Γ).bind fun x => (gb Γ).bind fun y => op x y) := by
  rcases op_cases ma mb with ⟨la, lb, e1⟩ | e1
  · rw [e1]
    exact peImp (mk (peLe ha la) (peLe hb lb)) fun σ H Q h => rd_two hr h
  · rw [e1]
    exact peImp (mk (peLe ha (le_f _)) (peLe hb (le_f _))) fun σ H Q h => rd_twoF hr h
theorem r_two {a b e : Expr} {ga gb : Gm → Res SV} {op : SV → SV → Res SV} {ma mb : Md} {r : R2} (ha : PE X a (Rd' F ma ga)) (hb : PE X b (Rd' F mb gb))
    (mk : ∀ {ta tb : TE}, PE X a ta → PE X b tb → PE X e (tOp r ta tb))
    (hr : ∀ x y H Q, rB F .e op x y H Q → r x y H Q) : PE X e (Rd' F (ma.op mb) fun Γ => (ga Γ).bind fun x => (gb Γ).bind fun y => op x y) :=
  r_twoG (K := r) ha hb mk fun x y s t R σ H Q hs rx ry p => hr _ _ _ _ ⟨s, t, R, σ, hs, rx, ry, p⟩
theorem r_one {a e : Expr} {ga : Gm → Res SV} {op : SV → Res SV} {m : Md} {K : V → Hp → VK → Prop} (ha : PE X a (Rd' F m ga))
    (mk : ∀ {ta : TE}, PE X a ta → PE X e (fun σ H Q => ta σ H fun x H1 => K x H1 Q))
    (hr : ∀ x s R σ H Q, Sub R H → Rm F R H .t s x → Post F .e R σ H (op s) Q → K x H Q) : PE X e (Rd' F m.op1 fun Γ => (ga Γ).bind fun x => op x) := by
  have go : ∀ (l : m.le .t = true), PE X e (Rd' F .e fun Γ => (ga Γ).bind fun x => op x) := fun l => peImp (mk (peLe ha l)) fun σ H Q ⟨Γ, R, rel, p⟩ =>
    ⟨Γ, R, rel, (Post.bind (m := .t) rel.sub p).mono fun x H1 ⟨s, R1, _, g1, rx, p1⟩ => hr _ s R1 σ _ _ g1.sub rx p1⟩
  cases m with
  | e => exact go rfl
  | t => exact go rfl
  | f => exact peImp (mk ha) fun σ H Q ⟨Γ, R, rel, p⟩ =>
    ⟨Γ, R, rel, (Post.bind (m := .f) rel.sub p).mono fun x H1 ⟨s, R1, _, g1, rx, p1⟩ => hr _ s (Rall F.H0 R1 H1) σ _ _ (Rall.sub g1.sub) (.inl rx) (p1.all (rel.same.trans g1.same) g1.sub)⟩
theorem r_bin (C : Cok I G F X sc) {a b : Expr} {ga gb : Gm → Res SV} {ma mb : Md} (op : BOp) (ha : PE X a (Rd' F ma ga)) (hb : PE X b (Rd' F mb gb)) :
    PE X (.BinOp a (opOf op) b pos) (Rd' F (ma.op mb) fun Γ => (ga Γ).bind fun x => (gb Γ).bind fun y => binop op x y) :=
  r_two ha hb (pe_op (op_bin C.hK op)) fun _ _ _ _ h => h
theorem r_cmp (C : Cok I G F X sc) {a b : Expr} {ga gb : Gm → Res SV} {ma mb : Md} (op : COp) (ht : tame b = true) (ha : PE X a (Rd' F ma ga)) (hb : PE X b (Rd' F mb gb)) :
    PE X (.Compare a [copOf op] [b] pos) (Rd' F (ma.op mb) fun Γ => (ga Γ).bind fun x => (gb Γ).bind fun y => (cmpop op x y).bind fun c => .ok (.d (.bl c))) :=
  r_two ha hb (fun ha hb => pe_cmpR (op_cmp C.hK C.un op) ha hb (behind_tame ht _)) fun _ _ _ _ h => h
theorem r_idx (C : Cok I G F X sc) {a b : Expr} {ga gb : Gm → Res SV} {ma mb : Md} (ht : tame b = true) (ha : PE X a (Rd' F ma ga)) (hb : PE X b (Rd' F mb gb)) :
    PE X (.Subscript a b pos) (Rd' F (ma.op mb) fun Γ => (ga Γ).bind fun x => (gb Γ).bind fun y => idxop x y) :=
  r_two ha hb (fun ha hb => pe_ix (ix_op C.hK) ha hb (sub_tame ht)) fun _ _ _ _ h => h
theorem post_int {s : SV} {g : Int → Res SV} {Q : VK} {m : Md} {R H : Hp} {σ : L2.St} (h : Post F m R σ H ((isInt? s).bind g) Q) : ∃ i, s = .d (.int i) ∧ Post F m R σ H (g i) Q := by
  cases s with
  | d p => cases p <;> first | exact h.elim | exact ⟨_, rfl, h⟩
  | _ => exact h.elim
theorem post_bl {s : SV} {g : Bool → Res SV} {Q : VK} {m : Md} {R H : Hp} {σ : L2.St} (h : Post F m R σ H ((isBl? s).bind g) Q) : ∃ i, s = .d (.bl i) ∧ Post F m R σ H (g i) Q := by
  cases s with
  | d p => cases p <;> first | exact h.elim | exact ⟨_, rfl, h⟩
  | _ => exact h.elim
theorem Rm.fint {R H : Hp} {i : Int} {x : V} {m : Md} (r : Rm F R H m (.d (.int i)) x) : x = .int i := by
  cases m with
  | e => exact r
  | f => exact r
  | t =>
    rcases r with r | ⟨ps, a, vs, e, _⟩
    · exact r
    · cases e
theorem Rm.fbl {R H : Hp} {i : Bool} {x : V} {m : Md} (r : Rm F R H m (.d (.bl i)) x) : x = .bl i := by
  cases m with
  | e => exact r
  | f => exact r
  | t =>
    rcases r with r | ⟨ps, a, vs, e, _⟩
    · exact r
    · cases e
theorem Rm.sbl {R H : Hp} {i : Bool} {m : Md} : Rm F R H m (.d (.bl i)) (.bl i) := by
  cases m with
  | e => exact rfl
  | f => exact rfl
  | t => exact .inl rfl
theorem r_neg (C : Cok I G F X sc) {a : Expr} {ga : Gm → Res SV} {ma : Md} (ha : PE X a (Rd' F ma ga)) :
    PE X (.UnaryOp .USub a pos) (Rd' F .e fun Γ => (ga Γ).bind fun x => (isInt? x).bind fun i => .ok (.d (.int (-i)))) :=
  peImp (pe_un un_neg ha) fun σ H Q ⟨Γ, R, rel, p⟩ => by
    refine ⟨Γ, R, rel, (Post.bind (m := ma) rel.sub p).mono fun x H1 ⟨s, R1, _, g1, rx, p1⟩ => ?_⟩
    obtain ⟨i, rfl, p2⟩ := post_int p1
    obtain rfl := rx.fint
    exact ⟨i, rfl, Post.now g1.sub p2 rfl⟩
theorem r_not (C : Cok I G F X sc) {a : Expr} {ga : Gm → Res SV} {ma : Md} (ha : PE X a (Rd' F ma ga)) :
    PE X (.UnaryOp .Not a pos) (Rd' F .e fun Γ => (ga Γ).bind fun x => (isBl? x).bind fun b => .ok (.d (.bl (!b)))) :=
  peImp (pe_not ha) fun σ H Q ⟨Γ, R, rel, p⟩ => by
    refine ⟨Γ, R, rel, (Post.bind (m := ma) rel.sub p).mono fun x H1 ⟨s, R1, _, g1, rx, p1⟩ => ?_⟩
    obtain ⟨i, rfl, p2⟩ := post_bl p1
    obtain rfl := rx.fbl
    exact ⟨i, rfl, Post.now g1.sub p2 rfl⟩
theorem r_and (C : Cok I G F X sc) {a b : Expr} {r : List Expr} {ga gb : Gm → Res SV} {ma mb : Md} (ha : PE X a (Rd' F ma ga)) (hb : PE X (.BoolOp .And (b :: r) pos) (Rd' F mb gb)) :
    PE X (.BoolOp .And (a :: b :: r) pos) (Rd' F mb fun Γ => (ga Γ).bind fun x => (isBl? x).bind fun c => if c then gb Γ else .ok (.d (.bl false))) :=
  peImp (pe_and ha hb) fun σ H Q ⟨Γ, R, rel, p⟩ => by
    refine ⟨Γ, R, rel, (Post.bind (m := ma) rel.sub p).mono fun x H1 ⟨s, R1, _, g1, rx, p1⟩ => ?_⟩
    obtain ⟨i, rfl, p2⟩ := post_bl p1
    obtain rfl := rx.fbl
    refine ⟨i, rfl, ?_⟩
    cases i with
    | true => exact ⟨Γ, R1, rel.grow g1, p2⟩
    | false => exact Post.now g1.sub p2 .sbl
theorem r_or (C : Cok I G F X sc) {a b : Expr} {r : List Expr} {ga gb : Gm → Res SV} {ma mb : Md} (ha : PE X a (Rd' F ma ga)) (hb : PE X (.BoolOp .Or (b :: r) pos) (Rd' F mb gb)) :
    PE X (.BoolOp .Or (a :: b :: r) pos) (Rd' F mb fun Γ => (ga Γ).bind fun x => (isBl? x).bind fun c => if c then .ok (.d (.bl true)) else gb Γ) :=
  peImp (pe_or ha hb) fun σ H Q ⟨Γ, R, rel, p⟩ => by
    refine ⟨Γ, R, rel, (Post.bind (m := ma) rel.sub p).mono fun x H1 ⟨s, R1, _, g1, rx, p1⟩ => ?_⟩
    obtain ⟨i, rfl, p2⟩ := post_bl p1
    obtain rfl := rx.fbl
    refine ⟨i, rfl, ?_⟩
    cases i with
    | false => exact ⟨Γ, R1, rel.grow g1, p2⟩
    | true => exact Post.now g1.sub p2 .sbl
theorem rd_chain {ga gb gc : Gm → Res SV} (op op' : COp) {σ : L2.St} {H : Hp} {Q : VK}
    (h : Rd' F .e (fun Γ => (ga Γ).bind fun x => (gb Γ).bind fun y => (cmpop op x y).bind fun r =>
      if r then (gc Γ).bind fun z => (cmpop op' y z).bind fun r' => .ok (.d (.bl r')) else .ok (.d (.bl false))) σ H Q) : tChain (rC F op) (rC F op') (Rd' F .t ga) (Rd' F .t gb) (Rd' F .t gc) σ H Q := by
  obtain ⟨Γ, R, rel, p⟩ := h
  refine ⟨Γ, R, rel, (Post.bind (m := .t) rel.sub p).mono fun x H1 ⟨s, R1, _, g1, rx, p1⟩ => ?_⟩
  refine ⟨Γ, R1, rel.grow g1, (Post.bind (m := .t) g1.sub p1).mono fun y H2 ⟨t, R2, _, g2, ry, p2⟩ => ?_⟩
  have rel2 := (rel.grow g1).grow g2
  refine ⟨s, t, R2, σ, g2.sub, rx.grow g2, ry, ?_⟩
  show Post F .e R2 σ H2 ((cmpop op s t).bind fun c => .ok (.d (.bl c))) _
  cases e : cmpop op s t with
  | bad => rw [e] at p2; exact p2.elim
  | exc k => rw [e] at p2; exact p2
  | ok r =>
    rw [e] at p2
    intro v H3 R3 g3 (rv : v = .bl r)
    subst rv
    refine ⟨r, rfl, ?_⟩
    cases r with
    | false =>
      have p3 : Post F .e R2 σ H2 (.ok (.d (.bl false))) Q := p2
      exact Post.now g3.sub (p3.grow g3) rfl
    | true =>
      have p3 : Post F .e R2 σ H2 ((gc Γ).bind fun z => (cmpop op' t z).bind fun r' => .ok (.d (.bl r'))) Q := p2
      have p3 := p3.grow g3
      refine ⟨Γ, R3, rel2.grow g3, (Post.bind (m := .t) g3.sub p3).mono fun z H4 ⟨u, R4, _, g4, rz, p4⟩ => ⟨t, u, R4, σ, g4.sub, (ry.grow g3).grow g4, rz, p4⟩⟩
theorem r_chain (C : Cok I G F X sc) {a b c : Expr} {ga gb gc : Gm → Res SV} {ma mb mc : Md} (op op' : COp) (la : ma.le .t = true) (lb : mb.le .t = true) (lc : mc.le .t = true) (ht : tame c = true)
    (ha : PE X a (Rd' F ma ga)) (hb : PE X b (Rd' F mb gb)) (hc : PE X c (Rd' F mc gc)) :
    PE X (.Compare a [copOf op, copOf op'] [b, c] pos) (Rd' F .e fun Γ => (ga Γ).bind fun x => (gb Γ).bind fun y => (cmpop op x y).bind fun r =>
      if r then (gc Γ).bind fun z => (cmpop op' y z).bind fun r' => .ok (.d (.bl r')) else .ok (.d (.bl false))) := by
  exact peImp (pe_chain (op_cmp C.hK C.un op) (op_cmp C.hK C.un op') (peLe ha la) (peLe hb lb) (peLe hc lc) (behind_tame ht _)) fun σ H Q h => rd_chain op op' h
theorem flat_cases (s : SV) : flat? s = .bad ∨ (flat? s = .ok s ∧ ∀ (R R' : Hp) (v : V), RpS F.K R s v → RpS F.K R' s v) := by
  cases s with
  | d q =>
    cases q
    · exact .inr ⟨rfl, fun _ _ _ r => r⟩
    · exact .inr ⟨rfl, fun _ _ _ r => r⟩
    · exact .inr ⟨rfl, fun _ _ _ r => r⟩
    · exact .inr ⟨rfl, fun _ _ _ r => r⟩
    · exact .inl rfl
    · exact .inl rfl
  | _ => exact .inl rfl
theorem r_flat {a : Expr} {ga : Gm → Res SV} {m : Md} (ha : PE X a (Rd' F m ga)) : PE X a (Rd' F .e fun Γ => (ga Γ).bind flat?) :=
  peImp (peLe ha (le_f m)) fun σ H Q ⟨Γ, R, rel, p⟩ => ⟨Γ, R, rel, (Post.bind (m := .f) rel.sub p).mono fun x H1 ⟨s, R1, _, g1, rx, p1⟩ => by
    rcases flat_cases (F := F) s with e | ⟨e, k⟩
    · rw [e] at p1; exact p1.elim
    · rw [e] at p1; exact Post.now g1.sub p1 (k _ _ _ rx)⟩
theorem bl_flat (r : Res SV) : ((r.bind flat?).bind isBl?) = r.bind isBl? := by
  cases r with
  | bad => rfl
  | exc c => rfl
  | ok s =>
    cases s with
    | d q => cases q <;> rfl
    | _ => rfl
/-! ### tests -/
theorem ptB {e : Expr} {m : Md} {g : Gm → Res SV} (h : PE X e (Rd' F m g)) (he : ∀ whole, isTrue e X.env whole = (do let v ← whole; standAt e.pos; holding [v] (truthy v))) : PT X e (RdB F fun Γ => (g Γ).bind isBl?) := by
  refine ptImp (pt_val h he) fun σ H Q ⟨Γ, R, rel, p⟩ => ⟨Γ, R, rel, ?_⟩
  have p : PostB F R σ H ((g Γ).bind isBl?) Q := p
  cases e : g Γ with
  | bad => rw [e] at p; exact p.elim
  | exc c => rw [e] at p; exact p
  | ok s =>
    rw [e] at p
    intro v H' R' gr rv
    have p : PostB F R σ H (isBl? s) Q := p
    cases s with
    | d q =>
      cases q <;> first | exact p.elim | skip
      exact ⟨_, rv.fbl, p H' R' gr⟩
    | _ => exact p.elim
theorem tB_of {e : Expr} {m : Md} {g : Gm → Res SV} {t : TE} (hpt : PT X e (tB t)) (ht : ∀ σ H Q, Rd' F m g σ H Q → t σ H Q) : PT X e (RdB F fun Γ => (g Γ).bind isBl?) := by
  refine ptImp hpt fun σ H Q ⟨Γ, R, rel, p⟩ => ht _ _ _ ⟨Γ, R, rel, ?_⟩
  have p : PostB F R σ H ((g Γ).bind isBl?) Q := p
  cases e : g Γ with
  | bad => rw [e] at p; exact p.elim
  | exc c => rw [e] at p; exact p
  | ok s =>
    rw [e] at p
    intro v H' R' gr rv
    have p : PostB F R σ H (isBl? s) Q := p
    cases s with
    | d q =>
      cases q <;> first | exact p.elim | skip
      exact ⟨_, rv.fbl, p H' R' gr⟩
    | _ => exact p.elim
theorem t_cmp (C : Cok I G F X sc) {a b : Expr} {ga gb : Gm → Res SV} {ma mb : Md} (op : COp) (ht : tame b = true) (ha : PE X a (Rd' F ma ga)) (hb : PE X b (Rd' F mb gb)) :
    PT X (.Compare a [copOf op] [b] pos) (RdB F fun Γ => ((ga Γ).bind fun x => (gb Γ).bind fun y => (cmpop op x y).bind fun c => .ok (.d (.bl c))).bind isBl?) := by
  have hr : ∀ x y s t R σ H Q, Sub R H → Rm F R H .t s x → Rm F R H .t t y → Post F .e R σ H ((cmpop op s t).bind fun c => .ok (.d (.bl c))) Q → rC F op x y H Q := fun x y s t R σ H Q hs rx ry p => ⟨s, t, R, σ, hs, rx, ry, p⟩
  rcases op_cases ma mb with ⟨la, lb, e1⟩ | e1
  · exact tB_of (m := .e) (pt_cmpR (op_cmp C.hK C.un op) (peLe ha la) (peLe hb lb) (behind_tame ht _)) fun σ H Q h => rd_two hr h
  · exact tB_of (m := .f) (pt_cmpR (op_cmp C.hK C.un op) (peLe ha (le_f _)) (peLe hb (le_f _)) (behind_tame ht _)) fun σ H Q h => rd_twoF hr h
theorem t_chain (C : Cok I G F X sc) {a b c : Expr} {ga gb gc : Gm → Res SV} {ma mb mc : Md} (op op' : COp) (la : ma.le .t = true) (lb : mb.le .t = true) (lc : mc.le .t = true) (ht : tame c = true)
    (ha : PE X a (Rd' F ma ga)) (hb : PE X b (Rd' F mb gb)) (hc : PE X c (Rd' F mc gc)) :
    PT X (.Compare a [copOf op, copOf op'] [b, c] pos) (RdB F fun Γ => ((ga Γ).bind fun x => (gb Γ).bind fun y => (cmpop op x y).bind fun r =>
      if r then (gc Γ).bind fun z => (cmpop op' y z).bind fun r' => .ok (.d (.bl r')) else .ok (.d (.bl false))).bind isBl?) :=
  tB_of (m := .e) (pt_chain (op_cmp C.hK C.un op) (op_cmp C.hK C.un op') (peLe ha la) (peLe hb lb) (peLe hc lc) (behind_tame ht _)) fun σ H Q h => rd_chain op op' h
/-- a test, then what hangs on it -/
theorem PostB.bind {R H : Hp} {σ : L2.St} {r : Res SV} {f : Bool → Res SV} {Q : Bool → Hp → Prop} (hs : Sub R H) (h : PostB F R σ H ((r.bind fun x => (isBl? x).bind f).bind isBl?) Q) :
    PostB F R σ H (r.bind isBl?) (fun c H1 => ∃ R1, Grow H R H1 R1 ∧ PostB F R1 σ H1 ((f c).bind isBl?) Q) := by
  cases r with
  | bad => exact h
  | exc c => exact h
  | ok s =>
    have h : PostB F R σ H (((isBl? s).bind f).bind isBl?) Q := h
    show PostB F R σ H (isBl? s) _
    cases s with
    | d q =>
      cases q <;> first | exact h.elim | skip
      exact fun H1 R1 g => ⟨R1, g, PostB.grow (r := (f _).bind isBl?) h g⟩
    | _ => exact h.elim
theorem PostB.mono {R H : Hp} {σ : L2.St} {r : Res Bool} {Q Q' : Bool → Hp → Prop} (h : PostB F R σ H r Q) (k : ∀ b H', Q b H' → Q' b H') : PostB F R σ H r Q' := by
  cases r with
  | bad => exact h
  | exc c => exact h
  | ok b => exact fun H' R' g => k _ _ (h H' R' g)
theorem t_not {a : Expr} {ga : Gm → Res SV} (ha : PT X a (RdB F fun Γ => (ga Γ).bind isBl?)) :
    PT X (.UnaryOp .Not a pos) (RdB F fun Γ => ((ga Γ).bind fun x => (isBl? x).bind fun b => .ok (.d (.bl (!b)))).bind isBl?) :=
  ptImp (pt_not ha) fun σ H Q ⟨Γ, R, rel, p⟩ => ⟨Γ, R, rel, (PostB.bind (f := fun b => .ok (.d (.bl (!b)))) rel.sub p).mono fun c H1 ⟨R1, g1, q⟩ => q H1 R1 (.refl g1.sub)⟩
/-- the region that goes with a test's end is lost in TT; it is told again -/
theorem PostB.bind' {R H : Hp} {σ : L2.St} {r : Res Bool} {f : Bool → Res Bool} {Q : Bool → Hp → Prop} (h : PostB F R σ H (r.bind f) Q) : PostB F R σ H r (fun c H1 => ∃ R1, Grow H R H1 R1 ∧ PostB F R1 σ H1 (f c) Q) := by
  cases r with
  | bad => exact h
  | exc c => exact h
  | ok b => exact fun H1 R1 g => ⟨R1, g, PostB.grow (r := f b) h g⟩
theorem bl_and (ra : Res SV) (rb : Res SV) : ((ra.bind fun x => (isBl? x).bind fun c => if c then rb else .ok (.d (.bl false))).bind isBl?) = ((ra.bind isBl?).bind fun c => if c then rb.bind isBl? else .ok false) := by
  cases ra with
  | bad => rfl
  | exc c => rfl
  | ok s =>
    cases s with
    | d q =>
      cases q <;> first | rfl | skip
      rename_i b
      cases b <;> rfl
    | _ => rfl
theorem bl_or (ra : Res SV) (rb : Res SV) : ((ra.bind fun x => (isBl? x).bind fun c => if c then .ok (.d (.bl true)) else rb).bind isBl?) = ((ra.bind isBl?).bind fun c => if c then .ok true else rb.bind isBl?) := by
  cases ra with
  | bad => rfl
  | exc c => rfl
  | ok s =>
    cases s with
    | d q =>
      cases q <;> first | rfl | skip
      rename_i b
      cases b <;> rfl
    | _ => rfl
theorem bl_ife (rc ra rb : Res SV) : ((rc.bind fun x => (isBl? x).bind fun c => if c then ra else rb).bind isBl?) = ((rc.bind isBl?).bind fun c => if c then ra.bind isBl? else rb.bind isBl?) := by
  cases rc with
  | bad => rfl
  | exc c => rfl
  | ok s =>
    cases s with
    | d q =>
      cases q <;> first | rfl | skip
      rename_i b
      cases b <;> rfl
    | _ => rfl
theorem w_and {a b : Expr} {r : List Expr} {ga gb : Gm → Res Bool} (ha : PT X a (RdB F ga)) (hb : PW X (.BoolOp .And (b :: r) pos) (RdB F gb)) : PW X (.BoolOp .And (a :: b :: r) pos) (RdB F fun Γ => (ga Γ).bind fun c => if c then gb Γ else .ok false) :=
  ⟨fun wh pins s σ H Q I ⟨Γ, R, rel, p⟩ => (pw_and ha hb).run wh pins s σ H Q I ⟨Γ, R, rel, (PostB.bind' p).mono fun c H1 ⟨R1, g1, q⟩ => by
    cases c with
    | true => exact ⟨Γ, R1, rel.grow g1, q⟩
    | false => exact q H1 R1 (.refl g1.sub)⟩⟩
theorem w_or {a b : Expr} {r : List Expr} {ga gb : Gm → Res Bool} (ha : PT X a (RdB F ga)) (hb : PW X (.BoolOp .Or (b :: r) pos) (RdB F gb)) : PW X (.BoolOp .Or (a :: b :: r) pos) (RdB F fun Γ => (ga Γ).bind fun c => if c then .ok true else gb Γ) :=
  ⟨fun wh pins s σ H Q I ⟨Γ, R, rel, p⟩ => (pw_or ha hb).run wh pins s σ H Q I ⟨Γ, R, rel, (PostB.bind' p).mono fun c H1 ⟨R1, g1, q⟩ => by
    cases c with
    | false => exact ⟨Γ, R1, rel.grow g1, q⟩
    | true => exact q H1 R1 (.refl g1.sub)⟩⟩
theorem PW.of {op : BoolOp} {es : List Expr} {t : TT} (h : PT X (.BoolOp op es pos) t) : PW X (.BoolOp op es pos) t := ⟨fun _ pins s σ H Q I q => h.run pins s σ H Q I q⟩
theorem t_ife {z x y : Expr} {gc ga gb : Gm → Res Bool} (hc : PT X z (RdB F gc)) (ha : PT X x (RdB F ga)) (hb : PT X y (RdB F gb)) : PT X (.IfExp z x y pos) (RdB F fun Γ => (gc Γ).bind fun c => if c then ga Γ else gb Γ) :=
  ⟨fun pins s σ H Q I ⟨Γ, R, rel, p⟩ => by
    show wpAny _ _ (PySem.isTrue z X.env (eval z X.env) >>= fun c => if c = true then PySem.isTrue x X.env (eval x X.env) else PySem.isTrue y X.env (eval y X.env)) _ _ s
    refine wpAny_bind (thn (hc.run pins s σ H (fun c H1 => ∃ R1, Grow H R H1 R1 ∧ PostB F R1 σ H1 (if c then ga Γ else gb Γ) Q) I ⟨Γ, R, rel, PostB.bind' p⟩) fun c s1 ⟨H1, I1, R1, g1, q⟩ => ?_)
    cases c with
    | true => exact ha.run pins s1 σ H1 Q I1 ⟨Γ, R1, rel.grow g1, q⟩
    | false => exact hb.run pins s1 σ H1 Q I1 ⟨Γ, R1, rel.grow g1, q⟩⟩
end
end Bw
end

section
set_option autoImplicit false
set_option linter.all false
/-! Bw O: readings, continued: lists of arguments, calls, tests. -/
namespace Bw
open PySem L2
section
variable {I : Inf} {G : Ctx} {F : Fr} {X : Cx} {sc : Scope} {pos : Pos}
theorem md_e (m : Md) : Md.le .e m = true := by cases m <;> rfl
theorem md_f (m : Md) : m.le .f = true := by cases m <;> rfl
theorem sup_l (a b : Md) : a.le (a.sup b) = true := by cases a <;> cases b <;> rfl
theorem sup_r (a b : Md) : b.le (a.sup b) = true := by cases a <;> cases b <;> rfl
theorem Rms.le {R H : Hp} (h : Sub R H) {m m' : Md} (l : m.le m' = true) : ∀ {s : List SV} {v : List V}, Rms F R H m s v → Rms F R H m' s v
  | [], _, r => r
  | _ :: _, _, ⟨v, ws, e, r, rs⟩ => ⟨v, ws, e, r.le h l, Rms.le h l rs⟩
theorem paLe {e : List Expr} {g : Gm → Res (List SV)} {m m' : Md} (h : PA X e (RdL F m g)) (l : m.le m' = true) : PA X e (RdL F m' g) := paImp h fun σ H Q ⟨Γ, R, rel, p⟩ => by
  refine ⟨Γ, R, rel, ?_⟩
  cases e : g Γ with
  | ok s => rw [e] at p; exact fun v H' R' gr rv => p v H' R' gr (rv.le gr.sub l)
  | exc c => rw [e] at p; exact p
  | bad => rw [e] at p; exact p
theorem pl_nil : PA X [] (RdL F .e (evL G [])) := paImp pa_nil fun σ H Q ⟨Γ, R, rel, p⟩ => p [] H R (.refl rel.sub) rfl
theorem pl_cons {a : CE} {as : List CE} {x : Expr} {xs : List Expr} {m m' : Md} (ht : tame x = true) (ha : PE X x (Rd' F m (ev G a))) (hr : PA X xs (RdL F m' (evL G as))) : PA X (x :: xs) (RdL F (m.sup m') (evL G (a :: as))) := by
  refine paImp (pa_cons (peLe ha (sup_l m m')) (paLe hr (sup_r m m')) (starEach_tame ht _ _)) fun σ H Q ⟨Γ, R, rel, p⟩ => ⟨Γ, R, rel, ?_⟩
  have p : PostL F (m.sup m') R σ H ((ev G a Γ).bind fun x => (evL G as Γ).bind fun xs => .ok (x :: xs)) Q := p
  cases e : ev G a Γ with
  | bad => rw [e] at p; exact p.elim
  | exc c => rw [e] at p; exact p
  | ok s =>
    rw [e] at p
    intro v H1 R1 g1 rv
    refine ⟨Γ, R1, rel.grow g1, ?_⟩
    have p : PostL F (m.sup m') R σ H ((evL G as Γ).bind fun xs => .ok (s :: xs)) Q := p
    have p := p.grow g1
    cases e2 : evL G as Γ with
    | bad => rw [e2] at p; exact p.elim
    | exc c => rw [e2] at p; exact p
    | ok ss =>
      rw [e2] at p
      intro vs H2 R2 g2 rvs
      exact p _ H2 R2 g2 ⟨v, vs, rfl, rv.grow g2, rvs⟩
theorem plain_tame : ∀ {es : List Expr} {env : PySem.Env} {pos : Pos}, es.all tame = true → (backTo pos (starEach es env)).any (·.1) = false := by
  intro es env pos h
  induction es with
  | nil => rfl
  | cons e es ih =>
    simp only [List.all_cons, Bool.and_eq_true] at h
    rw [starEach_tame h.1]
    show (false || _) = false
    exact ih h.2
theorem rms_data {R H : Hp} : ∀ {ss : List SV} {vs : List V} {ps : List PV}, Rms F R H .e ss vs → datas? ss = .ok ps → RpL F.K R ps vs
  | [], _, ps, r, h => by
    rw [show _ = [] from r]
    obtain rfl : ps = [] := by cases h; rfl
    exact rfl
  | s :: ss, _, ps, ⟨v, ws, e, r, rs⟩, h => by
    subst e
    have h : ((data? s).bind fun p => (datas? ss).bind fun ps => .ok (p :: ps)) = .ok ps := h
    cases s with
    | d p =>
      have h : ((datas? ss).bind fun ps => .ok (p :: ps)) = Res.ok ps := h
      cases e : datas? ss with
      | ok qs => rw [e] at h; cases h; exact ⟨v, ws, rfl, r, rms_data rs e⟩
      | exc c => rw [e] at h; cases h
      | bad => rw [e] at h; cases h
    | _ => cases h
theorem datas_exc : ∀ (ss : List SV), (∃ ps, datas? ss = .ok ps) ∨ datas? ss = .bad
  | [] => .inl ⟨[], rfl⟩
  | s :: ss => by
    cases s with
    | d p =>
      rcases datas_exc ss with ⟨qs, e⟩ | e
      · exact .inl ⟨p :: qs, by show ((datas? ss).bind fun ps => _) = _; rw [e]; rfl⟩
      · exact .inr (by show ((datas? ss).bind fun ps => _) = _; rw [e]; rfl)
    | _ => exact .inr rfl
/-- all of a display's items, told with the region that holds everything made here -/
theorem rms_all {R H : Hp} : ∀ {ss : List SV} {vs : List V} {ps : List PV}, Rms F R H .f ss vs → datas? ss = .ok ps → RpL F.K (Rall F.H0 R H) ps vs
  | [], _, ps, r, h => by
    rw [show _ = [] from r]
    obtain rfl : ps = [] := by cases h; rfl
    exact rfl
  | s :: ss, _, ps, ⟨v, ws, e, r, rs⟩, h => by
    subst e
    have h : ((data? s).bind fun p => (datas? ss).bind fun ps => .ok (p :: ps)) = .ok ps := h
    cases s with
    | d p =>
      have h : ((datas? ss).bind fun ps => .ok (p :: ps)) = Res.ok ps := h
      cases e : datas? ss with
      | ok qs => rw [e] at h; cases h; exact ⟨v, ws, rfl, r, rms_all rs e⟩
      | exc c => rw [e] at h; cases h
      | bad => rw [e] at h; cases h
    | _ => cases h
theorem rms_len {R H : Hp} {m : Md} : ∀ {ss : List SV} {vs : List V}, Rms F R H m ss vs → vs.length = ss.length
  | [], _, r => by rw [show _ = [] from r]; rfl
  | _ :: _, _, ⟨v, ws, e, _, rs⟩ => by rw [e]; simp [rms_len rs]
theorem evL_len {Γ : Gm} : ∀ {es : List CE} {ss : List SV}, evL G es Γ = .ok ss → ss.length = es.length
  | [], ss, h => by cases h; rfl
  | e :: es, ss, h => by
    have h : ((ev G e Γ).bind fun x => (evL G es Γ).bind fun xs => .ok (x :: xs)) = .ok ss := h
    cases e1 : ev G e Γ with
    | ok s =>
      rw [e1] at h
      have h : ((evL G es Γ).bind fun xs => .ok (s :: xs)) = .ok ss := h
      cases e2 : evL G es Γ with
      | ok qs => rw [e2] at h; cases h; simp [evL_len e2]
      | exc c => rw [e2] at h; cases h
      | bad => rw [e2] at h; cases h
    | exc c => rw [e1] at h; cases h
    | bad => rw [e1] at h; cases h
theorem data_len : ∀ {ss : List SV} {ps : List PV}, datas? ss = .ok ps → ps.length = ss.length
  | [], ps, h => by cases h; rfl
  | s :: ss, ps, h => by
    have h : ((data? s).bind fun p => (datas? ss).bind fun ps => .ok (p :: ps)) = .ok ps := h
    cases s with
    | d p =>
      have h : ((datas? ss).bind fun ps => .ok (p :: ps)) = Res.ok ps := h
      cases e : datas? ss with
      | ok qs => rw [e] at h; cases h; simp [data_len e]
      | exc c => rw [e] at h; cases h
      | bad => rw [e] at h; cases h
    | _ => cases h
/-- a display: the new object lies beside what the items' mode allows -/
theorem disp_post {b : Bool} {m : Md} {R H : Hp} {σ : L2.St} {es : List CE} {Γ : Gm} {Q : VK} (he : es.length ≤ 1000) (hs : Sub R H) (rel : RelR F.K F.H0 F.R0 R Γ σ H)
    (p : Post F m R σ H ((evL G es Γ).bind fun ss => (datas? ss).bind fun ps => .ok (.d (if b then .tup ps else .lst ps))) Q) (hm : m = .e ∨ m = .f) :
    PostL F m R σ H (evL G es Γ) fun xs H1 => xs.length ≤ sizeLine ∧ ∀ p, H1 p = none → Q (.ref p) (upd H1 p (if b then .tup xs else .lst xs)) := by
  cases e : evL G es Γ with
  | bad => rw [e] at p; exact p.elim
  | exc c => rw [e] at p; exact p
  | ok ss =>
    rw [e] at p
    have p : Post F m R σ H ((datas? ss).bind fun ps => .ok (.d (if b then .tup ps else .lst ps))) Q := p
    rcases datas_exc ss with ⟨ps, e2⟩ | e2
    · rw [e2] at p
      have p : Post F m R σ H (.ok (.d (if b then .tup ps else .lst ps))) Q := p
      intro vs H1 R1 g1 rv
      have hl : vs.length = es.length := by rw [rms_len rv, evL_len e]
      have hp : ps.length ≤ line := by rw [data_len e2, evL_len e]; unfold line; omega
      refine ⟨by rw [hl]; exact Nat.le_trans he (by decide), fun q hq => ?_⟩
      rcases hm with rfl | rfl
      · refine Post.new g1.sub (p.grow g1) hq ?_
        have gg := Grow.new g1.sub hq (if b = true then HO.tup vs else HO.lst vs)
        have rp := (rms_data rv e2).mono gg.reg
        cases b with
        | true => exact ⟨q, vs, rfl, .inl (.inl (upd_same ..)), hp, rp⟩
        | false => exact ⟨q, vs, rfl, upd_same .., hp, rp⟩
      · have gg := Grow.hid g1.sub hq (if b = true then HO.tup vs else HO.lst vs)
        refine p.grow g1 _ _ _ gg ?_
        have h0 : F.H0 q = none := by
          cases e0 : F.H0 q with
          | none => rfl
          | some o => have := g1.same _ _ (rel.same _ _ e0); rw [this] at hq; cases hq
        have all : Sub (Rall F.H0 R1 H1) (Rall F.H0 R1 (upd H1 q (if b = true then HO.tup vs else HO.lst vs))) := fun a o ea => by
          unfold Rall at ea ⊢
          cases e0 : F.H0 a with
          | none => rw [e0] at ea; exact gg.same _ _ ea
          | some _ => rw [e0] at ea; exact ea
        have at' : Rall F.H0 R1 (upd H1 q (if b = true then HO.tup vs else HO.lst vs)) q = some (if b = true then HO.tup vs else HO.lst vs) := by
          unfold Rall; rw [h0]; exact upd_same ..
        have rp := (rms_all rv e2).mono all
        cases b with
        | true => exact ⟨q, vs, rfl, .inl (.inl at'), hp, rp⟩
        | false => exact ⟨q, vs, rfl, at', hp, rp⟩
    · rw [e2] at p; exact p.elim
theorem disp_le (m : Md) : m.le m.disp = true := by cases m <;> rfl
theorem disp_or (m : Md) : m.disp = .e ∨ m.disp = .f := by cases m <;> simp [Md.disp]
theorem r_tup {es : List CE} {xs : List Expr} {m : Md} {k} (he : es.length ≤ 1000) (h : PA X xs (RdL F m (evL G es))) : PE X (.Tuple xs k pos) (Rd' F m.disp (ev G (.tup es))) :=
  peImp (pe_tup (paLe h (disp_le m))) fun σ H Q ⟨Γ, R, rel, p⟩ => ⟨Γ, R, rel, disp_post (b := true) he rel.sub rel p (disp_or m)⟩
theorem r_lst {es : List CE} {xs : List Expr} {m : Md} (he : es.length ≤ 1000) (h : PA X xs (RdL F m (evL G es))) : PE X (.List xs pos) (Rd' F m.disp (ev G (.lst es))) :=
  peImp (pe_lst (paLe h (disp_le m))) fun σ H Q ⟨Γ, R, rel, p⟩ => ⟨Γ, R, rel, disp_post (b := false) he rel.sub rel p (disp_or m)⟩
end
end Bw
end

section
set_option autoImplicit false
set_option linter.all false
/-! Bw P: readings, continued: calls, built-ins, slices, tests. -/
namespace Bw
open PySem L2
section
variable {I : Inf} {G : Ctx} {F : Fr} {X : Cx} {sc : Scope} {pos : Pos}
/-! ### a call of a def -/
theorem rms_e {R H : Hp} : ∀ {ss : List SV} {vs : List V}, Rms F R H .e ss vs → RpSs F.K R ss vs
  | [], _, r => r
  | _ :: _, _, ⟨v, ws, e, r, rs⟩ => ⟨v, ws, e, r, rms_e rs⟩
theorem rms_f {R H : Hp} : ∀ {ss : List SV} {vs : List V}, Rms F R H .f ss vs → RpSs F.K (Rall F.H0 R H) ss vs
  | [], _, r => r
  | _ :: _, _, ⟨v, ws, e, r, rs⟩ => ⟨v, ws, e, r, rms_f rs⟩
theorem r_call (C : Cok I G F X sc) {k : Nat} {x : Str} {es : List CE} {y : Expr} {xs : List Expr} {m : Md} {p : Pos} (h1 : I.fns[k]? = some x) (h2 : glB sc x = true) (h3 : nmB x = true) (hy : tame y = true) (hxs : xs.all tame = true)
    (h : PA X (y :: xs) (RdL F m (evL G es))) : PE X (.Call (.Name x p) (y :: xs) [] pos) (Rd' F m.disp (ev G (.call k es))) := by
  obtain ⟨f, fd, ps, Φ, l, e1, e2, e3, e4, e5, e7, e6⟩ := C.fns k x h1
  refine peImp (pe_callSD e6 e5 (gl_of C h2) e2 e3 e4 .nil (fun σ => passAt C.takes σ) (paLe h (disp_le m)) (nm_dest h3).1 (starEach_tame hy _ _) (plain_tame hxs)) fun σ H Q ⟨Γ, R, rel, p⟩ => ⟨Γ, R, rel, ?_⟩
  have p : Post F m.disp R σ H ((evL G es Γ).bind fun ss => callF G.fns[k]? ss) Q := p
  rw [e1] at p
  have hK := C.hK
  cases e : evL G es Γ with
  | bad => rw [e] at p; exact p.elim
  | exc c => rw [e] at p; exact p
  | ok ss =>
    rw [e] at p
    have p : Post F m.disp R σ H (Φ ss) Q := p
    intro vs H1 R1 g1 rv
    have p := p.grow g1
    have hl : vs.length = ps.length := by
      rw [rms_len rv]
      refine e7 ss fun q => ?_
      rw [q] at p; exact p.elim
    rw [List.append_nil]
    have h0 : Sub F.H0 H1 := rel.same.trans g1.same
    rcases disp_or m with hm | hm
    · rw [hm] at rv p
      refine ⟨ss, R1, hl, g1.sub, hK ▸ rms_e rv, ?_⟩
      cases e8 : Φ ss with
      | bad => rw [e8] at p; exact p.elim
      | exc c => rw [e8] at p; exact p
      | ok r => rw [e8] at p; exact fun v H' R' g rv => p v H' R' g (show RpS F.K R' r v from hK ▸ rv)
    · rw [hm] at rv p
      refine ⟨ss, Rall F.H0 R1 H1, hl, Rall.sub g1.sub, hK ▸ rms_f rv, ?_⟩
      cases e8 : Φ ss with
      | bad => rw [e8] at p; exact p.elim
      | exc c => rw [e8] at p; exact fun H' R' g => p H' R1 (g.veil g1.sub)
      | ok r => rw [e8] at p; exact fun v H' R' g rv => p v H' R1 (g.veil g1.sub) ((hK ▸ rv : RpS F.K R' r v).mono (veil_sub h0 g))
/-! ### built-in calls -/
theorem f1mem (f : F1) : f1name f ∈ builtins := by cases f <;> decide
theorem f2mem (f : F2) (h : f ≠ .index) : f2name f ∈ builtins := by cases f <;> first | (exact absurd rfl h) | decide
theorem bt_nm {x : String} (h : x ∈ builtins) : Str.ofString x ≠ "__name__" ∧ (Str.ofString x == ("__debug__" : Str)) = false := by
  have : builtins.all (fun x => decide (Str.ofString x ≠ "__name__") && !(Str.ofString x == ("__debug__" : Str))) = true := by decide +kernel
  have := List.all_eq_true.mp this x h
  simp only [Bool.and_eq_true, Bool.not_eq_true', decide_eq_true_eq] at this
  exact this
theorem boot_abs' : bootBuiltins (Str.ofString "abs") = some (.builtin "abs") := by decide +kernel
theorem boot_len' : bootBuiltins (Str.ofString "len") = some (.builtin "len") := by decide +kernel
theorem boot_int' : bootBuiltins (Str.ofString "int") = some (.type "int") := by decide +kernel
theorem boot_sum' : bootBuiltins (Str.ofString "sum") = some (.builtin "sum") := by decide +kernel
theorem boot_min' : bootBuiltins (Str.ofString "min") = some (.builtin "min") := by decide +kernel
theorem boot_max' : bootBuiltins (Str.ofString "max") = some (.builtin "max") := by decide +kernel
theorem boot_all' : bootBuiltins (Str.ofString "all") = some (.builtin "all") := by decide +kernel
theorem boot_any' : bootBuiltins (Str.ofString "any") = some (.builtin "any") := by decide +kernel
theorem boot_sorted' : bootBuiltins (Str.ofString "sorted") = some (.builtin "sorted") := by decide +kernel
theorem boot_tuple' : bootBuiltins (Str.ofString "tuple") = some (.type "tuple") := by decide +kernel
theorem boot_list' : bootBuiltins (Str.ofString "list") = some (.type "list") := by decide +kernel
theorem boot_isa' : bootBuiltins (Str.ofString "isinstance") = some (.builtin "isinstance") := by decide +kernel
theorem boot_range' : bootBuiltins (Str.ofString "range") = some (.type "range") := by decide +kernel
theorem boot_enum' : bootBuiltins (Str.ofString "enumerate") = some (.type "enumerate") := by decide +kernel
theorem boot_zip' : bootBuiltins (Str.ofString "zip") = some (.type "zip") := by decide +kernel
theorem boot_ty' (t : Ty) : bootBuiltins (Str.ofString (tyName t)) = some (.type (tyName t)) := by cases t <;> decide +kernel
theorem tymem (t : Ty) : tyName t ∈ builtins := by cases t <;> decide
/-- any built-in of one value -/
theorem pe_call1 (C : Cok I G F X sc) {f : F1} (hf : f ≠ .sortedset ∧ f ≠ .lenset) {r : List V → Hp → VK → Prop} {y : Expr} {t : TA} {p : Pos} (hc : CallR X (f1val f) r) (hg : Gl X (Str.ofString (f1name f))) (ha : PA X [y] t) (hy : tame y = true) :
    PE X (.Call (.Name (Str.ofString (f1name f)) p) [y] [] pos) (tCB r t) := by
  have hm := C.bl _ (f1mem f)
  have nm := bt_nm (f1mem f)
  cases f
  case len => exact pe_callB hc hg hm boot_len' ha nm.1 nm.2 (starEach_tame hy _ _) rfl
  case abs => exact pe_callB hc hg hm boot_abs' ha nm.1 nm.2 (starEach_tame hy _ _) rfl
  case int => exact pe_callTy hc hg hm boot_int' ha nm.1 nm.2 (starEach_tame hy _ _) rfl
  case sum => exact pe_callB hc hg hm boot_sum' ha nm.1 nm.2 (starEach_tame hy _ _) rfl
  case min => exact pe_callB hc hg hm boot_min' ha nm.1 nm.2 (starEach_tame hy _ _) rfl
  case max => exact pe_callB hc hg hm boot_max' ha nm.1 nm.2 (starEach_tame hy _ _) rfl
  case all => exact pe_callB hc hg hm boot_all' ha nm.1 nm.2 (starEach_tame hy _ _) rfl
  case any => exact pe_callB hc hg hm boot_any' ha nm.1 nm.2 (starEach_tame hy _ _) rfl
  case sorted => exact pe_callB hc hg hm boot_sorted' ha nm.1 nm.2 (starEach_tame hy _ _) rfl
  case tuple => exact pe_callTy hc hg hm boot_tuple' ha nm.1 nm.2 (starEach_tame hy _ _) rfl
  case list => exact pe_callTy hc hg hm boot_list' ha nm.1 nm.2 (starEach_tame hy _ _) rfl
  case sortedset => exact absurd rfl hf.1
  case lenset => exact absurd rfl hf.2
/-- one argument -/
theorem pa_one {y : Expr} {t : TE} (hy : tame y = true) (h : PE X y t) : PA X [y] (tCons t tNil) := pa_cons h pa_nil (starEach_tame hy _ _)
theorem r_f1 (C : Cok I G F X sc) {f : F1} (hf : f ≠ .sortedset ∧ f ≠ .lenset) {a : CE} {y : Expr} {m : Md} {p : Pos} (hg : glB sc (Str.ofString (f1name f)) = true) (hy : tame y = true) (h : PE X y (Rd' F m (ev G a))) :
    PE X (.Call (.Name (Str.ofString (f1name f)) p) [y] [] pos) (Rd' F m.op1 (ev G (.f1 f a))) :=
  r_one h (fun h => pe_call1 C hf (cr_f1 C.hK C.calm C.un f hf) (gl_of C hg) (pa_one hy h) hy) fun x s R σ H Q hs rx p1 => ⟨x, s, R, σ, rfl, hs, rx, p1⟩
theorem pe_call2 (C : Cok I G F X sc) {f : F2} (hf : f ≠ .index) {r : List V → Hp → VK → Prop} {y : Expr} {ys : List Expr} {t : TA} {p : Pos} (hc : CallR X (f2val f) r) (hg : Gl X (Str.ofString (f2name f))) (ha : PA X (y :: ys) t) (hy : tame y = true) (hys : ys.all tame = true) :
    PE X (.Call (.Name (Str.ofString (f2name f)) p) (y :: ys) [] pos) (tCB r t) := by
  have hm := C.bl _ (f2mem f hf)
  have nm := bt_nm (f2mem f hf)
  cases f
  case min => exact pe_callB hc hg hm boot_min' ha nm.1 nm.2 (starEach_tame hy _ _) (plain_tame hys)
  case max => exact pe_callB hc hg hm boot_max' ha nm.1 nm.2 (starEach_tame hy _ _) (plain_tame hys)
  case index => exact absurd rfl hf
theorem r_f2 (C : Cok I G F X sc) {f : F2} (hf : f ≠ .index) {a b : CE} {y z : Expr} {ma mb : Md} {p : Pos} (hg : glB sc (Str.ofString (f2name f)) = true) (hy : tame y = true) (hz : tame z = true)
    (ha : PE X y (Rd' F ma (ev G a))) (hb : PE X z (Rd' F mb (ev G b))) : PE X (.Call (.Name (Str.ofString (f2name f)) p) [y, z] [] pos) (Rd' F (ma.op mb) (ev G (.f2 f a b))) :=
  r_twoG (K := fun x y H Q => rF2 F (f2op f) [x, y] H Q) ha hb (fun ha hb => peImp (pe_call2 C hf (cr_f2 C.calm f hf) (gl_of C hg) (pa_cons ha (pa_one hz hb) (starEach_tame hy _ _)) hy (by simp [hz])) fun _ _ _ h => h) fun x y s t R σ H Q hs rx ry p => ⟨x, y, s, t, R, σ, rfl, hs, rx, ry, p⟩
theorem r_isa (C : Cok I G F X sc) {t : Ty} {a : CE} {y : Expr} {m : Md} {p p2 : Pos} (hg : glB sc (Str.ofString "isinstance") = true) (hgt : glB sc (Str.ofString (tyName t)) = true) (hy : tame y = true) (h : PE X y (Rd' F m (ev G a))) :
    PE X (.Call (.Name (Str.ofString "isinstance") p) [y, .Name (Str.ofString (tyName t)) p2] [] pos) (Rd' F m.op1 (ev G (.isa a t))) := by
  have mi : "isinstance" ∈ builtins := by decide
  have nt := bt_nm (tymem t)
  exact r_one h (fun h => pe_callB (cr_isa C.hK t) (gl_of C hg) (C.bl _ mi) boot_isa' (pa_cons h (pa_one (t := tC (.ty (tyName t))) rfl (pe_bltn (gl_of C hgt) (C.bl _ (tymem t)) (boot_ty' t) rfl nt.1 nt.2)) (starEach_tame hy _ _)) (bt_nm mi).1 (bt_nm mi).2 (starEach_tame hy _ _) rfl)
    fun x s R σ H Q hs rx p1 => ⟨x, s, R, σ, rfl, hs, rx, p1⟩
/-! ### slices -/
theorem r_sl (C : Cok I G F X sc) {a : CE} {lo hi : Option CE} {y : Expr} {l h : Option Expr} {m : Md} {p2 : Pos} (la : m.le .t = true) (ha : PE X y (Rd' F m (ev G a)))
    (hl : PO X l (fun σ H Q => ∃ Γ R, RelR F.K F.H0 F.R0 R Γ σ H ∧ (match evO G lo Γ with | .ok o => ∀ H' R', Grow H R H' R' → Q o H' | .exc c => ∀ H' R', Grow H R H' R' → F.W (F.cls c) none σ H' | .bad => False)))
    (hh : PO X h (fun σ H Q => ∃ Γ R, RelR F.K F.H0 F.R0 R Γ σ H ∧ (match evO G hi Γ with | .ok o => ∀ H' R', Grow H R H' R' → Q o H' | .exc c => ∀ H' R', Grow H R H' R' → F.W (F.cls c) none σ H' | .bad => False))) :
    PE X (.Subscript y (.Slice l h none p2) pos) (Rd' F .e (ev G (.sl a lo hi))) := by
  refine peImp (pe_slice (sl_op C.hK) (peLe ha la) hl hh) fun σ H Q ⟨Γ, R, rel, p⟩ => ⟨Γ, R, rel, ?_⟩
  refine (Post.bind (m := .t) (m' := .e) (f := fun x => (evO G lo Γ).bind fun l => (evO G hi Γ).bind fun h => slop x l h) rel.sub p).mono fun x H1 ⟨s, R1, _, g1, rx, p1⟩ => ⟨Γ, R1, rel.grow g1, ?_⟩
  cases e : evO G lo Γ with
  | bad => rw [e] at p1; exact p1.elim
  | exc c => rw [e] at p1; exact p1
  | ok o =>
    rw [e] at p1
    have p1 : Post F .e R1 σ H1 ((evO G hi Γ).bind fun h => slop s o h) Q := p1
    intro H2 R2 g2
    have p1 := p1.grow g2
    refine ⟨Γ, R2, (rel.grow g1).grow g2, ?_⟩
    cases e : evO G hi Γ with
    | bad => rw [e] at p1; exact p1.elim
    | exc c => rw [e] at p1; exact p1
    | ok o2 =>
      rw [e] at p1
      have p1 : Post F .e R2 σ H2 (slop s o o2) Q := p1
      exact fun H3 R3 g3 => ⟨s, R3, σ, g3.sub, (rx.grow g2).grow g3, p1.grow g3⟩
def RdO (F : Fr) (g : Gm → Res (Option Int)) : TO := fun σ H Q => ∃ Γ R, RelR F.K F.H0 F.R0 R Γ σ H ∧ (match g Γ with | .ok o => ∀ H' R', Grow H R H' R' → Q o H' | .exc c => ∀ H' R', Grow H R H' R' → F.W (F.cls c) none σ H' | .bad => False)
theorem po_no : PO X none (RdO F (evO G none)) := ⟨fun pins s σ H Q I ⟨Γ, R, rel, p⟩ => po_none.run pins s σ H Q I (p H R (.refl rel.sub))⟩
theorem po_so {e : CE} {x : Expr} {m : Md} (l : m.le .t = true) (h : PE X x (Rd' F m (ev G e))) : PO X (some x) (RdO F (evO G (some e))) := ⟨fun pins s σ H Q I ⟨Γ, R, rel, p⟩ => by
  refine (po_some (peLe h l)).run pins s σ H Q I ⟨Γ, R, rel, ?_⟩
  change (match (ev G e Γ).bind fun x => (isInt? x).bind fun i => .ok (some i) with | .ok o => ∀ H' R', Grow H R H' R' → Q o H' | .exc c => ∀ H' R', Grow H R H' R' → F.W (F.cls c) none σ H' | .bad => False) at p
  cases e1 : ev G e Γ with
  | bad => rw [e1] at p; exact p.elim
  | exc c => rw [e1] at p; exact p
  | ok s =>
    rw [e1] at p
    intro v H1 R1 g1 rv
    cases s with
    | d q =>
      cases q <;> first | exact p.elim | skip
      exact ⟨_, rv.int, p H1 R1 g1⟩
    | _ => exact p.elim⟩
/-! ### one or the other -/
theorem r_ife {c a b : CE} {z x y : Expr} {ma mb m : Md} (la : ma.le m = true) (lb : mb.le m = true) (hc : PT X z (RdB F fun Γ => (ev G c Γ).bind isBl?)) (ha : PE X x (Rd' F ma (ev G a))) (hb : PE X y (Rd' F mb (ev G b))) : PE X (.IfExp z x y pos) (Rd' F m (ev G (.ife c a b))) := by
  refine peImp (pe_ifExp hc (peLe ha la) (peLe hb lb)) fun σ H Q ⟨Γ, R, rel, p⟩ => ⟨Γ, R, rel, ?_⟩
  have p : Post F m R σ H ((ev G c Γ).bind fun x => (isBl? x).bind fun r => if r then ev G a Γ else ev G b Γ) Q := p
  show PostB F R σ H ((ev G c Γ).bind isBl?) _
  cases e : ev G c Γ with
  | bad => rw [e] at p; exact p.elim
  | exc c => rw [e] at p; exact p
  | ok s =>
    rw [e] at p
    cases s with
    | d q =>
      cases q <;> first | exact p.elim | skip
      rename_i t
      have p : Post F m R σ H (if t then ev G a Γ else ev G b Γ) Q := p
      intro H1 R1 g1
      have p := p.grow g1
      cases t with
      | true => exact ⟨Γ, R1, rel.grow g1, p⟩
      | false => exact ⟨Γ, R1, rel.grow g1, p⟩
    | _ => exact p.elim
end
end Bw
end

section
set_option autoImplicit false
set_option linter.all false
set_option maxRecDepth 100000
/-! Bw Q: enumerate of a tuple. -/
namespace Bw
open PySem PySem.Spec PyProof.Rows L2
open Sem (wp)
set_option maxHeartbeats 1000000 in
theorem meets_enumB {v : Value} {oi : Obj} {Ok : Heap → Prop} (B : Begins v oi Ok) :
    Meets (Builtin.«enumerate.__new__» ⟨[.type "enumerate", v], []⟩) (fun _ R z => Ok z.heap ∧
      R (.ok (.ret (.ref (z.heap.push oi).objs.size))) { z with heap := (z.heap.push oi).push { cls := .type "enumerate", data := .fields #[.none, .bool false, .ref z.heap.objs.size, rawInt 0, .none, .none] } }) :=
  .of_wp fun prog w A R z h => by
    obtain ⟨hh, gg, dd, tt, oo⟩ := z; obtain ⟨hB, h⟩ := h
    have hsub := sub_enumerate
    have go : ∀ {A' : Around} {E Q : Value → Shared → Prop}, Q (.ref hh.objs.size) ⟨hh.push oi, gg, dd, tt, oo⟩ → wpAny (model prog w) A' (pyIter v) Q E ⟨hh, gg, dd, tt, oo⟩ :=
      fun q => B.iter prog w _ _ ⟨hh, gg, dd, tt, oo⟩ _ hB q
    wp_walk using go
    refine wpAny_stack_any fun _ => wpAny_pure ?_
    split
    · rename_i cl _ _ _ _ _
      cases (cl == Value.type "enumerate")
      · wp_walk using go
        exact ⟨_, rfl, h⟩
      · wp_walk using go
        exact ⟨_, rfl, h⟩
    · wp_walk using go
      exact ⟨_, rfl, h⟩
section
variable {prog : Program} {w : World} {A : Around} {E : Value → Shared → Prop} {z : Shared}
theorem call_enumB {v : Value} {oi : Obj} {Ok : Heap → Prop} {Q : Value → Shared → Prop} (B : Begins v oi Ok) (hB : Ok z.heap)
    (h : ∀ h', IsEnum h' (z.heap.objs.size + 1) z.heap.objs.size 0 .none → h'.get? z.heap.objs.size = some oi → h'.objs.size = z.heap.objs.size + 2 →
      (∀ b o, z.heap.get? b = some o → h'.get? b = some o) → Q (.ref (z.heap.objs.size + 1)) { z with heap := h' }) :
    wpAny (model prog w) A (call (.type "enumerate") [v]) Q E z := by
  refine callType_new F.called_enumerate (by decide) (F.typeCall_enumerate_1 _) (F.newCall_enumerate_1 _) (fun obj => F.args_object_init_2 obj _) F.entry_enumerate_new (meets_enumB B) ⟨hB, ?_⟩
  have sz : (z.heap.push oi).objs.size = z.heap.objs.size + 1 := Heap.size_push ..
  show _ ∧ _
  rw [sz]
  have en : IsEnum ((z.heap.push oi).push { cls := .type "enumerate", data := .fields #[.none, .bool false, .ref z.heap.objs.size, rawInt 0, .none, .none] }) (z.heap.objs.size + 1) z.heap.objs.size 0 .none := by
    have q := Heap.get?_push_size (z.heap.push oi) (o := { cls := .type "enumerate", data := .fields #[.none, .bool false, .ref z.heap.objs.size, rawInt 0, .none, .none] }) rfl
    rw [sz] at q; exact q
  exact ⟨⟨_, en, rfl⟩, h _ en (Heap.get?_push_of_some _ (Heap.get?_push_size _ B.free)) (by rw [Heap.size_push, sz]) fun b o q => Heap.get?_push_of_some _ (Heap.get?_push_of_some _ q)⟩
end
/-- the tuple at a, each item in a new pair -/
def IteT (K : Fr') (a : Addr) : It where
  go := fun i H => ∃ (xs : List V) (x : V), SqT K H a xs ∧ xs[i]? = some x
  yld := fun i H v H' => ∃ T x, v = .ref T ∧ H T = none ∧ H' = upd H T (.tup [.int (i : Nat), x]) ∧ ∀ xs, SqT K H a xs → xs[i]? = some x
  stop := fun i H => ∃ xs : List V, SqT K H a xs ∧ xs.length ≤ i
theorem turn_enumT {P : Program} {w : World} {K : Fr'} {elts : List Expr} {kk : Nat} {tpos : Pos} (a e it : Addr) :
    Turn P w K (.Tuple elts kk tpos) (IteT K a) [e, it] e (fun i h => (∃ old, IsEnum h e it ((i : Nat) : Int) old) ∧ h.IsTupleIter it a i ∧ e ≠ it ∧ a ≠ it ∧ e ≠ a) where
  mem := by simp
  obj := fun i h ⟨⟨old, he⟩, ⟨o, ho, hc, hd⟩, _⟩ b hb => by
    rcases (show b = e ∨ b = it by simpa using hb) with rfl | rfl
    · exact ⟨_, he, fun v q => nomatch q⟩
    · exact ⟨o, ho, fun v q => by rw [hd] at q; cases q⟩
  keep := fun i h h' ⟨⟨old, he⟩, hi, hne⟩ k => ⟨⟨old, k e (by simp) _ he⟩, hi.at fun o q => k it (by simp) o q, hne⟩
  item := by
    intro X hP hw hK hc i pins s σ H E I hf st ⟨xs, x, hq, hx⟩
    subst hP hw hK
    obtain ⟨⟨old, he⟩, hit, hne, hai, hea⟩ := st
    obtain ⟨its, rv, p, hz⟩ := I.tuple hq
    obtain ⟨u, hu, ru⟩ := rv.get hx
    have hel : e < s.heap.objs.size := Heap.lt_size he
    have hil : it < s.heap.objs.size := by obtain ⟨_, q, _⟩ := hit; exact Heap.lt_size q
    have hd : X.A.in1.handled = none := I.ok.hd hc
    have D := Draws.tuple (prog := X.prog) (w := X.w) (A := X.A.in1) hd it a hai its.toArray
    have hlt : i < its.toArray.size := by
      rcases Nat.lt_or_ge i its.toArray.size with l | l
      · exact l
      · rw [List.getElem?_eq_none (by simpa using l)] at hu; cases hu
    refine wpAny_pyNext_enum_itemD D he ⟨hit, show s.heap.IsTuple a its.toArray from p⟩ hlt hne (by simp [hne, hea]) fun y h' tk hy ho hit' hT hsz hk => ?_
    have hy' : y = u := by
      have : its.toArray[i]? = some y := hy
      rw [show its.toArray[i]? = some u by simpa using hu] at this
      exact (Option.some.inj this).symm
    subst hy'
    refine ⟨_, rfl, wpAny_letOwnedTupleGo_enum (s := { s with heap := h', toks := tk + 1 }) ho fun h'' he' sb => ?_⟩
    have hT2 : h''.get? s.heap.objs.size = some { cls := .type "tuple", data := .seq #[.int i tk, y] } := (sb.2 _ (Nat.ne_of_gt hel)).trans hT
    have new : ObjOk X.prog X.w (upd H s.heap.objs.size (.tup [.int (i : Nat), x])) h'' s.heap.objs.size (.tup [.int (i : Nat), x]) :=
      ⟨by show 2 ≤ sizeLine; decide, [.int i tk, y], .cons ⟨_, rfl⟩ (.cons ru .nil), ⟨_, hT2, rfl, _, rfl⟩⟩
    have I1 : Inv X pins σ (upd H s.heap.objs.size (.tup [.int (i : Nat), x])) { s with heap := h'', toks := tk + 1 } :=
      I.turnedNew (ch := [e, it]) (fun b ob hb q => (sb.2 b (fun z => hb (by simp [z]))).trans (hk b ob (fun z => hb (by simp [z])) (fun z => hb (by simp [z])) q)) hf (Nat.le_refl _) new
    refine ⟨.ref s.heap.objs.size, _, I1, rfl, ⟨_, x, rfl, I.hok.fresh (Nat.le_refl _), rfl, fun ys hy => by rw [I.tuple_inj hy hq]; exact hx⟩, ⟨⟨y, ?_⟩, hit'.1.at fun o q => (sb.2 it (Ne.symm hne)).trans q, hne, hai, hea⟩, fun b hb => ?_⟩
    · rw [show ((i + 1 : Nat) : Int) = (i : Int) + 1 by omega]; exact he'
    · have hb' : b < s.heap.objs.size := by
        rcases (show b = e ∨ b = it by simpa using hb) with rfl | rfl
        · exact hel
        · exact hil
      rw [upd_ne (Nat.ne_of_lt hb')]
      exact (hf b hb).1
  done := by
    intro X hP hw hK hc i pins s σ H E I hf st ⟨xs, hq, hx⟩
    subst hP hw hK
    obtain ⟨⟨old, he⟩, hit, hne, hai, hea⟩ := st
    obtain ⟨its, rv, p, hz⟩ := I.tuple hq
    obtain ⟨f0, f1, f2, f3, f4, f5⟩ := hf it (by simp)
    have hl := rv.length
    have hd : X.A.in1.handled = none := I.ok.hd hc
    have hT : s.TypeIs (.ref e) "enumerate" := ⟨_, he, rfl⟩
    unfold pyNext
    refine wpAny_bind (wpAny_attempt (wpAny_callSpecial?_slot (name := Str.ofString "__next__") hT F.slot_enumerate_next (wpAny_call_entry F.slot_enumerate_next hT F.entry_enumerate_next ?_ (F.args_enumerate_next_1 _))))
    show wpAny _ _ (field (.ref e) 2 >>= _) _ _ _
    refine wpAny_bind (wpAny_field he rfl (x := .ref it) rfl (wpAny_bind (wpAny_nextOf_tuple_end hd hit (show s.heap.IsTuple a its.toArray from p) (by simp; omega) fun h' y hk hy => ?_)))
    obtain ⟨o, ho, hcl⟩ := hy
    refine wpAny_bind (wpAny_isInstance (T := "StopIteration") (b := true) ⟨o, ho, hcl⟩ isSubtype_stop (wpAny_pure ⟨rfl, I.turned (t' := s.toks) (fun b o hb q => hk b o hb q) f0 f1 f3 f4 f5⟩))
  self := fun A i s Q E st h => let ⟨⟨_, he⟩, _⟩ := st; wpAny_pyIter_enum he h
def iEnumA (K : Fr') (ta : TA) : TI := fun σ H R => ta σ H fun vs H1 => ∃ a xs, vs = [.ref a] ∧ ((SqL K H1 a xs ∧ R (Ite K a) H1) ∨ (SqT K H1 a xs ∧ R (IteT K a) H1))
theorem pi_enumA {X : Cx} {e : Expr} {ta : TA} {p pos tpos : Pos} {elts : List Expr} {kk : Nat} (hg : Gl X "enumerate") (hm : X.mg "enumerate" = none) (ha : PA X [e] ta) (hs : starEach [e] X.env = [(false, eval e X.env)]) :
    PI X (.Tuple elts kk tpos) (.Call (.Name "enumerate" p) [e] [] pos) (iEnumA X.K ta) := by
  refine ⟨fun pins s σ H R I h => ?_⟩
  refine Call_ (ld_blt I hg hm boot_enumerate (PyProof.Rows.callWith_type1 (thn (ha.run pos pins s σ H _ I h) fun us s1 ⟨vs, H1, I1, r1, a, xs, ex, q1⟩ => ?_) hs rfl))
  subst ex
  cases r1 with
  | cons r rr =>
    cases rr
    cases r
    have fr : ∀ b, b = s1.heap.objs.size + 1 ∨ b = s1.heap.objs.size → FpOk X pins H1 b := fun b e' => by
      have hle : s1.heap.objs.size ≤ b := by
        rcases e' with z | z
        · rw [z]; exact Nat.le_add_right _ _
        · rw [z]; exact Nat.le_refl _
      exact I1.fpOk hle (I1.hok.fresh hle)
    rcases q1 with ⟨hq, q⟩ | ⟨hq, q⟩
    · obtain ⟨its, rv, p', hz⟩ := I1.list hq
      refine call_enumerate_list p'.isList fun h' he hit hsz hk => wpAny_pyIter_enum he ?_
      exact ⟨s1.heap.objs.size + 1, [s1.heap.objs.size + 1, s1.heap.objs.size], _, _, H1, rfl, I1.kept (t' := s1.toks) hk, turn_enum a (s1.heap.objs.size + 1) s1.heap.objs.size, ⟨⟨.none, he⟩, hit, Nat.succ_ne_self _⟩, fun b hb => fr b (by simpa using hb), q⟩
    · obtain ⟨its, rv, p', hz⟩ := I1.tuple hq
      have ht : s1.heap.IsTuple a its.toArray := p'
      have al : a < s1.heap.objs.size := by obtain ⟨o, ho, _⟩ := id p'; exact Heap.lt_size ho
      refine call_enumB (begins_tuple a its.toArray) ht fun h' he hit hsz hk => wpAny_pyIter_enum he ?_
      exact ⟨s1.heap.objs.size + 1, [s1.heap.objs.size + 1, s1.heap.objs.size], _, _, H1, rfl, I1.kept (t' := s1.toks) hk, turn_enumT a (s1.heap.objs.size + 1) s1.heap.objs.size, ⟨⟨.none, he⟩, ⟨_, hit, rfl, rfl⟩, Nat.succ_ne_self _, Nat.ne_of_lt al, Nat.ne_of_gt (Nat.lt_succ_of_lt al)⟩, fun b hb => fr b (by simpa using hb), q⟩
end Bw
end

section
set_option autoImplicit false
set_option linter.all false
/-! Bw R: what a loop walks. -/
namespace Bw
open PySem L2
/-- J yields the items told by xs, wherever B and R1 still lie -/
def Wlk (K : Fr') (J : It) (xs : List PV) (B R1 : Hp) : Prop := ∀ (H R : Hp), Sub B H → Sub R1 R → Sub R H → ∀ (i : Nat),
  (∀ p, xs[i]? = some p → J.go i H ∧ ∀ x H', J.yld i H x H' → ∃ R', Grow H R H' R' ∧ RpD K R' p x) ∧ (xs[i]? = none → J.stop i H)
/-- what must still lie: the shared region, or the whole heap -/
def base (m : Md) (R H : Hp) : Hp := match m with
  | .e => R
  | _ => H
def PostI (F : Fr) (m : Md) (R : Hp) (σ : L2.St) (H : Hp) (r : Res (List PV)) (Q : It → Hp → Prop) : Prop :=
  match r with
  | .ok xs => ∀ J H1 R1, Grow H R H1 R1 → Wlk F.K J xs (base m R1 H1) R1 → xs.length ≤ line → Q J H1
  | .exc c => ∀ H1 R1, Grow H R H1 R1 → F.W (F.cls c) none σ H1
  | .bad => False
theorem PostI.grow {F : Fr} {m : Md} {R R1 H H1 : Hp} {σ : L2.St} {r : Res (List PV)} {Q : It → Hp → Prop} (h : PostI F m R σ H r Q) (g : Grow H R H1 R1) : PostI F m R1 σ H1 r Q := by
  cases r with
  | ok s => exact fun J H' R' g' rv => h J H' R' (g.trans g') rv
  | exc c => exact fun H' R' g' => h H' R' (g.trans g')
  | bad => exact h
def RdI (F : Fr) (m : Md) (g : Gm → Res (List PV)) : TI := fun σ H Q => ∃ Γ R, RelR F.K F.H0 F.R0 R Γ σ H ∧ PostI F m R σ H (g Γ) Q
theorem piImp {X : Cx} {tg e : Expr} {t t' : TI} (h : PI X tg e t) (k : ∀ σ H Q, t' σ H Q → t σ H Q) : PI X tg e t' := ⟨fun pins s σ H R I q => h.run pins s σ H R I (k σ H R q)⟩
/-- two readings, by cases -/
theorem piOr {X : Cx} {tg e : Expr} {t t' : TI} (h : PI X tg e t) (h' : PI X tg e t') : PI X tg e (fun σ H Q => t σ H Q ∨ t' σ H Q) := ⟨fun pins s σ H R I q => q.elim (fun q => h.run pins s σ H R I q) (fun q => h'.run pins s σ H R I q)⟩
theorem base_sub {m : Md} {R H : Hp} (h : Sub R H) : Sub (base m R H) H := by
  cases m
  · exact h
  · exact .refl
  · exact .refl
theorem SqL.len' {K : Fr'} {R : Hp} {ps : List PV} {vs : List V} (r : RpL K R ps vs) {i : Nat} : ps[i]? = none ↔ vs.length ≤ i := by
  rw [r.len]; exact List.getElem?_eq_none_iff
theorem wlk_list {K : Fr'} {a : Addr} {vs : List V} {ps : List PV} {B R1 : Hp} (hs : ∀ H, Sub B H → SqL K H a vs) (r : RpL K R1 ps vs) : Wlk K (Itl K a) ps B R1 := fun H R hB h1 h2 i => by
  refine ⟨fun p e => ?_, fun e => ?_⟩
  · obtain ⟨v, e1, e2⟩ := r.get' e
    refine ⟨⟨vs, v, hs H hB, e1⟩, fun x H' ⟨eH, k⟩ => ?_⟩
    subst eH
    have := k vs (hs H' hB)
    rw [e1] at this
    cases this
    exact ⟨R, .refl h2, e2.mono h1⟩
  · exact ⟨vs, hs H hB, (SqL.len' r).mp e⟩
theorem wlk_tup {K : Fr'} {a : Addr} {vs : List V} {ps : List PV} {B R1 : Hp} (hs : ∀ H, Sub B H → SqT K H a vs) (r : RpL K R1 ps vs) : Wlk K (Itt K a) ps B R1 := fun H R hB h1 h2 i => by
  refine ⟨fun p e => ?_, fun e => ?_⟩
  · obtain ⟨v, e1, e2⟩ := r.get' e
    refine ⟨⟨vs, v, hs H hB, e1⟩, fun x H' ⟨eH, k⟩ => ?_⟩
    subst eH
    have := k vs (hs H' hB)
    rw [e1] at this
    cases this
    exact ⟨R, .refl h2, e2.mono h1⟩
  · exact ⟨vs, hs H hB, (SqL.len' r).mp e⟩
theorem wlk_rng {K : Fr'} {lo c : Int} {n : Nat} {B R1 : Hp} : Wlk K (Itc lo c n) (rangeP lo c n) B R1 := fun H R hB h1 h2 i => by
  rw [rangeP_get]
  refine ⟨fun p e => ?_, fun e => ?_⟩
  · by_cases h : i < n
    · rw [if_pos h] at e
      cases e
      exact ⟨h, fun x H' ⟨eH, k⟩ => ⟨R, by subst eH; exact .refl h2, k⟩⟩
    · rw [if_neg h] at e; cases e
  · by_cases h : i < n
    · rw [if_pos h] at e; cases e
    · exact Nat.le_of_not_lt h
theorem wlk_rng1 {K : Fr'} {lo : Int} {n : Nat} {B R1 : Hp} : Wlk K (Itr lo n) (rangeP lo 1 n) B R1 := fun H R hB h1 h2 i => by
  rw [rangeP_get]
  refine ⟨fun p e => ?_, fun e => ?_⟩
  · by_cases h : i < n
    · rw [if_pos h] at e
      cases e
      exact ⟨h, fun x H' ⟨eH, k⟩ => ⟨R, by subst eH; exact .refl h2, by rw [k, Int.mul_one]; exact rfl⟩⟩
    · rw [if_neg h] at e; cases e
  · by_cases h : i < n
    · rw [if_pos h] at e; cases e
    · exact Nat.le_of_not_lt h
/-- a new pair, shared -/
theorem pair_new {K : Fr'} {H R : Hp} {T : Addr} {x y : V} {p q : PV} (h : Sub R H) (hT : H T = none) (rp : RpD K R p x) (rq : RpD K R q y) : ∃ R', Grow H R (upd H T (.tup [x, y])) R' ∧ RpD K R' (.tup [p, q]) (.ref T) := by
  have g := Grow.new h hT (HO.tup [x, y])
  exact ⟨_, g, T, [x, y], rfl, .inl (.inl (upd_same ..)), by show 2 ≤ line; decide, x, [y], rfl, rp.mono g.reg, y, [], rfl, rq.mono g.reg, rfl⟩
theorem wlk_enum {K : Fr'} {a : Addr} {vs : List V} {ps : List PV} {B R1 : Hp} (hs : ∀ H, Sub B H → SqL K H a vs) (r : RpL K R1 ps vs) : Wlk K (Ite K a) (enumP 0 ps) B R1 := fun H R hB h1 h2 i => by
  rw [enumP_get]
  refine ⟨fun p e => ?_, fun e => ?_⟩
  · cases e1 : ps[i]? with
    | none => rw [e1] at e; cases e
    | some q =>
      rw [e1] at e
      cases e
      obtain ⟨v, e2, e3⟩ := r.get' e1
      refine ⟨⟨vs, v, hs H hB, e2⟩, fun x H' ⟨T, y, ex, hT, eH, k⟩ => ?_⟩
      have := k vs (hs H hB)
      rw [e2] at this
      cases this
      subst ex eH
      exact pair_new h2 hT (show _ = _ by rw [Int.zero_add]) (e3.mono h1)
  · cases e1 : ps[i]? with
    | none => exact ⟨vs, hs H hB, (SqL.len' r).mp e1⟩
    | some q => rw [e1] at e; cases e
theorem wlk_enumT {K : Fr'} {a : Addr} {vs : List V} {ps : List PV} {B R1 : Hp} (hs : ∀ H, Sub B H → SqT K H a vs) (r : RpL K R1 ps vs) : Wlk K (IteT K a) (enumP 0 ps) B R1 := fun H R hB h1 h2 i => by
  rw [enumP_get]
  refine ⟨fun p e => ?_, fun e => ?_⟩
  · cases e1 : ps[i]? with
    | none => rw [e1] at e; cases e
    | some q =>
      rw [e1] at e
      cases e
      obtain ⟨v, e2, e3⟩ := r.get' e1
      refine ⟨⟨vs, v, hs H hB, e2⟩, fun x H' ⟨T, y, ex, hT, eH, k⟩ => ?_⟩
      have := k vs (hs H hB)
      rw [e2] at this
      cases this
      subst ex eH
      exact pair_new h2 hT (show _ = _ by rw [Int.zero_add]) (e3.mono h1)
  · cases e1 : ps[i]? with
    | none => exact ⟨vs, hs H hB, (SqL.len' r).mp e1⟩
    | some q => rw [e1] at e; cases e
theorem wlk_zip {K : Fr'} {a b : Addr} {vs ws : List V} {ps qs : List PV} {B R1 : Hp} (hs : ∀ H, Sub B H → SqL K H a vs) (hs' : ∀ H, Sub B H → SqL K H b ws) (r : RpL K R1 ps vs) (r' : RpL K R1 qs ws) : Wlk K (Itz K a b) (zipP ps qs) B R1 := fun H R hB h1 h2 i => by
  rw [zipP_get]
  cases e1 : ps[i]? with
  | none => exact ⟨fun p e => (by cases e), fun _ => ⟨vs, ws, hs H hB, hs' H hB, .inl ((SqL.len' r).mp e1)⟩⟩
  | some p =>
    cases e2 : qs[i]? with
    | none => exact ⟨fun p e => (by cases e), fun _ => ⟨vs, ws, hs H hB, hs' H hB, .inr ((SqL.len' r').mp e2)⟩⟩
    | some q =>
      refine ⟨fun z e => ?_, fun e => by cases e⟩
      obtain rfl : PV.tup [p, q] = z := Option.some.inj e
      obtain ⟨v, f1, f2⟩ := r.get' e1
      obtain ⟨w, f3, f4⟩ := r'.get' e2
      refine ⟨⟨vs, ws, v, w, hs H hB, hs' H hB, f1, f3⟩, fun x H' ⟨T, y, y', ex, hT, eH, k, k'⟩ => ?_⟩
      have c1 := k vs (hs H hB)
      have c2 := k' ws (hs' H hB)
      rw [f1] at c1
      rw [f3] at c2
      cases c1
      cases c2
      subst ex eH
      exact pair_new h2 hT (f2.mono h1) (f4.mono h1)
theorem wlk_zipT {K : Fr'} {a b : Addr} {vs ws : List V} {ps qs : List PV} {B R1 : Hp} (hs : ∀ H, Sub B H → SqT K H a vs) (hs' : ∀ H, Sub B H → SqT K H b ws) (r : RpL K R1 ps vs) (r' : RpL K R1 qs ws) : Wlk K (RZ.ItzT K a b) (zipP ps qs) B R1 := fun H R hB h1 h2 i => by
  rw [zipP_get]
  cases e1 : ps[i]? with
  | none => exact ⟨fun p e => (by cases e), fun _ => ⟨vs, ws, hs H hB, hs' H hB, .inl ((SqL.len' r).mp e1)⟩⟩
  | some p =>
    cases e2 : qs[i]? with
    | none => exact ⟨fun p e => (by cases e), fun _ => ⟨vs, ws, hs H hB, hs' H hB, .inr ((SqL.len' r').mp e2)⟩⟩
    | some q =>
      refine ⟨fun z e => ?_, fun e => by cases e⟩
      obtain rfl : PV.tup [p, q] = z := Option.some.inj e
      obtain ⟨v, f1, f2⟩ := r.get' e1
      obtain ⟨w, f3, f4⟩ := r'.get' e2
      refine ⟨⟨vs, ws, v, w, hs H hB, hs' H hB, f1, f3⟩, fun x H' ⟨T, y, y', ex, hT, eH, k, k'⟩ => ?_⟩
      have c1 := k vs (hs H hB)
      have c2 := k' ws (hs' H hB)
      rw [f1] at c1
      rw [f3] at c2
      cases c1
      cases c2
      subst ex eH
      exact pair_new h2 hT (f2.mono h1) (f4.mono h1)
end Bw
end

section
set_option autoImplicit false
set_option linter.all false
/-! Bw S: the sources of loops; targets. -/
namespace Bw
open PySem L2
section
variable {I : Inf} {G : Ctx} {F : Fr} {X : Cx} {sc : Scope} {pos : Pos} {tg : Expr}
theorem src_tup {K : Fr'} {F : Fr} {m : Md} {R H : Hp} {ps : List PV} {v : V} (l : m.le .t = true) (h : Sub R H) (r : Rm F R H m (.d (.tup ps)) v) : ∃ a vs, v = .ref a ∧ (∀ H', Sub (base m R H) H' → SqT F.K H' a vs) ∧ ps.length ≤ line ∧ RpL F.K R ps vs := by
  have go : RpD F.K R (.tup ps) v → ∃ a vs, v = .ref a ∧ SqT F.K R a vs ∧ ps.length ≤ line ∧ RpL F.K R ps vs := fun r => r
  cases m with
  | e => obtain ⟨a, vs, e, s, z, q⟩ := go r; exact ⟨a, vs, e, fun H' hb => Sub.seqT hb s, z, q⟩
  | t =>
    rcases r with r | ⟨_, _, _, e, _⟩
    · obtain ⟨a, vs, e, s, z, q⟩ := go r; exact ⟨a, vs, e, fun H' hb => Sub.seqT (h.trans hb) s, z, q⟩
    · cases e
  | f => cases l
theorem src_lst {F : Fr} {m : Md} {R H : Hp} {ps : List PV} {v : V} (l : m.le .t = true) (h : Sub R H) (r : Rm F R H m (.d (.lst ps)) v) : ∃ a vs, v = .ref a ∧ (∀ H', Sub (base m R H) H' → SqL F.K H' a vs) ∧ ps.length ≤ line ∧ RpL F.K R ps vs := by
  have go : RpD F.K R (.lst ps) v → ∃ a vs, v = .ref a ∧ R a = some (.lst vs) ∧ ps.length ≤ line ∧ RpL F.K R ps vs := fun r => r
  cases m with
  | e => obtain ⟨a, vs, e, s, z, q⟩ := go r; exact ⟨a, vs, e, fun H' hb => .of (hb _ _ s), z, q⟩
  | t =>
    rcases r with r | ⟨qs, a, vs, e1, e2, h1, h2, h3, h4⟩
    · obtain ⟨a, vs, e, s, z, q⟩ := go r; exact ⟨a, vs, e, fun H' hb => .of (hb _ _ (h _ _ s)), z, q⟩
    · cases e1; exact ⟨a, vs, e2, fun H' hb => .of (hb _ _ h1), h3, h2⟩
  | f => cases l
theorem posti_bind {m m' : Md} {R H : Hp} {σ : L2.St} {r : Res SV} {f : SV → Res (List PV)} {Q : It → Hp → Prop} (h : PostI F m R σ H (r.bind f) Q) :
    Post F m' R σ H r (fun x H1 => ∃ s R1, r = .ok s ∧ Grow H R H1 R1 ∧ Rm F R1 H1 m' s x ∧ PostI F m R1 σ H1 (f s) Q) := by
  cases r with
  | ok s => exact fun v H1 R1 g rv => ⟨s, R1, rfl, g, rv, PostI.grow (r := f s) h g⟩
  | exc c => exact h
  | bad => exact h
theorem base_grow {m : Md} {R H R' H' : Hp} (g : Grow H R H' R') : Sub (base m R H) (base m R' H') := by
  cases m
  · exact g.reg
  · exact g.same
  · exact g.same
theorem i_seq (C : Cok I G F X sc) {e : CE} {y : Expr} {m : Md} (l : m.le .t = true) (h : PE X y (Rd' F m (ev G e))) : PI X tg y (RdI F m (evI G (.seq e))) := by
  refine piImp (piOr (pi_list h) (pi_tup h)) fun σ H Q ⟨Γ, R, rel, p⟩ => ?_
  have p : PostI F m R σ H ((ev G e Γ).bind fun x => seq? x) Q := p
  cases e1 : ev G e Γ with
  | bad => rw [e1] at p; exact p.elim
  | exc c => rw [e1] at p; exact .inl ⟨Γ, R, rel, by rw [e1]; exact p⟩
  | ok s =>
    rw [e1] at p
    have p : PostI F m R σ H (seq? s) Q := p
    cases s with
    | d q =>
      cases q <;> first | exact p.elim | skip
      · refine .inr ⟨Γ, R, rel, ?_⟩
        rw [e1]
        intro v H1 R1 g rv
        obtain ⟨a, vs, ev, s, z, q⟩ := src_tup (K := F.K) l g.sub rv
        exact ⟨a, ev, ⟨vs, by rw [← C.hK]; exact s H1 (base_sub g.sub)⟩, p _ _ R1 g (by rw [← C.hK]; exact wlk_tup s q) z⟩
      · refine .inl ⟨Γ, R, rel, ?_⟩
        rw [e1]
        intro v H1 R1 g rv
        obtain ⟨a, vs, ev, s, z, q⟩ := src_lst l g.sub rv
        exact ⟨a, ev, ⟨vs, by rw [← C.hK]; exact s H1 (base_sub g.sub)⟩, p _ _ R1 g (by rw [← C.hK]; exact wlk_list s q) z⟩
    | _ => exact p.elim
/-! ranges -/
theorem rng_cases (lo hi st : Int) : (rng? lo hi st = .bad) ∨ (rng? lo hi st = .ok (rangeP lo st (rangeN lo hi st)) ∧ -(2 ^ 62) ≤ lo ∧ lo < 2 ^ 62 ∧ -(2 ^ 62) ≤ hi ∧ hi < 2 ^ 62 ∧ st.natAbs < 1073741824 ∧ st ≠ 0 ∧ rangeN lo hi st ≤ line) := by
  unfold rng?
  split
  · rename_i h
    simp only [big, Bool.and_eq_true, decide_eq_true_eq] at h
    have h1 := h.1.1.1.1
    have h2 := h.1.1.1.2
    exact .inr ⟨rfl, by omega, by omega, by omega, by omega, h.1.1.2, h.1.2, h.2⟩
  · exact .inl rfl
theorem rangeN_size (a b c : Int) (hc : c ≠ 0) : Builtin.Range.rangeSize a b c = (rangeN a b c : Nat) := by
  have key : ∀ d k : Int, 0 < k → ((if 0 < d then (d - 1) / k + 1 else 0) : Int) = (((d + k - 1) / k).toNat : Nat) := fun d k hk => by
    split
    · rename_i hd
      have : (d + k - 1) / k = (d - 1) / k + 1 := by
        rw [show d + k - 1 = (d - 1) + 1 * k by omega, Int.add_mul_ediv_right _ _ (by omega)]
      rw [this]
      have := Int.ediv_nonneg (show 0 ≤ d - 1 by omega) (show 0 ≤ k by omega)
      omega
    · have : (d + k - 1) / k ≤ 0 := by
        have : (d + k - 1) / k < 1 := Int.ediv_lt_of_lt_mul hk (by omega)
        omega
      omega
  unfold Builtin.Range.rangeSize rangeN
  by_cases h : 0 < c
  · rw [if_pos h, if_pos h, show b - a + c - 1 = (b - a) + c - 1 by omega, ← key (b - a) c h]
    by_cases h2 : a < b
    · rw [if_pos h2, if_pos (by omega)]
    · rw [if_neg h2, if_neg (by omega)]
  · have hn : c < 0 := by omega
    rw [if_neg h, if_neg h, if_pos hn, show a - b - c - 1 = (a - b) + (-c) - 1 by omega, ← key (a - b) (-c) (by omega)]
    by_cases h2 : a > b
    · rw [if_pos h2, if_pos (by omega)]
    · rw [if_neg h2, if_neg (by omega)]
theorem rgC_of {a b c : Int} (h1 : -(2 ^ 62) ≤ a) (h2 : a < 2 ^ 62) (h3 : -(2 ^ 62) ≤ b) (h4 : b < 2 ^ 62) (h5 : c.natAbs < 1073741824) (h6 : c ≠ 0) (h7 : rangeN a b c ≤ line) : RgC a b c (rangeN a b c) := by
  refine ⟨h6, h5, ?_, rangeN_size a b c h6⟩
  unfold Builtin.Range.small
  rw [rangeN_size a b c h6]
  have h8 : rangeN a b c ≤ 16777216 := h7
  simp only [Builtin.Range.rangeFitsLong, Bool.and_eq_true, Bool.or_eq_true, decide_eq_true_eq, beq_iff_eq]
  refine ⟨⟨⟨⟨?_, ?_⟩, ?_⟩, ?_⟩, .inr ?_⟩
  · constructor <;> omega
  · constructor <;> omega
  · constructor <;> omega
  · constructor <;> omega
  · split <;> simp only [Bool.and_eq_true, decide_eq_true_eq] <;> constructor <;> omega
theorem rangeN_one (a b : Int) : rangeN a b 1 = (b - a).toNat := by
  unfold rangeN
  rw [if_pos (by decide), Int.ediv_one]
  congr 1; omega
theorem mgB (C : Cok I G F X sc) {x : String} (h : x ∈ builtins) : X.mg (Str.ofString x) = none := C.bl x h
/-- an int operand, then a source -/
theorem posti_int {s : SV} {g : Int → Res (List PV)} {Q : It → Hp → Prop} {m : Md} {R H : Hp} {σ : L2.St} (h : PostI F m R σ H ((isInt? s).bind g) Q) : ∃ i, s = .d (.int i) ∧ PostI F m R σ H (g i) Q := by
  cases s with
  | d p => cases p <;> first | exact h.elim | exact ⟨_, rfl, h⟩
  | _ => exact h.elim
theorem posti_rng {lo hi st : Int} {Q : It → Hp → Prop} {m : Md} {R H : Hp} {σ : L2.St} (h : PostI F m R σ H (rng? lo hi st) Q) :
    PostI F m R σ H (.ok (rangeP lo st (rangeN lo hi st))) Q ∧ -(2 ^ 62) ≤ lo ∧ lo < 2 ^ 62 ∧ -(2 ^ 62) ≤ hi ∧ hi < 2 ^ 62 ∧ st.natAbs < 1073741824 ∧ st ≠ 0 ∧ rangeN lo hi st ≤ line := by
  rcases rng_cases lo hi st with e | ⟨e, h1⟩
  · rw [e] at h; exact h.elim
  · rw [e] at h; exact ⟨h, h1⟩
theorem i_rng1 (C : Cok I G F X sc) {b : CE} {y : Expr} {m : Md} {p : Pos} (hg : glB sc (Str.ofString "range") = true) (hy : tame y = true) (h : PE X y (Rd' F m (ev G b))) :
    PI X tg (.Call (.Name (Str.ofString "range") p) [y] [] pos) (RdI F .e (evI G (.rng1 b))) := by
  refine piImp (pi_range1 (gl_of C hg) (mgB C (by decide)) (pa_one hy h) (starEach_tame hy _ _)) fun σ H Q ⟨Γ, R, rel, p⟩ => ⟨Γ, R, rel, (posti_bind p).mono fun x H1 ⟨s, R1, _, g1, rx, p1⟩ => ?_⟩
  obtain ⟨j, rfl, p2⟩ := posti_int p1
  obtain ⟨p3, h1, h2, h3, h4, h5, h6, h7⟩ := posti_rng p2
  obtain rfl := rx.fint
  refine ⟨j, rfl, h3, h4, ?_⟩
  have := p3 (Itr 0 (rangeN 0 j 1)) H1 R1 (.refl g1.sub) wlk_rng1 (by rw [rangeP_len]; exact h7)
  rwa [rangeN_one, Int.sub_zero] at this
theorem i_rng2 (C : Cok I G F X sc) {a b : CE} {x y : Expr} {ma m : Md} {p : Pos} (hg : glB sc (Str.ofString "range") = true) (hx : tame x = true) (hy : tame y = true) (ha : PE X x (Rd' F ma (ev G a))) (h : PE X y (Rd' F m (ev G b))) :
    PI X tg (.Call (.Name (Str.ofString "range") p) [x, y] [] pos) (RdI F .e (evI G (.rng2 a b))) := by
  refine piImp (pi_range2 (gl_of C hg) (mgB C (by decide)) (pa_cons ha (pa_one hy h) (starEach_tame hx _ _)) (by rw [starEach_tame hx, starEach_tame hy]; rfl) (starEach_tame hy _ _)) fun σ H Q ⟨Γ, R, rel, p⟩ => ⟨Γ, R, rel, (posti_bind p).mono fun u H1 ⟨s, R1, _, g1, rx, p1⟩ => ?_⟩
  obtain ⟨i, rfl, p2⟩ := posti_int p1
  obtain rfl := rx.fint
  refine ⟨Γ, R1, rel.grow g1, (posti_bind p2).mono fun w H2 ⟨t, R2, _, g2, ry, p3⟩ => ?_⟩
  obtain ⟨j, rfl, p4⟩ := posti_int p3
  obtain ⟨p5, h1, h2, h3, h4, h5, h6, h7⟩ := posti_rng p4
  obtain rfl := ry.fint
  refine ⟨i, j, rfl, ⟨h1, h2, h3, h4⟩, ?_⟩
  have := p5 (Itr i (rangeN i j 1)) H2 R2 (.refl g2.sub) wlk_rng1 (by rw [rangeP_len]; exact h7)
  rwa [rangeN_one] at this
theorem i_rng3 (C : Cok I G F X sc) {a b c : CE} {st : Int} {x y z : Expr} {ma mb m : Md} {p : Pos} (hg : glB sc (Str.ofString "range") = true) (hx : tame x = true) (hy : tame y = true) (hz : tame z = true)
    (ha : PE X x (Rd' F ma (ev G a))) (hb : PE X y (Rd' F mb (ev G b))) (h : PE X z (Rd' F m (ev G c))) (hc : ∀ Γ, ev G c Γ = .ok (.d (.int st))) :
    PI X tg (.Call (.Name (Str.ofString "range") p) [x, y, z] [] pos) (RdI F .e (evI G (.rng3 a b st))) := by
  refine piImp (pi_range3 (gl_of C hg) (mgB C (by decide)) (pa_cons ha (pa_cons hb (pa_one hz h) (starEach_tame hy _ _)) (starEach_tame hx _ _)) (starEach_tame hx _ _) (plain_tame (by simp [hy, hz]))) fun σ H Q ⟨Γ, R, rel, p⟩ => ⟨Γ, R, rel, (posti_bind p).mono fun u H1 ⟨s, R1, _, g1, rx, p1⟩ => ?_⟩
  obtain ⟨i, rfl, p2⟩ := posti_int p1
  obtain rfl := rx.fint
  refine ⟨Γ, R1, rel.grow g1, (posti_bind p2).mono fun w H2 ⟨t, R2, _, g2, ry, p3⟩ => ?_⟩
  obtain ⟨j, rfl, p4⟩ := posti_int p3
  obtain ⟨p5, h1, h2, h3, h4, h5, h6, h7⟩ := posti_rng p4
  obtain rfl := ry.fint
  refine ⟨Γ, R2, (rel.grow g1).grow g2, ?_⟩
  rw [hc]
  intro v H3 R3 g3 rv
  obtain rfl := rv.fint
  exact ⟨i, j, st, _, rfl, rgC_of h1 h2 h3 h4 h5 h6 h7, p5 _ H3 R3 (g3) wlk_rng (by rw [rangeP_len]; exact h7)⟩
theorem i_enum (C : Cok I G F X sc) {e : CE} {y : Expr} {m : Md} {p tpos : Pos} {elts : List Expr} {kk : Nat} (hg : glB sc (Str.ofString "enumerate") = true) (hy : tame y = true) (l : m.le .t = true) (h : PE X y (Rd' F m (ev G e))) :
    PI X (.Tuple elts kk tpos) (.Call (.Name (Str.ofString "enumerate") p) [y] [] pos) (RdI F m (evI G (.enum e))) := by
  refine piImp (pi_enumA (gl_of C hg) (mgB C (by decide)) (pa_one hy h) (starEach_tame hy _ _)) fun σ H Q ⟨Γ, R, rel, p⟩ => ⟨Γ, R, rel, (posti_bind p).mono fun u H1 ⟨s, R1, _, g1, rx, p1⟩ => ?_⟩
  have hK := C.hK
  cases s with
  | d q =>
    cases q <;> first | exact p1.elim | skip
    · obtain ⟨a, vs, ev, sq, z, q⟩ := src_tup (K := F.K) l g1.sub rx
      exact ⟨a, vs, by rw [ev], .inr ⟨by rw [← hK]; exact sq H1 (base_sub g1.sub), p1 _ H1 R1 (.refl g1.sub) (by rw [← hK]; exact wlk_enumT sq q) (by rw [enumP_len]; exact z)⟩⟩
    · obtain ⟨a, vs, ev, sq, z, q⟩ := src_lst l g1.sub rx
      exact ⟨a, vs, by rw [ev], .inl ⟨by rw [← hK]; exact sq H1 (base_sub g1.sub), p1 _ H1 R1 (.refl g1.sub) (by rw [← hK]; exact wlk_enum sq q) (by rw [enumP_len]; exact z)⟩⟩
  | _ => exact p1.elim
theorem i_zip (C : Cok I G F X sc) {a b : CE} {x y : Expr} {ma mb m : Md} {p tpos : Pos} {elts : List Expr} {kk : Nat} (hg : glB sc (Str.ofString "zip") = true) (hx : tame x = true) (hy : tame y = true) (la : ma.le m = true) (lb : mb.le m = true) (l : m.le .t = true) (ha : PE X x (Rd' F ma (ev G a))) (hb : PE X y (Rd' F mb (ev G b))) :
    PI X (.Tuple elts kk tpos) (.Call (.Name (Str.ofString "zip") p) [x, y] [] pos) (RdI F m (evI G (.zip a b))) := by
  refine piImp (RZ.pi_zipA (gl_of C hg) (mgB C (by decide)) (pa_cons (peLe ha la) (pa_one hy (peLe hb lb)) (starEach_tame hx _ _)) (starEach_tame hx _ _) (plain_tame (by simp [hy]))) fun σ H Q ⟨Γ, R, rel, p⟩ => ⟨Γ, R, rel, (posti_bind p).mono fun u H1 ⟨s, R1, _, g1, rx, p1⟩ => ?_⟩
  refine ⟨Γ, R1, rel.grow g1, (posti_bind p1).mono fun w H2 ⟨t, R2, _, g2, ry, p2⟩ => ?_⟩
  have hK := C.hK
  cases s with
  | d q =>
    cases t with
    | d q' =>
      cases q <;> cases q' <;> first | exact p2.elim | skip
      · obtain ⟨a, vs, ev, sq, z, q⟩ := src_tup (K := F.K) l g1.sub rx
        obtain ⟨b, ws, ev', sq', z', q'⟩ := src_tup (K := F.K) l g2.sub ry
        have sq2 : ∀ H, Sub (base m R2 H2) H → SqT F.K H a vs := fun H hb => sq H ((base_grow g2).trans hb)
        exact ⟨a, b, vs, ws, by rw [ev, ev'], .inr ⟨by rw [← hK]; exact sq2 H2 (base_sub g2.sub), by rw [← hK]; exact sq' H2 (base_sub g2.sub), p2 _ H2 R2 (.refl g2.sub) (by rw [← hK]; exact wlk_zipT sq2 sq' (q.mono g2.reg) q') (Nat.le_trans (zipP_len _ _) z)⟩⟩
      · obtain ⟨a, vs, ev, sq, z, q⟩ := src_lst l g1.sub rx
        obtain ⟨b, ws, ev', sq', z', q'⟩ := src_lst l g2.sub ry
        have sq2 : ∀ H, Sub (base m R2 H2) H → SqL F.K H a vs := fun H hb => sq H ((base_grow g2).trans hb)
        exact ⟨a, b, vs, ws, by rw [ev, ev'], .inl ⟨by rw [← hK]; exact sq2 H2 (base_sub g2.sub), by rw [← hK]; exact sq' H2 (base_sub g2.sub), p2 _ H2 R2 (.refl g2.sub) (by rw [← hK]; exact wlk_zip sq2 sq' (q.mono g2.reg) q') (Nat.le_trans (zipP_len _ _) z)⟩⟩
    | _ => cases q <;> exact p2.elim
  | _ => exact p2.elim
end
end Bw
end

section
set_option autoImplicit false
set_option linter.all false
/-! Bw S2: tuple(range(..)), list(range(..)). -/
namespace Bw
open PySem L2
section
variable {I : Inf} {G : Ctx} {F : Fr} {X : Cx} {sc : Scope} {pos : Pos}
def PostP (F : Fr) (R : Hp) (σ : L2.St) (H : Hp) (r : Res (List PV)) (Q : Int → Int → Hp → Prop) : Prop :=
  match r with
  | .ok xs => ∀ a b H1 R1, Grow H R H1 R1 → xs = rangeP a 1 (b - a).toNat → RgOk a b → Q a b H1
  | .exc c => ∀ H' R', Grow H R H' R' → F.W (F.cls c) none σ H'
  | .bad => False
theorem PostP.grow {R R1 H H1 : Hp} {σ : L2.St} {r : Res (List PV)} {Q : Int → Int → Hp → Prop} (h : PostP F R σ H r Q) (g : Grow H R H1 R1) : PostP F R1 σ H1 r Q := by
  cases r with
  | ok s => exact fun a b H' R' g' e k => h a b H' R' (g.trans g') e k
  | exc c => exact fun H' R' g' => h H' R' (g.trans g')
  | bad => exact h
theorem postp_bind {m : Md} {R H : Hp} {σ : L2.St} {r : Res SV} {f : SV → Res (List PV)} {Q : Int → Int → Hp → Prop} (h : PostP F R σ H (r.bind f) Q) :
    Post F m R σ H r (fun x H1 => ∃ s R1, Grow H R H1 R1 ∧ Rm F R1 H1 m s x ∧ PostP F R1 σ H1 (f s) Q) := by
  cases r with
  | ok s => exact fun v H1 R1 g rv => ⟨s, R1, g, rv, PostP.grow (r := f s) h g⟩
  | exc c => exact h
  | bad => exact h
theorem postp_int {s : SV} {g : Int → Res (List PV)} {Q : Int → Int → Hp → Prop} {R H : Hp} {σ : L2.St} (h : PostP F R σ H ((isInt? s).bind g) Q) : ∃ i, s = .d (.int i) ∧ PostP F R σ H (g i) Q := by
  cases s with
  | d p => cases p <;> first | exact h.elim | exact ⟨_, rfl, h⟩
  | _ => exact h.elim
theorem postp_rng {lo hi : Int} {Q : Int → Int → Hp → Prop} {R H : Hp} {σ : L2.St} (hs : Sub R H) (h : PostP F R σ H (rng? lo hi 1) Q) : Q lo hi H := by
  rcases rng_cases lo hi 1 with e | ⟨e, h1, h2, h3, h4, _, _, h7⟩
  · rw [e] at h; exact h.elim
  · rw [e] at h
    rw [rangeN_one] at h h7
    exact h lo hi H R (.refl hs) rfl ⟨h1, h2, h3, h4, h7⟩
def RdP (F : Fr) (g : Gm → Res (List PV)) : L2.St → Hp → (Int → Int → Hp → Prop) → Prop := fun σ H Q => ∃ Γ R, RelR F.K F.H0 F.R0 R Γ σ H ∧ PostP F R σ H (g Γ) Q
theorem prgImp {X : Cx} {e : Expr} {t t' : L2.St → Hp → (Int → Int → Hp → Prop) → Prop} (h : PRg X e t) (k : ∀ σ H Q, t' σ H Q → t σ H Q) : PRg X e t' := fun pins s σ H Q I q => h pins s σ H Q I (k σ H Q q)
theorem g_rng1 (C : Cok I G F X sc) {b : CE} {y : Expr} {m : Md} {p : Pos} (hg : glB sc (Str.ofString "range") = true) (hy : tame y = true) (h : PE X y (Rd' F m (ev G b))) :
    PRg X (.Call (.Name (Str.ofString "range") p) [y] [] pos) (RdP F (evI G (.rng1 b))) := by
  refine prgImp (prg_1 (gl_of C hg) (mgB C (by decide)) h (starEach_tame hy _ _)) fun σ H Q ⟨Γ, R, rel, p⟩ => ⟨Γ, R, rel, (postp_bind p).mono fun x H1 ⟨s, R1, g1, rx, p1⟩ => ?_⟩
  obtain ⟨j, rfl, p2⟩ := postp_int p1
  obtain rfl := rx.fint
  exact ⟨j, rfl, postp_rng g1.sub p2⟩
theorem g_rng2 (C : Cok I G F X sc) {a b : CE} {x y : Expr} {ma m : Md} {p : Pos} (hg : glB sc (Str.ofString "range") = true) (hx : tame x = true) (hy : tame y = true) (ha : PE X x (Rd' F ma (ev G a))) (h : PE X y (Rd' F m (ev G b))) :
    PRg X (.Call (.Name (Str.ofString "range") p) [x, y] [] pos) (RdP F (evI G (.rng2 a b))) := by
  refine prgImp (prg_2 (gl_of C hg) (mgB C (by decide)) ha h (starEach_tame hx _ _) (starEach_tame hy _ _) (by rw [starEach_tame hy]; rfl)) fun σ H Q ⟨Γ, R, rel, p⟩ => ⟨Γ, R, rel, (postp_bind p).mono fun u H1 ⟨s, R1, g1, rx, p1⟩ => ?_⟩
  obtain ⟨i, rfl, p2⟩ := postp_int p1
  obtain rfl := rx.fint
  refine ⟨Γ, R1, rel.grow g1, (postp_bind p2).mono fun w H2 ⟨t, R2, g2, ry, p3⟩ => ?_⟩
  obtain ⟨j, rfl, p4⟩ := postp_int p3
  obtain rfl := ry.fint
  exact ⟨i, j, rfl, rfl, postp_rng g2.sub p4⟩
theorem rg_len {a b : Int} : (rangeP a 1 (b - a).toNat).length = (rgV a b).length := by rw [rangeP_len, rgV_length]
theorem rpl_rg {K : Fr'} {R : Hp} {a b : Int} : RpL K R (rangeP a 1 (b - a).toNat) (rgV a b) := by
  unfold rgV
  generalize (b - a).toNat = n
  induction n generalizing a with
  | zero => rfl
  | succ n ih =>
    rw [List.range_succ_eq_map, List.map_cons, List.map_map]
    refine ⟨_, _, rfl, by show V.int _ = V.int _; congr 1; simp, ?_⟩
    have e : (List.range n).map ((fun i : Nat => V.int (a + (i : Nat))) ∘ Nat.succ) = (List.range n).map (fun i : Nat => V.int (a + 1 + (i : Nat))) := by
      refine List.map_congr_left fun i _ => ?_
      show V.int _ = V.int _
      congr 1
      push_cast
      omega
    rw [e]
    exact ih
theorem r_colT (C : Cok I G F X sc) {it : CI} {y : Expr} {p : Pos} (hg : glB sc (Str.ofString "tuple") = true) (hy : tame y = true) (h : PRg X y (RdP F (evI G it))) : PE X (.Call (.Name (Str.ofString "tuple") p) [y] [] pos) (Rd' F .e (ev G (.col true it))) := by
  refine peImp (pe_tupRg C.calm (gl_of C hg) (mgB C (by decide)) h (starEach_tame hy _ _)) fun σ H Q ⟨Γ, R, rel, p⟩ => ⟨Γ, R, rel, ?_⟩
  have p : Post F .e R σ H ((evI G it Γ).bind fun xs => .ok (.d (.tup xs))) Q := p
  cases e : evI G it Γ with
  | bad => rw [e] at p; exact p.elim
  | exc c => rw [e] at p; exact p
  | ok xs =>
    rw [e] at p
    intro a b H1 R1 g ex ok
    subst ex
    refine ⟨ok, fun q hq => Post.newT g.sub (Post.grow (r := .ok (.d (.tup _))) p g) hq rpl_rg ?_⟩
    rw [rangeP_len]; exact ok.2.2.2.2
theorem r_colL (C : Cok I G F X sc) {it : CI} {y : Expr} {p : Pos} (hg : glB sc (Str.ofString "list") = true) (hy : tame y = true) (h : PRg X y (RdP F (evI G it))) : PE X (.Call (.Name (Str.ofString "list") p) [y] [] pos) (Rd' F .e (ev G (.col false it))) := by
  refine peImp (pe_listRg C.calm (gl_of C hg) (mgB C (by decide)) h (starEach_tame hy _ _)) fun σ H Q ⟨Γ, R, rel, p⟩ => ⟨Γ, R, rel, ?_⟩
  have p : Post F .e R σ H ((evI G it Γ).bind fun xs => .ok (.d (.lst xs))) Q := p
  cases e : evI G it Γ with
  | bad => rw [e] at p; exact p.elim
  | exc c => rw [e] at p; exact p
  | ok xs =>
    rw [e] at p
    intro a b H1 R1 g ex ok
    subst ex
    refine ⟨ok, fun q hq => Post.newL g.sub (Post.grow (r := .ok (.d (.lst _))) p g) hq rpl_rg ?_⟩
    rw [rangeP_len]; exact ok.2.2.2.2
end
end Bw
end

section
set_option autoImplicit false
set_option linter.all false
set_option maxRecDepth 100000
/-! Bw S3: len(set(a)), sorted(set(a)), a a list or a tuple of whole numbers. -/
namespace Bw
open PySem L2 PySem.Spec PyProof.Rows
/-- a set that is made, nothing in it yet -/
abbrev noneIn (w : World) : Obj := { cls := .type "set", dict := none, data := .set #[] 0 (.fresh 0 0 (!w.params.followText "set-order")) }
section
variable {P : Program} {w : World} {A : Around} {E : Value → Shared → Prop} {s : Shared}
set_option maxHeartbeats 3200000 in
theorem call_set_lst {l : Addr} {xs : Array Value} (ns : List Int) {Q : Value → Shared → Prop} (hh : A.handled = none) (hl : s.heap.IsList l xs) (hi : IntsAre xs.toList ns) (hb : ns.length + 1 < scanBound)
    (h : ∀ (h' : Heap) (tk c : Nat), SetR w h' s.heap.objs.size (fun j => decide (j ∈ ns)) c → c ≤ ns.length → (∀ b o, s.heap.get? b = some o → h'.get? b = some o) → Q (.ref s.heap.objs.size) { s with heap := h', toks := tk }) :
    wpAny (model P w) A (call (.type "set") [.ref l]) Q E s := by
  have hn : xs.size = ns.length := by
    have z := IntsAre.length hi
    rwa [Array.length_toList] at z
  obtain ⟨c0, t0, m0⟩ := F.called_set.mro
  have e1 := F.called_set.made
  have e2 := F.called_set.sub
  have e3 := F.called_set.notType
  have e4 := F.called_set.canCreate
  have e5 := F.typeCall_set_1 (.ref l)
  have ht : (s.heap.push (noneIn w)).get? s.heap.objs.size = some (noneIn w) := Heap.get?_push_size _ rfl
  have hT : Shared.TypeIs { s with heap := s.heap.push (noneIn w) } (.ref s.heap.objs.size) "set" := ⟨_, ht, rfl⟩
  have e6 := F.called_set.init.lookup
  have e7 := F.called_set.init.bind (.ref s.heap.objs.size)
  refine wpAny_call (codeAny_of_tree ?_)
  show wpAny _ _ (callAny (.type "set") _) _ _ _
  refine wpAny_pure ⟨Code.quiet_builtin _ (by decide +kernel), codeAny_builtin F.entry_type_call ?_⟩
  rw [Around.under_plain (weight_type_call_type "set" [.ref l] []) rfl]
  repeat (any_goals (first | assumption | wp_step))
  refine codeAny_mono (code_set_led1 (.ref l) (E := E) (Q₁ := fun y z => y = .ref s.heap.objs.size ∧ z = { s with heap := s.heap.push (noneIn w) }) ⟨rfl, rfl⟩) fun r z hr => ?_
  cases r with
  | error e => exact hr
  | ok fl =>
    cases fl with
    | ret y =>
      obtain ⟨rfl, rfl⟩ := hr
      repeat (any_goals (first | assumption | wp_step))
      refine codeAny_mono (codeAny_call_builtin (R := wants (fun r z => r = .none ∧ ∃ h' tk c, z = { s with heap := h', toks := tk } ∧ SetR w h' s.heap.objs.size (fun j => decide (j ∈ ns)) c ∧ c ≤ ns.length ∧
          (∀ b o, s.heap.get? b = some o → h'.get? b = some o)) E) F.called_set.init.plain F.entry_set_init (check_set_init_1 hT ?_)) fun r2 z2 hr2 => ?_
      · obtain ⟨⟨oc, od, odt, os⟩, hol, hcl, nl, hdl⟩ := hl
        simp only at hcl hdl
        subst hcl; subst hdl
        have hol' : (s.heap.push (noneIn w)).get? l = some { cls := .type "list", dict := od, data := .seq xs nl, slots := os } := Heap.get?_push_of_some _ hol
        have f1 := F.sub_list_set
        have f2 := F.sub_list_frozenset
        have f3 : (Value.type "list" == Value.type "dict") = false := by decide
        have hl1 : (s.heap.push (noneIn w)).IsList l xs := ⟨_, hol', rfl, nl, rfl⟩
        unfold Builtin.«set.__init__» noKeywords Builtin.Frozenset.updateFrom
        generalize hPI : pyIter = PI
        wp_walk
        subst hPI
        refine wpAny_pyIter_list hl1 ?_
        refine wpAny_bind (wpAny_runValue ?_)
        have lS : l < s.heap.objs.size := Heap.lt_size hol
        have h3 : A.in1.in1.in1.handled = none := by simp [hh]
        have neI : l ≠ (s.heap.push (noneIn w)).objs.size := by
          rw [Heap.size_push]; exact Nat.ne_of_lt (Nat.lt_succ_of_lt lS)
        have nS : s.heap.objs.size ∉ [(s.heap.push (noneIn w)).objs.size, l] := by
          rw [Heap.size_push]
          intro hm
          rcases List.mem_cons.mp hm with q | q
          · exact absurd q (Nat.ne_of_lt (Nat.lt_succ_self _))
          · exact absurd (List.mem_singleton.mp q) (Nat.ne_of_gt lS)
        have hv : ∀ (i : Nat) (v : Value), xs[i]? = some v → ∃ k t, ns[i]? = some k ∧ v = .int k t := fun i v hv => by
          have q : i < ns.length := by rw [← hn]; exact (Array.getElem?_eq_some_iff.mp hv).1
          obtain ⟨t, e⟩ := PyProof.Rows.IntsAre.int_at hi i v (by rw [Array.getElem?_toList]; exact hv)
          refine ⟨ns[i], t, List.getElem?_eq_getElem q, ?_⟩
          rw [e, List.getD_eq_getElem?_getD, List.getElem?_eq_getElem q] <;> rfl
        refine set_update_ints ((Walks.list h3 _ l neI xs).toS) s.heap.objs.size nS ns hn hb hv (xs.size - 0) 0 _ (by omega) (Nat.zero_le _) ⟨⟨_, Heap.get?_push_size _ rfl, rfl, rfl⟩, (hl1.push _)⟩ ?A0 ?AR
        case A0 => exact ⟨0, Nat.le_refl 0, setR_new_at (Heap.get?_push_of_some _ ht)⟩
        case AR =>
          intro s2 c2 hm hc2 hS2
          obtain ⟨g1, g2, g3, g4, g5⟩ := s2
          obtain rfl : g2 = s.gens := hm.gens
          obtain rfl : g3 = s.drawn := hm.drawn
          obtain rfl : g5 = s.os := hm.os
          show wpAny _ _ _ _ _ _
          refine wpAny_pure ?_
          show wpAny _ _ (ret Value.none) _ _ _
          rw [hn] at hc2
          refine wpAny_pure ⟨rfl, g1, g4, c2, rfl, hS2, hc2, fun b o e => ?_⟩
          have b0 : b < s.heap.objs.size := Heap.lt_size e
          refine hm.heap b o (fun hmem => ?_) (Heap.get?_push_of_some _ (Heap.get?_push_of_some _ e))
          rcases List.mem_cons.mp hmem with q | q
          · exact absurd q (Nat.ne_of_lt b0)
          · have z := List.mem_singleton.mp q
            rw [Heap.size_push] at z
            exact absurd z (Nat.ne_of_lt (Nat.lt_succ_of_lt b0))
      · cases r2 with
        | error e => exact hr2
        | ok fl2 =>
          cases fl2 with
          | ret r =>
            obtain ⟨rfl, h', tk, c', rfl, q1, q2, q3⟩ := hr2
            repeat (any_goals (first | assumption | wp_step))
            exact h _ _ _ q1 q2 q3
          | _ => exact hr2.elim
    | _ => exact hr.elim
end
section
variable {I : Inf} {G : Ctx} {F : Fr} {X : Cx} {sc : Scope} {pos : Pos}
/-- set(a), then what is asked of it -/
theorem set_made {a : Expr} {ta : TE} {p2 q : Pos} (hg2 : Gl X "set") (hm2 : X.mg "set" = none) (ha : PE X a ta) (hc : X.calm = true) (na : starEach [a] X.env = (false, eval a X.env) :: starEach [] X.env)
    {pins : List (Addr × Obj)} {st : Shared} {σ : L2.St} {H : Hp} {W : Value → Shared → Prop} (J : Inv X pins σ H st)
    {V0 : VK} (h : ta σ H V0) (kk : ∀ x H1, V0 x H1 → ∃ (l : Addr) (ns : List Int), x = .ref l ∧ (SqL X.K H1 l (ns.map V.int) ∨ SqT X.K H1 l (ns.map V.int)) ∧ ns.length < 64 ∧
      ∀ (s1 : Shared) (a : Addr) (c : Nat), Inv X pins σ H1 s1 → SetR X.w s1.heap a (fun j => decide (j ∈ ns)) c → c ≤ ns.length → W (.ref a) s1) :
    wpAny (model X.prog X.w) X.A (eval (.Call (.Name "set" p2) [a] [] q) X.env) W X.xe st := by
  refine Call_ (ld_blt J hg2 hm2 boot_set ?_)
  refine PyProof.Rows.callWith_type1 (PyProof.Rows.args_cons (thn (ha.run pins st σ H _ J h) fun v s1 ⟨x, H1, I1, r1, q1⟩ => PyProof.Rows.args_nil ?_) na) na rfl
  obtain ⟨l, ns, rfl, hq, hl, k⟩ := kk _ _ q1
  cases r1
  have hd := I1.ok.hd hc
  have fin : ∀ (h' : Heap) (tk c : Nat), SetR X.w h' s1.heap.objs.size (fun j => decide (j ∈ ns)) c → c ≤ ns.length → (∀ b o, s1.heap.get? b = some o → h'.get? b = some o) → W (.ref s1.heap.objs.size) { s1 with heap := h', toks := tk } :=
    fun h' tk c S hc kp => k _ _ c (I1.kept kp) S hc
  rcases hq with hq | hq
  · obtain ⟨its, r, pl, hz⟩ := I1.list hq
    exact call_set_lst ns hd pl.isList (by simpa using RZ.intsAre_vals r) (by unfold scanBound; omega) fin
  · obtain ⟨its, r, pt, hz⟩ := I1.tuple hq
    exact call_set_tupI ns hd (show s1.heap.IsTuple l its.toArray from pt) (by simpa using RZ.intsAre_vals r) (by unfold scanBound; omega) fin
/-- the same, a also a list of tuples of whole numbers -/
theorem set_made2 {a : Expr} {ta : TE} {p2 q : Pos} (hg2 : Gl X "set") (hm2 : X.mg "set" = none) (ha : PE X a ta) (hc : X.calm = true) (hu : X.A.units + 100 < cLine) (na : starEach [a] X.env = (false, eval a X.env) :: starEach [] X.env)
    {pins : List (Addr × Obj)} {st : Shared} {σ : L2.St} {H : Hp} {W : Value → Shared → Prop} (J : Inv X pins σ H st)
    {V0 : VK} (h : ta σ H V0) (kk : ∀ x H1, V0 x H1 → (∃ (l : Addr) (ns : List Int), x = .ref l ∧ (SqL X.K H1 l (ns.map V.int) ∨ SqT X.K H1 l (ns.map V.int)) ∧ ns.length < 64 ∧
      ∀ (s1 : Shared) (a : Addr) (c : Nat), Inv X pins σ H1 s1 → SetR X.w s1.heap a (fun j => decide (j ∈ ns)) c → c ≤ ns.length → W (.ref a) s1) ∨
      (∃ (l : Addr) (ks : List (Addr × List Int)), x = .ref l ∧ SqL X.K H1 l (ks.map fun p => V.ref p.1) ∧ (∀ p ∈ ks, SqT X.K H1 p.1 (p.2.map V.int)) ∧ ks.length < 64 ∧
      ∀ (s1 : Shared) (a : Addr) L es ep t, Inv X pins σ H1 s1 → SetTR X.prog X.w s1.heap a L es ep t → Got ks ks.length L → W (.ref a) s1)) :
    wpAny (model X.prog X.w) X.A (eval (.Call (.Name "set" p2) [a] [] q) X.env) W X.xe st := by
  refine Call_ (ld_blt J hg2 hm2 boot_set ?_)
  refine PyProof.Rows.callWith_type1 (PyProof.Rows.args_cons (thn (ha.run pins st σ H _ J h) fun v s1 ⟨x, H1, I1, r1, q1⟩ => PyProof.Rows.args_nil ?_) na) na rfl
  have hd := I1.ok.hd hc
  rcases kk _ _ q1 with ⟨l, ns, rfl, hq, hl, k⟩ | ⟨l, ks, rfl, hq, hk, hl, k⟩
  · cases r1
    have fin : ∀ (h' : Heap) (tk c : Nat), SetR X.w h' s1.heap.objs.size (fun j => decide (j ∈ ns)) c → c ≤ ns.length → (∀ b o, s1.heap.get? b = some o → h'.get? b = some o) → W (.ref s1.heap.objs.size) { s1 with heap := h', toks := tk } :=
      fun h' tk c S hc kp => k _ _ c (I1.kept kp) S hc
    rcases hq with hq | hq
    · obtain ⟨its, r, pl, hz⟩ := I1.list hq
      exact call_set_lst ns hd pl.isList (by simpa using RZ.intsAre_vals r) (by unfold scanBound; omega) fin
    · obtain ⟨its, r, pt, hz⟩ := I1.tuple hq
      exact call_set_tupI ns hd (show s1.heap.IsTuple l its.toArray from pt) (by simpa using RZ.intsAre_vals r) (by unfold scanBound; omega) fin
  · cases r1
    obtain ⟨its, rv, pl, hz⟩ := I1.list hq
    refine call_set_tups (P := X.prog) (w := X.w) ks hd pl.isList (by simpa using refs_of_vals rv) (fun p hp => I1.isT (hk p hp)) hl (by omega) fun h' tk L es ep t R g kp => ?_
    exact k _ _ L es ep t (I1.kept kp) R g
end
end Bw
end

section
set_option autoImplicit false
set_option linter.all false
/-! Bw S4: len(set(a)), sorted(set(a)) read by trees. -/
namespace Bw
open PySem L2 PySem.Spec PyProof.Rows
theorem set_count {w : World} {h : Heap} {a : Addr} {ns : List Int} {c : Nat} (S : SetR w h a (fun j => decide (j ∈ ns)) c) : c = (sortI ns).length := by
  obtain ⟨o, es, ep, t, ho, hex, hd, g, nd, hm, hb, hf, hn, hr, hl⟩ := S
  have e : (es.toList.map keyOf).Perm (sortI ns) := by
    refine (List.perm_ext_iff_of_nodup nd ?_).mpr fun k => ?_
    · exact (sortI_pw (l := ns)).imp fun {a b} h => by omega
    · rw [← hm k, mem_sortI, decide_eq_true_eq]
  have := e.length_eq
  rw [List.length_map, Array.length_toList] at this
  omega
section
variable {I : Inf} {G : Ctx} {F : Fr} {X : Cx} {sc : Scope} {pos : Pos}
def tDst (b : Bool) (K : PySem.W.Frag) (ta : TE) : TE := fun σ H Q => ta σ H fun x H1 => ∃ (l : Addr) (ns : List Int), x = .ref l ∧ (SqL K H1 l (ns.map V.int) ∨ SqT K H1 l (ns.map V.int)) ∧ ns.length < 64 ∧
  (if b then Q (.int ((sortI ns).length : Nat)) H1 else ∀ p, H1 p = none → Q (.ref p) (upd H1 p (.lst ((sortI ns).map V.int))))
/-- what sorted(set(a)) gives of pairs of small whole numbers -/
def tDsP (K : PySem.W.Frag) (Q : VK) (x : V) (H1 : Hp) : Prop := ∃ (l : Addr) (ks : List (Addr × List Int)), x = .ref l ∧ SqL K H1 l (ks.map fun p => V.ref p.1) ∧ (∀ p ∈ ks, SqT K H1 p.1 (p.2.map V.int)) ∧ (∀ p ∈ ks, p.2.length = 2 ∧ TS.Bd 64 p.2) ∧ ks.length < 64 ∧
  ∀ (L : List (Addr × List Int)) (p : Addr), (∀ q ∈ L, q ∈ ks) → (∀ q ∈ ks, q.2 ∈ L.map (·.2)) → (L.map (·.2)).Nodup → L.Pairwise (fun q r => TS.code 64 q.2 ≤ TS.code 64 r.2) → H1 p = none → Q (.ref p) (upd H1 p (.lst (L.map fun q => V.ref q.1)))
def tDst2 (K : PySem.W.Frag) (ta : TE) : TE := fun σ H Q => ta σ H fun x H1 => (∃ (l : Addr) (ns : List Int), x = .ref l ∧ (SqL K H1 l (ns.map V.int) ∨ SqT K H1 l (ns.map V.int)) ∧ ns.length < 64 ∧ ∀ p, H1 p = none → Q (.ref p) (upd H1 p (.lst ((sortI ns).map V.int)))) ∨ tDsP K Q x H1
theorem sortI_len : ∀ ns : List Int, (sortI ns).length ≤ ns.length
  | [] => Nat.le_refl _
  | i :: is => by
    have ih := sortI_len is
    have k : ∀ (i : Int) (l : List Int), (insI i l).length ≤ l.length + 1 := fun i l => by
      induction l with
      | nil => simp [insI]
      | cons x xs ih =>
        unfold insI
        split
        · simp
        · split
          · simp
          · simpa using ih
    have := k i (sortI is)
    show (insI i (sortI is)).length ≤ is.length + 1
    omega
theorem pe_dst {b : Bool} {a : Expr} {ta : TE} {p p2 q : Pos} (hg : Gl X (Str.ofString (if b then "len" else "sorted"))) (hm : X.mg (Str.ofString (if b then "len" else "sorted")) = none) (hg2 : Gl X "set") (hm2 : X.mg "set" = none) (ha : PE X a ta) (hc : X.calm = true)
    (na : starEach [a] X.env = (false, eval a X.env) :: starEach [] X.env) : PE X (.Call (.Name (Str.ofString (if b then "len" else "sorted")) p) [.Call (.Name "set" p2) [a] [] q] [] pos) (tDst b X.K ta) := by
  refine ⟨fun pins s σ H Q J h => ?_⟩
  cases b with
  | true =>
    refine Call_ (ld_blt J hg hm boot_len ?_)
    refine callWith_builtin1 (args_cons (set_made hg2 hm2 ha hc na J h fun x H1 ⟨l, ns, e, hq, hl, k⟩ => ⟨l, ns, e, hq, hl, fun s1 a c I1 S hcn => args_nil ?_⟩) rfl) rfl rfl
    have e := set_count S
    obtain ⟨o, es, ep, t, ho, hex, hd, g, nd, hm, hb, hf, hn, hr, hl2⟩ := S
    refine call_len_set ho hex hd hf (by unfold scanBound at hb; omega) ⟨.int es.size, H1, I1.tok _, ⟨_, rfl⟩, ?_⟩
    rw [hn, e]
    exact k
  | false =>
    refine Call_ (ld_blt J hg hm (show bootBuiltins (Str.ofString "sorted") = _ from rfl) ?_)
    refine callWith_builtin1 (args_cons (set_made hg2 hm2 ha hc na J h fun x H1 ⟨l, ns, e, hq, hl, k⟩ => ⟨l, ns, e, hq, hl, fun s1 a c I1 S hcn => args_nil ?_⟩) rfl) rfl rfl
    refine sorted_set S (I1.ok.hd hc) (by omega) fun s' p out c' ns' kp g o hp hgt hi hs hmm hl' => ?_
    obtain rfl : ns' = sortI ns := pw_same hs sortI_pw fun j => by rw [hmm j, decide_eq_true_eq, mem_sortI]
    have hlen : ((sortI ns).map V.int).length ≤ sizeLine := by
      have := sortI_len ns
      rw [List.length_map, sizeLine_eq]; omega
    have hnone : H1 p = none := I1.hok.fresh hp
    have K : Inv X pins σ (upd H1 p (.lst ((sortI ns).map V.int))) { s1 with heap := s'.heap, gens := s'.gens, drawn := s'.drawn, toks := s'.toks } :=
      I1.call (ch := []) (Un.laid kp hp hnone) (I1.hok.laid kp hp ⟨hlen, out.toList, c', vals_of_ints hi, hgt⟩) (by rw [g]; exact I1.bare) (fun _ z => nomatch z)
    have e : s' = { s1 with heap := s'.heap, gens := s'.gens, drawn := s'.drawn, toks := s'.toks } := by
      cases s'; cases s1; cases o; rfl
    rw [e]
    exact ⟨.ref p, _, K, rfl, k p hnone⟩
theorem pe_dst2 {a : Expr} {ta : TE} {p p2 q : Pos} (hg : Gl X (Str.ofString "sorted")) (hm : X.mg (Str.ofString "sorted") = none) (hg2 : Gl X "set") (hm2 : X.mg "set" = none) (ha : PE X a ta) (hc : X.calm = true) (hu : X.A.units + 100 < cLine)
    (na : starEach [a] X.env = (false, eval a X.env) :: starEach [] X.env) : PE X (.Call (.Name (Str.ofString "sorted") p) [.Call (.Name "set" p2) [a] [] q] [] pos) (tDst2 X.K ta) := by
  refine ⟨fun pins s σ H Q J h => ?_⟩
  refine Call_ (ld_blt J hg hm (show bootBuiltins (Str.ofString "sorted") = _ from rfl) ?_)
  refine callWith_builtin1 (args_cons (set_made2 hg2 hm2 ha hc hu na J h fun x H1 hh => ?_) rfl) rfl rfl
  rcases hh with ⟨l, ns, e, hq, hl, k⟩ | ⟨l, ks, e, hq, hk, hb, hl, k⟩
  · refine .inl ⟨l, ns, e, hq, hl, fun s1 a c I1 S hcn => args_nil ?_⟩
    refine sorted_set S (I1.ok.hd hc) (by omega) fun s' p out c' ns' kp g o hp hgt hi hs hmm hl' => ?_
    obtain rfl : ns' = sortI ns := pw_same hs sortI_pw fun j => by rw [hmm j, decide_eq_true_eq, mem_sortI]
    have hlen : ((sortI ns).map V.int).length ≤ sizeLine := by
      have := sortI_len ns
      rw [List.length_map, sizeLine_eq]; omega
    have hnone : H1 p = none := I1.hok.fresh hp
    have K : Inv X pins σ (upd H1 p (.lst ((sortI ns).map V.int))) { s1 with heap := s'.heap, gens := s'.gens, drawn := s'.drawn, toks := s'.toks } :=
      I1.call (ch := []) (Un.laid kp hp hnone) (I1.hok.laid kp hp ⟨hlen, out.toList, c', vals_of_ints hi, hgt⟩) (by rw [g]; exact I1.bare) (fun _ z => nomatch z)
    have e : s' = { s1 with heap := s'.heap, gens := s'.gens, drawn := s'.drawn, toks := s'.toks } := by
      cases s'; cases s1; cases o; rfl
    rw [e]
    exact ⟨.ref p, _, K, rfl, k p hnone⟩
  · refine .inr ⟨l, ks, e, hq, hk, hl, fun s1 a L es ep t I1 R g => args_nil ?_⟩
    have hsub : ∀ q ∈ L, q ∈ ks := fun q hq => List.mem_of_mem_take (g.sub q hq)
    refine sorted_setT R (I1.ok.hd hc) (d := 2) (B := 64) (by decide) (fun q hq => hb q (hsub q hq)) fun s' p out c L' kp gg o hp hgt hout pm pw => ?_
    have hfew : L'.length < 64 := by rw [pm.length_eq]; exact R.few
    have hlen : (L'.map fun q => V.ref q.1).length ≤ sizeLine := by rw [List.length_map, sizeLine_eq]; omega
    have hnone : H1 p = none := I1.hok.fresh hp
    have hv : Vals (L'.map fun q => V.ref q.1) out.toList := by rw [hout]; exact vals_of_refs L'
    have K : Inv X pins σ (upd H1 p (.lst (L'.map fun q => V.ref q.1))) { s1 with heap := s'.heap, gens := s'.gens, drawn := s'.drawn, toks := s'.toks } :=
      I1.call (ch := []) (Un.laid kp hp hnone) (I1.hok.laid kp hp ⟨hlen, out.toList, c, hv, hgt⟩) (by rw [gg]; exact I1.bare) (fun _ z => nomatch z)
    have e : s' = { s1 with heap := s'.heap, gens := s'.gens, drawn := s'.drawn, toks := s'.toks } := by
      cases s'; cases s1; cases o; rfl
    rw [e]
    refine ⟨.ref p, _, K, rfl, k L' p (fun q hq => hsub q (pm.mem_iff.mp hq)) (fun q hq => ?_) ((pm.map (·.2)).nodup_iff.mpr R.nd) pw hnone⟩
    exact (pm.map (·.2)).mem_iff.mpr (g.all q (by rw [List.take_length]; exact hq))
/-- the list's tuples -/
theorem set_tups {K : Fr'} {R : Hp} : ∀ {ps : List PV} {cs : List Int} {vs : List V}, codes? ps = some cs → RpL K R ps vs → ∃ ks : List (Addr × List Int), vs = (ks.map fun p => V.ref p.1) ∧ cs = (ks.map fun p => TS.code 64 p.2) ∧ ps.length = ks.length ∧
    ∀ p ∈ ks, p.2.length = 2 ∧ TS.Bd 64 p.2 ∧ SqT K R p.1 (p.2.map V.int) ∧ RpD K R (deco (TS.code 64 p.2)) (.ref p.1)
  | [], cs, vs, h, r => by
    cases h
    exact ⟨[], r, rfl, rfl, by simp⟩
  | p :: ps, cs, vs, h, ⟨v, ws, e, rv, rs⟩ => by
    have h : ((code1 p).bind fun c => (codes? ps).bind fun cs => some (c :: cs)) = some cs := h
    cases e1 : code1 p with
    | none => rw [e1] at h; cases h
    | some c =>
      rw [e1] at h
      have h : ((codes? ps).bind fun cs => some (c :: cs)) = some cs := h
      cases e2 : codes? ps with
      | none => rw [e2] at h; cases h
      | some ds =>
        rw [e2] at h
        cases h
        obtain ⟨ks, q1, q2, q3, q4⟩ := set_tups e2 rs
        unfold code1 at e1
        split at e1
        · rename_i x y
          split at e1
          · rename_i b
            cases e1
            have rv0 := rv
            obtain ⟨a, us, ev, sq, z, r2⟩ : ∃ a us, v = .ref a ∧ SqT K R a us ∧ _ ∧ RpL K R [.int x, .int y] us := rv
            obtain ⟨u1, us1, eu, r3, u2, us2, eu2, r4, eu3⟩ := r2
            obtain rfl : u1 = .int x := r3
            obtain rfl : u2 = .int y := r4
            rw [show us2 = [] from eu3] at eu2
            subst eu2 eu ev
            have cd : TS.code 64 [x, y] = x * 64 + y := code_pair x y
            have dc : deco (x * 64 + y) = .tup [.int x, .int y] := by
              unfold deco
              rw [show (x * 64 + y) / 64 = x by omega, show (x * 64 + y) % 64 = y by omega]
            refine ⟨(a, [x, y]) :: ks, by rw [e, q1]; rfl, by rw [q2, List.map_cons, cd], by simp [q3], fun p hp => ?_⟩
            rcases List.mem_cons.mp hp with rfl | hp
            · refine ⟨rfl, fun m hm => ?_, sq, ?_⟩
              · simp at hm
                rcases hm with rfl | rfl <;> omega
              · show RpD K R (deco (TS.code 64 [x, y])) (.ref a)
                rw [cd, dc]; exact rv0
            · exact q4 p hp
          · cases e1
        · cases e1
theorem set_ints : ∀ {ps : List PV} {ns : List Int} {K : Fr'} {R : Hp} {vs : List V}, ints? ps = .ok ns → RpL K R ps vs → vs = ns.map V.int ∧ ps.length = ns.length
  | [], ns, K, R, vs, h, r => by
    cases h
    exact ⟨r, rfl⟩
  | p :: ps, ns, K, R, vs, h, ⟨v, ws, e, rv, rs⟩ => by
    cases p <;> first | (cases h; done) | skip
    rename_i i
    have h : ((ints? ps).bind fun is => .ok (i :: is)) = .ok ns := h
    cases e1 : ints? ps with
    | bad => rw [e1] at h; cases h
    | exc c => rw [e1] at h; cases h
    | ok is =>
      rw [e1] at h
      cases h
      obtain ⟨q1, q2⟩ := set_ints e1 rs
      subst e q1
      obtain rfl : v = .int i := rv
      exact ⟨rfl, by simp [q2]⟩
theorem post_ints {ps : List PV} {f : List Int → Res SV} {R H : Hp} {σ : L2.St} {Q : VK} (h : Post F .e R σ H ((ints? ps).bind f) Q) : ∃ ns, ints? ps = .ok ns ∧ Post F .e R σ H (f ns) Q := by
  have no : ∀ (ps : List PV) c, ints? ps ≠ .exc c := by
    intro ps
    induction ps with
    | nil => intro c z; cases z
    | cons p ps ih =>
      intro c z
      cases p <;> first | (cases z; done) | skip
      rename_i i
      have z : ((ints? ps).bind fun is => .ok (i :: is)) = .exc c := z
      cases e : ints? ps with
      | ok is => rw [e] at z; cases z
      | exc c => exact ih c e
      | bad => rw [e] at z; cases z
  cases e : ints? ps with
  | ok ns => rw [e] at h; exact ⟨ns, rfl, h⟩
  | exc c => exact absurd e (no ps c)
  | bad => rw [e] at h; exact h.elim
theorem src_seq (C : Cok I G F X sc) {m : Md} {s : SV} {R1 H1 : Hp} {x : V} (hs : Sub R1 H1) (rx : Rm F R1 H1 .t s x) : ∀ ps, seq? s = .ok ps → ∃ (a : Addr) (vs : List V), x = .ref a ∧ (SqL X.K H1 a vs ∨ SqT X.K H1 a vs) ∧ RpL F.K R1 ps vs := fun ps e => by
  cases s with
  | d q =>
    cases q with
    | lst qs =>
      cases e
      obtain ⟨a, vs, ex, sq, r, z⟩ := rx.lst hs
      exact ⟨a, vs, ex, .inl (.of sq), r⟩
    | tup qs =>
      cases e
      obtain ⟨a, vs, ex, sq, z, r⟩ := src_tup (K := F.K) (m := .t) rfl hs rx
      exact ⟨a, vs, ex, .inr (by rw [← C.hK]; exact sq H1 .refl), r⟩
    | _ => cases e
  | _ => cases e
theorem r_dst (C : Cok I G F X sc) {b : Bool} {a : CE} {y : Expr} {m : Md} {p p2 q : Pos} (hg : glB sc (Str.ofString (if b then "len" else "sorted")) = true) (hg2 : glB sc (Str.ofString "set") = true) (hy : tame y = true) (l : m.le .t = true) (h : PE X y (Rd' F m (ev G a))) :
    PE X (.Call (.Name (Str.ofString (if b then "len" else "sorted")) p) [.Call (.Name (Str.ofString "set") p2) [y] [] q] [] pos) (Rd' F .e (ev G (.dst b a))) := by
  cases b with
  | true =>
    refine peImp (pe_dst (b := true) (gl_of C hg) (mgB C (by decide)) (gl_of C hg2) (mgB C (by decide)) (peLe h l) C.calm (starEach_tame hy _ _)) fun σ H Q ⟨Γ, R, rel, p⟩ => ⟨Γ, R, rel, ?_⟩
    have p : Post F .e R σ H ((ev G a Γ).bind fun x => f1op .lenset x) Q := p
    refine (Post.bind (m := .t) rel.sub p).mono fun x H1 ⟨s, R1, _, g1, rx, p1⟩ => ?_
    have src := src_seq (m := m) C g1.sub rx
    have p1 : Post F .e R1 σ H1 ((seq? s).bind fun ps => (ints? ps).bind fun is => if is.length < 64 then .ok (.d (.int (sortI is).length)) else .bad) Q := p1
    cases e : seq? s with
    | bad => rw [e] at p1; exact p1.elim
    | exc c => cases s with
      | d q => cases q <;> cases e
      | _ => cases e
    | ok ps =>
      rw [e] at p1
      obtain ⟨ns, e2, p3⟩ := post_ints (show Post F .e R1 σ H1 ((ints? ps).bind _) Q from p1)
      obtain ⟨a, vs, ex, sq, r⟩ := src ps e
      obtain ⟨rfl, _⟩ := set_ints e2 r
      by_cases c : ns.length < 64
      · rw [if_pos c] at p3
        exact ⟨a, ns, ex, sq, c, Post.now g1.sub p3 rfl⟩
      · rw [if_neg c] at p3; exact p3.elim
  | false =>
    refine peImp (pe_dst2 (gl_of C hg) (mgB C (by decide)) (gl_of C hg2) (mgB C (by decide)) (peLe h l) C.calm C.un (starEach_tame hy _ _)) fun σ H Q ⟨Γ, R, rel, p⟩ => ⟨Γ, R, rel, ?_⟩
    have p : Post F .e R σ H ((ev G a Γ).bind fun x => f1op .sortedset x) Q := p
    refine (Post.bind (m := .t) rel.sub p).mono fun x H1 ⟨s, R1, _, g1, rx, p1⟩ => ?_
    have src := src_seq (m := m) C g1.sub rx
    have p1 : Post F .e R1 σ H1 ((seq? s).bind fun ps => if (tupHd ps && isLs s) = true then (match codes? ps with
      | some cs => if cs.length < 64 then .ok (.d (.lst ((sortI cs).map deco))) else .bad
      | none => .bad)
      else (ints? ps).bind fun is => if is.length < 64 then .ok (.d (.lst ((sortI is).map PV.int))) else .bad) Q := p1
    cases e : seq? s with
    | bad => rw [e] at p1; exact p1.elim
    | exc c => cases s with
      | d q => cases q <;> cases e
      | _ => cases e
    | ok ps =>
      rw [e] at p1
      have p1 : Post F .e R1 σ H1 (if (tupHd ps && isLs s) = true then (match codes? ps with
        | some cs => if cs.length < 64 then .ok (.d (.lst ((sortI cs).map deco))) else .bad
        | none => .bad)
        else (ints? ps).bind fun is => if is.length < 64 then .ok (.d (.lst ((sortI is).map PV.int))) else .bad) Q := p1
      by_cases ct : (tupHd ps && isLs s) = true
      · rw [if_pos ct] at p1
        right
        cases ec : codes? ps with
        | none => rw [ec] at p1; exact p1.elim
        | some cs =>
          rw [ec] at p1
          have p1 : Post F .e R1 σ H1 (if cs.length < 64 then .ok (.d (.lst ((sortI cs).map deco))) else .bad) Q := p1
          cases s with
          | d q =>
            cases q with
            | lst qs =>
              cases e
              obtain ⟨a, vs, ex, sq, r, z⟩ := rx.lst g1.sub
              obtain ⟨ks, rfl, rfl, hl, hk⟩ := set_tups ec r
              by_cases c : ks.length < 64
              · rw [if_pos (by rw [List.length_map]; exact c)] at p1
                refine ⟨a, ks, ex, .of sq, fun p hp => by rw [← C.hK]; exact g1.sub.seqT (hk p hp).2.2.1, fun p hp => ⟨(hk p hp).1, (hk p hp).2.1⟩, c, fun L t hs ha nd pw hn => ?_⟩
                have inj : ∀ q ∈ L, ∀ r ∈ L, TS.code 64 q.2 = TS.code 64 r.2 → q.2 = r.2 := fun q hq r hr ee => by
                  obtain ⟨l1, b1, _⟩ := hk q (hs q hq)
                  obtain ⟨l2, b2, _⟩ := hk r (hs r hr)
                  match hq2 : q.2, l1 with
                  | [x, y], _ =>
                    match hr2 : r.2, l2 with
                    | [x', y'], _ =>
                      rw [hq2] at ee b1
                      rw [hr2] at ee b2
                      rw [code_pair, code_pair] at ee
                      have := b1 x (by simp); have := b1 y (by simp); have := b2 x' (by simp); have := b2 y' (by simp)
                      have e1 : x = x' := by omega
                      have e2 : y = y' := by omega
                      rw [e1, e2]
                have so : L.map (fun q => TS.code 64 q.2) = sortI (ks.map fun p => TS.code 64 p.2) := by
                  refine pw_same ?_ sortI_pw fun j => ?_
                  · rw [List.pairwise_map]
                    rw [List.Nodup, List.pairwise_map] at nd
                    refine List.Pairwise.imp_of_mem (fun {q r} hq hr ⟨h1, h2⟩ => ?_) (List.Pairwise.and pw nd)
                    rcases Int.lt_or_eq_of_le h1 with l | l
                    · exact l
                    · exact absurd (inj q hq r hr l) h2
                  · rw [mem_sortI, List.mem_map, List.mem_map]
                    constructor
                    · rintro ⟨q, hq, rfl⟩
                      exact ⟨q, hs q hq, rfl⟩
                    · rintro ⟨q, hq, rfl⟩
                      obtain ⟨r, hr, er⟩ := List.mem_map.mp (ha q hq)
                      exact ⟨r, hr, by rw [er]⟩
                rw [← so] at p1
                have rp : ∀ (M : List (Addr × List Int)), (∀ q ∈ M, q ∈ ks) → RpL F.K R1 ((M.map fun q => TS.code 64 q.2).map deco) (M.map fun q => V.ref q.1) := fun M => by
                  induction M with
                  | nil => intro _; rfl
                  | cons q M ih => exact fun h => ⟨_, _, rfl, (hk q (h q (List.mem_cons_self ..))).2.2.2, ih fun r hr => h r (List.mem_cons_of_mem _ hr)⟩
                refine Post.newL g1.sub p1 hn (rp L hs) ?_
                have := sortI_len (ks.map fun p => TS.code 64 p.2)
                rw [← so, List.length_map, List.length_map] at this
                rw [List.length_map, List.length_map]; unfold line; omega
              · rw [if_neg (by rw [List.length_map]; exact c)] at p1; exact p1.elim
            | _ => simp [isLs] at ct
          | _ => simp [isLs] at ct
      · rw [if_neg ct] at p1
        left
        obtain ⟨ns, e2, p3⟩ := post_ints (show Post F .e R1 σ H1 ((ints? ps).bind _) Q from p1)
        obtain ⟨a, vs, ex, sq, r⟩ := src ps e
        obtain ⟨rfl, _⟩ := set_ints e2 r
        by_cases c : ns.length < 64
        · rw [if_pos c] at p3
          refine ⟨a, ns, ex, sq, c, fun q hq => Post.newL g1.sub p3 hq ?_ ?_⟩
          · generalize sortI ns = l
            induction l with
            | nil => rfl
            | cons i is ih => exact ⟨_, _, rfl, rfl, ih⟩
          · have := sortI_len ns
            rw [List.length_map]; unfold line; omega
        · rw [if_neg c] at p3; exact p3.elim
end
end Bw
end

section
set_option autoImplicit false
set_option linter.all false
/-! Bw T: targets, list comprehensions. -/
namespace Bw
open PySem L2
theorem RelR.set {K : Fr'} {H0 R0 R : Hp} {Γ : Gm} {σ : L2.St} {H : Hp} {i : Nat} {s : SV} {v : V} (r : RelR K H0 R0 R Γ σ H) (h : RpS K R s v) : RelR K H0 R0 R (Γ.set i (.sh s)) (σ.set i (some v)) H := by
  have ne : ∀ {j : Nat} {b : Bx}, (Γ.set i (.sh s))[j]? = some b → (j = i ∧ b = .sh s ∧ i < Γ.length) ∨ (i ≠ j ∧ Γ[j]? = some b) := fun {j b} e => by
    by_cases c : i = j
    · subst c
      by_cases l : i < Γ.length
      · rw [List.getElem?_set_self l] at e; cases e; exact .inl ⟨rfl, rfl, l⟩
      · rw [List.getElem?_eq_none (by rw [List.length_set]; omega)] at e; cases e
    · rw [List.getElem?_set_ne c] at e; exact .inr ⟨c, e⟩
  refine ⟨r.same, r.sub, r.sub0, r.old, fun j t e => ?_, fun j t e => ?_, fun j k t u a n e1 e2 e3 e4 => ?_, by rw [List.length_set, List.length_set]; exact r.len⟩
  · rcases ne e with ⟨rfl, e1, l⟩ | ⟨c, e1⟩
    · cases e1; exact ⟨v, List.getElem?_set_self (by rw [← r.len]; exact l), h⟩
    · rw [List.getElem?_set_ne c]; exact r.slot j t e1
  · rcases ne e with ⟨rfl, e1, l⟩ | ⟨c, e1⟩
    · cases e1
    · rw [List.getElem?_set_ne c]; exact r.own j t e1
  · rcases ne e1 with ⟨_, q, _⟩ | ⟨c, q⟩
    · cases q
    rcases ne e2 with ⟨_, q2, _⟩ | ⟨c2, q2⟩
    · cases q2
    rw [List.getElem?_set_ne c] at e3
    rw [List.getElem?_set_ne c2] at e4
    exact r.apart j k t u a n q q2 e3 e4
theorem RelR.no {K : Fr'} {H0 R0 R : Hp} {Γ : Gm} {σ : L2.St} {H : Hp} {i : Nat} {x : Option V} (r : RelR K H0 R0 R Γ σ H) : RelR K H0 R0 R (Γ.set i .no) (σ.set i x) H := by
  have ne : ∀ {j : Nat} {b : Bx}, (Γ.set i .no)[j]? = some b → b = .no ∨ (i ≠ j ∧ Γ[j]? = some b) := fun {j b} e => by
    by_cases c : i = j
    · subst c
      by_cases l : i < Γ.length
      · rw [List.getElem?_set_self l] at e; cases e; exact .inl rfl
      · rw [List.getElem?_eq_none (by rw [List.length_set]; omega)] at e; cases e
    · rw [List.getElem?_set_ne c] at e; exact .inr ⟨c, e⟩
  refine ⟨r.same, r.sub, r.sub0, r.old, fun j t e => ?_, fun j t e => ?_, fun j k t u a n e1 e2 e3 e4 => ?_, by rw [List.length_set, List.length_set]; exact r.len⟩
  · rcases ne e with e1 | ⟨c, e1⟩
    · cases e1
    · rw [List.getElem?_set_ne c]; exact r.slot j t e1
  · rcases ne e with e1 | ⟨c, e1⟩
    · cases e1
    · rw [List.getElem?_set_ne c]; exact r.own j t e1
  · rcases ne e1 with q | ⟨c, q⟩
    · cases q
    rcases ne e2 with q2 | ⟨c2, q2⟩
    · cases q2
    rw [List.getElem?_set_ne c] at e3
    rw [List.getElem?_set_ne c2] at e4
    exact r.apart j k t u a n q q2 e3 e4
theorem RelR.wipe {K : Fr'} {H0 R0 R : Hp} {Γ : Gm} {σ : L2.St} {H : Hp} (r : RelR K H0 R0 R Γ σ H) : ∀ vs, RelR K H0 R0 R (wipeG Γ vs) (L2.wipe σ vs) H
  | [] => r
  | v :: vs => RelR.no (r.wipe vs)
theorem wipeG_len (Γ : Gm) : ∀ vs, (wipeG Γ vs).length = Γ.length
  | [] => rfl
  | v :: vs => by rw [wipeG, List.length_set, wipeG_len Γ vs]
theorem wipeG_get (Γ : Gm) (i : Nat) : ∀ {vs : List Nat}, i ∉ vs → (wipeG Γ vs)[i]? = Γ[i]?
  | [], _ => rfl
  | v :: vs, h => by
    simp only [List.mem_cons, not_or] at h
    rw [wipeG, List.getElem?_set_ne (Ne.symm h.1), wipeG_get Γ i h.2]
theorem wipe_get (σ : L2.St) (i : Nat) : ∀ {vs : List Nat}, i ∉ vs → (L2.wipe σ vs)[i]? = σ[i]?
  | [], _ => rfl
  | v :: vs, h => by
    simp only [List.mem_cons, not_or] at h
    rw [L2.wipe, List.getElem?_set_ne (Ne.symm h.1), wipe_get σ i h.2]
theorem wipe_in (σ : L2.St) (i : Nat) (l : i < σ.length) : ∀ {vs : List Nat}, i ∈ vs → (L2.wipe σ vs)[i]? = some none
  | v :: vs, h => by
    by_cases c : v = i
    · subst c; rw [L2.wipe, List.getElem?_set_self (by rw [wipe_length]; exact l)]
    · rw [L2.wipe, List.getElem?_set_ne c]
      rcases List.mem_cons.mp h with e | e
      · exact absurd e.symm c
      · exact wipe_in σ i l e
theorem wipe_eq {σ σ' : L2.St} {vs : List Nat} (hl : σ'.length = σ.length) (h : ∀ i, i ∉ vs → σ'[i]? = σ[i]?) : L2.wipe σ' vs = L2.wipe σ vs := by
  refine List.ext_getElem? fun i => ?_
  by_cases c : i ∈ vs
  · by_cases l : i < σ.length
    · rw [wipe_in σ i l c, wipe_in σ' i (by omega) c]
    · rw [List.getElem?_eq_none (by rw [wipe_length]; omega), List.getElem?_eq_none (by rw [wipe_length]; omega)]
  · rw [wipe_get σ i c, wipe_get σ' i c, h i c]
/-! ### binding -/
mutual
theorem bind_len : ∀ {t : CT} {p : PV} {Γ Γ' : Gm}, bindT t p Γ = some Γ' → Γ'.length = Γ.length
  | .name i, p, Γ, Γ', h => by cases h; rw [List.length_set]
  | .tup ts, .tup ps, Γ, Γ', h => binds_len (ts := ts) (ps := ps) h
  | .tup ts, .non, Γ, Γ', h => by cases h
  | .tup ts, .bl _, Γ, Γ', h => by cases h
  | .tup ts, .int _, Γ, Γ', h => by cases h
  | .tup ts, .str _, Γ, Γ', h => by cases h
  | .tup ts, .lst _, Γ, Γ', h => by cases h
theorem binds_len : ∀ {ts : List CT} {ps : List PV} {Γ Γ' : Gm}, bindTs ts ps Γ = some Γ' → Γ'.length = Γ.length
  | [], [], Γ, Γ', h => by cases h; rfl
  | t :: ts, p :: ps, Γ, Γ', h => by
    have h : (bindT t p Γ).bind (fun Γ' => bindTs ts ps Γ') = some Γ' := h
    cases e : bindT t p Γ with
    | none => rw [e] at h; cases h
    | some Γ1 => rw [e] at h; exact (binds_len (ts := ts) (ps := ps) (Γ := Γ1) h).trans (bind_len e)
  | [], _ :: _, Γ, Γ', h => by cases h
  | _ :: _, [], Γ, Γ', h => by cases h
end
theorem binds_n : ∀ {ts : List CT} {ps : List PV} {Γ Γ' : Gm}, bindTs ts ps Γ = some Γ' → ps.length = ts.length
  | [], [], Γ, Γ', h => rfl
  | t :: ts, p :: ps, Γ, Γ', h => by
    have h : (bindT t p Γ).bind (fun Γ' => bindTs ts ps Γ') = some Γ' := h
    cases e : bindT t p Γ with
    | none => rw [e] at h; cases h
    | some Γ1 => rw [e] at h; rw [List.length_cons, List.length_cons, binds_n (ts := ts) (ps := ps) (Γ := Γ1) h]
  | [], _ :: _, Γ, Γ', h => by cases h
  | _ :: _, [], Γ, Γ', h => by cases h
/-- what is bound does not hang on what stood in the bound places -/
def Agr (D : Nat → Prop) (Γ Δ : Gm) : Prop := Γ.length = Δ.length ∧ ∀ i, D i → Γ[i]? = Δ[i]?
mutual
theorem bind_agr : ∀ {t : CT} {p : PV} {Γ Γ' Δ : Gm} {D : Nat → Prop}, Agr D Γ Δ → bindT t p Γ = some Γ' → ∃ Δ', bindT t p Δ = some Δ' ∧ Agr (fun i => D i ∨ i ∈ t.vars) Γ' Δ'
  | .name i, p, Γ, Γ', Δ, D, a, h => by
    cases h
    refine ⟨_, rfl, by rw [List.length_set, List.length_set]; exact a.1, fun j hj => ?_⟩
    by_cases c : i = j
    · subst c
      by_cases l : i < Γ.length
      · rw [List.getElem?_set_self l, List.getElem?_set_self (by rw [← a.1]; exact l)]
      · rw [List.getElem?_eq_none (by rw [List.length_set]; omega), List.getElem?_eq_none (by rw [List.length_set, ← a.1]; omega)]
    · rw [List.getElem?_set_ne c, List.getElem?_set_ne c]
      rcases hj with hj | hj
      · exact a.2 j hj
      · exact absurd (List.mem_singleton.mp hj).symm c
  | .tup ts, .tup ps, Γ, Γ', Δ, D, a, h => binds_agr (ts := ts) (ps := ps) a h
  | .tup ts, .non, Γ, Γ', _, _, _, h => by cases h
  | .tup ts, .bl _, Γ, Γ', _, _, _, h => by cases h
  | .tup ts, .int _, Γ, Γ', _, _, _, h => by cases h
  | .tup ts, .str _, Γ, Γ', _, _, _, h => by cases h
  | .tup ts, .lst _, Γ, Γ', _, _, _, h => by cases h
theorem binds_agr : ∀ {ts : List CT} {ps : List PV} {Γ Γ' Δ : Gm} {D : Nat → Prop}, Agr D Γ Δ → bindTs ts ps Γ = some Γ' → ∃ Δ', bindTs ts ps Δ = some Δ' ∧ Agr (fun i => D i ∨ i ∈ CT.varsL ts) Γ' Δ'
  | [], [], Γ, Γ', Δ, D, a, h => by cases h; exact ⟨Δ, rfl, a.1, fun i hi => hi.elim (a.2 i) (fun q => by cases q)⟩
  | t :: ts, p :: ps, Γ, Γ', Δ, D, a, h => by
    have h : (bindT t p Γ).bind (fun Γ' => bindTs ts ps Γ') = some Γ' := h
    cases e : bindT t p Γ with
    | none => rw [e] at h; cases h
    | some Γ1 =>
      rw [e] at h
      obtain ⟨Δ1, e1, a1⟩ := bind_agr a e
      obtain ⟨Δ2, e2, a2⟩ := binds_agr (ts := ts) (ps := ps) a1 h
      refine ⟨Δ2, by show (bindT t p Δ).bind _ = _; rw [e1]; exact e2, a2.1, fun i hi => a2.2 i ?_⟩
      rcases hi with hi | hi
      · exact .inl (.inl hi)
      · rcases List.mem_append.mp hi with hi | hi
        · exact .inl (.inr hi)
        · exact .inr hi
  | [], _ :: _, Γ, Γ', _, _, _, h => by cases h
  | _ :: _, [], Γ, Γ', _, _, _, h => by cases h
end
theorem bind_wipe {t : CT} {p : PV} {Γ Γ' : Gm} {vs : List Nat} (hv : ∀ i ∈ vs, i ∈ t.vars) (h : bindT t p Γ = some Γ') : bindT t p (wipeG Γ vs) = some Γ' := by
  obtain ⟨Δ, e, a⟩ := bind_agr (Δ := wipeG Γ vs) (D := fun i => i ∉ vs) ⟨(wipeG_len Γ vs).symm, fun i hi => (wipeG_get Γ i hi).symm⟩ h
  rw [e]
  congr 1
  refine List.ext_getElem? fun i => (a.2 i ?_).symm
  by_cases c : i ∈ vs
  · exact .inr (hv i c)
  · exact .inl c
/-! ### targets -/
def RdG (F : Fr) (t : CT) : TG := fun v σ H Q => ∃ Γ R p Γ', RelR F.K F.H0 F.R0 R Γ σ H ∧ RpD F.K R p v ∧ bindT t p Γ = some Γ' ∧ ∀ σ', RelR F.K F.H0 F.R0 R Γ' σ' H → (∀ i, i ∉ t.vars → σ'[i]? = σ[i]?) → Q σ' H
def RdGs (F : Fr) (ts : List CT) : TGs := fun vs σ H Q => ∃ Γ R ps Γ', RelR F.K F.H0 F.R0 R Γ σ H ∧ RpL F.K R ps vs ∧ bindTs ts ps Γ = some Γ' ∧ ∀ σ', RelR F.K F.H0 F.R0 R Γ' σ' H → (∀ i, i ∉ CT.varsL ts → σ'[i]? = σ[i]?) → Q σ' H
theorem pgImp {X : Cx} {e : Expr} {t t' : TG} (h : PG X e t) (k : ∀ v σ H Q, t' v σ H Q → t v σ H Q) : PG X e t' := ⟨fun pins s σ H v u Q I r q => h.run pins s σ H v u Q I r (k v σ H Q q)⟩
theorem pgsImp {X : Cx} {e : List Expr} {t t' : TGs} (h : PGs X e t) (k : ∀ v σ H Q, t' v σ H Q → t v σ H Q) : PGs X e t' := ⟨fun pins s σ H v u Q I r q => h.run pins s σ H v u Q I r (k v σ H Q q)⟩
section
variable {I : Inf} {G : Ctx} {F : Fr} {X : Cx} {sc : Scope} {pos : Pos}
theorem okT_each {t : CT} {x : Expr} (h : okT I sc t x = true) (xs : List Expr) (env : PySem.Env) : assignEach (x :: xs) env = (false, assign x env) :: assignEach xs env := by
  cases t <;> cases x <;> first | (cases h; done) | rfl
theorem okTs_each {env : PySem.Env} : ∀ {ts : List CT} {xs : List Expr}, okTs I sc ts xs = true → (assignEach xs env).length = ts.length ∧ (assignEach xs env).findIdx? (·.1) = none
  | [], [], _ => ⟨rfl, rfl⟩
  | t :: ts, x :: xs, h => by
    have h : (okT I sc t x && okTs I sc ts xs) = true := h
    rw [Bool.and_eq_true] at h
    have ih := okTs_each (env := env) (ts := ts) h.2
    rw [okT_each h.1]
    refine ⟨by rw [List.length_cons, List.length_cons, ih.1], ?_⟩
    rw [List.findIdx?_cons, ih.2]; rfl
  | [], _ :: _, h => by cases h
  | _ :: _, [], h => by cases h
theorem loc_fn (C : Cok I G F X sc) {x : Str} (h : locB sc x = true) : X.fn x = true ∨ X.env.scope.names.lookup x = some .local := by
  unfold locB at h
  split at h
  · rename_i e
    rcases C.sc _ _ e with e | ⟨e, _⟩
    · exact .inr e
    · cases e
  · rename_i e
    exact .inl (C.fnc _ e)
  · cases h
mutual
theorem g_ok (C : Cok I G F X sc) : ∀ (t : CT) (x : Expr), okT I sc t x = true → PG X x (RdG F t)
  | .name i, x, h => by
    cases x <;> first | (cases h; done) | skip
    rename_i x p
    have h : (decide (I.N[i]? = some x) && locB sc x) = true := h
    rw [Bool.and_eq_true, decide_eq_true_eq] at h
    refine pgImp (pg_name (by rw [C.hN]; exact C.nd) (by rw [C.hN]; exact h.1) (loc_of C h.2) (loc_fn C h.2)) fun v σ H Q ⟨Γ, R, p, Γ', rel, rp, e, k⟩ => ?_
    have e : some (Γ.set i (.sh (.d p))) = some Γ' := e
    cases e
    exact k _ (rel.set rp) fun j hj => List.getElem?_set_ne fun c => hj (by subst c; exact List.mem_singleton.mpr rfl)
  | .tup ts, x, h => by
    cases x <;> first | (cases h; done) | skip
    rename_i xs k p
    have h : okTs I sc ts xs = true := h
    have ea := okTs_each (env := X.env) h
    refine pgImp (pg_tup C.calm (gs_ok C ts xs h) ea.1 ea.2) fun v σ H Q ⟨Γ, R, p, Γ', rel, rp, e, k⟩ => ?_
    cases p with
    | tup ps =>
      obtain ⟨a, vs, ev, sq, z, q⟩ : ∃ a vs, v = .ref a ∧ SqT F.K R a vs ∧ ps.length ≤ line ∧ RpL F.K R ps vs := rp
      have e : bindTs ts ps Γ = some Γ' := e
      refine ⟨a, vs, ev, by rw [← C.hK]; exact rel.sub.seqT sq, by rw [q.len, binds_n e], Γ, R, ps, Γ', rel, q, e, k⟩
    | _ => cases e
theorem gs_ok (C : Cok I G F X sc) : ∀ (ts : List CT) (xs : List Expr), okTs I sc ts xs = true → PGs X xs (RdGs F ts)
  | [], [], _ => pgsImp pgs_nil fun v σ H Q ⟨Γ, R, ps, Γ', rel, rp, e, k⟩ => by
    cases ps with
    | nil => cases e; exact ⟨rp, k _ rel fun _ _ => rfl⟩
    | cons _ _ => cases e
  | t :: ts, x :: xs, h => by
    have h : (okT I sc t x && okTs I sc ts xs) = true := h
    rw [Bool.and_eq_true] at h
    refine pgsImp (pgs_cons (g_ok C t x h.1) (gs_ok C ts xs h.2) (by rw [okT_each h.1]; rfl)) fun v σ H Q ⟨Γ, R, ps, Γ', rel, rp, e, k⟩ => ?_
    cases ps with
    | nil => cases e
    | cons p ps =>
      obtain ⟨w, ws, ev, r1, r2⟩ : ∃ w ws, v = w :: ws ∧ RpD F.K R p w ∧ RpL F.K R ps ws := rp
      have e : (bindT t p Γ).bind (fun Γ' => bindTs ts ps Γ') = some Γ' := e
      cases e1 : bindT t p Γ with
      | none => rw [e1] at e; cases e
      | some Γ1 =>
        rw [e1] at e
        refine ⟨w, ws, ev, Γ, R, p, Γ1, rel, r1, e1, fun σ1 rel1 k1 => ⟨Γ1, R, ps, Γ', rel1, r2, e, fun σ2 rel2 k2 => k _ rel2 fun i hi => ?_⟩⟩
        have hi : i ∉ t.vars ++ CT.varsL ts := hi
        rw [List.mem_append, not_or] at hi
        rw [k2 i hi.2, k1 i hi.1]
  | [], _ :: _, h => by cases h
  | _ :: _, [], h => by cases h
end
end
end Bw
end

section
set_option autoImplicit false
set_option linter.all false
/-! Bw U: list comprehensions. -/
namespace Bw
open PySem L2
theorem tame_ok' {α : Type} {r : Res α} {a : α} (h : r.tame = .ok a) : r = .ok a := by
  cases r with
  | ok b => exact h
  | exc c => cases h
  | bad => cases h
theorem mapR_exc {α β : Type} {f : α → Res (Option β)} {c : Nat} : ∀ {xs : List α}, mapR f xs ≠ .exc c
  | [], h => by cases h
  | x :: xs, h => by
    have h : ((f x).tame.bind fun y => (mapR f xs).bind fun ys => .ok (match y with | some z => z :: ys | none => ys)) = .exc c := h
    cases e : f x with
    | bad => rw [e] at h; cases h
    | exc k => rw [e] at h; cases h
    | ok y =>
      rw [e] at h
      have h : ((mapR f xs).bind fun ys => .ok (match y with | some z => z :: ys | none => ys)) = .exc c := h
      cases e2 : mapR f xs with
      | bad => rw [e2] at h; cases h
      | ok ys => rw [e2] at h; cases h
      | exc k => exact mapR_exc e2
theorem mapR_cons {α β : Type} {f : α → Res (Option β)} {x : α} {xs : List α} {ys : List β} (h : mapR f (x :: xs) = .ok ys) : ∃ y zs, f x = .ok y ∧ mapR f xs = .ok zs ∧ ys = match y with | some z => z :: zs | none => zs := by
  have h : ((f x).tame.bind fun y => (mapR f xs).bind fun ys => .ok (match y with | some z => z :: ys | none => ys)) = .ok ys := h
  cases e : (f x).tame with
  | bad => rw [e] at h; cases h
  | exc k => rw [e] at h; cases h
  | ok y =>
    rw [e, Res.bind_ok] at h
    cases e2 : mapR f xs with
    | bad => rw [e2] at h; cases h
    | exc k => exact absurd e2 mapR_exc
    | ok zs => rw [e2, Res.bind_ok] at h; cases h; exact ⟨y, zs, tame_ok' e, rfl, rfl⟩
theorem Grow.at {H R H' R' : Hp} {D : Addr} {o : HO} (g : Grow H R H' R') (h : H D = none) (h' : R' D = none) : Grow H R (upd H' D o) R' := by
  refine ⟨fun a u e => ?_, g.reg, fun a u e => ?_, g.old⟩
  · rw [upd_ne (ne_of_none e h)]; exact g.same _ _ e
  · rw [upd_ne (ne_of_none e h')]; exact g.sub _ _ e
/-- the hidden list, made known -/
theorem Grow.show' {H R H' R' : Hp} {D : Addr} {o : HO} (g : Grow H R H' R') (h : H D = none) (h' : H' D = some o) (hR : R' D = none) : Grow H R H' (upd R' D o) := by
  refine ⟨g.same, fun a u e => ?_, fun a u e => ?_, fun a n => ?_⟩
  · rw [upd_ne (ne_of_none (g.reg _ _ e) hR)]; exact g.reg _ _ e
  · by_cases c : a = D
    · subst c; rw [upd_same] at e; cases e; exact h'
    · rw [upd_ne c] at e; exact g.sub _ _ e
  · by_cases c : a = D
    · subst c; exact absurd h n
    · rw [upd_ne c]; exact g.old a n
theorem sub_upd {R : Hp} {D : Addr} {o : HO} (h : R D = none) : Sub R (upd R D o) := fun a u e => by rw [upd_ne (ne_of_none e h)]; exact e
/-- no error leaves -/
def Fr.calm (F : Fr) : Fr := { F with W := fun _ _ _ _ => False }
def lcF (G : Ctx) (t : CT) (cs : List CE) (e : CE) (Γ : Gm) : PV → Res (Option PV) := fun x => obind (bindT t x Γ) fun Γ' => (evC G cs Γ').bind fun c => if c then (ev G e Γ').bind fun y => (data? y).bind fun p => .ok (some p) else .ok none
theorem lcF_ok {G : Ctx} {t : CT} {cs : List CE} {e : CE} {Γ : Gm} {x : PV} {y : Option PV} (h : lcF G t cs e Γ x = .ok y) : ∃ Γ', bindT t x Γ = some Γ' ∧ ((evC G cs Γ' = .ok true ∧ ∃ q, ev G e Γ' = .ok (.d q) ∧ y = some q) ∨ (evC G cs Γ' = .ok false ∧ y = none)) := by
  unfold lcF at h
  cases e1 : bindT t x Γ with
  | none => rw [e1] at h; cases h
  | some Γ' =>
    rw [e1] at h
    refine ⟨Γ', rfl, ?_⟩
    have h : ((evC G cs Γ').bind fun c => if c then (ev G e Γ').bind fun y => (data? y).bind fun p => .ok (some p) else .ok none) = .ok y := h
    cases e2 : evC G cs Γ' with
    | bad => rw [e2] at h; cases h
    | exc k => rw [e2] at h; cases h
    | ok c =>
      rw [e2] at h
      cases c with
      | false => cases h; exact .inr ⟨rfl, rfl⟩
      | true =>
        have h : ((ev G e Γ').bind fun y => (data? y).bind fun p => .ok (some p)) = .ok y := h
        cases e3 : ev G e Γ' with
        | bad => rw [e3] at h; cases h
        | exc k => rw [e3] at h; cases h
        | ok s =>
          rw [e3] at h
          cases s with
          | d q => cases h; exact .inl ⟨rfl, q, rfl, rfl⟩
          | _ => cases h
section
variable {I : Inf} {G : Ctx} {F : Fr} {X : Cx} {sc : Scope} {pos : Pos}
/-- the turns of a comprehension: D is the new list -/
theorem lc_turns {t : CT} {cs : List CE} {e : CE} {own : List (Str × Nat)} {σ : L2.St} {Γ : Gm} {R1 H1 : Hp} {J : It} {xs ys : List PV} {D : Addr} {m : Md} {Q : VK} (hv : ∀ i ∈ own.map (·.2), i ∈ t.vars) (hw : ∀ i ∈ t.vars, i ∈ own.map (·.2))
    (rel1 : RelR F.K F.H0 F.R0 R1 Γ σ H1) (wl : Wlk F.K J xs (base m R1 H1) R1) (len : xs.length ≤ line) (hD : H1 D = none) (e2 : mapR (lcF G t cs e Γ) xs = .ok ys)
    (fin : ∀ Hh Rh acc, Grow H1 R1 Hh Rh → Hh D = some (.lst acc) → Rh D = none → RpL F.K Rh ys acc → ys.length ≤ line → Q (.ref D) Hh) :
    ∃ W : Nat → Nat → Hp → Prop, (∃ m, W 0 m (upd H1 D (.lst []))) ∧ ∀ i m H, W i m H →
      (J.stop i H ∧ Q (.ref D) H) ∨ (J.go i H ∧ ∃ Nx : Hp → Prop, (∀ H', Nx H' → ∃ m', m' < m ∧ W (i + 1) m' H') ∧ ∀ x H', J.yld i H x H' → RdG F.calm t x (wipe σ (own.map (·.2))) H' fun σ2 H2 => wipe σ2 (own.map (·.2)) = wipe σ (own.map (·.2)) ∧ RdB F.calm (evC G cs) σ2 H2 fun b H3 =>
        if b = true then Rd' F.calm .e (ev G e) σ2 H3 fun y H4 => ∃ acc, H4 D = some (.lst acc) ∧ acc.length < sizeLine ∧ Nx (upd H4 D (.lst (acc ++ [y]))) else Nx H3) := by
  have g1s : Sub R1 H1 := rel1.sub
  have R1D : R1 D = none := by
    cases q : R1 D with
    | none => rfl
    | some o => rw [g1s _ _ q] at hD; cases hD
  refine ⟨fun i mm Hh => mm = xs.length - i ∧ i ≤ xs.length ∧ ∃ Rh acc pre rest, Grow H1 R1 Hh Rh ∧ Rh D = none ∧ Hh D = some (.lst acc) ∧ RpL F.K Rh pre acc ∧ mapR (lcF G t cs e Γ) (xs.drop i) = .ok rest ∧ pre ++ rest = ys ∧ pre.length ≤ i,
    ⟨_, rfl, Nat.zero_le _, R1, [], [], ys, .hid g1s hD _, R1D, upd_same .., rfl, e2, rfl, Nat.le_refl _⟩, ?_⟩
  rintro i mm Hh ⟨hm, hi, Rh, acc, pre, rest, g, RhD, hHD, ra, em, ey, hl⟩
  have wk := wl Hh Rh ((base_sub g1s).trans g.same) g.reg g.sub i
  cases ex : xs[i]? with
  | none =>
    refine .inl ⟨wk.2 ex, ?_⟩
    have e3 : xs.drop i = [] := List.drop_eq_nil_of_le (List.getElem?_eq_none_iff.mp ex)
    rw [e3] at em
    cases em
    rw [List.append_nil] at ey
    subst ey
    exact fin Hh Rh acc g hHD RhD ra (Nat.le_trans hl (Nat.le_trans hi len))
  | some px =>
    have hlt : i < xs.length := (List.getElem?_eq_some_iff.mp ex).1
    obtain ⟨go, yl⟩ := wk.1 px ex
    have e3 : xs.drop i = px :: xs.drop (i + 1) := by
      rw [List.drop_eq_getElem_cons hlt]
      congr 1
      exact (List.getElem?_eq_some_iff.mp ex).2
    rw [e3] at em
    obtain ⟨y, zs, f1, f2, f3⟩ := mapR_cons em
    obtain ⟨Γ', b1, b2⟩ := lcF_ok f1
    refine .inr ⟨go, fun H' => xs.length - (i + 1) = xs.length - (i + 1) ∧ i + 1 ≤ xs.length ∧ ∃ Rh acc pre rest, Grow H1 R1 H' Rh ∧ Rh D = none ∧ H' D = some (.lst acc) ∧ RpL F.K Rh pre acc ∧ mapR (lcF G t cs e Γ) (xs.drop (i + 1)) = .ok rest ∧ pre ++ rest = ys ∧ pre.length ≤ i + 1, fun H' w => ⟨_, by omega, w⟩, ?_⟩
    intro x H' hy
    obtain ⟨R', g', rx⟩ := yl x H' hy
    have noD : ∀ {H2 R2 : Hp}, Grow Hh Rh H2 R2 → R2 D = none ∧ H2 D = some (.lst acc) := fun g2 => ⟨by rw [g2.old D (by rw [hHD]; simp)]; exact RhD, g2.same _ _ hHD⟩
    refine ⟨wipeG Γ (own.map Prod.snd), R', px, Γ', ((rel1.grow g).grow g').wipe (own.map Prod.snd), rx, bind_wipe hv b1, fun σ2 rel2 keep => ⟨?_, ?_⟩⟩
    · refine wipe_eq (by rw [← rel2.len, bind_len b1]; exact rel1.len) fun i hn => ?_
      rw [keep i fun q => hn (hw i q), wipe_get σ i hn]
    · refine ⟨Γ', R', rel2, ?_⟩
      rcases b2 with ⟨c1, q, c2, c3⟩ | ⟨c1, c3⟩
      · rw [c1]
        intro H3 R3 g3
        refine ⟨Γ', R3, rel2.grow g3, ?_⟩
        rw [c2]
        intro v H4 R4 g4 rv
        have gg := (g'.trans g3).trans g4
        obtain ⟨n1, n2⟩ := noD gg
        have la : acc.length = pre.length := ra.len
        refine ⟨acc, n2, by rw [la, ← line_eq]; omega, rfl, hlt, R4, acc ++ [v], pre ++ [q], zs, (g.trans gg).at hD n1, n1, upd_same .., (ra.mono gg.reg).append (.one rv), f2, ?_, by rw [List.length_append]; simp; exact hl⟩
        rw [c3] at f3
        rw [← ey, f3, List.append_assoc]; rfl
      · rw [c1]
        intro H3 R3 g3
        have gg := g'.trans g3
        obtain ⟨n1, n2⟩ := noD gg
        refine ⟨rfl, hlt, R3, acc, pre, zs, g.trans gg, n1, n2, ra.mono gg.reg, f2, ?_, Nat.le_succ_of_le hl⟩
        rw [c3] at f3
        rw [← ey, f3]
theorem rd_lc {t : CT} {it : CI} {cs : List CE} {e : CE} {own : List (Str × Nat)} {m : Md} (hv : ∀ i ∈ own.map (·.2), i ∈ t.vars) (hw : ∀ i ∈ t.vars, i ∈ own.map (·.2)) {σ : L2.St} {H : Hp} {Q : VK} (h : Rd' F .e (ev G (.lc t it cs e)) σ H Q) :
    tLc (RdI F m (evI G it)) (RdG F.calm t) (RdB F.calm (evC G cs)) (Rd' F.calm .e (ev G e)) (own.map (·.2)) σ H Q := by
  obtain ⟨Γ, R, rel, p⟩ := h
  refine ⟨Γ, R, rel, ?_⟩
  have p : Post F .e R σ H ((evI G it Γ).bind fun xs => (mapR (lcF G t cs e Γ) xs).bind fun ys => .ok (.d (.lst ys))) Q := p
  cases e1 : evI G it Γ with
  | bad => rw [e1] at p; exact p.elim
  | exc c => rw [e1] at p; exact p
  | ok xs =>
    rw [e1] at p
    intro J H1 R1 g1 wl len D hD
    have p : Post F .e R1 σ H1 ((mapR (lcF G t cs e Γ) xs).bind fun ys => .ok (.d (.lst ys))) Q := Post.grow (r := (mapR (lcF G t cs e Γ) xs).bind fun ys => .ok (.d (.lst ys))) p g1
    cases e2 : mapR (lcF G t cs e Γ) xs with
    | bad => rw [e2] at p; exact p.elim
    | exc c => exact absurd e2 mapR_exc
    | ok ys =>
      rw [e2] at p
      have p : Post F .e R1 σ H1 (.ok (.d (.lst ys))) Q := p
      exact lc_turns hv hw (rel.grow g1) wl len hD e2 fun Hh Rh acc g hHD RhD ra z => p _ _ _ (g.show' hD hHD RhD) ⟨D, acc, rfl, upd_same .., z, ra.mono (sub_upd RhD)⟩
/-- what is wanted of a new list that nothing else holds -/
def PostN (F : Fr) (R : Hp) (σ : L2.St) (H : Hp) (r : Res SV) (Q : VK) : Prop := match r with
  | .ok (.d (.lst ps)) => ∀ p H' R' vs, Grow H R H' R' → H p = none → H' p = some (.lst vs) → R' p = none → RpL F.K R' ps vs → ps.length ≤ line → Q (.ref p) H'
  | .ok _ => False
  | .exc c => ∀ H' R', Grow H R H' R' → F.W (F.cls c) none σ H'
  | .bad => False
def RdN (F : Fr) (g : Gm → Res SV) : TE := fun σ H Q => ∃ Γ R, RelR F.K F.H0 F.R0 R Γ σ H ∧ PostN F R σ H (g Γ) Q
theorem rn_lc {t : CT} {it : CI} {cs : List CE} {e : CE} {own : List (Str × Nat)} {m : Md} (hv : ∀ i ∈ own.map (·.2), i ∈ t.vars) (hw : ∀ i ∈ t.vars, i ∈ own.map (·.2)) {σ : L2.St} {H : Hp} {Q : VK} (h : RdN F (ev G (.lc t it cs e)) σ H Q) :
    tLc (RdI F m (evI G it)) (RdG F.calm t) (RdB F.calm (evC G cs)) (Rd' F.calm .e (ev G e)) (own.map (·.2)) σ H Q := by
  obtain ⟨Γ, R, rel, p⟩ := h
  refine ⟨Γ, R, rel, ?_⟩
  have p : PostN F R σ H ((evI G it Γ).bind fun xs => (mapR (lcF G t cs e Γ) xs).bind fun ys => .ok (.d (.lst ys))) Q := p
  cases e1 : evI G it Γ with
  | bad => rw [e1] at p; exact p.elim
  | exc c => rw [e1] at p; exact p
  | ok xs =>
    rw [e1] at p
    intro J H1 R1 g1 wl len D hD
    have p : PostN F R σ H ((mapR (lcF G t cs e Γ) xs).bind fun ys => .ok (.d (.lst ys))) Q := p
    cases e2 : mapR (lcF G t cs e Γ) xs with
    | bad => rw [e2] at p; exact p.elim
    | exc c => exact absurd e2 mapR_exc
    | ok ys =>
      rw [e2] at p
      refine lc_turns hv hw (rel.grow g1) wl len hD e2 fun Hh Rh acc g hHD RhD ra z => p D Hh Rh acc (g1.trans g) ?_ hHD RhD ra z
      cases q : H D with
      | none => rfl
      | some o => rw [g1.same _ _ q] at hD; cases hD
theorem r_lc (C : Cok I G F X sc) {t : CT} {it : CI} {cs : List CE} {e : CE} {tg iter elt : Expr} {ifs : List Expr} {scope : Scope} {own : List (Str × Nat)} {m : Md}
        (hi : PI X tg iter (RdI F m (evI G it))) (ok : BlkOk X.N X.env.scope scope own) (hv : ∀ i ∈ own.map (·.2), i ∈ t.vars) (hw : ∀ i ∈ t.vars, i ∈ own.map (·.2))
    (hg : ∀ (s : Shared) (H : Hp) (Cc : Addr) (cl : List (Str × Addr)) (fp : List Addr), PG (X.blk s H scope (compEnvC scope cl Cc X.env) fp) tg (RdG F.calm t))
    (ht : ∀ (s : Shared) (H : Hp) (Cc : Addr) (cl : List (Str × Addr)) (fp : List Addr), PTs (X.blk s H scope (compEnvC scope cl Cc X.env) fp) ifs (RdB F.calm (evC G cs)))
    (he : ∀ (s : Shared) (H : Hp) (Cc : Addr) (cl : List (Str × Addr)) (fp : List Addr), PE (X.blk s H scope (compEnvC scope cl Cc X.env) fp) elt (Rd' F.calm .e (ev G e)))
    (hs : ∀ x, foldedSetIterable iter X.env x = pure x) : PE X (.ListComp elt [⟨tg, iter, ifs, 0⟩] scope pos) (Rd' F .e (ev G (.lc t it cs e))) :=
  peImp (pe_lc C.calm (by rw [C.hN]; exact C.nd) hi ok hg ht he hs) fun σ H Q h => rd_lc hv hw h
theorem n_lc (C : Cok I G F X sc) {t : CT} {it : CI} {cs : List CE} {e : CE} {tg iter elt : Expr} {ifs : List Expr} {scope : Scope} {own : List (Str × Nat)} {m : Md}
        (hi : PI X tg iter (RdI F m (evI G it))) (ok : BlkOk X.N X.env.scope scope own) (hv : ∀ i ∈ own.map (·.2), i ∈ t.vars) (hw : ∀ i ∈ t.vars, i ∈ own.map (·.2))
    (hg : ∀ (s : Shared) (H : Hp) (Cc : Addr) (cl : List (Str × Addr)) (fp : List Addr), PG (X.blk s H scope (compEnvC scope cl Cc X.env) fp) tg (RdG F.calm t))
    (ht : ∀ (s : Shared) (H : Hp) (Cc : Addr) (cl : List (Str × Addr)) (fp : List Addr), PTs (X.blk s H scope (compEnvC scope cl Cc X.env) fp) ifs (RdB F.calm (evC G cs)))
    (he : ∀ (s : Shared) (H : Hp) (Cc : Addr) (cl : List (Str × Addr)) (fp : List Addr), PE (X.blk s H scope (compEnvC scope cl Cc X.env) fp) elt (Rd' F.calm .e (ev G e)))
    (hs : ∀ x, foldedSetIterable iter X.env x = pure x) : PE X (.ListComp elt [⟨tg, iter, ifs, 0⟩] scope pos) (RdN F (ev G (.lc t it cs e))) :=
  peImp (pe_lc C.calm (by rw [C.hN]; exact C.nd) hi ok hg ht he hs) fun σ H Q h => rn_lc hv hw h
end
end Bw
end

section
set_option autoImplicit false
set_option linter.all false
/-! Bw U2: list comprehensions of two clauses. -/
namespace Bw
open PySem L2
mutual
theorem bind_ow : ∀ {t : CT} {p : PV} {Γ Γ' : Gm} {i : Nat} {s : SV}, bindT t p Γ = some Γ' → Γ'[i]? = some (.ow s) → Γ[i]? = some (.ow s) ∧ i ∉ t.vars
  | .name j, p, Γ, Γ', i, s, h, e => by
    cases h
    by_cases c : j = i
    · subst c
      by_cases l : j < Γ.length
      · rw [List.getElem?_set_self l] at e; cases e
      · rw [List.getElem?_eq_none (by rw [List.length_set]; omega)] at e; cases e
    · rw [List.getElem?_set_ne c] at e
      exact ⟨e, fun h => c (List.mem_singleton.mp h).symm⟩
  | .tup ts, .tup ps, Γ, Γ', i, s, h, e => binds_ow (ts := ts) (ps := ps) h e
  | .tup ts, .non, _, _, _, _, h, _ => by cases h
  | .tup ts, .bl _, _, _, _, _, h, _ => by cases h
  | .tup ts, .int _, _, _, _, _, h, _ => by cases h
  | .tup ts, .str _, _, _, _, _, h, _ => by cases h
  | .tup ts, .lst _, _, _, _, _, h, _ => by cases h
theorem binds_ow : ∀ {ts : List CT} {ps : List PV} {Γ Γ' : Gm} {i : Nat} {s : SV}, bindTs ts ps Γ = some Γ' → Γ'[i]? = some (.ow s) → Γ[i]? = some (.ow s) ∧ i ∉ CT.varsL ts
  | [], [], Γ, Γ', i, s, h, e => by cases h; exact ⟨e, fun q => by cases q⟩
  | t :: ts, p :: ps, Γ, Γ', i, s, h, e => by
    have h : (bindT t p Γ).bind (fun Γ' => bindTs ts ps Γ') = some Γ' := h
    cases e1 : bindT t p Γ with
    | none => rw [e1] at h; cases h
    | some Γ1 =>
      rw [e1] at h
      obtain ⟨q1, q2⟩ := binds_ow (ts := ts) (ps := ps) (Γ := Γ1) h e
      obtain ⟨q3, q4⟩ := bind_ow e1 q1
      exact ⟨q3, fun hi => (List.mem_append.mp hi).elim q4 q2⟩
  | [], _ :: _, _, _, _, _, h, _ => by cases h
  | _ :: _, [], _, _, _, _, h, _ => by cases h
end
theorem wipeG_ow {Γ : Gm} {i : Nat} {s : SV} : ∀ {vs : List Nat}, (wipeG Γ vs)[i]? = some (.ow s) → Γ[i]? = some (.ow s) ∧ i ∉ vs
  | [], h => ⟨h, by simp⟩
  | v :: vs, h => by
    rw [wipeG] at h
    by_cases c : v = i
    · subst c
      by_cases l : v < (wipeG Γ vs).length
      · rw [List.getElem?_set_self l] at h; cases h
      · rw [List.getElem?_eq_none (by rw [List.length_set]; omega)] at h; cases h
    · rw [List.getElem?_set_ne c] at h
      obtain ⟨h1, h2⟩ := wipeG_ow h
      exact ⟨h1, by simp only [List.mem_cons, not_or]; exact ⟨fun e => c e.symm, h2⟩⟩
theorem catR_exc {α β : Type} {f : α → Res (List β)} {c : Nat} : ∀ {xs : List α}, catR f xs ≠ .exc c
  | [], h => by cases h
  | x :: xs, h => by
    have h : ((f x).tame.bind fun ys => (catR f xs).bind fun zs => .ok (ys ++ zs)) = .exc c := h
    cases e : f x with
    | bad => rw [e] at h; cases h
    | exc k => rw [e] at h; cases h
    | ok y =>
      rw [e] at h
      have h : ((catR f xs).bind fun zs => .ok (y ++ zs)) = .exc c := h
      cases e2 : catR f xs with
      | bad => rw [e2] at h; cases h
      | ok ys => rw [e2] at h; cases h
      | exc k => exact catR_exc e2
theorem catR_cons {α β : Type} {f : α → Res (List β)} {x : α} {xs : List α} {ys : List β} (h : catR f (x :: xs) = .ok ys) : ∃ y zs, f x = .ok y ∧ catR f xs = .ok zs ∧ ys = y ++ zs := by
  have h : ((f x).tame.bind fun ys => (catR f xs).bind fun zs => .ok (ys ++ zs)) = .ok ys := h
  cases e : (f x).tame with
  | bad => rw [e] at h; cases h
  | exc k => rw [e] at h; cases h
  | ok y =>
    rw [e, Res.bind_ok] at h
    cases e2 : catR f xs with
    | bad => rw [e2] at h; cases h
    | exc k => exact absurd e2 catR_exc
    | ok zs => rw [e2, Res.bind_ok] at h; cases h; exact ⟨y, zs, tame_ok' e, rfl, rfl⟩
def lc2F (G : Ctx) (t : CT) (cs : List CE) (t' : CT) (it' : CI) (cs' : List CE) (e : CE) (Γ : Gm) : PV → Res (List PV) := fun x => obind (bindT t x (wipeG Γ (t.vars ++ t'.vars))) fun Γ1 => (evC G cs Γ1).bind fun c => if c then (evI G it' Γ1).bind fun ys => mapR (lcF G t' cs' e Γ1) ys else .ok []
theorem lc2F_ok {G : Ctx} {t t' : CT} {cs cs' : List CE} {it' : CI} {e : CE} {Γ : Gm} {x : PV} {y : List PV} (h : lc2F G t cs t' it' cs' e Γ x = .ok y) : ∃ Γ1, bindT t x (wipeG Γ (t.vars ++ t'.vars)) = some Γ1 ∧ ((evC G cs Γ1 = .ok true ∧ ∃ ys, evI G it' Γ1 = .ok ys ∧ mapR (lcF G t' cs' e Γ1) ys = .ok y) ∨ (evC G cs Γ1 = .ok false ∧ y = [])) := by
  unfold lc2F at h
  cases e1 : bindT t x (wipeG Γ (t.vars ++ t'.vars)) with
  | none => rw [e1] at h; cases h
  | some Γ1 =>
    rw [e1] at h
    refine ⟨Γ1, rfl, ?_⟩
    have h : ((evC G cs Γ1).bind fun c => if c then (evI G it' Γ1).bind fun ys => mapR (lcF G t' cs' e Γ1) ys else .ok []) = .ok y := h
    cases e2 : evC G cs Γ1 with
    | bad => rw [e2] at h; cases h
    | exc k => rw [e2] at h; cases h
    | ok c =>
      rw [e2] at h
      cases c with
      | false => cases h; exact .inr ⟨rfl, rfl⟩
      | true =>
        have h : ((evI G it' Γ1).bind fun ys => mapR (lcF G t' cs' e Γ1) ys) = .ok y := h
        cases e3 : evI G it' Γ1 with
        | bad => rw [e3] at h; cases h
        | exc k => rw [e3] at h; cases h
        | ok ys => rw [e3] at h; exact .inl ⟨rfl, ys, rfl, h⟩
section
variable {I : Inf} {G : Ctx} {F : Fr} {X : Cx} {sc : Scope} {pos : Pos}
theorem lc2_turns {t t' : CT} {cs cs' : List CE} {it' : CI} {e : CE} {σ : L2.St} {Γ : Gm} {R1 H1 : Hp} {J : It} {xs ys : List PV} {D : Addr} {m : Md} {Q : VK}
    (rel1 : RelR F.K F.H0 F.R0 R1 Γ σ H1) (wl : Wlk F.K J xs (base m R1 H1) R1) (hD : H1 D = none) (e2 : catR (lc2F G t cs t' it' cs' e Γ) xs = .ok ys) (hys : ys.length ≤ line)
    (fin : ∀ Hh Rh acc, Grow H1 R1 Hh Rh → Hh D = some (.lst acc) → Rh D = none → RpL F.K Rh ys acc → Q (.ref D) Hh) :
    ∃ W : Nat → Nat → Hp → Prop, (∃ m, W 0 m (upd H1 D (.lst []))) ∧ ∀ i m H, W i m H →
      (J.stop i H ∧ Q (.ref D) H) ∨ (J.go i H ∧ ∃ Nx : Hp → Prop, (∀ H', Nx H' → ∃ m', m' < m ∧ W (i + 1) m' H') ∧ ∀ x H', J.yld i H x H' → RdG F.calm t x (wipe σ (t.vars ++ t'.vars)) H' fun σ2 H2 => wipe σ2 (t.vars ++ t'.vars) = wipe σ (t.vars ++ t'.vars) ∧ RdB F.calm (evC G cs) σ2 H2 fun b H3 =>
        if b = true then RdI F.calm .e (evI G it') σ2 H3 fun J1 H4 => ∃ W1 : Nat → Nat → Hp → Prop, (∃ m, W1 0 m H4) ∧ ∀ j k H, W1 j k H →
          (J1.stop j H ∧ Nx H) ∨ (J1.go j H ∧ ∃ Nx1 : Hp → Prop, (∀ H', Nx1 H' → ∃ k', k' < k ∧ W1 (j + 1) k' H') ∧ ∀ x H', J1.yld j H x H' → RdG F.calm t' x (wipe σ2 t'.vars) H' fun σ3 H5 => wipe σ3 t'.vars = wipe σ2 t'.vars ∧ RdB F.calm (evC G cs') σ3 H5 fun b H6 =>
            if b = true then Rd' F.calm .e (ev G e) σ3 H6 fun y H7 => ∃ acc, H7 D = some (.lst acc) ∧ acc.length < sizeLine ∧ Nx1 (upd H7 D (.lst (acc ++ [y]))) else Nx1 H6)
        else Nx H3) := by
  have g1s : Sub R1 H1 := rel1.sub
  have R1D : R1 D = none := by
    cases q : R1 D with
    | none => rfl
    | some o => rw [g1s _ _ q] at hD; cases hD
  refine ⟨fun i mm Hh => mm = xs.length - i ∧ i ≤ xs.length ∧ ∃ Rh acc pre rest, Grow H1 R1 Hh Rh ∧ Rh D = none ∧ Hh D = some (.lst acc) ∧ RpL F.K Rh pre acc ∧ catR (lc2F G t cs t' it' cs' e Γ) (xs.drop i) = .ok rest ∧ pre ++ rest = ys,
    ⟨_, rfl, Nat.zero_le _, R1, [], [], ys, .hid g1s hD _, R1D, upd_same .., rfl, e2, rfl⟩, ?_⟩
  rintro i mm Hh ⟨hm, hi, Rh, acc, pre, rest, g, RhD, hHD, ra, em, ey⟩
  have wk := wl Hh Rh ((base_sub g1s).trans g.same) g.reg g.sub i
  cases ex : xs[i]? with
  | none =>
    refine .inl ⟨wk.2 ex, ?_⟩
    rw [List.drop_eq_nil_of_le (List.getElem?_eq_none_iff.mp ex)] at em
    cases em
    rw [List.append_nil] at ey
    subst ey
    exact fin Hh Rh acc g hHD RhD ra
  | some px =>
    have hlt : i < xs.length := (List.getElem?_eq_some_iff.mp ex).1
    obtain ⟨go, yl⟩ := wk.1 px ex
    have e3 : xs.drop i = px :: xs.drop (i + 1) := by
      rw [List.drop_eq_getElem_cons hlt]
      congr 1
      exact (List.getElem?_eq_some_iff.mp ex).2
    rw [e3] at em
    obtain ⟨y, zs, f1, f2, f3⟩ := catR_cons em
    obtain ⟨Γ1, b1, b2⟩ := lc2F_ok f1
    refine .inr ⟨go, fun H' => xs.length - (i + 1) = xs.length - (i + 1) ∧ i + 1 ≤ xs.length ∧ ∃ Rh acc pre rest, Grow H1 R1 H' Rh ∧ Rh D = none ∧ H' D = some (.lst acc) ∧ RpL F.K Rh pre acc ∧ catR (lc2F G t cs t' it' cs' e Γ) (xs.drop (i + 1)) = .ok rest ∧ pre ++ rest = ys, fun H' w => ⟨_, by omega, w⟩, ?_⟩
    intro x H' hy
    obtain ⟨R', g', rx⟩ := yl x H' hy
    have noD : ∀ {Ha Ra H2 R2 : Hp} {ac : List V}, Ra D = none → Ha D = some (.lst ac) → Grow Ha Ra H2 R2 → R2 D = none ∧ H2 D = some (.lst ac) := fun hR hH g2 => ⟨by rw [g2.old D (by rw [hH]; simp)]; exact hR, g2.same _ _ hH⟩
    refine ⟨wipeG Γ (t.vars ++ t'.vars), R', px, Γ1, ((rel1.grow g).grow g').wipe _, rx, b1, fun σ2 rel2 keep => ⟨?_, ?_⟩⟩
    · refine wipe_eq (by rw [← rel2.len, bind_len b1, wipeG_len]; exact rel1.len) fun i hn => ?_
      rw [keep i fun q => hn (List.mem_append_left _ q), wipe_get σ i hn]
    · refine ⟨Γ1, R', rel2, ?_⟩
      rcases b2 with ⟨c1, yy, c2, c3⟩ | ⟨c1, c3⟩
      · rw [c1]
        intro H3 R3 g3
        refine ⟨Γ1, R3, rel2.grow g3, ?_⟩
        rw [c2]
        intro J1 H4 R4 g4 wl1 len1
        have gg := (g'.trans g3).trans g4
        obtain ⟨n1, n2⟩ := noD RhD hHD gg
        have gA := g.trans gg
        refine ⟨fun j k Hj => k = yy.length - j ∧ j ≤ yy.length ∧ ∃ Rj ac pr rs, Grow H1 R1 Hj Rj ∧ Sub R4 Rj ∧ Rj D = none ∧ Hj D = some (.lst ac) ∧ RpL F.K Rj pr ac ∧ mapR (lcF G t' cs' e Γ1) (yy.drop j) = .ok rs ∧ pr ++ (rs ++ zs) = ys ∧ RelR F.K F.H0 F.R0 Rj Γ1 σ2 Hj,
          ⟨_, rfl, Nat.zero_le _, R4, acc, pre, y, gA, .refl, n1, n2, ra.mono gg.reg, c3, by rw [← ey, f3], (rel2.grow g3).grow g4⟩, ?_⟩
        rintro j k Hj ⟨hk, hj, Rj, ac, pr, rs, gj, sj, RjD, hjD, rj, mj, ej, relj⟩
        have wj := wl1 Hj Rj (sj.trans gj.sub) sj gj.sub j
        cases ex1 : yy[j]? with
        | none =>
          refine .inl ⟨wj.2 ex1, rfl, hlt, Rj, ac, pr, zs, gj, RjD, hjD, rj, f2, ?_⟩
          rw [List.drop_eq_nil_of_le (List.getElem?_eq_none_iff.mp ex1)] at mj
          cases mj
          exact ej
        | some py =>
          have hlt1 : j < yy.length := (List.getElem?_eq_some_iff.mp ex1).1
          obtain ⟨go1, yl1⟩ := wj.1 py ex1
          have e4 : yy.drop j = py :: yy.drop (j + 1) := by
            rw [List.drop_eq_getElem_cons hlt1]
            congr 1
            exact (List.getElem?_eq_some_iff.mp ex1).2
          rw [e4] at mj
          obtain ⟨w, ws, k1, k2, k3⟩ := mapR_cons mj
          obtain ⟨Γ2, d1, d2⟩ := lcF_ok k1
          refine .inr ⟨go1, fun H' => yy.length - (j + 1) = yy.length - (j + 1) ∧ j + 1 ≤ yy.length ∧ ∃ Rj ac pr rs, Grow H1 R1 H' Rj ∧ Sub R4 Rj ∧ Rj D = none ∧ H' D = some (.lst ac) ∧ RpL F.K Rj pr ac ∧ mapR (lcF G t' cs' e Γ1) (yy.drop (j + 1)) = .ok rs ∧ pr ++ (rs ++ zs) = ys ∧ RelR F.K F.H0 F.R0 Rj Γ1 σ2 H', fun H' w => ⟨_, by omega, w⟩, ?_⟩
          intro u H5 hu
          obtain ⟨R5, g5, ru⟩ := yl1 u H5 hu
          refine ⟨wipeG Γ1 t'.vars, R5, py, Γ2, (relj.grow g5).wipe _, ru, bind_wipe (fun i hi => hi) d1, fun σ3 rel3 keep3 => ⟨?_, ?_⟩⟩
          · refine wipe_eq (by rw [← rel3.len, bind_len d1]; exact relj.len) fun i hn => ?_
            rw [keep3 i hn, wipe_get σ2 i hn]
          · refine ⟨Γ2, R5, rel3, ?_⟩
            rcases d2 with ⟨c4, q, c5, c6⟩ | ⟨c4, c6⟩
            · rw [c4]
              intro H6 R6 g6
              refine ⟨Γ2, R6, rel3.grow g6, ?_⟩
              rw [c5]
              intro v H7 R7 g7 rv
              have gB := (g5.trans g6).trans g7
              obtain ⟨m1, m2⟩ := noD RjD hjD gB
              rw [c6] at k3
              have ej' : pr ++ (q :: ws ++ zs) = ys := by rw [← ej, k3]
              have la : ac.length = pr.length := rj.len
              have lb : pr.length < ys.length := by rw [← ej', List.length_append]; simp
              refine ⟨ac, m2, by rw [la, ← line_eq]; omega, rfl, hlt1, R7, ac ++ [v], pr ++ [q], ws, (gj.trans gB).at hD m1, sj.trans gB.reg, m1, upd_same .., (rj.mono gB.reg).append (.one rv), k2, ?_, ?_⟩
              · rw [← ej', List.append_assoc]; rfl
              · have rb := relj.grow gB
                refine ⟨fun a o z => ?_, fun a o z => ?_, rb.sub0, rb.old, rb.slot, fun i s z => ?_, rb.apart, rb.len⟩
                · have : a ≠ D := fun c => by
                    subst c
                    have := rel1.same _ _ z
                    rw [this] at hD; cases hD
                  rw [upd_ne this]; exact rb.same _ _ z
                · rw [upd_ne (ne_of_none z m1)]; exact rb.sub _ _ z
                · obtain ⟨a, vs, ps, q0, q1, q2, q3, q4, q5, q6⟩ := rb.own i s z
                  refine ⟨a, vs, ps, q0, q1, ?_, q3, q4, q5, q6⟩
                  have : a ≠ D := fun c => by
                    obtain ⟨z1, z2⟩ := bind_ow b1 z
                    obtain ⟨z3, z4⟩ := wipeG_ow z1
                    obtain ⟨a', vs', ps', _, q1', q2', _⟩ := rel1.own i s z3
                    rw [keep i z2, wipe_get σ i z4, q1'] at q1
                    cases q1
                    rw [c, hD] at q2'; cases q2'
                  rw [upd_ne this]; exact q2
            · rw [c4]
              intro H6 R6 g6
              have gB := g5.trans g6
              obtain ⟨m1, m2⟩ := noD RjD hjD gB
              rw [c6] at k3
              exact ⟨rfl, hlt1, R6, ac, pr, ws, gj.trans gB, sj.trans gB.reg, m1, m2, rj.mono gB.reg, k2, by rw [← ej, k3], relj.grow gB⟩
      · rw [c1]
        intro H3 R3 g3
        have gg := g'.trans g3
        obtain ⟨n1, n2⟩ := noD RhD hHD gg
        refine ⟨rfl, hlt, R3, acc, pre, zs, g.trans gg, n1, n2, ra.mono gg.reg, f2, ?_⟩
        rw [c3] at f3
        rw [← ey, f3]; rfl
def tLc2' (F : Fr) (G : Ctx) (m : Md) (t : CT) (it : CI) (cs : List CE) (t' : CT) (it' : CI) (cs' : List CE) (e : CE) : TE :=
  tLc2 (RdI F m (evI G it)) (RdG F.calm t) (RdB F.calm (evC G cs)) (RdI F.calm .e (evI G it')) (RdG F.calm t') (RdB F.calm (evC G cs')) (Rd' F.calm .e (ev G e)) (t.vars ++ t'.vars) t'.vars
theorem rd_lc2 {t t' : CT} {it it' : CI} {cs cs' : List CE} {e : CE} {m : Md} {σ : L2.St} {H : Hp} {Q : VK} (h : Rd' F .e (ev G (.lc2 t it cs t' it' cs' e)) σ H Q) : tLc2' F G m t it cs t' it' cs' e σ H Q := by
  obtain ⟨Γ, R, rel, p⟩ := h
  refine ⟨Γ, R, rel, ?_⟩
  have p : Post F .e R σ H ((evI G it Γ).bind fun xs => (catR (lc2F G t cs t' it' cs' e Γ) xs).bind fun zs => (chk zs).bind fun zs => .ok (.d (.lst zs))) Q := p
  cases e1 : evI G it Γ with
  | bad => rw [e1] at p; exact p.elim
  | exc c => rw [e1] at p; exact p
  | ok xs =>
    rw [e1] at p
    intro J H1 R1 g1 wl len D hD
    have p : Post F .e R σ H ((catR (lc2F G t cs t' it' cs' e Γ) xs).bind fun zs => (chk zs).bind fun zs => .ok (.d (.lst zs))) Q := p
    cases e2 : catR (lc2F G t cs t' it' cs' e Γ) xs with
    | bad => rw [e2] at p; exact p.elim
    | exc c => exact absurd e2 catR_exc
    | ok ys =>
      rw [e2] at p
      have p : Post F .e R σ H ((chk ys).bind fun zs => .ok (.d (.lst zs))) Q := p
      unfold chk at p
      split at p
      · rename_i hz
        have p : Post F .e R σ H (.ok (.d (.lst ys))) Q := p
        have p := p.grow g1
        exact lc2_turns (rel.grow g1) wl hD e2 hz fun Hh Rh acc g hHD RhD ra => p _ _ _ (g.show' hD hHD RhD) ⟨D, acc, rfl, upd_same .., hz, ra.mono (sub_upd RhD)⟩
      · exact p.elim
theorem rn_lc2 {t t' : CT} {it it' : CI} {cs cs' : List CE} {e : CE} {m : Md} {σ : L2.St} {H : Hp} {Q : VK} (h : RdN F (ev G (.lc2 t it cs t' it' cs' e)) σ H Q) : tLc2' F G m t it cs t' it' cs' e σ H Q := by
  obtain ⟨Γ, R, rel, p⟩ := h
  refine ⟨Γ, R, rel, ?_⟩
  have p : PostN F R σ H ((evI G it Γ).bind fun xs => (catR (lc2F G t cs t' it' cs' e Γ) xs).bind fun zs => (chk zs).bind fun zs => .ok (.d (.lst zs))) Q := p
  cases e1 : evI G it Γ with
  | bad => rw [e1] at p; exact p.elim
  | exc c => rw [e1] at p; exact p
  | ok xs =>
    rw [e1] at p
    intro J H1 R1 g1 wl len D hD
    have p : PostN F R σ H ((catR (lc2F G t cs t' it' cs' e Γ) xs).bind fun zs => (chk zs).bind fun zs => .ok (.d (.lst zs))) Q := p
    cases e2 : catR (lc2F G t cs t' it' cs' e Γ) xs with
    | bad => rw [e2] at p; exact p.elim
    | exc c => exact absurd e2 catR_exc
    | ok ys =>
      rw [e2] at p
      have p : PostN F R σ H ((chk ys).bind fun zs => .ok (.d (.lst zs))) Q := p
      unfold chk at p
      split at p
      · rename_i hz
        have p : PostN F R σ H (.ok (.d (.lst ys))) Q := p
        refine lc2_turns (rel.grow g1) wl hD e2 hz fun Hh Rh acc g hHD RhD ra => p D Hh Rh acc (g1.trans g) ?_ hHD RhD ra hz
        cases q : H D with
        | none => rfl
        | some o => rw [g1.same _ _ q] at hD; cases hD
      · exact p.elim
theorem p_lc2 (C : Cok I G F X sc) {t t' : CT} {it it' : CI} {cs cs' : List CE} {e : CE} {tg iter tg1 iter1 elt : Expr} {ifs ifs1 : List Expr} {scope : Scope} {own : List (Str × Nat)} {m : Md}
    (hi : PI X tg iter (RdI F m (evI G it))) (ok : BlkOk X.N X.env.scope scope own) (ho : own.map (·.2) = t.vars ++ t'.vars)
    (hg : ∀ (s : Shared) (H : Hp) (Cc : Addr) (cl : List (Str × Addr)) (fp : List Addr), PG (X.blk s H scope (compEnvC scope cl Cc X.env) fp) tg (RdG F.calm t))
    (ht : ∀ (s : Shared) (H : Hp) (Cc : Addr) (cl : List (Str × Addr)) (fp : List Addr), PTs (X.blk s H scope (compEnvC scope cl Cc X.env) fp) ifs (RdB F.calm (evC G cs)))
    (hi1 : ∀ (s : Shared) (H : Hp) (Cc : Addr) (cl : List (Str × Addr)) (fp : List Addr), PI (X.blk s H scope (compEnvC scope cl Cc X.env) fp) tg1 iter1 (RdI F.calm .e (evI G it')))
    (hg1 : ∀ (s : Shared) (H : Hp) (Cc : Addr) (cl : List (Str × Addr)) (fp : List Addr), PG (X.blk s H scope (compEnvC scope cl Cc X.env) fp) tg1 (RdG F.calm t'))
    (ht1 : ∀ (s : Shared) (H : Hp) (Cc : Addr) (cl : List (Str × Addr)) (fp : List Addr), PTs (X.blk s H scope (compEnvC scope cl Cc X.env) fp) ifs1 (RdB F.calm (evC G cs')))
    (he : ∀ (s : Shared) (H : Hp) (Cc : Addr) (cl : List (Str × Addr)) (fp : List Addr), PE (X.blk s H scope (compEnvC scope cl Cc X.env) fp) elt (Rd' F.calm .e (ev G e)))
    (hs : ∀ x, foldedSetIterable iter X.env x = pure x) (hs1 : ∀ env x, foldedSetIterable iter1 env x = pure x) : PE X (.ListComp elt [⟨tg, iter, ifs, 0⟩, ⟨tg1, iter1, ifs1, 0⟩] scope pos) (tLc2' F G m t it cs t' it' cs' e) := by
  have := pe_lc2 (pos := pos) (vs1 := t'.vars) C.calm (by rw [C.hN]; exact C.nd) hi ok (fun i h => by rw [ho]; exact List.mem_append_right _ h) hg ht hi1 hg1 ht1 he hs hs1
  rw [ho] at this
  exact this
end
end Bw
end

section
set_option autoImplicit false
set_option linter.all false
/-! Bw Ur: t[::-1] for a tuple t. -/
namespace Bw
open PySem L2 HT PySem.Spec PyProof.Rows
section
variable {prog : Program} {w : World} {A : Around} {E : Value → Shared → Prop} {s : Shared}
theorem applied_back {sl : Addr} {vl vu vs : Value} {n : Nat} {Q : Int × Int × Nat → Shared → Prop} (hs : s.heap.IsSliceOf sl vl vu vs) (pl : IsPart vl none) (pu : IsPart vu none) (ps : IsPart vs (some (-1)))
    (h : Q ((n : Int) - 1, -1, n) s) : wpAny (model prog w) A (Builtin.Slice.sliceApplied (.ref sl) (pure (n : Int))) Q E s := by
  obtain ⟨oz, hoz, _, hdz⟩ := id hs
  unfold Builtin.Slice.sliceApplied Builtin.Slice.sliceFields
  have rd : ∀ {j : Nat} {x : Value} {P : Value → Shared → Prop}, (#[vl, vu, vs] : Array Value)[j]? = some x → P x s → wpAny (model prog w) A (field (.ref sl) j) P E s := fun e p => wpAny_field hoz hdz e p
  refine wpAny_bind (wpAny_bind (rd (x := vl) rfl (wpAny_bind (rd (x := vu) rfl (wpAny_bind (rd (x := vs) rfl (wpAny_pure ?_)))))))
  refine wpAny_bind (slicePart_ ps ?_)
  show wpAny _ _ (if ((-1 : Int) == 0) = true then _ else _) _ _ s
  rw [if_neg (by decide)]
  refine wpAny_bind (slicePart_ pl (wpAny_bind (slicePart_ pu (wpAny_bind (wpAny_pure ?_)))))
  have e : Builtin.Slice.slicePlaces ((n : Int) - 1) (-1) (-1) = n := by
    unfold Builtin.Slice.slicePlaces
    rw [if_neg (by decide)]
    split
    · rw [show (- -1 : Int) = 1 from rfl, Int.ediv_one]; omega
    · omega
  show wpAny _ _ (pure ((n : Int) - 1, (-1 : Int), Builtin.Slice.slicePlaces ((n : Int) - 1) (-1) (-1))) _ _ s
  rw [e]
  exact wpAny_pure h
theorem fm_same {α β : Type} {f g : α → Option β} : ∀ {l : List α}, (∀ x ∈ l, f x = g x) → l.filterMap f = l.filterMap g
  | [], _ => rfl
  | x :: xs, h => by
    rw [List.filterMap_cons, List.filterMap_cons, h x (by simp), fm_same (l := xs) fun y hy => h y (List.mem_cons_of_mem _ hy)]
theorem pick_back (xs : Array Value) : ((List.range xs.size).filterMap fun (k : Nat) => xs[((xs.size : Int) - 1 + (k : Int) * -1).toNat]?).toArray = xs.toList.reverse.toArray := by
  have e : ((List.range xs.size).filterMap fun (k : Nat) => xs[((xs.size : Int) - 1 + (k : Int) * -1).toNat]?) = (List.range xs.size).filterMap ((xs[·]?) ∘ fun k => xs.size - 1 - k) := by
    refine fm_same fun k hk => ?_
    have := List.mem_range.mp hk
    show xs[((xs.size : Int) - 1 + (k : Int) * -1).toNat]? = xs[xs.size - 1 - k]?
    have e : ((xs.size : Int) - 1 + (k : Int) * -1).toNat = xs.size - 1 - k := by omega
    rw [e]
  rw [e, ← List.filterMap_map, PySem.W.krv_range, List.filterMap_reverse, PySem.W.krv_all]
theorem item_back {t sl : Addr} {items : Array Value} {vl vu vs : Value} {Q : Value → Shared → Prop} (ht : IsTup s.heap t items) (hs : s.heap.IsSliceOf sl vl vu vs) (pl : IsPart vl none) (pu : IsPart vu none) (ps : IsPart vs (some (-1)))
    (h : Q (.ref s.heap.objs.size) { s with heap := s.heap.push { cls := .type "tuple", data := .seq items.toList.reverse.toArray } })
    (hsz : items.size ≤ sizeLine) : wpAny (model prog w) A (getItem (.ref t) (.ref sl)) Q E s := by
  have fits : sizeOk (.seq items.toList.reverse.toArray) := by
    show items.toList.reverse.toArray.size ≤ sizeLine
    rw [List.size_toArray, List.length_reverse, Array.length_toList]
    exact hsz
  obtain ⟨oz, hoz, hcz, _⟩ := id hs
  have hSl : s.TypeIs (.ref sl) "slice" := ⟨oz, hoz, hcz⟩
  unfold getItem
  try with_reducible refine wpAny_holding ?_
  first | refine wpAny_bind (wpAny_pure ?_) | skip
  refine wpAny_bind (wpAny_sequenceKey ht.typeIs (by decide) ?_)
  refine wpAny_bind (wpAny_callSpecial?_slot (name := Str.ofString "__getitem__") ht.typeIs slot_tuple_getitem (wpAny_call_entry slot_tuple_getitem ht.typeIs entry_tuple_getitem ?_ (args_tuple_getitem _ _)))
  show wpAny _ _ (Builtin.Tuple.tupleItemsOf (.ref t) >>= _) _ _ s
  refine wpAny_bind (tupleItemsOf_ ht (wpAny_bind (wpAny_typeOf hSl ?_)))
  rw [if_pos (by decide)]
  refine wpAny_bind (applied_back hs pl pu ps ?_)
  have no : ¬ (((((items.size : Int) - 1) == 0) && ((-1 : Int) == 1) && (items.size == items.size)) = true) := by simp
  show wpAny _ _ (if (((((items.size : Int) - 1) == 0) && ((-1 : Int) == 1) && (items.size == items.size)) = true) then _ else _) _ _ s
  rw [if_neg no, pick_back]
  first
    | exact wpAny_bind (m := Builtin.Tuple.tupleExact _) (wpAny_newObj_type (wpAny_pure ⟨_, rfl, wpAny_pure h⟩) fits)
    | exact wpAny_bind (m := Builtin.Tuple.tupleExact _) (wpAny_newObj_type (wpAny_bind (wpAny_pure (wpAny_pure ⟨_, rfl, wpAny_pure h⟩))) fits)
    | exact wpAny_bind (wpAny_bind (m := Builtin.Tuple.tupleExact _) (wpAny_newObj_type (wpAny_pure (wpAny_pure ⟨_, rfl, wpAny_pure h⟩)) fits))
    | exact wpAny_bind (wpAny_bind (m := Builtin.Tuple.tupleExact _) (wpAny_newObj_type (wpAny_pure ⟨_, rfl, wpAny_pure h⟩) fits))
end
/-- the same, of a tuple or a list -/
def tBack (K : PySem.W.Frag) (te : TE) : TE := fun σ H Q => te σ H fun x H1 => ∃ a xs, x = .ref a ∧ ((SqL K H1 a xs ∧ ∀ p, H1 p = none → Q (.ref p) (upd H1 p (.lst xs.reverse))) ∨ (SqT K H1 a xs ∧ ∀ p, H1 p = none → Q (.ref p) (upd H1 p (.tup xs.reverse))))
theorem pe_back {X : Cx} {e : Expr} {te : TE} {k : Nat} {p1 p2 p3 pos : Pos} (he : PE X e te) : PE X (.Subscript e (.Slice none none (some (.UnaryOp .USub (.Constant (.int 1) k p1) p2)) p3) pos) (tBack X.K te) := by
  refine ⟨fun pins s σ H Q I h => ?_⟩
  refine Subscript_ (thn (he.run pins s σ H _ I h) fun v s1 ⟨x, H1, I1, r1, q1⟩ => ?_)
  obtain ⟨a, xs, ex, q1⟩ := q1
  subst ex
  cases r1
  have hst : PO X (some (.UnaryOp .USub (.Constant (.int 1) k p1) p2)) (tPart (tUn (rU fun i => .int (-i)) (tC (.int 1)))) := po_some (pe_un un_neg pe_int)
  refine wpAny_Slice (thn (po_none.run pins s1 σ H1 (fun o G => o = none ∧ G = H1) I1 ⟨rfl, rfl⟩) fun vl s2 ⟨l, H2, I2, pl, el, e2⟩ => ?_)
  subst el e2
  refine thn (po_none.run pins s2 σ H2 (fun o G => o = none ∧ G = H2) I2 ⟨rfl, rfl⟩) fun vu s3 ⟨u, H3, I3, pu, eu, e3⟩ => ?_
  subst eu e3
  refine thn (hst.run pins s3 σ H3 (fun o G => o = some (-1) ∧ G = H3) I3 ⟨1, rfl, -1, rfl, rfl, rfl⟩) fun vs s4 ⟨o, H4, I4, ps, eo, e4⟩ => ?_
  subst eo e4
  have I5 : Inv X pins σ H4 { s4 with heap := s4.heap.push { cls := .type "slice", data := .fields #[vl, vu, vs] } } := I4.kept (t' := s4.toks) fun b ob z => Heap.get?_push_of_some _ z
  have key : ∀ {T : String} {id : String}, (Shared.TypeIs { s4 with heap := s4.heap.push { cls := .type "slice", data := .fields #[vl, vu, vs] } } (.ref a) T) → (typeLookup (.type T) "__getitem__" = pure (some (.builtin id))) →
      wpAny (model X.prog X.w) X.A (getItem (.ref a) (.ref s4.heap.objs.size)) (EP X pins σ Q) X.xe { s4 with heap := s4.heap.push { cls := .type "slice", data := .fields #[vl, vu, vs] } } →
      wpAny (model X.prog X.w) X.A (subscriptTail e (.Slice none none (some (.UnaryOp .USub (.Constant (.int 1) k p1) p2)) p3) (.ref a) (.ref s4.heap.objs.size)) (EP X pins σ Q) X.xe { s4 with heap := s4.heap.push { cls := .type "slice", data := .fields #[vl, vu, vs] } } :=
    fun hT hl hg => tail_any (ops := [.ref a, .ref s4.heap.objs.size]) hT hl hg (by with_unfolding_all rfl)
  rcases q1 with ⟨hx, q⟩ | ⟨hx, q⟩
  · obtain ⟨its, r, ht, hz⟩ := I5.list hx
    have hlen := r.length
    refine key ht.isList.typeIs slot_list_getitem.lookup ?_
    refine wpAny_getItem_list_slice ht.isList (Heap.IsSliceOf.new _ vl vu vs) pl pu ps (by decide) ?_ (by rw [List.size_toArray]; omega)
    rw [PySem.W.krv_pick]
    exact ⟨.ref _, _, I5.laid (t' := s4.toks) (o := .lst xs.reverse) (fun b ob z => Heap.get?_push_of_some _ z) (Nat.le_refl _) ⟨by rw [List.length_reverse]; exact hz, _, 0, r.reverse, Heap.get?_push_size _ rfl⟩, rfl, q _ (I5.hok.fresh (Nat.le_refl _))⟩
  · obtain ⟨its, r, ht, hz⟩ := I5.tuple hx
    have hlen := r.length
    refine key ht.typeIs slot_tuple_getitem.lookup ?_
    refine item_back ht (Heap.IsSliceOf.new _ vl vu vs) pl pu ps ?_ (by rw [List.size_toArray]; omega)
    exact ⟨.ref _, _, I5.laid (t' := s4.toks) (o := .tup xs.reverse) (fun b ob z => Heap.get?_push_of_some _ z) (Nat.le_refl _) ⟨by rw [List.length_reverse]; exact hz, _, r.reverse, IsTup.new _ _⟩, rfl, q _ (I5.hok.fresh (Nat.le_refl _))⟩
end Bw
end

section
set_option autoImplicit false
set_option linter.all false
/-! Bw V: every expression of the core language that the checker takes is read by its meaning. -/
namespace Bw
open PySem L2
section
variable {I : Inf} {G : Ctx} {F : Fr} {X : Cx} {sc : Scope} {pos : Pos}
theorem free_relS {sc : Scope} : ∀ {names : List (Str × NameKind)} {x : Str}, names.lookup x = some .free →
    (names.map fun (n, k) => if (k == NameKind.free && sc.kind == .function && sc.names.lookup n == some .cell) then (n, NameKind.cell) else (n, k)).lookup x = some .free ∨
    (names.map fun (n, k) => if (k == NameKind.free && sc.kind == .function && sc.names.lookup n == some .cell) then (n, NameKind.cell) else (n, k)).lookup x = some .cell
  | [], _, h => by simp at h
  | (n, k₀) :: r, x, h => by
    have ih := @free_relS sc r x
    rw [List.map_cons]
    cases hx : x == n with
    | true =>
      simp only [List.lookup_cons, hx] at h
      cases h
      by_cases hc : (NameKind.free == NameKind.free && sc.kind == .function && sc.names.lookup n == some .cell) = true
      · right; simp only [if_pos hc, List.lookup_cons, hx]
      · left; simp only [if_neg hc, List.lookup_cons, hx]
    | false =>
      simp only [List.lookup_cons, hx] at h
      by_cases hc : (k₀ == NameKind.free && sc.kind == .function && sc.names.lookup n == some .cell) = true
      · simp only [if_pos hc, List.lookup_cons, hx]; exact ih h
      · simp only [if_neg hc, List.lookup_cons, hx]; exact ih h
/-- the context of a block -/
theorem Cok.blk (C : Cok I G F X sc) (s : Shared) (H : Hp) (scope : Scope) (cl : List (Str × Addr)) (Cc : Addr) (fp : List Addr) : Cok I G F.calm (X.blk s H scope (compEnvC scope cl Cc X.env) fp) scope where
  hK := C.hK
  hN := C.hN
  nd := C.nd
  calm := C.calm
  un := C.un
  fnc := fun x h => by show (scope.names.lookup x == some .cell) = true; rw [h]; rfl
  sc := fun x k h => by
    show (relS scope X.env.scope).names.lookup x = some k ∨ (k = .free ∧ (relS scope X.env.scope).names.lookup x = some .cell)
    by_cases c : k = .free
    · subst c
      rcases free_relS (sc := X.env.scope) h with e | e
      · exact .inl e
      · exact .inr ⟨rfl, e⟩
    · exact .inl (lookup_relS_keep c h)
  bl := C.bl
  cons := C.cons
  fns := C.fns
  takes := fun u s' ⟨a, B, sI, pins, σ, H, cls, d, e, I, nb, up, sky, na, os, ag, w⟩ => w.elim
  exs := C.exs
  sub := C.sub
theorem blk_ok (C : Cok I G F X sc) {scope : Scope} {own : List (Str × Nat)} (h : blkC I.N sc scope own = true) : BlkOk X.N X.env.scope scope own := by
  have B := blkOk_by h
  rw [C.hN]
  refine ⟨B.kind, B.uniq, B.ix, fun y hy e => ?_, B.own⟩
  rcases B.free y hy e with q | q
  · rcases C.sc _ _ q with q | ⟨q, _⟩
    · exact .inl q
    · cases q
  · rcases C.sc _ _ q with q | ⟨_, q⟩
    · exact .inr q
    · exact .inl q
theorem okL_tame : ∀ {es : List CE} {xs : List Expr}, okL I sc es xs = true → xs.all tame = true
  | [], [], _ => rfl
  | e :: es, x :: xs, h => by
    have h : (okE I sc e x && tame x && okL I sc es xs) = true := h
    simp only [Bool.and_eq_true] at h
    rw [List.all_cons, h.1.2, okL_tame (es := es) h.2]; rfl
  | [], _ :: _, h => by cases h
  | _ :: _, [], h => by cases h
def Both (F : Fr) (X : Cx) (x : Expr) (m : Md) (g : Gm → Res SV) : Prop := PE X x (Rd' F m g) ∧ PT X x (RdB F fun Γ => (g Γ).bind isBl?)
theorem both {x : Expr} {m : Md} {g : Gm → Res SV} (h : PE X x (Rd' F m g)) (he : ∀ whole, PySem.isTrue x X.env whole = (do let v ← whole; standAt x.pos; holding [v] (truthy v))) : Both F X x m g := ⟨h, ptB h he⟩
theorem rv_lst (C : Cok I G F X sc) {a : CE} {y : Expr} {m : Md} {p1 p2 p3 : Pos} {k : Nat} (l : m.le .t = true) (h : PE X y (Rd' F m (ev G a))) :
    PE X (.Subscript y (.Slice none none (some (.UnaryOp .USub (.Constant (.int 1) k p1) p2)) p3) pos) (Rd' F .e (ev G (.rev a))) :=
  peImp (pe_back (peLe h l)) fun σ H Q ⟨Γ, R, rel, p⟩ => ⟨Γ, R, rel, (Post.bind (m := .t) rel.sub p).mono fun x H1 ⟨s, R1, _, g1, rx, p1⟩ => by
    cases s with
    | d q =>
      cases q with
      | lst ps =>
        obtain ⟨a, vs, e, sq, r, z⟩ := rx.lst g1.sub
        have p1 : Post F .e R1 σ H1 (.ok (.d (.lst ps.reverse))) Q := p1
        exact ⟨a, vs, e, .inl ⟨.of sq, fun q hq => Post.newL g1.sub p1 hq r.rev (by rw [List.length_reverse]; exact z)⟩⟩
      | tup ps =>
        obtain ⟨a, vs, e, sq, z, r⟩ := src_tup (K := F.K) (m := .t) rfl g1.sub rx
        have p1 : Post F .e R1 σ H1 (.ok (.d (.tup ps.reverse))) Q := p1
        have r1 : ∃ a vs, x = .ref a ∧ SqT F.K H1 a vs ∧ RpL F.K R1 ps vs ∧ ps.length ≤ line := ⟨a, vs, e, sq H1 .refl, r, z⟩
        exact ⟨a, vs, e, .inr ⟨by rw [← C.hK]; exact sq H1 .refl, fun q hq => Post.newT g1.sub p1 hq r.rev (by rw [List.length_reverse]; exact z)⟩⟩
      | _ => exact p1.elim
    | _ => exact p1.elim⟩
theorem one_test (r : Res SV) : (r.bind fun x => (isBl? x).bind fun c => if c then .ok true else .ok false) = r.bind isBl? := by
  cases r with
  | bad => rfl
  | exc c => rfl
  | ok s =>
    cases s with
    | d q =>
      cases q <;> first | rfl | skip
      rename_i b
      cases b <;> rfl
    | _ => rfl
mutual
theorem ev_ok (G : Ctx) (I : Inf) : ∀ (e : CE) {F : Fr} {X : Cx} {sc : Scope} (C : Cok I G F X sc) (x : Expr), okE I sc e x = true → Both F X x (md e) (ev G e)
  | .int i, F, X, sc, C, x, h => by
    unfold okE at h
    split at h
    · rw [decide_eq_true_eq] at h
      subst h
      exact both (r_const pe_int fun R => rfl) fun _ => rfl
    · cases h
  | .str s, F, X, sc, C, x, h => by
    unfold okE at h
    split at h
    · rw [Bool.and_eq_true, decide_eq_true_eq, decide_eq_true_eq] at h
      obtain ⟨rfl, h⟩ := h
      exact both (r_const pe_str fun R => ⟨rfl, h⟩) fun _ => rfl
    · cases h
  | .bl b, F, X, sc, C, x, h => by
    unfold okE at h
    split at h
    · have h := eq_of_beq h
      subst h
      exact both (r_const pe_bl fun R => rfl) fun _ => rfl
    · cases h
  | .non, F, X, sc, C, x, h => by
    unfold okE at h
    split at h
    · exact both (r_const pe_non fun R => rfl) fun _ => rfl
    · cases h
  | .var i, F, X, sc, C, x, h => by
    unfold okE at h
    split at h
    · simp only [Bool.and_eq_true, decide_eq_true_eq] at h
      exact both (r_var C h.1.1 h.1.2 h.2) fun _ => rfl
    · cases h
  | .own i, F, X, sc, C, x, h => by
    unfold okE at h
    split at h
    · simp only [Bool.and_eq_true, decide_eq_true_eq] at h
      exact both (r_own C h.1.1 h.1.2 h.2) fun _ => rfl
    · cases h
  | .glob k, F, X, sc, C, x, h => by
    unfold okE at h
    split at h
    · simp only [Bool.and_eq_true, decide_eq_true_eq] at h
      exact both (r_glob C h.1.1 h.1.2 h.2) fun _ => rfl
    · cases h
  | .flat e, F, X, sc, C, x, h => by
    unfold okE at h
    have ih := ev_ok G I e C x h
    refine ⟨r_flat ih.1, ?_⟩
    rw [(funext fun Γ => bl_flat (ev G e Γ) : (fun Γ => (ev G (.flat e) Γ).bind isBl?) = _)]
    exact ih.2
  | .tup es, F, X, sc, C, x, h => by
    unfold okE at h
    split at h
    · simp only [Bool.and_eq_true, decide_eq_true_eq] at h
      exact both (r_tup h.2 (evL_ok G I es C _ h.1)) fun _ => rfl
    · cases h
  | .lst es, F, X, sc, C, x, h => by
    unfold okE at h
    split at h
    · simp only [Bool.and_eq_true, decide_eq_true_eq] at h
      exact both (r_lst h.2 (evL_ok G I es C _ h.1)) fun _ => rfl
    · cases h
  | .bin op a b, F, X, sc, C, x, h => by
    unfold okE at h
    split at h
    · simp only [Bool.and_eq_true, decide_eq_true_eq] at h
      obtain ⟨⟨rfl, h1⟩, h2⟩ := h
      exact both (r_bin C op (ev_ok G I a C _ h1).1 (ev_ok G I b C _ h2).1) fun _ => rfl
    · cases h
  | .neg a, F, X, sc, C, x, h => by
    unfold okE at h
    split at h
    · exact both (r_neg C (ev_ok G I a C _ h).1) fun _ => rfl
    · cases h
  | .not a, F, X, sc, C, x, h => by
    unfold okE at h
    split at h
    · exact ⟨r_not C (ev_ok G I a C _ h).1, t_not (ev_ok G I a C _ h).2⟩
    · cases h
  | .and a b, F, X, sc, C, x, h => by
    unfold okE at h
    split at h
    · simp only [Bool.and_eq_true] at h
      have ha := ev_ok G I a C _ h.1
      have hb := ev_ok G I b C _ h.2
      refine ⟨r_and C ha.1 (pe_one hb.1), ?_⟩
      rw [(funext fun Γ => bl_and (ev G a Γ) (ev G b Γ) : (fun Γ => (ev G (.and a b) Γ).bind isBl?) = _)]
      exact (w_and ha.2 (pw_and1 hb.2)).pt
    · simp only [Bool.and_eq_true] at h
      have ha := ev_ok G I a C _ h.1
      have hb := ev_ok G I b C _ h.2
      refine ⟨r_and C ha.1 hb.1, ?_⟩
      rw [(funext fun Γ => bl_and (ev G a Γ) (ev G b Γ) : (fun Γ => (ev G (.and a b) Γ).bind isBl?) = _)]
      exact (w_and ha.2 (PW.of hb.2)).pt
    · cases h
  | .or a b, F, X, sc, C, x, h => by
    unfold okE at h
    split at h
    · simp only [Bool.and_eq_true] at h
      have ha := ev_ok G I a C _ h.1
      have hb := ev_ok G I b C _ h.2
      refine ⟨r_or C ha.1 (pe_one hb.1), ?_⟩
      rw [(funext fun Γ => bl_or (ev G a Γ) (ev G b Γ) : (fun Γ => (ev G (.or a b) Γ).bind isBl?) = _)]
      exact (w_or ha.2 (pw_or1 hb.2)).pt
    · simp only [Bool.and_eq_true] at h
      have ha := ev_ok G I a C _ h.1
      have hb := ev_ok G I b C _ h.2
      refine ⟨r_or C ha.1 hb.1, ?_⟩
      rw [(funext fun Γ => bl_or (ev G a Γ) (ev G b Γ) : (fun Γ => (ev G (.or a b) Γ).bind isBl?) = _)]
      exact (w_or ha.2 (PW.of hb.2)).pt
    · cases h
  | .cmp op a b, F, X, sc, C, x, h => by
    unfold okE at h
    split at h
    · simp only [Bool.and_eq_true, decide_eq_true_eq] at h
      obtain ⟨⟨⟨rfl, h1⟩, h2⟩, h3⟩ := h
      have ha := (ev_ok G I a C _ h1).1
      have hb := (ev_ok G I b C _ h2).1
      exact ⟨r_cmp C op h3 ha hb, t_cmp C op h3 ha hb⟩
    · cases h
  | .chain op op' a b c, F, X, sc, C, x, h => by
    unfold okE at h
    split at h
    · simp only [Bool.and_eq_true, decide_eq_true_eq, le_t] at h
      obtain ⟨⟨⟨⟨⟨⟨⟨⟨rfl, rfl⟩, h1⟩, h2⟩, h3⟩, l1⟩, l2⟩, l3⟩, h4⟩ := h
      have ha := (ev_ok G I a C _ h1).1
      have hb := (ev_ok G I b C _ h2).1
      have hc := (ev_ok G I c C _ h3).1
      exact ⟨r_chain C op op' l1 l2 l3 h4 ha hb hc, t_chain C op op' l1 l2 l3 h4 ha hb hc⟩
    · cases h
  | .ife c a b, F, X, sc, C, x, h => by
    unfold okE at h
    split at h
    · simp only [Bool.and_eq_true] at h
      have hc := ev_ok G I c C _ h.1.1
      have ha := ev_ok G I a C _ h.1.2
      have hb := ev_ok G I b C _ h.2
      refine ⟨r_ife (sup_l _ _) (sup_r _ _) hc.2 ha.1 hb.1, ?_⟩
      exact (funext fun Γ => bl_ife (ev G c Γ) (ev G a Γ) (ev G b Γ) : (fun Γ => (ev G (.ife c a b) Γ).bind isBl?) = _) ▸ t_ife hc.2 ha.2 hb.2
    · cases h
  | .idx a b, F, X, sc, C, x, h => by
    unfold okE at h
    split at h
    · simp only [Bool.and_eq_true] at h
      exact both (r_idx C h.2 (ev_ok G I a C _ h.1.1).1 (ev_ok G I b C _ h.1.2).1) fun _ => rfl
    · cases h
  | .sl a lo hi, F, X, sc, C, x, h => by
    unfold okE at h
    split at h
    · simp only [Bool.and_eq_true] at h
      exact both (r_sl C h.1.1.2 (ev_ok G I a C _ h.1.1.1).1 (evO_ok G I lo C _ h.1.2) (evO_ok G I hi C _ h.2)) fun _ => rfl
    · cases h
  | .rev a, F, X, sc, C, x, h => by
    unfold okE at h
    split at h
    · simp only [Bool.and_eq_true] at h
      exact both (rv_lst C h.2 (ev_ok G I a C _ h.1).1) fun _ => rfl
    · cases h
  | .call k es, F, X, sc, C, x, h => by
    unfold okE at h
    split at h
    · simp only [Bool.and_eq_true, decide_eq_true_eq] at h
      have tm := okL_tame h.2
      rw [List.all_cons, Bool.and_eq_true] at tm
      exact both (r_call C h.1.1.1 h.1.1.2 h.1.2 tm.1 tm.2 (evL_ok G I es C _ h.2)) fun _ => rfl
    · cases h
  | .f1 f a, F, X, sc, C, x, h => by
    unfold okE at h
    split at h
    · simp only [Bool.and_eq_true, decide_eq_true_eq] at h
      obtain ⟨⟨⟨⟨⟨rfl, h1⟩, h2⟩, h3⟩, h4⟩, h5⟩ := h
      exact both (r_f1 C ⟨h1, h2⟩ h3 h5 (ev_ok G I a C _ h4).1) fun _ => rfl
    · cases h
  | .f2 f a b, F, X, sc, C, x, h => by
    unfold okE at h
    split at h
    · simp only [Bool.and_eq_true, decide_eq_true_eq] at h
      obtain ⟨⟨⟨⟨⟨⟨rfl, h1⟩, h2⟩, h3⟩, h4⟩, h5⟩, h6⟩ := h
      exact both (r_f2 C h1 h2 h4 h6 (ev_ok G I a C _ h3).1 (ev_ok G I b C _ h5).1) fun _ => rfl
    · cases h
  | .isa a t, F, X, sc, C, x, h => by
    unfold okE at h
    split at h
    · simp only [Bool.and_eq_true, decide_eq_true_eq] at h
      obtain ⟨⟨⟨⟨⟨rfl, rfl⟩, h1⟩, h2⟩, h3⟩, h4⟩ := h
      exact both (r_isa C h1 h2 h4 (ev_ok G I a C _ h3).1) fun _ => rfl
    · cases h
  | .col b it, F, X, sc, C, x, h => by
    unfold okE at h
    split at h
    · simp only [Bool.and_eq_true, decide_eq_true_eq] at h
      obtain ⟨⟨⟨⟨rfl, h1⟩, h2⟩, h3⟩, h4⟩ := h
      have key : PRg X _ (RdP F (evI G it)) := evP_ok G I it C _ _ h3 h4
      cases b with
      | true => exact both (r_colT C h1 h2 key) fun _ => rfl
      | false => exact both (r_colL C h1 h2 key) fun _ => rfl
    · cases h
  | .dst b a, F, X, sc, C, x, h => by
    unfold okE at h
    split at h
    · simp only [Bool.and_eq_true, decide_eq_true_eq] at h
      obtain ⟨⟨⟨⟨⟨⟨rfl, rfl⟩, h1⟩, h2⟩, h3⟩, h4⟩, h5⟩ := h
      exact both (r_dst C h1 h2 h3 h4 (ev_ok G I a C _ h5).1) fun _ => rfl
    · cases h
  | .lc t it cs e, F, X, sc, C, x, h => by
    unfold okE at h
    split at h
    · simp only [Bool.and_eq_true] at h
      obtain ⟨⟨⟨⟨⟨⟨⟨⟨h1, h2⟩, h3⟩, h4⟩, h5⟩, h6⟩, h7⟩, h8⟩, h9⟩ := h
      have h5 := eq_of_beq h5
      have h9 : md e = .e := by simpa using h9
      refine both (r_lc C (evI_ok G I it C _ _ h1) (blk_ok C h4) (fun i hi => by rw [← h5]; exact hi) (fun i hi => by rw [h5]; exact hi) (fun s H Cc cl fp => g_ok (C.blk s H _ cl Cc fp) t _ h6)
        (fun s H Cc cl fp => evC_ok G I cs (C.blk s H _ cl Cc fp) _ h7) (fun s H Cc cl fp => ?_) (fun x => folded_tame h3 _ x)) fun _ => rfl
      have := (ev_ok G I e (C.blk s H _ cl Cc fp) _ h8).1
      rwa [h9] at this
    · cases h
  | .lc2 t it cs t' it' cs' e, F, X, sc, C, x, h => by
    unfold okE at h
    split at h
    · simp only [Bool.and_eq_true] at h
      obtain ⟨⟨⟨⟨⟨⟨⟨⟨⟨⟨⟨⟨⟨h1, h2⟩, h3⟩, h4⟩, h5⟩, h6⟩, h7⟩, k1⟩, k2⟩, k3⟩, k4⟩, k5⟩, h8⟩, h9⟩ := h
      have h5 := eq_of_beq h5
      have h9 : md e = .e := by simpa using h9
      have k2 : mdI it' = .e := by simpa using k2
      refine both (peImp (p_lc2 C (evI_ok G I it C _ _ h1) (blk_ok C h4) h5 (fun s H Cc cl fp => g_ok (C.blk s H _ cl Cc fp) t _ h6) (fun s H Cc cl fp => evC_ok G I cs (C.blk s H _ cl Cc fp) _ h7)
        (fun s H Cc cl fp => ?_) (fun s H Cc cl fp => g_ok (C.blk s H _ cl Cc fp) t' _ k4) (fun s H Cc cl fp => evC_ok G I cs' (C.blk s H _ cl Cc fp) _ k5) (fun s H Cc cl fp => ?_) (fun x => folded_tame h3 _ x) (fun _ x => folded_tame k3 _ x)) fun σ H Q h => rd_lc2 h) fun _ => rfl
      · have := evI_ok G I it' (C.blk s H _ cl Cc fp) _ _ k1
        rwa [k2] at this
      · have := (ev_ok G I e (C.blk s H _ cl Cc fp) _ h8).1
        rwa [h9] at this
    · cases h
theorem evL_ok (G : Ctx) (I : Inf) : ∀ (es : List CE) {F : Fr} {X : Cx} {sc : Scope} (C : Cok I G F X sc) (xs : List Expr), okL I sc es xs = true → PA X xs (RdL F (mdL es) (evL G es))
  | [], F, X, sc, C, xs, h => by
    cases xs with
    | nil => exact pl_nil
    | cons _ _ => unfold okL at h; cases h
  | e :: es, F, X, sc, C, xs, h => by
    cases xs with
    | nil => unfold okL at h; cases h
    | cons x xs =>
      unfold okL at h
      simp only [Bool.and_eq_true] at h
      exact pl_cons h.1.2 (ev_ok G I e C _ h.1.1).1 (evL_ok G I es C _ h.2)
theorem evO_ok (G : Ctx) (I : Inf) : ∀ (o : Option CE) {F : Fr} {X : Cx} {sc : Scope} (C : Cok I G F X sc) (x : Option Expr), okO I sc o x = true → PO X x (RdO F (evO G o))
  | none, F, X, sc, C, x, h => by
    cases x with
    | none => exact po_no
    | some _ => unfold okO at h; cases h
  | some e, F, X, sc, C, x, h => by
    cases x with
    | none => unfold okO at h; cases h
    | some x =>
      unfold okO at h
      simp only [Bool.and_eq_true] at h
      exact po_so h.1.2 (ev_ok G I e C _ h.1.1).1
theorem evC_ok (G : Ctx) (I : Inf) : ∀ (es : List CE) {F : Fr} {X : Cx} {sc : Scope} (C : Cok I G F X sc) (xs : List Expr), okC I sc es xs = true → PTs X xs (RdB F (evC G es))
  | [], F, X, sc, C, xs, h => by
    unfold okC at h
    cases xs with
    | nil => exact ⟨fun pins s σ H Q I ⟨Γ, R, rel, p⟩ => pts_nil.run pins s σ H Q I (p H R (.refl rel.sub))⟩
    | cons _ _ => cases h
  | e :: es, F, X, sc, C, xs, h => by
    unfold okC at h
    rw [Bool.and_eq_true] at h
    obtain ⟨h1, h2⟩ := h
    cases es with
    | cons _ _ => cases h1
    | nil =>
    split at h2
    · have t1 := pts_one (ev_ok G I e C _ h2).2
      refine ⟨fun pins s σ H Q I q => t1.run pins s σ H Q I ?_⟩
      obtain ⟨Γ, R, rel, p⟩ := q
      refine ⟨Γ, R, rel, ?_⟩
      have p : PostB F R σ H ((ev G e Γ).bind fun x => (isBl? x).bind fun c => if c then .ok true else .ok false) Q := p
      show PostB F R σ H ((ev G e Γ).bind isBl?) Q
      rw [← one_test]; exact p
    · cases h2
theorem evP_ok (G : Ctx) (I : Inf) : ∀ (it : CI) {F : Fr} {X : Cx} {sc : Scope} (C : Cok I G F X sc) (tg x : Expr), isRng it = true → okI I sc it tg x = true → PRg X x (RdP F (evI G it))
  | .rng1 b, F, X, sc, C, tg, x, _, h => by
    unfold okI at h
    split at h
    · simp only [Bool.and_eq_true, decide_eq_true_eq] at h
      obtain ⟨⟨⟨rfl, h1⟩, h2⟩, h3⟩ := h
      exact g_rng1 C h1 h3 (ev_ok G I b C _ h2).1
    · cases h
  | .rng2 a b, F, X, sc, C, tg, x, _, h => by
    unfold okI at h
    split at h
    · simp only [Bool.and_eq_true, decide_eq_true_eq] at h
      obtain ⟨⟨⟨⟨⟨rfl, h1⟩, h2⟩, h3⟩, h4⟩, h5⟩ := h
      exact g_rng2 C h1 h3 h5 (ev_ok G I a C _ h2).1 (ev_ok G I b C _ h4).1
    · cases h
  | .seq _, F, X, sc, C, tg, x, q, h => by cases q
  | .rng3 _ _ _, F, X, sc, C, tg, x, q, h => by cases q
  | .enum _, F, X, sc, C, tg, x, q, h => by cases q
  | .zip _ _, F, X, sc, C, tg, x, q, h => by cases q
  | .enumzip _ _, F, X, sc, C, tg, x, q, h => by cases q
theorem evI_ok (G : Ctx) (I : Inf) : ∀ (it : CI) {F : Fr} {X : Cx} {sc : Scope} (C : Cok I G F X sc) (tg x : Expr), okI I sc it tg x = true → PI X tg x (RdI F (mdI it) (evI G it))
  | .seq e, F, X, sc, C, tg, x, h => by
    unfold okI at h
    simp only [Bool.and_eq_true] at h
    exact i_seq C h.2 (ev_ok G I e C _ h.1).1
  | .rng1 b, F, X, sc, C, tg, x, h => by
    unfold okI at h
    split at h
    · simp only [Bool.and_eq_true, decide_eq_true_eq] at h
      obtain ⟨⟨⟨rfl, h1⟩, h2⟩, h3⟩ := h
      exact i_rng1 C h1 h3 (ev_ok G I b C _ h2).1
    · cases h
  | .rng2 a b, F, X, sc, C, tg, x, h => by
    unfold okI at h
    split at h
    · simp only [Bool.and_eq_true, decide_eq_true_eq] at h
      obtain ⟨⟨⟨⟨⟨rfl, h1⟩, h2⟩, h3⟩, h4⟩, h5⟩ := h
      exact i_rng2 C h1 h3 h5 (ev_ok G I a C _ h2).1 (ev_ok G I b C _ h4).1
    · cases h
  | .rng3 a b st, F, X, sc, C, tg, x, h => by
    unfold okI at h
    split at h
    · simp only [Bool.and_eq_true, decide_eq_true_eq] at h
      obtain ⟨⟨⟨⟨⟨⟨rfl, h1⟩, h2⟩, h3⟩, h4⟩, h5⟩, rfl⟩ := h
      exact i_rng3 C (c := .int _) (m := .e) h1 h3 h5 rfl (ev_ok G I a C _ h2).1 (ev_ok G I b C _ h4).1 (r_const pe_int fun R => rfl) fun Γ => rfl
    · simp only [Bool.and_eq_true, decide_eq_true_eq] at h
      obtain ⟨⟨⟨⟨⟨⟨rfl, h1⟩, h2⟩, h3⟩, h4⟩, h5⟩, rfl⟩ := h
      exact i_rng3 C (c := .neg (.int _)) (m := .e) h1 h3 h5 rfl (ev_ok G I a C _ h2).1 (ev_ok G I b C _ h4).1 (r_neg C (ga := ev G (.int _)) (r_const pe_int fun R => rfl)) fun Γ => rfl
    · cases h
  | .enum e, F, X, sc, C, tg, x, h => by
    unfold okI at h
    rw [Bool.and_eq_true] at h
    obtain ⟨ht, h⟩ := h
    split at h
    · simp only [Bool.and_eq_true, decide_eq_true_eq] at h
      obtain ⟨⟨⟨⟨rfl, h1⟩, h2⟩, h3⟩, h4⟩ := h
      cases tg <;> first | (cases ht; done) | skip
      exact i_enum C h1 h3 h4 (ev_ok G I e C _ h2).1
    · cases h
  | .zip a b, F, X, sc, C, tg, x, h => by
    unfold okI at h
    rw [Bool.and_eq_true] at h
    obtain ⟨ht, h⟩ := h
    split at h
    · simp only [Bool.and_eq_true, decide_eq_true_eq] at h
      obtain ⟨⟨⟨⟨⟨⟨rfl, h1⟩, h2⟩, h3⟩, h4⟩, h5⟩, h6⟩ := h
      cases tg <;> first | (cases ht; done) | skip
      exact i_zip C h1 h3 h5 (sup_l _ _) (sup_r _ _) h6 (ev_ok G I a C _ h2).1 (ev_ok G I b C _ h4).1
    · cases h
  | .enumzip _ _, F, X, sc, C, tg, x, h => by unfold okI at h; cases h
end
end
end Bw
end

section
set_option autoImplicit false
set_option linter.all false
/-! Bw W: statements. -/
namespace Bw
open PySem L2
structure Sok (I : Inf) (G : Ctx) (F : Fr) (X : Cx) (sc : Scope) : Prop extends Cok I G F X sc where
  bk : X.env.blockKind = .function
  pass : PassesOwn (model X.prog X.w) X.A X.env X.xe
  stk : X.stack = X.env :: X.outer
  frm : X.env.frame = some X.env.locals
/-- what is wanted behind a suite -/
def PostS (F : Fr) (D : Ends) (R : Hp) (o : Out) : Prop := match o with
  | .nx Γ => ∀ σ H R', RelR F.K F.H0 F.R0 R' Γ σ H → Sub R R' → D.nx σ H
  | .brk Γ => ∀ σ H R', RelR F.K F.H0 F.R0 R' Γ σ H → Sub R R' → D.bk σ H
  | .cont Γ => ∀ σ H R', RelR F.K F.H0 F.R0 R' Γ σ H → Sub R R' → D.ct σ H
  | .ret s => ∀ v Γ σ H R', RelR F.K F.H0 F.R0 R' Γ σ H → Sub R R' → Rm F R' H .f s v → D.rt v H
  | .exc c Γ => ∀ σ H R', RelR F.K F.H0 F.R0 R' Γ σ H → Sub R R' → F.W (F.cls c) none σ H
  | .bad => False
theorem PostS.sub {F : Fr} {D : Ends} {R R1 : Hp} {o : Out} (h : PostS F D R o) (g : Sub R R1) : PostS F D R1 o := by
  cases o with
  | nx Γ => exact fun σ H R' r s => h σ H R' r (g.trans s)
  | brk Γ => exact fun σ H R' r s => h σ H R' r (g.trans s)
  | cont Γ => exact fun σ H R' r s => h σ H R' r (g.trans s)
  | ret x => exact fun v Γ σ H R' r s q => h v Γ σ H R' r (g.trans s) q
  | exc c Γ => exact fun σ H R' r s => h σ H R' r (g.trans s)
  | bad => exact h
theorem PostS.next {F : Fr} {D : Ends} {R : Hp} {o : Out} {k : Gm → Out} (h : PostS F D R (o.next k)) : PostS F { D with nx := fun σ H => ∃ Γ R', RelR F.K F.H0 F.R0 R' Γ σ H ∧ PostS F D R' (k Γ) } R o := by
  cases o with
  | nx Γ => exact fun σ H R' r s => ⟨Γ, R', r, PostS.sub (o := k Γ) h s⟩
  | _ => exact h
theorem PostS.loop {F : Fr} {D : Ends} {R : Hp} {o : Out} {k : Gm → Out} {N : L2.St → Hp → Prop} (h : PostS F D R (o.loop k)) (hN : ∀ σ H Γ R', RelR F.K F.H0 F.R0 R' Γ σ H → Sub R R' → PostS F D R' (k Γ) → N σ H) : PostS F { D with nx := N, ct := N, bk := D.nx } R o := by
  cases o with
  | nx Γ => exact fun σ H R' r s => hN σ H Γ R' r s (PostS.sub (o := k Γ) h s)
  | cont Γ => exact fun σ H R' r s => hN σ H Γ R' r s (PostS.sub (o := k Γ) h s)
  | _ => exact h
/-- the reading of a suite -/
def RdS (F : Fr) (g : Gm → Out) : TS := fun D σ H => ∃ Γ R, RelR F.K F.H0 F.R0 R Γ σ H ∧ PostS F D R (g Γ)
theorem psImp {X : Cx} {e : Stmt} {t t' : TS} (h : PS X e t) (k : ∀ D σ H, t' D σ H → t D σ H) : PS X e t' := ⟨fun pins s σ H D I q => h.run pins s σ H D I (k D σ H q)⟩
theorem pssImp {X : Cx} {e : List Stmt} {t t' : TS} (h : PSs X e t) (k : ∀ D σ H, t' D σ H → t D σ H) : PSs X e t' := ⟨fun pins s σ H D I q => h.run pins s σ H D I (k D σ H q)⟩
/-- an expression, then what is done with its value -/
theorem out_post {F : Fr} {D : Ends} {R H : Hp} {σ : L2.St} {Γ : Gm} {m : Md} {r : Res SV} {k : SV → Out} (rel : RelR F.K F.H0 F.R0 R Γ σ H) (h : PostS F D R (r.out Γ k)) :
    Post F m R σ H r (fun v H1 => ∃ s R1, Grow H R H1 R1 ∧ Rm F R1 H1 m s v ∧ PostS F D R1 (k s)) := by
  cases r with
  | ok s => exact fun v H1 R1 g rv => ⟨s, R1, g, rv, PostS.sub (o := k s) h g.reg⟩
  | exc c => exact fun H1 R1 g => h σ H1 R1 (rel.grow g) g.reg
  | bad => exact h
theorem out_postL {F : Fr} {D : Ends} {R H : Hp} {σ : L2.St} {Γ : Gm} {m : Md} {r : Res (List SV)} {k : List SV → Out} (rel : RelR F.K F.H0 F.R0 R Γ σ H) (h : PostS F D R (r.out Γ k)) :
    PostL F m R σ H r (fun v H1 => ∃ s R1, r = .ok s ∧ Grow H R H1 R1 ∧ Rms F R1 H1 m s v ∧ PostS F D R1 (k s)) := by
  cases r with
  | ok s => exact fun v H1 R1 g rv => ⟨s, R1, rfl, g, rv, PostS.sub (o := k s) h g.reg⟩
  | exc c => exact fun H1 R1 g => h σ H1 R1 (rel.grow g) g.reg
  | bad => exact h
theorem out_postB {F : Fr} {D : Ends} {R H : Hp} {σ : L2.St} {Γ : Gm} {r : Res Bool} {k : Bool → Out} (rel : RelR F.K F.H0 F.R0 R Γ σ H) (h : PostS F D R (r.out Γ k)) :
    PostB F R σ H r (fun b H1 => ∃ R1, Grow H R H1 R1 ∧ PostS F D R1 (k b)) := by
  cases r with
  | ok s => exact fun H1 R1 g => ⟨R1, g, PostS.sub (o := k s) h g.reg⟩
  | exc c => exact fun H1 R1 g => h σ H1 R1 (rel.grow g) g.reg
  | bad => exact h
theorem out_bl {r : Res SV} {Γ : Gm} {k : Bool → Out} : (r.out Γ fun x => (isBl? x).out Γ k) = (r.bind isBl?).out Γ k := by
  cases r with
  | ok s => rfl
  | exc c => rfl
  | bad => rfl
/-- a new own list in the place i -/
theorem RelR.ownNew {K : Fr'} {H0 R0 R : Hp} {Γ : Gm} {σ : L2.St} {H : Hp} {i : Nat} {ps : List PV} {vs : List V} {p : Addr} (r : RelR K H0 R0 R Γ σ H) (h1 : H p = some (.lst vs)) (h2 : RpL K R ps vs) (h3 : ps.length ≤ line) (h4 : R p = none) (h5 : H0 p = none)
    (h6 : ∀ (j : Nat) (s : SV), j ≠ i → Γ[j]? = some (.ow s) → σ[j]? = some (some (.ref p)) → False) : RelR K H0 R0 R (Γ.set i (.ow (.d (.lst ps)))) (σ.set i (some (.ref p))) H := by
  have ne : ∀ {j : Nat} {b : Bx}, (Γ.set i (.ow (.d (.lst ps))))[j]? = some b → (j = i ∧ b = .ow (.d (.lst ps)) ∧ i < Γ.length) ∨ (i ≠ j ∧ Γ[j]? = some b) := fun {j b} e => by
    by_cases c : i = j
    · subst c
      by_cases l : i < Γ.length
      · rw [List.getElem?_set_self l] at e; cases e; exact .inl ⟨rfl, rfl, l⟩
      · rw [List.getElem?_eq_none (by rw [List.length_set]; omega)] at e; cases e
    · rw [List.getElem?_set_ne c] at e; exact .inr ⟨c, e⟩
  refine ⟨r.same, r.sub, r.sub0, r.old, fun j t e => ?_, fun j t e => ?_, fun j k t u a n e1 e2 e3 e4 => ?_, by rw [List.length_set, List.length_set]; exact r.len⟩
  · rcases ne e with ⟨rfl, e1, l⟩ | ⟨c, e1⟩
    · cases e1
    · rw [List.getElem?_set_ne c]; exact r.slot j t e1
  · rcases ne e with ⟨rfl, e1, l⟩ | ⟨c, e1⟩
    · cases e1; exact ⟨p, vs, ps, rfl, List.getElem?_set_self (by rw [← r.len]; exact l), h1, h2, h3, h4, h5⟩
    · rw [List.getElem?_set_ne c]; exact r.own j t e1
  · rcases ne e1 with ⟨q1, _, l1⟩ | ⟨c, q⟩
    · rcases ne e2 with ⟨q2, _, _⟩ | ⟨c2, q2⟩
      · exact n (q1.trans q2.symm)
      · subst q1
        rw [List.getElem?_set_self (by rw [← r.len]; exact l1)] at e3
        rw [List.getElem?_set_ne c2] at e4
        cases e3
        exact h6 k u (Ne.symm c2) q2 e4
    · rcases ne e2 with ⟨q2, _, l2⟩ | ⟨c2, q2⟩
      · subst q2
        rw [List.getElem?_set_self (by rw [← r.len]; exact l2)] at e4
        rw [List.getElem?_set_ne c] at e3
        cases e4
        exact h6 j t (Ne.symm c) q e3
      · rw [List.getElem?_set_ne c] at e3
        rw [List.getElem?_set_ne c2] at e4
        exact r.apart j k t u a n q q2 e3 e4
/-- the own list in the place i, changed -/
theorem RelR.ownSet {K : Fr'} {H0 R0 R : Hp} {Γ : Gm} {σ : L2.St} {H : Hp} {i : Nat} {qs ps : List PV} {vs : List V} {a : Addr} (r : RelR K H0 R0 R Γ σ H) (hi : Γ[i]? = some (.ow (.d (.lst qs)))) (hs : σ[i]? = some (some (.ref a))) (h2 : RpL K R ps vs) (h3 : ps.length ≤ line) : RelR K H0 R0 R (Γ.set i (.ow (.d (.lst ps)))) σ (upd H a (.lst vs)) := by
  obtain ⟨b, ws, rs, e0, e1, e2, e3, e4, e5, e6⟩ := r.own i _ hi
  rw [hs] at e1
  cases e1
  have hil : i < Γ.length := (List.getElem?_eq_some_iff.mp hi).1
  have ne : ∀ {j : Nat} {b : Bx}, (Γ.set i (.ow (.d (.lst ps))))[j]? = some b → (j = i ∧ b = .ow (.d (.lst ps))) ∨ (i ≠ j ∧ Γ[j]? = some b) := fun {j b} e => by
    by_cases c : i = j
    · subst c; rw [List.getElem?_set_self hil] at e; cases e; exact .inl ⟨rfl, rfl⟩
    · rw [List.getElem?_set_ne c] at e; exact .inr ⟨c, e⟩
  have own : ∀ {j : Nat} {t : SV}, (Γ.set i (.ow (.d (.lst ps))))[j]? = some (.ow t) → ∃ t', Γ[j]? = some (.ow t') := fun {j t} e => by
    rcases ne e with ⟨rfl, _⟩ | ⟨_, q⟩
    · exact ⟨_, hi⟩
    · exact ⟨_, q⟩
  refine ⟨fun x o e => ?_, fun x o e => ?_, r.sub0, r.old, fun j t e => ?_, fun j t e => ?_, fun j k t u x n q1 q2 q3 q4 => ?_, by rw [List.length_set]; exact r.len⟩
  · rw [upd_ne (ne_of_none e e6)]; exact r.same _ _ e
  · rw [upd_ne (ne_of_none e e5)]; exact r.sub _ _ e
  · rcases ne e with ⟨rfl, q⟩ | ⟨c, q⟩
    · cases q
    · exact r.slot j t q
  · rcases ne e with ⟨rfl, q⟩ | ⟨c, q⟩
    · cases q; exact ⟨a, vs, ps, rfl, hs, upd_same .., h2, h3, e5, e6⟩
    · obtain ⟨b, ws, rs, f0, f1, f2, f3, f4, f5, f6⟩ := r.own j t q
      refine ⟨b, ws, rs, f0, f1, ?_, f3, f4, f5, f6⟩
      rw [upd_ne ?_]; exact f2
      intro z; subst z
      exact r.apart i j _ _ _ c hi q hs f1
  · obtain ⟨t', q1'⟩ := own q1
    obtain ⟨u', q2'⟩ := own q2
    exact r.apart j k _ _ x n q1' q2' q3 q4
/-- the own list in the place i becomes known -/
theorem RelR.frz {K : Fr'} {H0 R0 R : Hp} {Γ : Gm} {σ : L2.St} {H : Hp} {i : Nat} {s : SV} (r : RelR K H0 R0 R Γ σ H) (hi : Γ[i]? = some (.ow s)) : ∃ R', Sub R R' ∧ RelR K H0 R0 R' (Γ.set i (.sh s)) σ H := by
  obtain ⟨a, vs, ps, rfl, e1, e2, e3, e4, e5, e6⟩ := r.own i _ hi
  have hil : i < Γ.length := (List.getElem?_eq_some_iff.mp hi).1
  have sb : Sub R (upd R a (.lst vs)) := sub_upd e5
  have ne : ∀ {j : Nat} {b : Bx}, (Γ.set i (.sh (.d (.lst ps))))[j]? = some b → (j = i ∧ b = .sh (.d (.lst ps))) ∨ (i ≠ j ∧ Γ[j]? = some b) := fun {j b} e => by
    by_cases c : i = j
    · subst c; rw [List.getElem?_set_self hil] at e; cases e; exact .inl ⟨rfl, rfl⟩
    · rw [List.getElem?_set_ne c] at e; exact .inr ⟨c, e⟩
  refine ⟨upd R a (.lst vs), sb, r.same, fun x o e => ?_, r.sub0.trans sb, fun x n => ?_, fun j t e => ?_, fun j t e => ?_, fun j k t u x n q1 q2 q3 q4 => ?_, by rw [List.length_set]; exact r.len⟩
  · by_cases c : x = a
    · subst c; rw [upd_same] at e; cases e; exact e2
    · rw [upd_ne c] at e; exact r.sub _ _ e
  · have c : x ≠ a := fun c => n (c ▸ e6)
    rw [upd_ne c]; exact r.old x n
  · rcases ne e with ⟨rfl, q⟩ | ⟨c, q⟩
    · cases q; exact ⟨_, e1, a, vs, rfl, upd_same .., e4, e3.mono sb⟩
    · obtain ⟨v, f1, f2⟩ := r.slot j t q; exact ⟨v, f1, f2.mono sb⟩
  · rcases ne e with ⟨rfl, q⟩ | ⟨c, q⟩
    · cases q
    · obtain ⟨b, ws, rs, f0, f1, f2, f3, f4, f5, f6⟩ := r.own j t q
      refine ⟨b, ws, rs, f0, f1, f2, f3.mono sb, f4, ?_, f6⟩
      rw [upd_ne ?_]; exact f5
      intro z; subst z
      exact r.apart i j _ _ _ c hi q e1 f1
  · rcases ne q1 with ⟨_, z⟩ | ⟨c, z⟩
    · cases z
    rcases ne q2 with ⟨_, z2⟩ | ⟨c2, z2⟩
    · cases z2
    exact r.apart j k t u x n z z2 q3 q4
section
variable {I : Inf} {G : Ctx} {F : Fr} {X : Cx} {sc : Scope} {pos : Pos}
/-- a list display as a new list -/
theorem n_lst {es : List CE} {xs : List Expr} (he : es.length ≤ 1000) (h : PA X xs (RdL F .e (evL G es))) : PE X (.List xs pos) (RdN F (ev G (.lst es))) :=
  peImp (pe_lst h) fun σ H Q ⟨Γ, R, rel, p⟩ => ⟨Γ, R, rel, by
    have p : PostN F R σ H ((evL G es Γ).bind fun ss => (datas? ss).bind fun ps => .ok (.d (.lst ps))) Q := p
    cases e : evL G es Γ with
    | bad => rw [e] at p; exact p.elim
    | exc c => rw [e] at p; exact p
    | ok ss =>
      rw [e] at p
      have p : PostN F R σ H ((datas? ss).bind fun ps => .ok (.d (.lst ps))) Q := p
      rcases datas_exc ss with ⟨ps, e2⟩ | e2
      · rw [e2] at p
        intro vs H1 R1 g1 rv
        have hl : vs.length = es.length := by rw [rms_len rv, evL_len e]
        refine ⟨by rw [hl]; exact Nat.le_trans he (by decide), fun q hq => ?_⟩
        have gg := Grow.hid g1.sub hq (HO.lst vs)
        refine p q _ R1 vs (g1.trans gg) ?_ (upd_same ..) ?_ (rms_data rv e2) (by rw [data_len e2, evL_len e]; unfold line; omega)
        · cases z : H q with
          | none => rfl
          | some o => rw [g1.same _ _ z] at hq; cases hq
        · cases z : R1 q with
          | none => rfl
          | some o => rw [g1.sub _ _ z] at hq; cases hq
      · rw [e2] at p; exact p.elim⟩
theorem PostN.grow {R R1 H H1 : Hp} {σ : L2.St} {r : Res SV} {Q : VK} (h : PostN F R σ H r Q) (g : Grow H R H1 R1) : PostN F R1 σ H1 r Q := by
  cases r with
  | ok s =>
    cases s with
    | d q =>
      cases q <;> first | exact False.elim h | skip
      refine fun p H' R' vs g' e => h p H' R' vs (g.trans g') ?_
      cases z : H p with
      | none => rfl
      | some o => rw [g.same _ _ z] at e; cases e
    | _ => exact False.elim h
  | exc c => exact fun H' R' g' => h H' R' (g.trans g')
  | bad => exact h
theorem postn_bind {m : Md} {R H : Hp} {σ : L2.St} {r : Res SV} {f : SV → Res SV} {Q : VK} (h : PostN F R σ H (r.bind f) Q) :
    Post F m R σ H r (fun x H1 => ∃ s R1, Grow H R H1 R1 ∧ Rm F R1 H1 m s x ∧ PostN F R1 σ H1 (f s) Q) := by
  cases r with
  | ok s => exact fun v H1 R1 g rv => ⟨s, R1, g, rv, PostN.grow (r := f s) h g⟩
  | exc c => exact h
  | bad => exact h
/-- xs + ys as a new list -/
theorem n_add (C : Cok I G F X sc) {ga gb : Gm → Res SV} {y z : Expr} {ma mb : Md} (la : ma.le .t = true) (lb : mb.le .t = true) (ha : PE X y (Rd' F ma ga)) (hb : PE X z (Rd' F mb gb)) :
    PE X (.BinOp y .Add z pos) (RdN F fun Γ => (ga Γ).bind fun x => (gb Γ).bind fun y => binop .add x y) := by
  refine peImp (pe_op op_cat (peLe ha la) (peLe hb lb)) fun σ H Q ⟨Γ, R, rel, p⟩ => ⟨Γ, R, rel, (postn_bind (m := .t) p).mono fun x H1 ⟨s, R1, g1, rx, p1⟩ => ⟨Γ, R1, rel.grow g1, (postn_bind (m := .t) p1).mono fun w H2 ⟨t, R2, g2, rw', p2⟩ => ?_⟩⟩
  have rx := rx.grow g2
  clear p1 p
  cases s with
  | d q1 =>
    cases t with
    | d q2 =>
      cases q1 with
      | str a =>
        cases q2 with
        | str b =>
          have p2 : PostN F R2 σ H2 (if a.length + b.length ≤ line then .ok (.d (.str (a ++ b))) else .bad) Q := p2
          split at p2 <;> exact False.elim p2
        | _ => exact False.elim p2
      | tup xs =>
        cases q2 with
        | tup ys =>
          have p2 : PostN F R2 σ H2 ((chk (xs ++ ys)).bind fun zs => .ok (.d (.tup zs))) Q := p2
          unfold chk at p2
          split at p2 <;> exact False.elim p2
        | _ => exact False.elim p2
      | lst xs =>
        cases q2 with
        | lst ys =>
          obtain ⟨a1, vs1, rfl, s1, r1, z1⟩ := rx.lst g2.sub
          obtain ⟨a2, vs2, rfl, s2, r2, z2⟩ := rw'.lst g2.sub
          have p2 : PostN F R2 σ H2 ((chk (xs ++ ys)).bind fun zs => .ok (.d (.lst zs))) Q := p2
          unfold chk at p2
          by_cases c : (xs ++ ys).length ≤ line
          · rw [if_pos c] at p2
            have l1 := r1.len
            have l2 := r2.len
            have c' : xs.length + ys.length ≤ line := by simpa using c
            refine ⟨a1, a2, vs1, vs2, rfl, rfl, s1, s2, by rw [← line_eq]; omega, fun q hq => ?_⟩
            refine p2 q _ R2 (vs1 ++ vs2) (Grow.hid g2.sub hq _) hq (upd_same ..) ?_ (r1.append r2) c
            cases e : R2 q with
            | none => rfl
            | some o => rw [g2.sub _ _ e] at hq; cases hq
          · rw [if_neg c] at p2; exact False.elim p2
        | _ => exact False.elim p2
      | _ => cases q2 <;> exact False.elim p2
    | _ => cases q1 <;> exact False.elim p2
  | _ => cases t <;> exact False.elim p2
def isComp : Expr → Bool
  | .ListComp _ _ _ _ => true
  | .SetComp _ _ _ _ => true
  | .DictComp _ _ _ _ _ => true
  | _ => false
theorem swaps_no {e : Expr} (h : isComp e = false) (t : Option Expr) (n : Nat) (env : PySem.Env) : swapsWith e t n env = pure false := by
  cases e <;> first | (cases h; done) | rfl
/-- a comprehension on the line of the local name that it is stored in -/
def swB (sc : Scope) (t : Str) (tp : Pos) : Expr → Bool
  | .ListComp _ _ s p => sc.names.lookup t == some .local && tp.line == p.line && !(s.names.any fun (n, k) => n == t && (k == .local || k == .cell))
  | .SetComp _ s _ p => true
  | .DictComp _ _ _ s p => true
  | _ => false
theorem swaps_lc (C : Sok I G F X sc) {elt : Expr} {gs : List Comprehension} {s : Scope} {p tp : Pos} {t : Str} {n : Nat} (h : locB sc t = true) : swapsWith (.ListComp elt gs s p) (some (.Name t tp)) n X.env = pure (swB sc t tp (.ListComp elt gs s p)) := by
  have hk : (X.env.kindOf t == some NameKind.local) = (sc.names.lookup t == some NameKind.local) := by
    unfold locB at h
    show (X.env.scope.names.lookup t == some NameKind.local) = _
    split at h
    · rename_i e
      rcases C.sc _ _ e with q | ⟨q, _⟩
      · rw [q, e]
      · cases q
    · rename_i e
      rcases C.sc _ _ e with q | ⟨q, _⟩
      · rw [q, e]
      · cases q
    · cases h
  show (pure (X.env.blockKind == .function && X.env.kindOf t == some .local && tp.line == p.line && !(s.names.any fun (n, k) => n == t && (k == .local || k == .cell))) : Sem Bool) = _
  rw [C.bk, hk]
  rfl
end
end Bw
end

section
set_option autoImplicit false
set_option linter.all false
/-! Bw W2: raise, try. -/
namespace Bw
open PySem L2
section
variable {I : Inf} {G : Ctx} {F : Fr} {X : Cx} {sc : Scope} {pos : Pos}
theorem s_raise (C : Sok I G F X sc) {k j : Nat} {n m : Str} {p1 p2 p3 : Pos} (h1 : I.exs[k]? = some n) (h2 : glB sc n = true) (h3 : nmB n = true) : PS X (.Raise (some (.Call (.Name n p1) [.Constant (.str m) j p2] [] p3)) none pos) (RdS F (run G (.raise k))) := by
  obtain ⟨Ca, e1, e2, e3, e4, e5, e6⟩ := C.exs k n h1
  refine psImp (ps_raise C.calm C.takes (pmk_own PySem.F.excBase_ValueError e6 e2 e3 (raises_own e4 e5) (gl_of C.toCok h2) (nm_dest h3).1)) fun D σ H ⟨Γ, R, rel, p⟩ => ?_
  have q := p σ H R rel .refl
  rw [e1] at q
  exact q
/-- what a clause does, told alone -/
noncomputable def hbR (G : Ctx) : HB → Gm → Out
  | .retc e, Γ => (ev G e Γ).out Γ fun s => .ret s
  | .cont, Γ => .cont Γ
  | _, _ => .bad
/-- a value written out -/
def okK : CE → Expr → Bool
  | .int i, .Constant (.int j) _ _ => decide (i = j)
  | .str s, .Constant (.str z) _ _ => decide (s = z) && decide (s.length ≤ line)
  | .bl b, .Constant (.bool c) _ _ => b == c
  | .non, .Constant .none _ _ => true
  | _, _ => false
theorem okK_ok {e : CE} {y : Expr} (h : okK e y = true) : PE X y (Rd' F .e (ev G e)) := by
  unfold okK at h
  split at h
  · rw [decide_eq_true_eq] at h; subst h; exact r_const pe_int fun R => rfl
  · rw [Bool.and_eq_true, decide_eq_true_eq, decide_eq_true_eq] at h
    obtain ⟨rfl, h⟩ := h
    exact r_const pe_str fun R => ⟨rfl, h⟩
  · have h := eq_of_beq h; subst h; exact r_const pe_bl fun R => rfl
  · exact r_const pe_non fun R => rfl
  · cases h
def okHB : HB → List Stmt → Bool
  | .retc e, [.Return (some y) _] => okK e y
  | .cont, [.Continue _] => true
  | _, _ => false
theorem hb_ok {h : HB} {b : List Stmt} (k : okHB h b = true) : (∃ s ss, b = s :: ss) ∧ PSs X b (RdS F (hbR G h)) := by
  unfold okHB at k
  split at k
  · refine ⟨⟨_, _, rfl⟩, pssImp (pss_cons (ps_ret (okK_ok (F := F) (G := G) k)) pss_nil) fun D σ H ⟨Γ, R, rel, p⟩ => ⟨Γ, R, rel, ?_⟩⟩
    exact (out_post (m := .e) rel p).mono fun v H1 ⟨s, R1, g, rv, q⟩ => q _ _ _ _ R1 (rel.grow g) .refl (rv.le g.sub (le_f _))
  · exact ⟨⟨_, _, rfl⟩, pssImp (pss_cons ps_continue pss_nil) fun D σ H ⟨Γ, R, rel, p⟩ => p σ H R rel .refl⟩
  · cases k
def okHs (I : Inf) (sc : Scope) : List (Nat × HB) → List ExceptHandler → Bool
  | [], [] => true
  | (k, h) :: hs, .ExceptHandler (some (.Name x _)) none b _ :: xs => decide (I.exs[k]? = some x) && glB sc x && nmB x && okHB h b && okHs I sc hs xs
  | _, _ => false
def hbTs (F : Fr) (G : Ctx) (hs : List (Nat × HB)) : List (Value × (Addr → Value → Option Addr → TS)) := hs.map fun h => (F.cls h.1, fun _ _ _ => RdS F (hbR G h.2))
theorem hds_ok (C : Sok I G F X sc) : ∀ {hs : List (Nat × HB)} {xs : List ExceptHandler}, okHs I sc hs xs = true → HdsOk X xs (hbTs F G hs)
  | [], [], _ => .nil
  | (k, h) :: hs, xs, q => by
    unfold okHs at q
    split at q
    · rename_i e1 e2; cases e2
    · rename_i k' h' hs' x np b p' xs' e1
      cases e1
      simp only [Bool.and_eq_true, decide_eq_true_eq] at q
      obtain ⟨⟨⟨⟨q1, q2⟩, q3⟩, q4⟩, q5⟩ := q
      obtain ⟨Ca, e1, e2, e3, e4, e5, e6⟩ := C.exs _ _ q1
      obtain ⟨⟨s, ss, rfl⟩, _⟩ := hb_ok (X := X) (F := F) (G := G) q4
      exact .cons ⟨gl_of C.toCok q2, (nm_dest q3).1, .inl (by rw [e2, e1])⟩ (fun a oe cls d pn _ _ => (hb_ok q4).2) (hds_ok C q5)
    · cases q
  | [], _ :: _, q => by cases q
theorem caught_ok (C : Sok I G F X sc) {c : Nat} {Γ : Gm} {D : Ends} {R H : Hp} {σ : L2.St} (rel : RelR F.K F.H0 F.R0 R Γ σ H) : ∀ {hs : List (Nat × HB)}, PostS F D R (caught G c Γ hs) → wMany X.K F.W D (hbTs F G hs) (F.cls c) none σ H
  | [], p => p σ H R rel .refl
  | (k, h) :: hs, p => by
    have ih := @caught_ok C c Γ D R H σ rel hs
    unfold caught at p
    cases e : G.sub c k with
    | none => rw [e] at p; exact p.elim
    | some b =>
      refine ⟨b, C.sub c k b e, fun hb a _ => ?_, fun hb => ?_⟩
      · subst hb
        rw [e] at p
        refine ⟨Γ, R, rel, ?_⟩
        cases h with
        | retc e => exact p
        | cont => exact p
        | risa k' => exact p.elim
        | rife k' a b => exact p.elim
      · subst hb
        rw [e] at p
        exact ih p
theorem Sok.tr (C : Sok I G F X sc) {W : WX} {pn : List (Addr × Obj)} {xe : Value → Shared → Prop} (tk : Takes (X.tr pn xe) W) (ps : PassesOwn (model X.prog X.w) X.A X.env xe) : Sok I G { F with W := W } (X.tr pn xe) sc where
  hK := C.hK
  hN := C.hN
  nd := C.nd
  calm := C.calm
  un := C.un
  fnc := C.fnc
  sc := C.sc
  bl := C.bl
  cons := C.cons
  fns := C.fns
  takes := tk
  exs := C.exs
  sub := C.sub
  bk := C.bk
  pass := ps
  stk := C.stk
  frm := C.frm
theorem s_try (C : Sok I G F X sc) {body : List CS} {hs : List (Nat × HB)} {b : List Stmt} {x : ExceptHandler} {xs : List ExceptHandler} (hb : ∀ {F' : Fr} {X' : Cx}, Sok I G F' X' sc → PSs X' b (RdS F' (runs G body))) (hh : okHs I sc hs (x :: xs) = true) :
    PS X (.Try b (x :: xs) [] [] pos) (RdS F (run G (.try body hs))) := by
  refine psImp (ps_try_many (tb := fun W => RdS { F with W := W } (runs G body)) C.stk C.frm C.takes (fun W pn xe tk ps => hb (C.tr tk ps)) (hds_ok C hh)) fun D σ H ⟨Γ, R, rel, p⟩ => ⟨Γ, R, rel, ?_⟩
  have p : PostS F D R (match runs G body Γ with
    | .exc c Γ' => caught G c Γ' hs
    | o => o) := p
  cases e : runs G body Γ with
  | exc c Γ' =>
    rw [e] at p
    exact fun σ' H' R' r s => caught_ok C r (PostS.sub (o := caught G c Γ' hs) p s)
  | nx Γ' => rw [e] at p; exact p
  | brk Γ' => rw [e] at p; exact p
  | cont Γ' => rw [e] at p; exact p
  | ret s => rw [e] at p; exact p
  | bad => rw [e] at p; exact p.elim
end
end Bw
end

section
set_option autoImplicit false
set_option linter.all false
/-! Bw W3: names from a display, some of them own lists. -/
namespace Bw
open PySem L2
/-- values of a display: an own one is a list made since Hs, not yet known -/
def RmO (F : Fr) (R H : Hp) : Hp → List Bool → List SV → List V → Prop
  | _, [], ss, vs => ss = [] ∧ vs = []
  | Hs, true :: os, ss, vs => ∃ ps ss' p vs' ws H1, ss = SV.d (.lst ps) :: ss' ∧ vs = V.ref p :: vs' ∧ Hs p = none ∧ H p = some (.lst ws) ∧ R p = none ∧ RpL F.K R ps ws ∧ ps.length ≤ line ∧ H1 p ≠ none ∧ (∀ a, Hs a ≠ none → H1 a ≠ none) ∧ RmO F R H H1 os ss' vs'
  | Hs, false :: os, ss, vs => ∃ s ss' v vs' H1, ss = s :: ss' ∧ vs = v :: vs' ∧ RpS F.K R s v ∧ (∀ a, Hs a ≠ none → H1 a ≠ none) ∧ RmO F R H H1 os ss' vs'
def PostOw (F : Fr) (os : List Bool) (R : Hp) (σ : L2.St) (H : Hp) (r : Res (List SV)) (Q : List V → Hp → Prop) : Prop :=
  match r with
  | .ok ss => ∀ vs H' R', Grow H R H' R' → RmO F R' H' H os ss vs → Q vs H'
  | .exc c => ∀ H' R', Grow H R H' R' → F.W (F.cls c) none σ H'
  | .bad => False
def RdOw (F : Fr) (os : List Bool) (g : Gm → Res (List SV)) : TA := fun σ H Q => ∃ Γ R, RelR F.K F.H0 F.R0 R Γ σ H ∧ PostOw F os R σ H (g Γ) Q
def isDisp' : CE → Bool
  | .lst _ => true
  | .lc _ _ _ _ => true
  | _ => false
theorem disp_lst' {G : Ctx} {Γ : Gm} {b : CE} {s : SV} (h : isDisp' b = true) (e : ev G b Γ = .ok s) : ∃ ps, s = .d (.lst ps) := by
  have key : ∀ {α : Type} {r : Res α} {f : α → Res SV}, r.bind f = .ok s → ∃ a, f a = .ok s := fun {α r f} q => by
    cases r with
    | ok a => exact ⟨a, q⟩
    | exc c => cases q
    | bad => cases q
  cases b <;> first | (cases h; done) | skip
  · obtain ⟨ss, e⟩ := key (show ((evL G _ Γ).bind fun ss => (datas? ss).bind fun ps => .ok (.d (.lst ps))) = .ok s from e)
    obtain ⟨ps, e⟩ := key e
    cases e; exact ⟨_, rfl⟩
  · obtain ⟨xs, e⟩ := key (show ((evI G _ Γ).bind fun xs => _) = .ok s from e)
    obtain ⟨ps, e⟩ := key e
    cases e; exact ⟨_, rfl⟩
section
variable {I : Inf} {G : Ctx} {F : Fr} {X : Cx} {sc : Scope} {pos : Pos}
theorem dom_grow {H R H' R' : Hp} (g : Grow H R H' R') : ∀ a, H a ≠ none → H' a ≠ none := fun a h => by
  cases e : H a with
  | none => exact absurd e h
  | some o => rw [g.same _ _ e]; simp
theorem po_nil : PA X [] (RdOw F [] (evL G [])) := paImp pa_nil fun σ H Q ⟨Γ, R, rel, p⟩ => p [] H R (.refl rel.sub) ⟨rfl, rfl⟩
def PostE (F : Fr) (os : List Bool) (σ : L2.St) (H H1 R1 : Hp) (f : List SV → Res (List SV)) (Q : List V → Hp → Prop) : Res (List SV) → Prop
  | .ok ss => ∀ vs H' R', Grow H1 R1 H' R' → ∀ zs, f ss = .ok zs → RmO F R' H' H os zs vs → Q vs H'
  | .exc c => ∀ H' R', Grow H1 R1 H' R' → F.W (F.cls c) none σ H'
  | .bad => False
theorem po_exc {os : List Bool} {σ : L2.St} {R H H1 R1 : Hp} {r : Res (List SV)} {f : List SV → Res (List SV)} {Q : List V → Hp → Prop} (h : PostOw F os R σ H (r.bind f) Q) (g : Grow H R H1 R1) :
    PostE F os σ H H1 R1 f Q r := by
  cases r with
  | ok ss =>
    intro vs H' R' g' zs e rm
    have h : PostOw F os R σ H (f ss) Q := h
    rw [e] at h
    exact h vs H' R' (g.trans g') rm
  | exc c => exact fun H' R' g' => h H' R' (g.trans g')
  | bad => exact h
theorem po_own {a : CE} {as : List CE} {x : Expr} {xs : List Expr} {os : List Bool} (ht : tame x = true) (hd : isDisp' a = true) (ha : PE X x (RdN F (ev G a))) (hr : PA X xs (RdOw F os (evL G as))) : PA X (x :: xs) (RdOw F (true :: os) (evL G (a :: as))) := by
  refine paImp (pa_cons ha hr (starEach_tame ht _ _)) fun σ H Q ⟨Γ, R, rel, p⟩ => ⟨Γ, R, rel, ?_⟩
  have p : PostOw F (true :: os) R σ H ((ev G a Γ).bind fun x => (evL G as Γ).bind fun xs => .ok (x :: xs)) Q := p
  cases e : ev G a Γ with
  | bad => rw [e] at p; exact p.elim
  | exc c => rw [e] at p; exact p
  | ok s =>
    obtain ⟨ps, rfl⟩ := disp_lst' hd e
    rw [e] at p
    intro q H1 R1 ws g1 hn hs hR hv hz
    refine ⟨Γ, R1, rel.grow g1, ?_⟩
    have p : PostOw F (true :: os) R σ H ((evL G as Γ).bind fun xs => .ok (SV.d (.lst ps) :: xs)) Q := p
    have p := po_exc p g1
    cases e2 : evL G as Γ with
    | bad => rw [e2] at p; exact p.elim
    | exc c => rw [e2] at p; exact p
    | ok ss =>
      rw [e2] at p
      intro vs H2 R2 g2 rm
      refine p _ H2 R2 g2 _ rfl ⟨ps, ss, q, vs, ws, H1, rfl, rfl, hn, g2.same _ _ hs, ?_, hv.mono g2.reg, hz, by rw [hs]; simp, dom_grow g1, rm⟩
      rw [g2.old q (by rw [hs]; simp)]; exact hR
theorem po_sh {a : CE} {as : List CE} {x : Expr} {xs : List Expr} {os : List Bool} (ht : tame x = true) (ha : PE X x (Rd' F .e (ev G a))) (hr : PA X xs (RdOw F os (evL G as))) : PA X (x :: xs) (RdOw F (false :: os) (evL G (a :: as))) := by
  refine paImp (pa_cons ha hr (starEach_tame ht _ _)) fun σ H Q ⟨Γ, R, rel, p⟩ => ⟨Γ, R, rel, ?_⟩
  have p : PostOw F (false :: os) R σ H ((ev G a Γ).bind fun x => (evL G as Γ).bind fun xs => .ok (x :: xs)) Q := p
  cases e : ev G a Γ with
  | bad => rw [e] at p; exact p.elim
  | exc c => rw [e] at p; exact p
  | ok s =>
    rw [e] at p
    intro v H1 R1 g1 rv
    refine ⟨Γ, R1, rel.grow g1, ?_⟩
    have p : PostOw F (false :: os) R σ H ((evL G as Γ).bind fun xs => .ok (s :: xs)) Q := p
    have p := po_exc p g1
    cases e2 : evL G as Γ with
    | bad => rw [e2] at p; exact p.elim
    | exc c => rw [e2] at p; exact p
    | ok ss =>
      rw [e2] at p
      intro vs H2 R2 g2 rm
      have rv : RpS F.K R1 s v := rv
      exact p _ H2 R2 g2 _ rfl ⟨s, ss, v, vs, H1, rfl, rfl, rv.mono g2.reg, dom_grow g1, rm⟩
/-- every own place's list is there in Hs -/
def KnownO (Hs : Hp) (Γ : Gm) (σ : L2.St) : Prop := ∀ (j : Nat) (s : SV) (a : Addr), Γ[j]? = some (.ow s) → σ[j]? = some (some (.ref a)) → Hs a ≠ none
def setsV : List Nat → List V → L2.St → L2.St
  | i :: is, v :: vs, σ => setsV is vs (σ.set i (some v))
  | _, _, σ => σ
theorem set_get {α : Type} {l : List α} {i j : Nat} {x y : α} (h : (l.set i x)[j]? = some y) : (i = j ∧ y = x) ∨ (i ≠ j ∧ l[j]? = some y) := by
  by_cases c : i = j
  · subst c
    by_cases l' : i < l.length
    · rw [List.getElem?_set_self l'] at h; cases h; exact .inl ⟨rfl, rfl⟩
    · rw [List.getElem?_eq_none (by rw [List.length_set]; omega)] at h; cases h
  · rw [List.getElem?_set_ne c] at h; exact .inr ⟨c, h⟩
theorem rel_setO {K : Fr'} (hK : F.K = K) {H0 R0 R H : Hp} (h0 : Sub H0 H) : ∀ {is : List Nat} {os : List Bool} {ss : List SV} {vs : List V} {Hs : Hp} {Γ : Gm} {σ : L2.St}, is.length = os.length → (∀ a, H0 a ≠ none → Hs a ≠ none) → RelR K H0 R0 R Γ σ H → KnownO Hs Γ σ → RmO F R H Hs os ss vs → RelR K H0 R0 R (setsO is os ss Γ) (setsV is vs σ) H
  | [], [], ss, vs, Hs, Γ, σ, _, _, r, _, ⟨e1, e2⟩ => by subst e1 e2; exact r
  | i :: is, true :: os, ss, vs, Hs, Γ, σ, hl, hd, r, kn, ⟨ps, ss', p, vs', ws, H1, e1, e2, h1, h2, h3, h4, h5, h6, h7, rm⟩ => by
    subst e1 e2
    subst hK
    have n0 : H0 p = none := by
      cases z : H0 p with
      | none => rfl
      | some o => exact absurd h1 (hd p (by rw [z]; simp))
    refine rel_setO (Γ := Γ.set i (.ow (.d (.lst ps)))) (σ := σ.set i (some (.ref p))) rfl h0 (by simpa using hl) (fun a z => h7 a (hd a z)) (r.ownNew (i := i) h2 h4 h5 h3 n0 fun j s nj q1 q2 => kn j s p q1 q2 h1) (fun j s a q1 q2 => ?_) rm
    rcases set_get q1 with ⟨rfl, z⟩ | ⟨c, q1⟩
    · have l : i < σ.length := by
        have := (List.getElem?_eq_some_iff.mp q2).1
        rwa [List.length_set] at this
      rw [List.getElem?_set_self l] at q2
      cases q2
      exact h6
    · rw [List.getElem?_set_ne c] at q2
      exact h7 a (kn j s a q1 q2)
  | i :: is, false :: os, ss, vs, Hs, Γ, σ, hl, hd, r, kn, ⟨s, ss', v, vs', H1, e1, e2, h1, h7, rm⟩ => by
    subst e1 e2
    subst hK
    refine rel_setO (Γ := Γ.set i (.sh s)) (σ := σ.set i (some v)) rfl h0 (by simpa using hl) (fun a z => h7 a (hd a z)) (r.set (i := i) h1) (fun j t a q1 q2 => ?_) rm
    rcases set_get q1 with ⟨rfl, z⟩ | ⟨c, q1⟩
    · cases z
    · rw [List.getElem?_set_ne c] at q2
      exact h7 a (kn j t a q1 q2)
  | [], _ :: _, _, _, _, _, _, hl, _, _, _, _ => by cases hl
  | _ :: _, [], _, _, _, _, _, hl, _, _, _, _ => by cases hl
theorem known_rel {K : Fr'} {H0 R0 R H : Hp} {Γ : Gm} {σ : L2.St} (r : RelR K H0 R0 R Γ σ H) : KnownO H Γ σ := fun j s a q1 q2 => by
  obtain ⟨b, ws, rs, f0, f1, f2, _⟩ := r.own j s q1
  rw [q2] at f1
  cases f1
  rw [f2]; simp
theorem rmo_len {R H : Hp} : ∀ {os : List Bool} {Hs : Hp} {ss : List SV} {vs : List V}, RmO F R H Hs os ss vs → vs.length = os.length
  | [], _, _, _, ⟨_, e⟩ => by rw [e]; rfl
  | true :: os, _, _, _, ⟨_, _, _, _, _, _, _, e, _, _, _, _, _, _, _, rm⟩ => by rw [e, List.length_cons, List.length_cons, rmo_len rm]
  | false :: os, _, _, _, ⟨_, _, _, _, _, _, e, _, _, rm⟩ => by rw [e, List.length_cons, List.length_cons, rmo_len rm]
end
end Bw
end

section
set_option autoImplicit false
set_option linter.all false
/-! Bw X: every statement of the core language that the checker takes is read by its meaning. -/
namespace Bw
open PySem L2
def isLc : CE → Bool
  | .lc _ _ _ _ => true
  | .lc2 _ _ _ _ _ _ _ => true
  | _ => false
/-- stores of a display that are not swapped -/
def noSwap (sc : Scope) (xs : List Expr) : Bool := !(xs.length == 2 || xs.length == 3) || xs.any fun
  | .Name n _ => sc.names.lookup n == some .cell
  | _ => false
def foldsE (e : List Expr) : Bool := e.all (foldedForSure 8) || e.all (constantsAlone 8)
def isDisp : CE → Bool
  | .lst _ => true
  | .lc _ _ _ _ => true
  | .lc2 _ _ _ _ _ _ _ => true
  | _ => false
theorem disp_lst {G : Ctx} {Γ : Gm} {b : CE} {s : SV} (h : isDisp b = true) (e : ev G b Γ = .ok s) : ∃ ps, s = .d (.lst ps) := by
  have key : ∀ {α : Type} {r : Res α} {f : α → Res SV}, r.bind f = .ok s → ∃ a, f a = .ok s := fun {α r f} q => by
    cases r with
    | ok a => exact ⟨a, q⟩
    | exc c => cases q
    | bad => cases q
  cases b <;> first | (cases h; done) | skip
  · obtain ⟨ss, e⟩ := key (show ((evL G _ Γ).bind fun ss => (datas? ss).bind fun ps => .ok (.d (.lst ps))) = .ok s from e)
    obtain ⟨ps, e⟩ := key e
    cases e; exact ⟨_, rfl⟩
  · obtain ⟨xs, e⟩ := key (show ((evI G _ Γ).bind fun xs => _) = .ok s from e)
    obtain ⟨ps, e⟩ := key e
    cases e; exact ⟨_, rfl⟩
  · obtain ⟨xs, e⟩ := key (show ((evI G _ Γ).bind fun xs => _) = .ok s from e)
    obtain ⟨ps, e⟩ := key e
    obtain ⟨ps, e⟩ := key e
    cases e; exact ⟨_, rfl⟩
/-- a list made here: what an own place may be set to -/
def okN (I : Inf) (sc : Scope) (n : Str) (tp : Pos) : CE → Expr → Bool
  | .lst es, x => (match x with
    | .List xs _ => okL I sc es xs && decide (es.length ≤ 1000) && (mdL es == .e)
    | _ => false)
  | .lc t it cs e, x => okE I sc (.lc t it cs e) x
  | .lc2 t it cs t' it' cs' e, x => okE I sc (.lc2 t it cs t' it' cs' e) x
  | .bin op a b, x => (match x with
    | .BinOp y o z _ => decide (op = .add) && decide (o = .Add) && isDisp b && okE I sc a y && okE I sc b z && le_t (md a) && le_t (md b)
    | _ => false)
  | _, _ => false
/-- an element that is to be an own list -/
def okOw (I : Inf) (sc : Scope) : CE → Expr → Bool
  | .lst es, x => (match x with
    | .List xs _ => okL I sc es xs && decide (es.length ≤ 1000) && (mdL es == .e)
    | _ => false)
  | .lc t it cs e, x => okE I sc (.lc t it cs e) x
  | _, _ => false
def okLO (I : Inf) (sc : Scope) : List Bool → List CE → List Expr → Bool
  | [], [], [] => true
  | true :: os, a :: as, x :: xs => okOw I sc a x && okLO I sc os as xs
  | false :: os, a :: as, x :: xs => okE I sc a x && (md a == .e) && tame x && okLO I sc os as xs
  | _, _, _ => false
def nmTs (is : List Nat) : List CT := is.map .name
def oneT (is : List Nat) : Bool := !(is.length == 2 || is.length == 3)
mutual
def okS (I : Inf) (sc : Scope) : CS → Stmt → Bool
  | .expr e, x => (match x with
    | .Expr y _ => okE I sc e y && !isComp y
    | _ => false)
  | .set t e, x => (match t with
    | .name i => (match x with
      | .Assign [.Name n tp] y _ => decide (I.N[i]? = some n) && locB sc n && okE I sc e y && (md e == .e) && (isLc e || !isComp y)
      | _ => false)
    | .tup ts => (match x with
      | .Assign [.Tuple xs k p] y _ => okTs I sc ts xs && okE I sc e y && (md e == .e) && (!isTupE y || noSwap sc xs)
      | _ => false))
  | .par is es, x => (match is, es, x with
    | [i, j], [a, b], .Assign [.Tuple [.Name n px, .Name m py] _ _] (.Tuple [y, z] _ _) _ => decide (I.N[i]? = some n) && decide (I.N[j]? = some m) && decide (n ≠ m) && decide (i ≠ j) && (sc.names.lookup n == some .local) && (sc.names.lookup m == some .local) &&
        (px.line == py.line) && !(foldsE [y, z]) && okL I sc [a, b] [y, z] && (mdL [a, b] == .e)
    | [i, j, l], [a, b, c], .Assign [.Tuple [.Name n px, .Name m py, .Name o pz] _ _] (.Tuple [y, z, w] _ _) _ => decide (I.N[i]? = some n) && decide (I.N[j]? = some m) && decide (I.N[l]? = some o) && decide (n ≠ m) && decide (n ≠ o) && decide (m ≠ o) && decide (i ≠ j) && decide (i ≠ l) && decide (j ≠ l) &&
        (sc.names.lookup n == some .local) && (sc.names.lookup m == some .local) && (sc.names.lookup o == some .local) && (px.line == py.line) && (px.line == pz.line) && !(foldsE [y, z, w]) && okL I sc [a, b, c] [y, z, w] && (mdL [a, b, c] == .e)
    | _, _, _ => false)
  | .parO is os es, x => (match is, os, es, x with
    | [i, j], [o1, o2], [a, b], .Assign [.Tuple [.Name n px, .Name m py] _ _] (.Tuple [y, z] _ _) _ => decide (I.N[i]? = some n) && decide (I.N[j]? = some m) && decide (n ≠ m) && decide (i ≠ j) && (sc.names.lookup n == some .local) && (sc.names.lookup m == some .local) &&
        (px.line == py.line) && !(foldsE [y, z]) && okLO I sc [o1, o2] [a, b] [y, z] && (tame y && tame z)
    | [i, j, l], [o1, o2, o3], [a, b, c], .Assign [.Tuple [.Name n px, .Name m py, .Name o pz] _ _] (.Tuple [y, z, w] _ _) _ => decide (I.N[i]? = some n) && decide (I.N[j]? = some m) && decide (I.N[l]? = some o) && decide (n ≠ m) && decide (n ≠ o) && decide (m ≠ o) && decide (i ≠ j) && decide (i ≠ l) && decide (j ≠ l) &&
        (sc.names.lookup n == some .local) && (sc.names.lookup m == some .local) && (sc.names.lookup o == some .local) && (px.line == py.line) && (px.line == pz.line) && !(foldsE [y, z, w]) && okLO I sc [o1, o2, o3] [a, b, c] [y, z, w] && (tame y && tame z && tame w)
    | _, _, _, _ => false) || (match x with
      | .Assign [.Tuple xs _ _] (.Tuple ys _ _) _ => okTs I sc (nmTs is) xs && okLO I sc os es ys && noSwap sc xs && decide (is.length = os.length) && decide (os.length ≤ 1000)
      | _ => false)
  | .own i e, x => (match x with
    | .Assign [.Name n tp] y _ => decide (I.N[i]? = some n) && locB sc n && okN I sc n tp e y
    | _ => false)
  | .frz _, _ => false
  | .aug i op e, x => (match x with
    | .AugAssign (.Name n _) o y _ => decide (I.N[i]? = some n) && locB sc n && decide (o = opOf op) && (decide (op = .add) || decide (op = .sub)) && okE I sc e y
    | _ => false)
  | .app i e, x => (match x with
    | .Expr (.Call (.Attribute (.Name n _) a apos) [y] [] cpos) _ => decide (I.N[i]? = some n) && visB sc n && nmB n && decide (a = Str.ofString "append") && okE I sc e y && (md e == .e) && tame y && (apos.endLine == cpos.line)
    | _ => false)
  | .ext i e, x => (match x with
    | .Expr (.Call (.Attribute (.Name n _) a apos) [y] [] cpos) _ => decide (I.N[i]? = some n) && visB sc n && nmB n && decide (a = Str.ofString "extend") && okE I sc e y && (md e == .e) && tame y && (apos.endLine == cpos.line)
    | _ => false)
  | .ife c a b, x => (match x with
    | .If z p q _ => okE I sc c z && okSs I sc a p && okSs I sc b q
    | _ => false)
  | .for t it body, x => (match x with
    | .For tg iter b [] _ => okI I sc it tg iter && (mdI it == .e) && okT I sc t tg && okSs I sc body b && tame iter
    | _ => false)
  | .while c body, x => (match x with
    | .While z b [] _ => okE I sc c z && okSs I sc body b
    | _ => false)
  | .ret e, x => (match x with
    | .Return (some y) _ => okE I sc e y
    | _ => false)
  | .retN, x => (match x with
    | .Return none _ => true
    | _ => false)
  | .brk, x => (match x with
    | .Break _ => true
    | _ => false)
  | .cont, x => (match x with
    | .Continue _ => true
    | _ => false)
  | .pass, x => (match x with
    | .Pass _ => true
    | _ => false)
  | .never, _ => true
  | .raise k, x => (match x with
    | .Raise (some (.Call (.Name n _) [.Constant (.str _) _ _] [] _)) none _ => decide (I.exs[k]? = some n) && glB sc n && nmB n
    | _ => false)
  | .try body hs, x => (match x with
    | .Try b (h :: xs) [] [] _ => okSs I sc body b && okHs I sc hs (h :: xs)
    | _ => false)
def okSs (I : Inf) (sc : Scope) : List CS → List Stmt → Bool
  | [], xs => xs.isEmpty
  | s :: ss, xs => (match s with
    | .frz _ => okSs I sc ss xs
    | s => (match xs with
      | [] => false
      | x :: xs => okS I sc s x && okSs I sc ss xs))
end
section
variable {I : Inf} {G : Ctx} {F : Fr} {X : Cx} {sc : Scope} {pos : Pos}
theorem loc_env (C : Cok I G F X sc) {x : Str} (h : sc.names.lookup x = some .local) : X.env.scope.names.lookup x = some .local := by
  rcases C.sc _ _ h with q | ⟨q, _⟩
  · exact q
  · cases q
theorem xN {X : Cx} (C : Cok I G F X sc) : X.N.Nodup := by rw [C.hN]; exact C.nd
theorem xi (C : Cok I G F X sc) {i : Nat} {n : Str} (h : I.N[i]? = some n) : X.N[i]? = some n := by rw [C.hN]; exact h
/-- name = [..] -/
theorem s_lc (C : Sok I G F X sc) {i : Nat} {n : Str} {tp : Pos} {t : CT} {it : CI} {cs : List CE} {e : CE} {y : Expr} {rt : TE} (h1 : I.N[i]? = some n) (h2 : locB sc n = true) (hy : okE I sc (.lc t it cs e) y = true)
    (hpe : ∀ {own : List (Str × Nat)} {m : Md}, (∀ i ∈ own.map (·.2), i ∈ t.vars) → (∀ i ∈ t.vars, i ∈ own.map (·.2)) → ∀ σ H Q, rt σ H Q → tLc (RdI F m (evI G it)) (RdG F.calm t) (RdB F.calm (evC G cs)) (Rd' F.calm .e (ev G e)) (own.map (·.2)) σ H Q) :
    PS X (.Assign [.Name n tp] y pos) (tAsg rt (gName i)) := by
  unfold okE at hy
  split at hy
  · rename_i elt tg iter ifs scope p
    simp only [Bool.and_eq_true] at hy
    obtain ⟨⟨⟨⟨⟨⟨⟨⟨h1', h2'⟩, h3⟩, h4⟩, h5⟩, h6⟩, h7⟩, h8⟩, h9⟩ := hy
    have h5 := eq_of_beq h5
    have h9 : md e = .e := by simpa using h9
    have hv : ∀ i ∈ (ownOf I.N t.vars).map (·.2), i ∈ t.vars := fun i hi => by rw [← h5]; exact hi
    have hw : ∀ i ∈ t.vars, i ∈ (ownOf I.N t.vars).map (·.2) := fun i hi => by rw [h5]; exact hi
    have Cc := C.toCok
    have hi := evI_ok G I it Cc _ _ h1'
    have hg := fun (s : Shared) (H : Hp) (Ca : Addr) (cl : List (Str × Addr)) (fp : List Addr) => g_ok (Cc.blk s H scope cl Ca fp) t _ h6
    have ht := fun (s : Shared) (H : Hp) (Ca : Addr) (cl : List (Str × Addr)) (fp : List Addr) => evC_ok G I cs (Cc.blk s H scope cl Ca fp) _ h7
    have he : ∀ (s : Shared) (H : Hp) (Ca : Addr) (cl : List (Str × Addr)) (fp : List Addr), PE (X.blk s H scope (compEnvC scope cl Ca X.env) fp) elt (Rd' F.calm .e (ev G e)) := fun s H Ca cl fp => by
      have := (ev_ok G I e (Cc.blk s H scope cl Ca fp) _ h8).1
      rwa [h9] at this
    cases sw : swB sc n tp (.ListComp elt [⟨tg, iter, ifs, 0⟩] scope p) with
    | false =>
      exact psImp (ps_set (xN Cc) (xi Cc h1) (loc_of Cc h2) (pe_lc C.calm (xN Cc) hi (blk_ok Cc h4) hg ht he (fun x => folded_tame h3 _ x)) (by rw [swaps_lc C h2, sw]) (loc_fn Cc h2)) fun D σ H h => hpe hv hw σ H _ h
    | true =>
      have hl : sc.names.lookup n = some .local := by
        unfold swB at sw
        simp only [Bool.and_eq_true, beq_iff_eq] at sw
        exact sw.1.1
      exact psImp (ps_setLc C.calm (xN Cc) (xi Cc h1) (loc_env Cc hl) (by rw [swaps_lc C h2, sw]) hi (blk_ok Cc h4) hg ht he (fun x => folded_tame h3 _ x)) fun D σ H h => hpe hv hw σ H _ h
  · cases hy
theorem s_lc2 (C : Sok I G F X sc) {i : Nat} {n : Str} {tp : Pos} {t t' : CT} {it it' : CI} {cs cs' : List CE} {e : CE} {y : Expr} {rt : TE} (h1 : I.N[i]? = some n) (h2 : locB sc n = true) (hy : okE I sc (.lc2 t it cs t' it' cs' e) y = true)
    (hpe : ∀ {m : Md}, ∀ σ H Q, rt σ H Q → tLc2' F G m t it cs t' it' cs' e σ H Q) : PS X (.Assign [.Name n tp] y pos) (tAsg rt (gName i)) := by
  unfold okE at hy
  split at hy
  · rename_i elt tg iter ifs tg1 iter1 ifs1 scope p
    simp only [Bool.and_eq_true] at hy
    obtain ⟨⟨⟨⟨⟨⟨⟨⟨⟨⟨⟨⟨⟨h1', h2'⟩, h3⟩, h4⟩, h5⟩, h6⟩, h7⟩, k1⟩, k2⟩, k3⟩, k4⟩, k5⟩, h8⟩, h9⟩ := hy
    have h5 := eq_of_beq h5
    have h9 : md e = .e := by simpa using h9
    have k2 : mdI it' = .e := by simpa using k2
    have Cc := C.toCok
    have hi := evI_ok G I it Cc _ _ h1'
    have hg := fun (s : Shared) (H : Hp) (Ca : Addr) (cl : List (Str × Addr)) (fp : List Addr) => g_ok (Cc.blk s H scope cl Ca fp) t _ h6
    have ht := fun (s : Shared) (H : Hp) (Ca : Addr) (cl : List (Str × Addr)) (fp : List Addr) => evC_ok G I cs (Cc.blk s H scope cl Ca fp) _ h7
    have hi1 : ∀ (s : Shared) (H : Hp) (Ca : Addr) (cl : List (Str × Addr)) (fp : List Addr), PI (X.blk s H scope (compEnvC scope cl Ca X.env) fp) tg1 iter1 (RdI F.calm .e (evI G it')) := fun s H Ca cl fp => by
      have := evI_ok G I it' (Cc.blk s H scope cl Ca fp) _ _ k1
      rwa [k2] at this
    have hg1 := fun (s : Shared) (H : Hp) (Ca : Addr) (cl : List (Str × Addr)) (fp : List Addr) => g_ok (Cc.blk s H scope cl Ca fp) t' _ k4
    have ht1 := fun (s : Shared) (H : Hp) (Ca : Addr) (cl : List (Str × Addr)) (fp : List Addr) => evC_ok G I cs' (Cc.blk s H scope cl Ca fp) _ k5
    have he : ∀ (s : Shared) (H : Hp) (Ca : Addr) (cl : List (Str × Addr)) (fp : List Addr), PE (X.blk s H scope (compEnvC scope cl Ca X.env) fp) elt (Rd' F.calm .e (ev G e)) := fun s H Ca cl fp => by
      have := (ev_ok G I e (Cc.blk s H scope cl Ca fp) _ h8).1
      rwa [h9] at this
    cases sw : swB sc n tp (.ListComp elt [⟨tg, iter, ifs, 0⟩, ⟨tg1, iter1, ifs1, 0⟩] scope p) with
    | false =>
      exact psImp (ps_set (xN Cc) (xi Cc h1) (loc_of Cc h2) (p_lc2 Cc hi (blk_ok Cc h4) h5 hg ht hi1 hg1 ht1 he (fun x => folded_tame h3 _ x) (fun _ x => folded_tame k3 _ x)) (by rw [swaps_lc C h2, sw]) (loc_fn Cc h2)) fun D σ H h => hpe σ H _ h
    | true =>
      have hl : sc.names.lookup n = some .local := by
        unfold swB at sw
        simp only [Bool.and_eq_true, beq_iff_eq] at sw
        exact sw.1.1
      have q := ps_setLc2 (spos := pos) (vs1 := t'.vars) C.calm (xN Cc) (xi Cc h1) (loc_env Cc hl) (by rw [swaps_lc C h2, sw]) hi (blk_ok Cc h4) (fun i h => by rw [h5]; exact List.mem_append_right _ h) hg ht hi1 hg1 ht1 he (fun x => folded_tame h3 _ x) (fun _ x => folded_tame k3 _ x)
      rw [h5] at q
      exact psImp q fun D σ H h => hpe σ H _ h
  · cases hy
theorem ow_pe (C : Cok I G F X sc) {a : CE} {x : Expr} (h : okOw I sc a x = true) : PE X x (RdN F (ev G a)) ∧ tame x = true ∧ isDisp' a = true := by
  unfold okOw at h
  split at h
  · split at h
    · rename_i es _ xs p
      simp only [Bool.and_eq_true, decide_eq_true_eq] at h
      have hm : mdL es = .e := by simpa using h.2
      have ha := evL_ok G I es C _ h.1.1
      rw [hm] at ha
      exact ⟨n_lst h.1.2 ha, rfl, rfl⟩
    · cases h
  · rename_i t it cs e
    unfold okE at h
    split at h
    · rename_i elt tg iter ifs scope p
      simp only [Bool.and_eq_true] at h
      obtain ⟨⟨⟨⟨⟨⟨⟨⟨h1', h2'⟩, h3⟩, h4⟩, h5⟩, h6⟩, h7⟩, h8⟩, h9⟩ := h
      have h5 := eq_of_beq h5
      have h9 : md e = .e := by simpa using h9
      have hv : ∀ i ∈ (ownOf I.N t.vars).map (·.2), i ∈ t.vars := fun i hi => by rw [← h5]; exact hi
      have hw : ∀ i ∈ t.vars, i ∈ (ownOf I.N t.vars).map (·.2) := fun i hi => by rw [h5]; exact hi
      have hi := evI_ok G I it C _ _ h1'
      have hg := fun (s : Shared) (H : Hp) (Ca : Addr) (cl : List (Str × Addr)) (fp : List Addr) => g_ok (C.blk s H scope cl Ca fp) t _ h6
      have ht := fun (s : Shared) (H : Hp) (Ca : Addr) (cl : List (Str × Addr)) (fp : List Addr) => evC_ok G I cs (C.blk s H scope cl Ca fp) _ h7
      have he : ∀ (s : Shared) (H : Hp) (Ca : Addr) (cl : List (Str × Addr)) (fp : List Addr), PE (X.blk s H scope (compEnvC scope cl Ca X.env) fp) elt (Rd' F.calm .e (ev G e)) := fun s H Ca cl fp => by
        have := (ev_ok G I e (C.blk s H scope cl Ca fp) _ h8).1
        rwa [h9] at this
      exact ⟨n_lc C hi (blk_ok C h4) hv hw hg ht he (fun x => folded_tame h3 _ x), rfl, rfl⟩
    · cases h
  · cases h
theorem po_ok (C : Cok I G F X sc) : ∀ {os : List Bool} {as : List CE} {xs : List Expr}, okLO I sc os as xs = true → PA X xs (RdOw F os (evL G as))
  | [], [], [], _ => po_nil
  | true :: os, a :: as, x :: xs, h => by
    unfold okLO at h
    rw [Bool.and_eq_true] at h
    obtain ⟨k1, k2, k3⟩ := ow_pe C (G := G) h.1
    exact po_own k2 k3 k1 (po_ok C h.2)
  | false :: os, a :: as, x :: xs, h => by
    unfold okLO at h
    simp only [Bool.and_eq_true] at h
    have hm : md a = .e := by simpa using h.1.1.2
    have he := (ev_ok G I a C x h.1.1.1).1
    rw [hm] at he
    exact po_sh h.1.2 he (po_ok C h.2)
  | [], [], _ :: _, h => by simp [okLO] at h
  | [], _ :: _, _, h => by simp [okLO] at h
  | true :: _, [], _, h => by simp [okLO] at h
  | true :: _, _ :: _, [], h => by simp [okLO] at h
  | false :: _, [], _, h => by simp [okLO] at h
  | false :: _, _ :: _, [], h => by simp [okLO] at h
def gNames : List Nat → TGs
  | [] => gNil
  | i :: is => gCons (gName i) (gNames is)
theorem gn_of {Q : L2.St → Hp → Prop} {H : Hp} : ∀ {is : List Nat} {vs : List V} {σ : L2.St}, vs.length = is.length → Q (setsV is vs σ) H → gNames is vs σ H Q
  | [], [], σ, _, h => ⟨rfl, h⟩
  | i :: is, v :: vs, σ, hl, h => ⟨v, vs, rfl, gn_of (is := is) (by simpa using hl) h⟩
  | [], _ :: _, _, hl, _ => by cases hl
  | _ :: _, [], _, hl, _ => by cases hl
theorem gn_ok (C : Cok I G F X sc) : ∀ (is : List Nat) (xs : List Expr), okTs I sc (nmTs is) xs = true → PGs X xs (gNames is)
  | [], [], _ => pgs_nil
  | i :: is, x :: xs, h => by
    have h : (okT I sc (.name i) x && okTs I sc (nmTs is) xs) = true := h
    rw [Bool.and_eq_true] at h
    refine pgs_cons ?_ (gn_ok C is xs h.2) (by rw [okT_each h.1]; rfl)
    obtain ⟨h1, _⟩ := h
    cases x <;> first | (cases h1; done) | skip
    rename_i x p
    have h1 : (decide (I.N[i]? = some x) && locB sc x) = true := h1
    rw [Bool.and_eq_true, decide_eq_true_eq] at h1
    exact pg_name (by rw [C.hN]; exact C.nd) (by rw [C.hN]; exact h1.1) (loc_of C h1.2) (loc_fn C h1.2)
  | [], _ :: _, h => by cases h
  | _ :: _, [], h => by cases h
theorem parO_post (is : List Nat) {os : List Bool} {as : List CE} {D : Ends} {σ : L2.St} {H : Hp} (hl : is.length = os.length) (h : RdS F (run G (.parO is os as)) D σ H) : RdOw F os (evL G as) σ H fun vs H1 => vs.length = os.length ∧ D.nx (setsV is vs σ) H1 := by
  obtain ⟨Γ, R, rel, p⟩ := h
  refine ⟨Γ, R, rel, ?_⟩
  have p : PostS F D R ((evL G as Γ).out Γ fun ss => .nx (setsO is os ss Γ)) := p
  cases e : evL G as Γ with
  | bad => rw [e] at p; exact p
  | exc c => rw [e] at p; exact fun H1 R1 g => p σ H1 R1 (rel.grow g) g.reg
  | ok ss =>
    rw [e] at p
    intro vs H' R' g rm
    have r2 := rel.grow g
    exact ⟨rmo_len rm, p _ H' R' (rel_setO rfl r2.same hl (fun a z => by
      cases c : F.H0 a with
      | none => exact absurd c z
      | some o => rw [rel.same _ _ c]; simp) r2 (known_rel rel) rm) g.reg⟩
theorem parO_postT (is : List Nat) {os : List Bool} {as : List CE} {D : Ends} {σ : L2.St} {H : Hp} (hl : is.length = os.length) (h : RdS F (run G (.parO is os as)) D σ H) : RdOw F os (evL G as) σ H fun vs H1 => vs.length = os.length ∧ ∀ q, H1 q = none → D.nx (setsV is vs σ) (upd H1 q (.tup vs)) := by
  obtain ⟨Γ, R, rel, p⟩ := h
  refine ⟨Γ, R, rel, ?_⟩
  have p : PostS F D R ((evL G as Γ).out Γ fun ss => .nx (setsO is os ss Γ)) := p
  cases e : evL G as Γ with
  | bad => rw [e] at p; exact p
  | exc c => rw [e] at p; exact fun H1 R1 g => p σ H1 R1 (rel.grow g) g.reg
  | ok ss =>
    rw [e] at p
    intro vs H' R' g rm
    have r2 := rel.grow g
    refine ⟨rmo_len rm, fun q hq => ?_⟩
    have r3 := rel_setO rfl r2.same hl (fun a z => by
      cases c : F.H0 a with
      | none => exact absurd c z
      | some o => rw [rel.same _ _ c]; simp) r2 (known_rel rel) rm
    exact p _ _ R' (r3.grow (Grow.hid r3.sub hq _)) g.reg
/-- name = value -/
theorem s_set (C : Sok I G F X sc) {i : Nat} {n : Str} {tp : Pos} {e : CE} {y : Expr} (h1 : I.N[i]? = some n) (h2 : locB sc n = true) (hy : okE I sc e y = true) (hm : md e = .e) (hl : (isLc e || !isComp y) = true) : PS X (.Assign [.Name n tp] y pos) (RdS F (run G (.set (.name i) e))) := by
  have he := (ev_ok G I e C.toCok y hy).1
  rw [hm] at he
  have rd : ∀ D σ H, RdS F (run G (.set (.name i) e)) D σ H → tAsg (Rd' F .e (ev G e)) (gName i) D σ H := fun D σ H ⟨Γ, R, rel, p⟩ => by
    have p : PostS F D R ((ev G e Γ).out Γ fun s => .nx (Γ.set i (.sh s))) := p
    exact ⟨Γ, R, rel, (out_post rel p).mono fun v H1 ⟨s, R1, g, rv, q⟩ => q _ _ R1 ((rel.grow g).set rv) .refl⟩
  cases c : isComp y with
  | false => exact psImp (ps_set (xN C.toCok) (xi C.toCok h1) (loc_of C.toCok h2) he (swaps_no c _ _ _) (loc_fn C.toCok h2)) rd
  | true =>
    rw [c] at hl
    cases e <;> try (cases hl; done)
    · exact psImp (s_lc C h1 h2 hy fun hv hw σ H Q h => rd_lc hv hw h) rd
    · exact psImp (s_lc2 C h1 h2 hy fun σ H Q h => rd_lc2 h) rd
/-- name = a new list -/
theorem s_own (C : Sok I G F X sc) {i : Nat} {n : Str} {tp : Pos} {e : CE} {y : Expr} (h1 : I.N[i]? = some n) (h2 : locB sc n = true) (hy : okN I sc n tp e y = true) : PS X (.Assign [.Name n tp] y pos) (RdS F (run G (.own i e))) := by
  have Cc := C.toCok
  have rd : ∀ D σ H, RdS F (run G (.own i e)) D σ H → (∀ Γ s, ev G e Γ = .ok s → ∃ ps, s = .d (.lst ps)) → tAsg (RdN F (ev G e)) (gName i) D σ H := fun D σ H ⟨Γ, R, rel, p⟩ hl => by
    have p : PostS F D R ((ev G e Γ).out Γ fun s => .nx (Γ.set i (.ow s))) := p
    refine ⟨Γ, R, rel, ?_⟩
    cases e1 : ev G e Γ with
    | bad => rw [e1] at p; exact p
    | exc c => rw [e1] at p; exact fun H1 R1 g => p σ H1 R1 (rel.grow g) g.reg
    | ok s =>
      obtain ⟨ps, rfl⟩ := hl Γ s e1
      rw [e1] at p
      intro a H1 R1 vs g hn hs hR hv hz
      have h0 : F.H0 a = none := by
        cases z : F.H0 a with
        | none => rfl
        | some o => rw [rel.same _ _ z] at hn; cases hn
      refine p _ H1 R1 ((rel.grow g).ownNew hs hv hz hR h0 fun j t _ q1 q2 => ?_) g.reg
      obtain ⟨b, ws, rs, f0, f1, f2, _⟩ := rel.own j t q1
      rw [q2] at f1
      cases f1
      rw [f2] at hn; cases hn
  unfold okN at hy
  split at hy
  · split at hy
    · rename_i es _ xs p
      simp only [Bool.and_eq_true, decide_eq_true_eq] at hy
      have hm : mdL es = .e := by simpa using hy.2
      have ha := evL_ok G I es Cc _ hy.1.1
      rw [hm] at ha
      refine psImp (ps_set (xN Cc) (xi Cc h1) (loc_of Cc h2) (n_lst hy.1.2 ha) rfl (loc_fn Cc h2)) fun D σ H h => rd D σ H h fun Γ s hs => ?_
      have hs : ((evL G es Γ).bind fun ss => (datas? ss).bind fun ps => .ok (.d (.lst ps))) = .ok s := hs
      cases e1 : evL G es Γ with
      | bad => rw [e1] at hs; cases hs
      | exc c => rw [e1] at hs; cases hs
      | ok ss =>
        rw [e1] at hs
        rcases datas_exc ss with ⟨ps, e2⟩ | e2
        · have hs : ((datas? ss).bind fun ps => .ok (.d (.lst ps))) = .ok s := hs
          rw [e2] at hs; cases hs; exact ⟨ps, rfl⟩
        · have hs : ((datas? ss).bind fun ps => .ok (.d (.lst ps))) = .ok s := hs
          rw [e2] at hs; cases hs
    · cases hy
  · rename_i t it cs e
    refine psImp (s_lc C h1 h2 hy fun hv hw σ H Q h => rn_lc hv hw h) fun D σ H h => rd D σ H h fun Γ s hs => ?_
    have hs : ((evI G it Γ).bind fun xs => (mapR (lcF G t cs e Γ) xs).bind fun ys => .ok (.d (.lst ys))) = .ok s := hs
    cases e1 : evI G it Γ with
    | bad => rw [e1] at hs; cases hs
    | exc c => rw [e1] at hs; cases hs
    | ok xs =>
      rw [e1] at hs
      have hs : ((mapR (lcF G t cs e Γ) xs).bind fun ys => .ok (.d (.lst ys))) = .ok s := hs
      cases e2 : mapR (lcF G t cs e Γ) xs with
      | bad => rw [e2] at hs; cases hs
      | exc c => rw [e2] at hs; cases hs
      | ok ys => rw [e2] at hs; cases hs; exact ⟨ys, rfl⟩
  · rename_i t it cs t' it' cs' e
    refine psImp (s_lc2 C h1 h2 hy fun σ H Q h => rn_lc2 h) fun D σ H h => rd D σ H h fun Γ s hs => ?_
    have hs : ((evI G it Γ).bind fun xs => (catR (lc2F G t cs t' it' cs' e Γ) xs).bind fun ys => (chk ys).bind fun ys => .ok (.d (.lst ys))) = .ok s := hs
    cases e1 : evI G it Γ with
    | bad => rw [e1] at hs; cases hs
    | exc c => rw [e1] at hs; cases hs
    | ok xs =>
      rw [e1] at hs
      have hs : ((catR (lc2F G t cs t' it' cs' e Γ) xs).bind fun ys => (chk ys).bind fun ys => .ok (.d (.lst ys))) = .ok s := hs
      cases e2 : catR (lc2F G t cs t' it' cs' e Γ) xs with
      | bad => rw [e2] at hs; cases hs
      | exc c => rw [e2] at hs; cases hs
      | ok ys =>
        rw [e2] at hs
        have hs : ((chk ys).bind fun ys => .ok (.d (.lst ys))) = .ok s := hs
        unfold chk at hs
        split at hs
        · cases hs; exact ⟨ys, rfl⟩
        · cases hs
  · split at hy
    · rename_i op a b _ z o z' p
      simp only [Bool.and_eq_true, decide_eq_true_eq] at hy
      obtain ⟨⟨⟨⟨⟨⟨rfl, rfl⟩, hd⟩, h3⟩, h4⟩, l1⟩, l2⟩ := hy
      refine psImp (ps_set (xN Cc) (xi Cc h1) (loc_of Cc h2) (n_add Cc l1 l2 (ev_ok G I a Cc _ h3).1 (ev_ok G I b Cc _ h4).1) rfl (loc_fn Cc h2)) fun D σ H h => rd D σ H h fun Γ s hs => ?_
      have hs : ((ev G a Γ).bind fun x => (ev G b Γ).bind fun y => binop .add x y) = .ok s := hs
      cases e1 : ev G a Γ with
      | bad => rw [e1] at hs; cases hs
      | exc c => rw [e1] at hs; cases hs
      | ok x =>
        rw [e1] at hs
        have hs : ((ev G b Γ).bind fun y => binop .add x y) = .ok s := hs
        cases e2 : ev G b Γ with
        | bad => rw [e2] at hs; cases hs
        | exc c => rw [e2] at hs; cases hs
        | ok y =>
          obtain ⟨ys, rfl⟩ := disp_lst hd e2
          rw [e2] at hs
          have hs : binop .add x (.d (.lst ys)) = .ok s := hs
          cases x with
          | d q =>
            cases q with
            | lst xs =>
              have hs : ((chk (xs ++ ys)).bind fun zs => .ok (.d (.lst zs))) = .ok s := hs
              unfold chk at hs
              split at hs
              · cases hs; exact ⟨_, rfl⟩
              · cases hs
            | _ => cases hs
          | _ => cases hs
    · cases hy
  · cases hy
end
end Bw
end

section
set_option autoImplicit false
set_option linter.all false
/-! Bw Y: every suite of the core language that the checker takes is read by its meaning. -/
namespace Bw
open PySem L2
section
variable {I : Inf} {G : Ctx} {F : Fr} {X : Cx} {sc : Scope} {pos : Pos}
theorem fm_lt {α β : Type} {f : α → Option β} : ∀ {l : List α}, (∃ x ∈ l, f x = none) → (l.filterMap f).length < l.length
  | [], ⟨x, h, _⟩ => by cases h
  | y :: ys, ⟨x, h, e⟩ => by
    have le := List.length_filterMap_le f ys
    rw [List.filterMap_cons]
    cases ey : f y with
    | none => simp only [List.length_cons]; omega
    | some z =>
      rcases List.mem_cons.mp h with q | q
      · subst q; rw [ey] at e; cases e
      · have := fm_lt (l := ys) ⟨x, q, e⟩
        simp only [List.length_cons]; omega
theorem swap_none (C : Sok I G F X sc) {xs : List Expr} {k : Nat} {p : Pos} {y : Expr} (h : (!isTupE y || noSwap sc xs) = true) : swappedStores [.Tuple xs k p] y X.env = pure none := by
  cases y <;> first | rfl | skip
  rename_i vs kk pp
  have h : noSwap sc xs = true := h
  unfold swappedStores
  simp only []
  by_cases c1 : (!(xs.length == 2 || xs.length == 3) || vs.length != xs.length || X.env.blockKind != .function) = true
  · rw [if_pos c1]
  · rw [if_neg c1]
    split
    · rfl
    · unfold noSwap at h
      rw [Bool.or_eq_true] at h
      have h : (xs.any fun | .Name n _ => sc.names.lookup n == some .cell | _ => false) = true := by
        rcases h with h | h
        · simp only [h, Bool.true_or, not_true_eq_false] at c1
        · exact h
      rw [List.any_eq_true] at h
      obtain ⟨x, hx, hn⟩ := h
      rw [if_pos]
      rw [Bool.or_eq_true]
      left
      refine bne_iff_ne.mpr (Nat.ne_of_lt (fm_lt ⟨x, hx, ?_⟩))
      cases x <;> first | (cases hn; done) | skip
      rename_i n np
      have e : X.env.scope.names.lookup n = some .cell := by
        rcases C.sc _ _ (by simpa using hn) with q | ⟨q, _⟩
        · exact q
        · cases q
      show (if (X.env.scope.names.lookup n == some .local && _) = true then some n else none) = none
      rw [e]; rfl
theorem s_tup (C : Sok I G F X sc) {ts : List CT} {xs : List Expr} {k : Nat} {p : Pos} {e : CE} {y : Expr} (h1 : okTs I sc ts xs = true) (hy : okE I sc e y = true) (hm : md e = .e) (ht : (!isTupE y || noSwap sc xs) = true) : PS X (.Assign [.Tuple xs k p] y pos) (RdS F (run G (.set (.tup ts) e))) := by
  have Cc := C.toCok
  have he := (ev_ok G I e Cc y hy).1
  rw [hm] at he
  refine psImp (ps_asg he (g_ok Cc (.tup ts) _ h1) (by cases y <;> rfl) (swap_none C ht)) fun D σ H ⟨Γ, R, rel, q⟩ => ?_
  have q : PostS F D R ((ev G e Γ).out Γ fun s => setR Γ (.tup ts) s) := q
  refine ⟨Γ, R, rel, (out_post rel q).mono fun v H1 ⟨s, R1, g, rv, q⟩ => ?_⟩
  cases s with
  | d q1 =>
    have q : PostS F D R1 (oout (bindT (.tup ts) q1 Γ) fun Γ' => .nx Γ') := q
    cases e1 : bindT (.tup ts) q1 Γ with
    | none => rw [e1] at q; exact q.elim
    | some Γ' =>
      rw [e1] at q
      exact ⟨Γ, R1, q1, Γ', rel.grow g, rv, e1, fun σ' rel' _ => q σ' H1 R1 rel' .refl⟩
  | _ => exact q.elim
theorem s_expr (C : Sok I G F X sc) {e : CE} {y : Expr} (hy : okE I sc e y = true) (hc : isComp y = false) : PS X (.Expr y pos) (RdS F (run G (.expr e))) :=
  psImp (ps_expr (ev_ok G I e C.toCok y hy).1 (swaps_no hc _ _ _)) fun D σ H ⟨Γ, R, rel, p⟩ => ⟨Γ, R, rel, (out_post rel p).mono fun v H1 ⟨s, R1, g, rv, q⟩ => q _ _ R1 (rel.grow g) .refl⟩
theorem s_ret (C : Sok I G F X sc) {e : CE} {y : Expr} (hy : okE I sc e y = true) : PS X (.Return (some y) pos) (RdS F (run G (.ret e))) :=
  psImp (ps_ret (ev_ok G I e C.toCok y hy).1) fun D σ H ⟨Γ, R, rel, p⟩ => ⟨Γ, R, rel, (out_post rel p).mono fun v H1 ⟨s, R1, g, rv, q⟩ => q _ _ _ _ R1 (rel.grow g) .refl (rv.le g.sub (le_f _))⟩
theorem s_retN : PS X (.Return none pos) (RdS F (run G .retN)) :=
  psImp ps_retN fun D σ H ⟨Γ, R, rel, p⟩ => p .non Γ σ H R rel .refl rfl
theorem s_if (C : Sok I G F X sc) {c : CE} {a b : List CS} {z : Expr} {p q : List Stmt} (hc : okE I sc c z = true) (ha : PSs X p (RdS F (runs G a))) (hb : PSs X q (RdS F (runs G b))) : PS X (.If z p q pos) (RdS F (run G (.ife c a b))) :=
  psImp (ps_if (ev_ok G I c C.toCok z hc).2 ha hb) fun D σ H ⟨Γ, R, rel, p⟩ => by
    have p : PostS F D R ((ev G c Γ).out Γ fun x => (isBl? x).out Γ fun r => if r then runs G a Γ else runs G b Γ) := p
    rw [out_bl] at p
    refine ⟨Γ, R, rel, (out_postB rel p).mono fun b H1 ⟨R1, g, q⟩ => ?_⟩
    cases b with
    | true => exact ⟨Γ, R1, rel.grow g, q⟩
    | false => exact ⟨Γ, R1, rel.grow g, q⟩
theorem s_aug (C : Sok I G F X sc) {i : Nat} {n : Str} {p : Pos} {op : BOp} {e : CE} {y : Expr} (h1 : I.N[i]? = some n) (h2 : locB sc n = true) (ho : op = .add ∨ op = .sub) (hy : okE I sc e y = true) : PS X (.AugAssign (.Name n p) (opOf op) y pos) (RdS F (run G (.aug i op e))) := by
  have Cc := C.toCok
  have he := (ev_ok G I e Cc y hy).1
  have key : ∀ {f : Int → Int → Int}, PIp X (opOf op) (ipI f) → (∀ a b, augop op (.d (.int a)) (.d (.int b)) = .ok (.d (.int (f a b)))) → PS X (.AugAssign (.Name n p) (opOf op) y pos) (RdS F (run G (.aug i op e))) := fun {f} hp hf =>
    psImp (ps_aug (xN Cc) (xi Cc h1) (loc_of Cc h2) he hp (loc_fn Cc h2)) fun D σ H ⟨Γ, R, rel, p⟩ => by
      have p : PostS F D R (shO Γ[i]? fun x => (ev G e Γ).out Γ fun y => (augop op x y).out Γ fun z => .nx (Γ.set i (.sh z))) := p
      cases e1 : Γ[i]? with
      | none => rw [e1] at p; exact p.elim
      | some b =>
      cases b with
      | no => rw [e1] at p; exact p.elim
      | ow _ => rw [e1] at p; exact p.elim
      | sh x =>
        rw [e1] at p
        have p : PostS F D R ((ev G e Γ).out Γ fun y => (augop op x y).out Γ fun z => .nx (Γ.set i (.sh z))) := p
        obtain ⟨v, e2, rv⟩ := rel.slot i x e1
        have sb := rel.sub
        refine ⟨v, e2, Γ, R, rel, (out_post rel p).mono fun w H1 ⟨s, R1, g, rw', q⟩ => ?_⟩
        have bad : ∀ {α : Prop}, PostS F D R1 ((Res.bad : Res SV).out Γ fun z => .nx (Γ.set i (.sh z))) → α := fun h => h.elim
        have cs : (augop op x s = .bad) ∨ ∃ a b, x = .d (.int a) ∧ s = .d (.int b) := by
          cases x with
          | d q1 =>
            cases s with
            | d q2 => cases q1 <;> cases q2 <;> first | exact .inr ⟨_, _, rfl, rfl⟩ | (left; cases op <;> rfl)
            | _ => cases q1 <;> (left; cases op <;> rfl)
          | _ => cases s <;> (left; cases op <;> rfl)
        rcases cs with e3 | ⟨a, b, rfl, rfl⟩
        · rw [e3] at q; exact q.elim
        · rw [hf] at q
          obtain rfl : v = .int a := rv
          obtain rfl := rw'.fint
          exact ⟨a, b, rfl, rfl, q _ _ R1 ((rel.grow g).set rfl) .refl⟩
  rcases ho with rfl | rfl
  · exact key ip_add fun _ _ => rfl
  · exact key ip_sub fun _ _ => rfl
theorem ow_cases {D : Ends} {R : Hp} {o : Option Bx} {k : List PV → Out} (p : PostS F D R (owL o k)) : ∃ xs, o = some (.ow (.d (.lst xs))) ∧ PostS F D R (k xs) := by
  cases o with
  | none => exact p.elim
  | some b =>
    cases b with
    | no => exact p.elim
    | sh _ => exact p.elim
    | ow s =>
      cases s with
      | d q =>
        cases q <;> first | exact p.elim | exact ⟨_, rfl, p⟩
      | _ => exact p.elim
theorem s_app (C : Sok I G F X sc) {i : Nat} {n : Str} {np apos cpos : Pos} {e : CE} {y : Expr} (h1 : I.N[i]? = some n) (h2 : visB sc n = true) (h3 : nmB n = true) (hy : okE I sc e y = true) (hm : md e = .e) (ht : tame y = true) (hl : (apos.endLine == cpos.line) = true) :
    PS X (.Expr (.Call (.Attribute (.Name n np) (Str.ofString "append") apos) [y] [] cpos) pos) (RdS F (run G (.app i e))) := by
  have Cc := C.toCok
  have he := (ev_ok G I e Cc y hy).1
  rw [hm] at he
  refine psImp (ps_expr (pe_bm PySem.F.plainAttrs_list PySem.F.slot_list_append PySem.F.type_list_append mt_append (pe_var (i := i) (xi Cc h1) (vis_of Cc h2) (nm_dest h3).1 (nm_dest h3).2.1) (pa_one ht he) rfl (by rw [starEach_tame ht]; rfl) hl (starEach_tame ht _ _) rfl)) fun D σ H ⟨Γ, R, rel, p⟩ => ?_
  obtain ⟨xs, e1, p⟩ := ow_cases p
  · obtain ⟨a, vs, ps, e0, f1, f2, f3, f4, f5, f6⟩ := rel.own i _ e1
    cases e0
    refine ⟨.ref a, f1, .inl ⟨rfl, vs, .of f2⟩, Γ, R, rel, (out_post rel p).mono fun w H1 ⟨s, R1, g, rw', q⟩ => ?_⟩
    cases s with
    | d z =>
      have q : PostS F D R1 (if xs.length < line then .nx (Γ.set i (.ow (.d (.lst (xs ++ [z]))))) else .bad) := q
      split at q
      · rename_i hz
        have r1 := rel.grow g
        refine ⟨a, vs, w, rfl, rfl, g.same _ _ f2, by rw [f3.len, ← line_eq]; exact hz, ?_⟩
        exact q _ _ R1 (r1.ownSet e1 f1 ((f3.mono g.reg).append (.one rw')) (by rw [List.length_append]; exact hz)) .refl
      · exact q.elim
    | _ => exact q.elim
theorem s_ext (C : Sok I G F X sc) {i : Nat} {n : Str} {np apos cpos : Pos} {e : CE} {y : Expr} (h1 : I.N[i]? = some n) (h2 : visB sc n = true) (h3 : nmB n = true) (hy : okE I sc e y = true) (hm : md e = .e) (ht : tame y = true) (hl : (apos.endLine == cpos.line) = true) :
    PS X (.Expr (.Call (.Attribute (.Name n np) (Str.ofString "extend") apos) [y] [] cpos) pos) (RdS F (run G (.ext i e))) := by
  have Cc := C.toCok
  have he := (ev_ok G I e Cc y hy).1
  rw [hm] at he
  refine psImp (ps_expr (pe_bm PySem.F.plainAttrs_list PySem.F.slot_list_extend PySem.F.type_list_extend mt_extend (pe_var (i := i) (xi Cc h1) (vis_of Cc h2) (nm_dest h3).1 (nm_dest h3).2.1) (pa_one ht he) rfl (by rw [starEach_tame ht]; rfl) hl (starEach_tame ht _ _) rfl)) fun D σ H ⟨Γ, R, rel, p⟩ => ?_
  obtain ⟨xs, e1, p⟩ := ow_cases p
  · obtain ⟨a, vs, ps, e0, f1, f2, f3, f4, f5, f6⟩ := rel.own i _ e1
    cases e0
    refine ⟨.ref a, f1, .inl ⟨rfl, vs, .of f2⟩, Γ, R, rel, (out_post rel p).mono fun w H1 ⟨s, R1, g, rw', q⟩ => ?_⟩
    cases s with
    | d z =>
      cases z with
      | lst zs =>
        have q : PostS F D R1 (if xs.length + zs.length ≤ line then .nx (Γ.set i (.ow (.d (.lst (xs ++ zs))))) else .bad) := q
        split at q
        · rename_i hz
          have r1 := rel.grow g
          obtain ⟨b, ws, rfl, k1, k2, k3⟩ : ∃ b ws, w = .ref b ∧ R1 b = some (.lst ws) ∧ zs.length ≤ line ∧ RpL F.K R1 zs ws := rw'
          refine ⟨a, b, vs, ws, rfl, rfl, g.same _ _ f2, g.sub _ _ k1, by rw [f3.len, k3.len, ← line_eq]; exact hz, ?_⟩
          exact q _ _ R1 (r1.ownSet e1 f1 ((f3.mono g.reg).append k3) (by rw [List.length_append]; exact hz)) .refl
        · exact q.elim
      | _ => exact q.elim
    | _ => exact q.elim
/-! ### loops -/
noncomputable def forF (G : Ctx) (t : CT) (body : List CS) : PV → Gm → Out := fun x Γ => oout (bindT t x Γ) fun Γ' => runs G body Γ'
theorem s_for (C : Sok I G F X sc) {t : CT} {it : CI} {body : List CS} {tg iter : Expr} {b : List Stmt} (hi : okI I sc it tg iter = true) (hm : mdI it = .e) (ht : okT I sc t tg = true) (hb : PSs X b (RdS F (runs G body))) (htm : tame iter = true) :
    PS X (.For tg iter b [] pos) (RdS F (run G (.for t it body))) := by
  have Cc := C.toCok
  have hI := evI_ok G I it Cc _ _ hi
  rw [hm] at hI
  refine psImp (ps_for C.pass C.calm hI (g_ok Cc t _ ht) hb (fun x => folded_tame htm _ x)) fun D σ H ⟨Γ, R, rel, p⟩ => ⟨Γ, R, rel, ?_⟩
  have p : PostS F D R ((evI G it Γ).out Γ fun xs => forR (forF G t body) xs Γ) := p
  cases e1 : evI G it Γ with
  | bad => rw [e1] at p; exact p.elim
  | exc c => rw [e1] at p; exact fun H1 R1 g => p σ H1 R1 (rel.grow g) g.reg
  | ok xs =>
    rw [e1] at p
    have p : PostS F D R (forR (forF G t body) xs Γ) := p
    intro J H1 R1 g1 wl len
    refine ⟨fun i m σ' H' => m = xs.length - i ∧ i ≤ xs.length ∧ ∃ Γ' R', RelR F.K F.H0 F.R0 R' Γ' σ' H' ∧ Sub R1 R' ∧ PostS F D R' (forR (forF G t body) (xs.drop i) Γ'), ⟨_, rfl, Nat.zero_le _, Γ, R1, rel.grow g1, .refl, p.sub g1.reg⟩, ?_⟩
    rintro i m σ' H' ⟨hm, hi, Γ', R', rel', sb, q⟩
    have wk := wl H' R' (sb.trans rel'.sub) sb rel'.sub i
    cases ex : xs[i]? with
    | none =>
      rw [List.drop_eq_nil_of_le (List.getElem?_eq_none_iff.mp ex)] at q
      exact .inl ⟨wk.2 ex, q σ' H' R' rel' .refl⟩
    | some px =>
      have hlt : i < xs.length := (List.getElem?_eq_some_iff.mp ex).1
      obtain ⟨go, yl⟩ := wk.1 px ex
      have e3 : xs.drop i = px :: xs.drop (i + 1) := by
        rw [List.drop_eq_getElem_cons hlt]
        congr 1
        exact (List.getElem?_eq_some_iff.mp ex).2
      rw [e3] at q
      have q : PostS F D R' ((forF G t body px Γ').loop fun Γ' => forR (forF G t body) (xs.drop (i + 1)) Γ') := q
      refine .inr ⟨go, fun σ' H' => xs.length - (i + 1) = xs.length - (i + 1) ∧ i + 1 ≤ xs.length ∧ ∃ Γ' R', RelR F.K F.H0 F.R0 R' Γ' σ' H' ∧ Sub R1 R' ∧ PostS F D R' (forR (forF G t body) (xs.drop (i + 1)) Γ'), fun σ' H' w => ⟨_, by omega, w⟩, ?_⟩
      intro x H2 hy
      obtain ⟨R2, g2, rx⟩ := yl x H2 hy
      have q := q.sub g2.reg
      unfold forF at q
      cases e4 : bindT t px Γ' with
      | none => rw [e4] at q; exact q.elim
      | some Γ2 =>
        rw [e4] at q
        refine ⟨Γ', R2, px, Γ2, rel'.grow g2, rx, e4, fun σ2 rel2 _ => ⟨Γ2, R2, rel2, ?_⟩⟩
        exact PostS.loop (o := runs G body Γ2) q fun σ3 H3 Γ3 R3 r3 s3 q3 => ⟨rfl, hlt, Γ3, R3, r3, (sb.trans g2.reg).trans s3, q3⟩
theorem s_while (C : Sok I G F X sc) {c : CE} {body : List CS} {z : Expr} {b : List Stmt} (hc : okE I sc c z = true) (hb : PSs X b (RdS F (runs G body))) : PS X (.While z b [] pos) (RdS F (run G (.while c body))) := by
  have Cc := C.toCok
  refine psImp (ps_while C.pass (ev_ok G I c Cc z hc).2 hb) fun D σ H ⟨Γ, R, rel, p⟩ => ?_
  have p : PostS F D R (whileR (fun Γ => (ev G c Γ).bind isBl?) (fun Γ => runs G body Γ) Γ) := p
  obtain ⟨n, hn⟩ : ∃ n, wit (fun Γ => (ev G c Γ).bind isBl?) (fun Γ => runs G body Γ) n Γ ≠ .bad := by
    refine Classical.byContradiction fun h => ?_
    unfold whileR at p
    rw [dif_neg h] at p
    exact p
  rw [while_of hn] at p
  refine ⟨fun m σ' H' => ∃ Γ' R', RelR F.K F.H0 F.R0 R' Γ' σ' H' ∧ PostS F D R' (wit (fun Γ => (ev G c Γ).bind isBl?) (fun Γ => runs G body Γ) m Γ'), ⟨n, Γ, R, rel, p⟩, ?_⟩
  rintro m σ' H' ⟨Γ', R', rel', q⟩
  cases m with
  | zero => exact q.elim
  | succ m =>
    have q : PostS F D R' (((ev G c Γ').bind isBl?).out Γ' fun b => if b then (runs G body Γ').loop fun Γ' => wit (fun Γ => (ev G c Γ).bind isBl?) (fun Γ => runs G body Γ) m Γ' else .nx Γ') := q
    refine ⟨Γ', R', rel', (out_postB rel' q).mono fun b H1 ⟨R1, g, q⟩ => ?_⟩
    cases b with
    | false => exact q σ' H1 R1 (rel'.grow g) .refl
    | true =>
      exact ⟨fun σ3 H3 => ∃ Γ' R', RelR F.K F.H0 F.R0 R' Γ' σ3 H3 ∧ PostS F D R' (wit (fun Γ => (ev G c Γ).bind isBl?) (fun Γ => runs G body Γ) m Γ'), fun σ3 H3 w => ⟨m, Nat.lt_succ_self m, w⟩, Γ', R1, rel'.grow g,
        PostS.loop (o := runs G body Γ') q fun σ3 H3 Γ3 R3 r3 s3 q3 => ⟨Γ3, R3, r3, q3⟩⟩
/-! ### stores from the right -/
theorem kind_loc (C : Cok I G F X sc) {n : Str} (h : (sc.names.lookup n == some .local) = true) : X.env.scope.names.lookup n = some .local := loc_env C (by simpa using h)
theorem star_no {y : Expr} (h : tame y = true) : ((fun | .Starred .. => true | _ => false : Expr → Bool) y) = false := by
  cases y <;> first | rfl | cases h
theorem sw2 {env : PySem.Env} {n m : Str} {px py pt p2 : Pos} {kt k2 : Nat} {y z : Expr} (hb : env.blockKind = .function) (k1 : env.kindOf n = some .local) (k2' : env.kindOf m = some .local) (hne : n ≠ m) (hl : py.line = px.line) (ty : tame y = true) (tz : tame z = true) (hf : foldsE [y, z] = false) :
    swappedStores [.Tuple [.Name n px, .Name m py] kt pt] (.Tuple [y, z] k2 p2) env = pure (some [n, m]) := by
  unfold foldsE at hf
  rw [Bool.or_eq_false_iff] at hf
  have st : ([y, z].any fun | .Starred .. => true | _ => false) = false := by
    rw [List.any_cons, List.any_cons, List.any_nil]
    exact Bool.or_eq_false_iff.mpr ⟨star_no ty, Bool.or_eq_false_iff.mpr ⟨star_no tz, rfl⟩⟩
  have nd : [n, m].eraseDups = [n, m] := by
    have : (m == n) = false := by simpa using Ne.symm hne
    simp [List.eraseDups_cons, this]
  have hh : ((Option.map (fun x : Expr => x.pos.line) [Expr.Name n px, Expr.Name m py].head?).getD 0) = px.line := rfl
  unfold swappedStores
  simp only [List.length_cons, List.length_nil]
  rw [hb, if_neg (by decide), if_neg (by rw [Bool.not_eq_true]; exact st)]
  simp only [hh, List.filterMap_cons, List.filterMap_nil, k1, k2', hl, beq_self_eq_true, Bool.and_self, if_true, nd, hf.1, hf.2]
  rw [if_neg (by simp), if_neg (by simp), if_neg (by simp)]
theorem sw3 {env : PySem.Env} {n m o : Str} {px py pz pt p2 : Pos} {kt k2 : Nat} {y z w : Expr} (hb : env.blockKind = .function) (k1 : env.kindOf n = some .local) (k2' : env.kindOf m = some .local) (k3 : env.kindOf o = some .local) (hne : n ≠ m) (hno : n ≠ o) (hmo : m ≠ o) (hl : py.line = px.line) (hl2 : pz.line = px.line) (ty : tame y = true) (tz : tame z = true) (tw : tame w = true) (hf : foldsE [y, z, w] = false) :
    swappedStores [.Tuple [.Name n px, .Name m py, .Name o pz] kt pt] (.Tuple [y, z, w] k2 p2) env = pure (some [n, m, o]) := by
  unfold foldsE at hf
  rw [Bool.or_eq_false_iff] at hf
  have st : ([y, z, w].any fun | .Starred .. => true | _ => false) = false := by
    rw [List.any_cons, List.any_cons, List.any_cons, List.any_nil]
    exact Bool.or_eq_false_iff.mpr ⟨star_no ty, Bool.or_eq_false_iff.mpr ⟨star_no tz, Bool.or_eq_false_iff.mpr ⟨star_no tw, rfl⟩⟩⟩
  have nd : [n, m, o].eraseDups = [n, m, o] := by
    have e1 : (m == n) = false := by simpa using Ne.symm hne
    have e2 : (o == n) = false := by simpa using Ne.symm hno
    have e3 : (o == m) = false := by simpa using Ne.symm hmo
    simp [List.eraseDups_cons, e1, e2, e3]
  have hh : ((Option.map (fun x : Expr => x.pos.line) [Expr.Name n px, Expr.Name m py, Expr.Name o pz].head?).getD 0) = px.line := rfl
  unfold swappedStores
  simp only [List.length_cons, List.length_nil]
  rw [hb, if_neg (by decide), if_neg (by rw [Bool.not_eq_true]; exact st)]
  simp only [hh, List.filterMap_cons, List.filterMap_nil, k1, k2', k3, hl, hl2, beq_self_eq_true, Bool.and_self, if_true, nd, hf.1, hf.2]
  rw [if_neg (by simp), if_neg (by simp), if_neg (by simp)]
theorem rms_data2 {R H : Hp} {ss : List SV} {v : List V} (h : Rms F R H .e ss v) : RpSs F.K R ss v := rms_e h
theorem s_par2 (C : Sok I G F X sc) {i j : Nat} {a b : CE} {n m : Str} {px py pt p2 : Pos} {kt k2 : Nat} {y z : Expr} (h1 : I.N[i]? = some n) (h2 : I.N[j]? = some m) (h3 : n ≠ m) (h4 : i ≠ j) (h5 : (sc.names.lookup n == some .local) = true) (h6 : (sc.names.lookup m == some .local) = true) (h7 : (px.line == py.line) = true)
    (h8 : foldsE [y, z] = false) (h9 : okL I sc [a, b] [y, z] = true) (hm : mdL [a, b] = .e) : PS X (.Assign [.Tuple [.Name n px, .Name m py] kt pt] (.Tuple [y, z] k2 p2) pos) (RdS F (run G (.par [i, j] [a, b]))) := by
  have Cc := C.toCok
  have ha := evL_ok G I [a, b] Cc _ h9
  rw [hm] at ha
  have tm := okL_tame h9
  simp only [List.all_cons, List.all_nil, Bool.and_eq_true, Bool.and_true] at tm
  have k1 := kind_loc Cc h5
  have k2' := kind_loc Cc h6
  refine psImp (ps_par C.calm (xN Cc) (xi Cc h1) (xi Cc h2) h4 k1 k2' ha (sw2 C.bk k1 k2' h3 (eq_of_beq h7).symm tm.1 tm.2 h8)) fun D σ H ⟨Γ, R, rel, p⟩ => ⟨Γ, R, rel, ?_⟩
  have p : PostS F D R ((evL G [a, b] Γ).out Γ fun ss => .nx (sets [i, j] ss Γ)) := p
  have q := out_postL (m := .e) rel p
  cases e1 : evL G [a, b] Γ with
  | bad => rw [e1] at q; exact q
  | exc c => rw [e1] at q; exact q
  | ok ss =>
    rw [e1] at q
    intro vs H1 R1 g rv
    obtain ⟨ss', R2, e2, g2, rv2, q⟩ := q vs H1 R1 g rv
    cases e2
    have hl := evL_len e1
    match ss, hl, rv2, q with
    | [s, t], _, ⟨v, _, ev, rs, w, _, ew, rt, en⟩, q =>
      subst ew
      rw [show _ = [] from en] at ev
      exact ⟨v, w, ev, q _ H1 R2 (((rel.grow g2).set rs).set rt) .refl⟩
theorem s_par3 (C : Sok I G F X sc) {i j l : Nat} {a b c : CE} {n m o : Str} {px py pz pt p2 : Pos} {kt k2 : Nat} {y z w : Expr} (h1 : I.N[i]? = some n) (h2 : I.N[j]? = some m) (h2' : I.N[l]? = some o) (h3 : n ≠ m) (h3' : n ≠ o) (h3'' : m ≠ o) (h4 : i ≠ j) (h4' : i ≠ l) (h4'' : j ≠ l) (h5 : (sc.names.lookup n == some .local) = true) (h6 : (sc.names.lookup m == some .local) = true) (h6' : (sc.names.lookup o == some .local) = true) (h7 : (px.line == py.line) = true) (h7' : (px.line == pz.line) = true)
    (h8 : foldsE [y, z, w] = false) (h9 : okL I sc [a, b, c] [y, z, w] = true) (hm : mdL [a, b, c] = .e) : PS X (.Assign [.Tuple [.Name n px, .Name m py, .Name o pz] kt pt] (.Tuple [y, z, w] k2 p2) pos) (RdS F (run G (.par [i, j, l] [a, b, c]))) := by
  have Cc := C.toCok
  have ha := evL_ok G I [a, b, c] Cc _ h9
  rw [hm] at ha
  have tm := okL_tame h9
  simp only [List.all_cons, List.all_nil, Bool.and_eq_true, Bool.and_true] at tm
  have k1 := kind_loc Cc h5
  have k2' := kind_loc Cc h6
  have k3 := kind_loc Cc h6'
  refine psImp (ps_par3 C.calm (xN Cc) (xi Cc h1) (xi Cc h2) (xi Cc h2') h4 h4' h4'' k1 k2' k3 ha (sw3 C.bk k1 k2' k3 h3 h3' h3'' (eq_of_beq h7).symm (eq_of_beq h7').symm tm.1 tm.2.1 tm.2.2 h8)) fun D σ H ⟨Γ, R, rel, p⟩ => ⟨Γ, R, rel, ?_⟩
  have p : PostS F D R ((evL G [a, b, c] Γ).out Γ fun ss => .nx (sets [i, j, l] ss Γ)) := p
  have q := out_postL (m := .e) rel p
  cases e1 : evL G [a, b, c] Γ with
  | bad => rw [e1] at q; exact q
  | exc c => rw [e1] at q; exact q
  | ok ss =>
    rw [e1] at q
    intro vs H1 R1 g rv
    obtain ⟨ss', R2, e2, g2, rv2, q⟩ := q vs H1 R1 g rv
    cases e2
    have hl := evL_len e1
    match ss, hl, rv2, q with
    | [s, t, u], _, ⟨v, _, ev, rs, w, _, ew, rt, x, _, ex, ru, en⟩, q =>
      subst ex
      subst ew
      rw [show _ = [] from en] at ev
      exact ⟨v, w, x, ev, q _ H1 R2 ((((rel.grow g2).set rs).set rt).set ru) .refl⟩
theorem rdow_mono {os : List Bool} {g : Gm → Res (List SV)} {σ : L2.St} {H : Hp} {Q Q' : List V → Hp → Prop} (h : RdOw F os g σ H Q) (i : ∀ vs H, Q vs H → Q' vs H) : RdOw F os g σ H Q' := by
  obtain ⟨Γ, R, rel, p⟩ := h
  refine ⟨Γ, R, rel, ?_⟩
  cases e : g Γ with
  | bad => rw [e] at p; exact p
  | exc c => rw [e] at p; exact p
  | ok ss => rw [e] at p; exact fun vs H' R' gr rm => i _ _ (p vs H' R' gr rm)
theorem s_parO2 (C : Sok I G F X sc) {i j : Nat} {o1 o2 : Bool} {a b : CE} {n m : Str} {px py pt p2 : Pos} {kt k2 : Nat} {y z : Expr} (h1 : I.N[i]? = some n) (h2 : I.N[j]? = some m) (h3 : n ≠ m) (h4 : i ≠ j) (h5 : (sc.names.lookup n == some .local) = true) (h6 : (sc.names.lookup m == some .local) = true) (h7 : (px.line == py.line) = true)
    (h8 : foldsE [y, z] = false) (h9 : okLO I sc [o1, o2] [a, b] [y, z] = true) (ty : tame y = true) (tz : tame z = true) : PS X (.Assign [.Tuple [.Name n px, .Name m py] kt pt] (.Tuple [y, z] k2 p2) pos) (RdS F (run G (.parO [i, j] [o1, o2] [a, b]))) := by
  have Cc := C.toCok
  have k1 := kind_loc Cc h5
  have k2' := kind_loc Cc h6
  refine psImp (ps_par C.calm (xN Cc) (xi Cc h1) (xi Cc h2) h4 k1 k2' (po_ok Cc h9) (sw2 C.bk k1 k2' h3 (eq_of_beq h7).symm ty tz h8)) fun D σ H h => ?_
  refine rdow_mono (parO_post [i, j] rfl h) fun vs H1 ⟨hl, q⟩ => ?_
  match vs, hl, q with
  | [v, w], _, q => exact ⟨v, w, rfl, q⟩
theorem s_parO3 (C : Sok I G F X sc) {i j l : Nat} {o1 o2 o3 : Bool} {a b c : CE} {n m o : Str} {px py pz pt p2 : Pos} {kt k2 : Nat} {y z w : Expr} (h1 : I.N[i]? = some n) (h2 : I.N[j]? = some m) (h2' : I.N[l]? = some o) (h3 : n ≠ m) (h3' : n ≠ o) (h3'' : m ≠ o) (h4 : i ≠ j) (h4' : i ≠ l) (h4'' : j ≠ l) (h5 : (sc.names.lookup n == some .local) = true) (h6 : (sc.names.lookup m == some .local) = true) (h6' : (sc.names.lookup o == some .local) = true) (h7 : (px.line == py.line) = true) (h7' : (px.line == pz.line) = true)
    (h8 : foldsE [y, z, w] = false) (h9 : okLO I sc [o1, o2, o3] [a, b, c] [y, z, w] = true) (ty : tame y = true) (tz : tame z = true) (tw : tame w = true) : PS X (.Assign [.Tuple [.Name n px, .Name m py, .Name o pz] kt pt] (.Tuple [y, z, w] k2 p2) pos) (RdS F (run G (.parO [i, j, l] [o1, o2, o3] [a, b, c]))) := by
  have Cc := C.toCok
  have k1 := kind_loc Cc h5
  have k2' := kind_loc Cc h6
  have k3 := kind_loc Cc h6'
  refine psImp (ps_par3 C.calm (xN Cc) (xi Cc h1) (xi Cc h2) (xi Cc h2') h4 h4' h4'' k1 k2' k3 (po_ok Cc h9) (sw3 C.bk k1 k2' k3 h3 h3' h3'' (eq_of_beq h7).symm (eq_of_beq h7').symm ty tz tw h8)) fun D σ H h => ?_
  refine rdow_mono (parO_post [i, j, l] rfl h) fun vs H1 ⟨hl, q⟩ => ?_
  match vs, hl, q with
  | [v, w, x], _, q => exact ⟨v, w, x, rfl, q⟩
theorem s_parOn (C : Sok I G F X sc) {is : List Nat} {os : List Bool} {as : List CE} {xs ys : List Expr} {kt k2 : Nat} {pt p2 : Pos} (h1 : okTs I sc (nmTs is) xs = true) (h2 : okLO I sc os as ys = true) (h3 : noSwap sc xs = true) (h4 : is.length = os.length) (h5 : os.length ≤ 1000) : PS X (.Assign [.Tuple xs kt pt] (.Tuple ys k2 p2) pos) (RdS F (run G (.parO is os as))) := by
  have Cc := C.toCok
  have ea := okTs_each (env := X.env) h1
  refine psImp (ps_asg (pe_tup (po_ok Cc h2)) (pg_tup C.calm (gn_ok Cc is xs h1) ea.1 ea.2) rfl (swap_none C (by rw [h3, Bool.or_true]))) fun D σ H h => ?_
  refine rdow_mono (parO_postT is h4 h) fun vs H1 ⟨hl, q⟩ => ⟨by rw [hl]; unfold sizeLine; omega, fun p hp => ⟨p, vs, rfl, .inl (.of (upd_same ..)), by rw [hl, ← h4]; exact (List.length_map ..).symm, gn_of (by rw [hl, h4]) (q p hp)⟩⟩
mutual
theorem run_ok (G : Ctx) (I : Inf) : ∀ (s : CS) {F : Fr} {X : Cx} {sc : Scope} (C : Sok I G F X sc) (x : Stmt), okS I sc s x = true → PS X x (RdS F (run G s))
  | .expr e, F, X, sc, C, x, h => by
    unfold okS at h
    split at h
    · rw [Bool.and_eq_true, Bool.not_eq_true'] at h
      exact s_expr C h.1 h.2
    · cases h
  | .set t e, F, X, sc, C, x, h => by
    unfold okS at h
    cases t with
    | name i =>
      dsimp only at h
      split at h
      · simp only [Bool.and_eq_true, decide_eq_true_eq] at h
        exact s_set C h.1.1.1.1 h.1.1.1.2 h.1.1.2 (by simpa using h.1.2) h.2
      · cases h
    | tup ts =>
      dsimp only at h
      split at h
      · simp only [Bool.and_eq_true, Bool.not_eq_true'] at h
        exact s_tup C h.1.1.1 h.1.1.2 (by simpa using h.1.2) (by simpa using h.2)
      · cases h
  | .par is es, F, X, sc, C, x, h => by
    unfold okS at h
    split at h
    · simp only [Bool.and_eq_true, decide_eq_true_eq, Bool.not_eq_true'] at h
      obtain ⟨⟨⟨⟨⟨⟨⟨⟨⟨h1, h2⟩, h3⟩, h4⟩, h5⟩, h6⟩, h7⟩, h8⟩, h9⟩, h10⟩ := h
      exact s_par2 C h1 h2 h3 h4 h5 h6 h7 h8 h9 (by simpa using h10)
    · simp only [Bool.and_eq_true, decide_eq_true_eq, Bool.not_eq_true'] at h
      obtain ⟨⟨⟨⟨⟨⟨⟨⟨⟨⟨⟨⟨⟨⟨⟨⟨h1, h2⟩, h2'⟩, h3⟩, h3'⟩, h3''⟩, h4⟩, h4'⟩, h4''⟩, h5⟩, h6⟩, h6'⟩, h7⟩, h7'⟩, h8⟩, h9⟩, h10⟩ := h
      exact s_par3 C h1 h2 h2' h3 h3' h3'' h4 h4' h4'' h5 h6 h6' h7 h7' h8 h9 (by simpa using h10)
    · cases h
  | .parO is os es, F, X, sc, C, x, h => by
    unfold okS at h
    rw [Bool.or_eq_true] at h
    rcases h with h | h
    · split at h
      · simp only [Bool.and_eq_true, decide_eq_true_eq, Bool.not_eq_true'] at h
        obtain ⟨⟨⟨⟨⟨⟨⟨⟨⟨h1, h2⟩, h3⟩, h4⟩, h5⟩, h6⟩, h7⟩, h8⟩, h9⟩, h10, h11⟩ := h
        exact s_parO2 C h1 h2 h3 h4 h5 h6 h7 h8 h9 h10 h11
      · simp only [Bool.and_eq_true, decide_eq_true_eq, Bool.not_eq_true'] at h
        obtain ⟨⟨⟨⟨⟨⟨⟨⟨⟨⟨⟨⟨⟨⟨⟨⟨h1, h2⟩, h2'⟩, h3⟩, h3'⟩, h3''⟩, h4⟩, h4'⟩, h4''⟩, h5⟩, h6⟩, h6'⟩, h7⟩, h7'⟩, h8⟩, h9⟩, ⟨h10, h11⟩, h12⟩ := h
        exact s_parO3 C h1 h2 h2' h3 h3' h3'' h4 h4' h4'' h5 h6 h6' h7 h7' h8 h9 h10 h11 h12
      · cases h
    · split at h
      · simp only [Bool.and_eq_true, decide_eq_true_eq] at h
        exact s_parOn C h.1.1.1.1 h.1.1.1.2 h.1.1.2 h.1.2 h.2
      · cases h
  | .own i e, F, X, sc, C, x, h => by
    unfold okS at h
    split at h
    · simp only [Bool.and_eq_true, decide_eq_true_eq] at h
      exact s_own C h.1.1 h.1.2 h.2
    · cases h
  | .frz _, F, X, sc, C, x, h => by unfold okS at h; cases h
  | .aug i op e, F, X, sc, C, x, h => by
    unfold okS at h
    split at h
    · simp only [Bool.and_eq_true, Bool.or_eq_true, decide_eq_true_eq] at h
      obtain ⟨⟨⟨⟨h1, h2⟩, rfl⟩, h4⟩, h5⟩ := h
      exact s_aug C h1 h2 h4 h5
    · cases h
  | .app i e, F, X, sc, C, x, h => by
    unfold okS at h
    split at h
    · simp only [Bool.and_eq_true, decide_eq_true_eq] at h
      obtain ⟨⟨⟨⟨⟨⟨⟨h1, h2⟩, h3⟩, rfl⟩, h4⟩, h5⟩, h6⟩, h7⟩ := h
      exact s_app C h1 h2 h3 h4 (by simpa using h5) h6 h7
    · cases h
  | .ext i e, F, X, sc, C, x, h => by
    unfold okS at h
    split at h
    · simp only [Bool.and_eq_true, decide_eq_true_eq] at h
      obtain ⟨⟨⟨⟨⟨⟨⟨h1, h2⟩, h3⟩, rfl⟩, h4⟩, h5⟩, h6⟩, h7⟩ := h
      exact s_ext C h1 h2 h3 h4 (by simpa using h5) h6 h7
    · cases h
  | .ife c a b, F, X, sc, C, x, h => by
    unfold okS at h
    split at h
    · simp only [Bool.and_eq_true] at h
      exact s_if C h.1.1 (runs_ok G I a C _ h.1.2) (runs_ok G I b C _ h.2)
    · cases h
  | .for t it body, F, X, sc, C, x, h => by
    unfold okS at h
    split at h
    · simp only [Bool.and_eq_true] at h
      exact s_for C h.1.1.1.1 (by simpa using h.1.1.1.2) h.1.1.2 (runs_ok G I body C _ h.1.2) h.2
    · cases h
  | .while c body, F, X, sc, C, x, h => by
    unfold okS at h
    split at h
    · simp only [Bool.and_eq_true] at h
      exact s_while C h.1 (runs_ok G I body C _ h.2)
    · cases h
  | .ret e, F, X, sc, C, x, h => by
    unfold okS at h
    split at h
    · exact s_ret C h
    · cases h
  | .retN, F, X, sc, C, x, h => by
    unfold okS at h
    split at h
    · exact s_retN
    · cases h
  | .brk, F, X, sc, C, x, h => by
    unfold okS at h
    split at h
    · exact psImp ps_break fun D σ H ⟨Γ, R, rel, p⟩ => p σ H R rel .refl
    · cases h
  | .cont, F, X, sc, C, x, h => by
    unfold okS at h
    split at h
    · exact psImp ps_continue fun D σ H ⟨Γ, R, rel, p⟩ => p σ H R rel .refl
    · cases h
  | .pass, F, X, sc, C, x, h => by
    unfold okS at h
    split at h
    · exact psImp ps_pass fun D σ H ⟨Γ, R, rel, p⟩ => p σ H R rel .refl
    · cases h
  | .never, F, X, sc, C, x, h => psImp ps_never fun D σ H ⟨Γ, R, rel, p⟩ => p
  | .raise k, F, X, sc, C, x, h => by
    unfold okS at h
    split at h
    · simp only [Bool.and_eq_true, decide_eq_true_eq] at h
      exact s_raise C h.1.1 h.1.2 h.2
    · cases h
  | .try body hs, F, X, sc, C, x, h => by
    unfold okS at h
    split at h
    · simp only [Bool.and_eq_true] at h
      exact s_try C (fun C' => runs_ok G I body C' _ h.1) h.2
    · cases h
theorem runs_ok (G : Ctx) (I : Inf) : ∀ (ss : List CS) {F : Fr} {X : Cx} {sc : Scope} (C : Sok I G F X sc) (xs : List Stmt), okSs I sc ss xs = true → PSs X xs (RdS F (runs G ss))
  | [], F, X, sc, C, xs, h => by
    unfold okSs at h
    cases xs with
    | nil => exact pssImp pss_nil fun D σ H ⟨Γ, R, rel, p⟩ => p σ H R rel .refl
    | cons _ _ => cases h
  | s :: ss, F, X, sc, C, xs, h => by
    unfold okSs at h
    split at h
    · rename_i i
      refine pssImp (runs_ok G I ss C xs h) fun D σ H ⟨Γ, R, rel, p⟩ => ?_
      have p : PostS F D R ((owO Γ[i]? fun s => Out.nx (Γ.set i (.sh s))).next fun Γ' => runs G ss Γ') := p
      cases e : Γ[i]? with
      | none => rw [e] at p; exact p.elim
      | some b =>
        cases b with
        | no => rw [e] at p; exact p.elim
        | sh _ => rw [e] at p; exact p.elim
        | ow s =>
          rw [e] at p
          obtain ⟨R', sb, rel'⟩ := rel.frz e
          exact ⟨_, R', rel', PostS.sub (o := runs G ss (Γ.set i (.sh s))) p sb⟩
    · split at h
      · cases h
      · rw [Bool.and_eq_true] at h
        exact pssImp (pss_cons (run_ok G I s C _ h.1) (runs_ok G I ss C _ h.2)) fun D σ H ⟨Γ, R, rel, p⟩ => ⟨Γ, R, rel, PostS.next (o := run G s Γ) p⟩
end
end
end Bw
end

section
set_option autoImplicit false
set_option linter.all false
/-! Bw Z: defs; the law. -/
namespace Bw
open PySem L2 PyProof.Rows PySem.Spec
section
variable {P : Program} {w : World} {K : Fr'} {mg : Str → Option Value} {base : Heap} {cls : Nat → Value}
/-- a def that may be called, at the depth l -/
def Cal (P : Program) (w : World) (K : Fr') (mg : Str → Option Value) (base : Heap) (cls : Nat → Value) (l : Nat) (x : Str) (Φ : List SV → Res SV) : Prop :=
  ∃ f fd ps, mg x = some (.ref f) ∧ PySem.W.keepIn K (.ref f) = true ∧ Binds K fd ps [] ∧ (∀ ss, Φ ss ≠ .bad → ss.length = ps.length) ∧ FnOk P w K mg base (L2.CX P w) l f fd ps (spT K cls ps.length Φ)
theorem Cal.mono {l l' : Nat} {x : Str} {Φ : List SV → Res SV} (h : Cal P w K mg base cls l x Φ) (q : l ≤ l') : Cal P w K mg base cls l' x Φ := by
  obtain ⟨f, fd, ps, e1, e2, e3, e4, e5⟩ := h
  exact ⟨f, fd, ps, e1, e2, e3, e4, e5.mono q⟩
/-- names with what they are worth, one by one -/
def Cals (P : Program) (w : World) (K : Fr') (mg : Str → Option Value) (base : Heap) (cls : Nat → Value) (l : Nat) : List Str → List (List SV → Res SV) → Prop
  | [], _ => True
  | x :: xs, Φs => ∃ Φ Φs', Φs = Φ :: Φs' ∧ Cal P w K mg base cls l x Φ ∧ Cals P w K mg base cls l xs Φs'
theorem Cals.get {l : Nat} : ∀ {xs : List Str} {Φs : List (List SV → Res SV)} {k : Nat} {x : Str}, Cals P w K mg base cls l xs Φs → xs[k]? = some x → ∃ Φ, Φs[k]? = some Φ ∧ Cal P w K mg base cls l x Φ
  | x :: _, _, 0, _, ⟨Φ, Φs, e, c, _⟩, h => by subst e; simp at h; subst h; exact ⟨Φ, rfl, c⟩
  | _ :: _, _, k + 1, _, ⟨Φ, Φs, e, _, c⟩, h => by
    subst e
    obtain ⟨Ψ, e1, e2⟩ := Cals.get (k := k) c (by simpa using h)
    exact ⟨Ψ, by simpa using e1, e2⟩
/-- constants of the module -/
def Con (K : Fr') (mg : Str → Option Value) (x : Str) (s : SV) : Prop := ∃ u v, mg x = some u ∧ RelV v u ∧ ∀ R, RpS K R s v
def Cons (K : Fr') (mg : Str → Option Value) : List Str → List SV → Prop
  | [], _ => True
  | x :: xs, ss => ∃ s ss', ss = s :: ss' ∧ Con K mg x s ∧ Cons K mg xs ss'
theorem Cons.get : ∀ {xs : List Str} {ss : List SV} {k : Nat} {x : Str} {s : SV}, Cons K mg xs ss → xs[k]? = some x → ss[k]? = some s → Con K mg x s
  | x :: _, _, 0, _, _, ⟨t, ts, e, c, _⟩, h, h2 => by subst e; simp at h h2; subst h; subst h2; exact c
  | _ :: _, _, k + 1, _, _, ⟨t, ts, e, _, c⟩, h, h2 => by
    subst e
    exact Cons.get (k := k) c (by simpa using h) (by simpa using h2)
theorem rpss_len {R : Hp} : ∀ {ss : List SV} {vs : List V}, RpSs K R ss vs → vs.length = ss.length
  | [], _, r => by rw [show _ = [] from r]; rfl
  | _ :: _, _, ⟨v, ws, e, _, rs⟩ => by rw [e]; simp [rpss_len rs]
theorem rpss_get {R : Hp} : ∀ {ss : List SV} {vs : List V} {i : Nat} {s : SV}, RpSs K R ss vs → ss[i]? = some s → ∃ v, vs[i]? = some v ∧ RpS K R s v
  | s :: _, _, 0, _, ⟨v, ws, e, r, rs⟩, h => by subst e; simp at h; subst h; exact ⟨v, rfl, r⟩
  | _ :: _, _, i + 1, _, ⟨v, ws, e, r, rs⟩, h => by
    subst e
    obtain ⟨v, h1, h2⟩ := rpss_get (i := i) rs (by simpa using h)
    exact ⟨v, by simpa using h1, h2⟩
/-- the classes of errors, and which is below which -/
def Excs (K : Fr') (mg : Str → Option Value) (cls : Nat → Value) (xs : List Str) (sub : Nat → Nat → Option Bool) : Prop :=
  (∀ (k : Nat) (x : Str), xs[k]? = some x → ExcAt K mg (cls k) x) ∧ (∀ (j k : Nat) (b : Bool), sub j k = some b → PySem.W.exmOne K (cls j) (cls k) = some b)
theorem excs_no {cls : Nat → Value} : Excs K mg cls [] (fun _ _ => none) := And.intro (fun k x h => by simp at h) (fun j k b h => by cases h)
theorem exm_mk {j k : Addr} {b : Bool} (bk : PySem.W.subIn K (.ref k) (.type "BaseException") = some true) (ik : PySem.W.isClsIn K k = true) (tk : PySem.W.typeIn K (.ref k) = some (.type "type")) (s : PySem.W.subIn K (.ref j) (.ref k) = some b) :
    PySem.W.exmOne K (.ref j) (.ref k) = some b := by
  have ik : (PySem.W.clsIn K k).isSome = true := ik
  unfold PySem.W.exmOne
  rw [if_pos (by rw [bk]; rfl)]
  show (if ((PySem.W.clsIn K k).isSome && PySem.W.typeIn K (.ref k) == some (.type "type")) = true then PySem.W.subIn K (.ref j) (.ref k) else none) = some b
  rw [if_pos (by rw [ik, tk]; rfl), s]
def boxes (ss : List SV) (n : Nat) : Gm := ss.map Bx.sh ++ List.replicate n Bx.no
theorem boxes_sh {ss : List SV} {n i : Nat} {b : Bx} (h : (boxes ss n)[i]? = some b) : (∃ s, ss[i]? = some s ∧ b = .sh s) ∨ b = .no := by
  unfold boxes at h
  rw [List.getElem?_append] at h
  split at h
  · rw [List.getElem?_map] at h
    cases e : ss[i]? with
    | none => rw [e] at h; cases h
    | some s => rw [e] at h; cases h; exact .inl ⟨s, rfl, rfl⟩
  · rw [List.getElem?_replicate] at h
    split at h
    · cases h; exact .inr rfl
    · cases h
/-- the state at a def's entry -/
theorem rel_start {R H : Hp} {N : List Str} {ss : List SV} {vs : List V} (hs : Sub R H) (r : RpSs K R ss vs) : RelR K H R R (boxes ss (N.length - ss.length)) (L2.start N vs) H := by
  have hl := rpss_len r
  refine ⟨.refl, hs, .refl, fun _ _ => rfl, fun i s e => ?_, fun i s e => ?_, fun i j s t a n e _ _ _ => ?_, ?_⟩
  · rcases boxes_sh e with ⟨t, e1, e2⟩ | e1
    · cases e2
      obtain ⟨v, h1, h2⟩ := rpss_get r e1
      refine ⟨v, ?_, h2⟩
      unfold L2.start
      have := (List.getElem?_eq_some_iff.mp h1).1
      rw [List.getElem?_append_left (by rw [List.length_map]; exact this), List.getElem?_map, h1]; rfl
    · cases e1
  · rcases boxes_sh e with ⟨t, e1, e2⟩ | e1
    · cases e2
    · cases e1
  · rcases boxes_sh e with ⟨t, e1, e2⟩ | e1
    · cases e2
    · cases e1
  · unfold boxes L2.start
    simp [hl]
/-- a body's end against what the def is worth -/
theorem post_fin {F : Fr} {Q : VK} {E : XK} {o : Out} (hW : ∀ c σ H, E (F.cls c) none H → F.W (F.cls c) none σ H)
    (h : match o.fin with
      | .ok r => ∀ v H' R', Grow F.H0 F.R0 H' R' → RpS F.K R' r v → Q v H'
      | .exc c => ∀ H' R', Grow F.H0 F.R0 H' R' → E (F.cls c) none H'
      | .bad => False) : PostS F { nx := fun _ H' => Q .non H', rt := Q } F.R0 o := by
  have gr : ∀ {Γ : Gm} {σ : L2.St} {H R' : Hp}, RelR F.K F.H0 F.R0 R' Γ σ H → Grow F.H0 F.R0 H R' := fun r => ⟨r.same, r.sub0, r.sub, r.old⟩
  have gall : ∀ {Γ : Gm} {σ : L2.St} {H R' : Hp}, RelR F.K F.H0 F.R0 R' Γ σ H → Grow F.H0 F.R0 H (Rall F.H0 R' H) := fun {Γ σ H R'} r => ⟨r.same, r.sub0.trans (Rall.of r.sub), Rall.sub r.sub, fun a n => by
    unfold Rall
    cases q : F.H0 a with
    | none => exact absurd q n
    | some _ => exact r.old a n⟩
  cases o with
  | nx Γ => exact fun σ H R' r s => h .non H R' (gr r) rfl
  | ret x => exact fun v Γ σ H R' r s rv => h v H _ (gall r) rv
  | exc c Γ => exact fun σ H R' r s => hW c σ H (h H R' (gr r))
  | brk Γ => exact h.elim
  | cont Γ => exact h.elim
  | bad => exact h.elim
theorem fn_arity {G : Ctx} {p n : Nat} {body : List CS} (ss : List SV) (h : fn G p n body ss ≠ .bad) : ss.length = p := by
  unfold fn at h
  by_cases c : ss.length = p
  · exact c
  · rw [if_neg c] at h; exact absurd rfl h
variable {CX : CXT} {I : Inf} {G : Ctx}
/-- the context of a def's body -/
theorem sok_def {k : Nat} {qual : Str} {scope : Scope} {f : Addr} {cdv : Value} {A : Around} {outer : List Env} {s : Shared} {H R : Hp} {E : XK} {W : WX} {ps : List Str} (S : FnScope I.N ps scope) (hr : Room k (A.deeper (envOfC qual scope s.heap.objs.size f cdv)))
    (hb : ∀ x ∈ builtins, mg (Str.ofString x) = none) (hc : Cons K mg I.cons G.cons) (hf : Cals P w K mg base cls k I.fns G.fns)
    (hx : Excs K mg cls I.exs G.sub) (tk : Takes (cxOf CX P w K mg base I.N qual scope f cdv A outer s H E) W) :
    Sok I G ⟨K, H, R, cls, W⟩ (cxOf CX P w K mg base I.N qual scope f cdv A outer s H E) scope where
  hK := rfl
  hN := rfl
  nd := S.nd
  calm := rfl
  un := by have := hr.un; show (A.deeper _).units + 100 < _; omega
  fnc := fun _ _ => rfl
  sc := fun x k h => .inl h
  bl := hb
  cons := fun k x s h1 h2 => hc.get h1 h2
  fns := fun j x h => by
    obtain ⟨Φ, e1, f, fd, ps, e2, e3, e4, e5, e6⟩ := hf.get h
    exact ⟨f, fd, ps, Φ, k, e1, e2, e3, e4, hr, e5, e6⟩
  takes := tk
  exs := hx.1
  sub := hx.2
  stk := rfl
  frm := rfl
  bk := by
    show (if scope.kind.isAnnotationScope then ScopeKind.function else scope.kind) = .function
    rw [S.kind]; rfl
  pass := passes_of rfl
/-- a def is worth its core text -/
theorem def_ok {k : Nat} {x qual : Str} {st : Stmt} {f : Addr} {fd : FuncData} {ps : List Str} {body : List CS} (F : Fun K x qual st f fd) (S : FnScope I.N ps (defScope st)) (hok : okSs I (defScope st) body (defBody st) = true)
    (hb : ∀ x ∈ builtins, mg (Str.ofString x) = none) (hc : Cons K mg I.cons G.cons) (hf : Cals P w K mg base cls k I.fns G.fns) (hx : Excs K mg cls I.exs G.sub) :
    FnOk P w K mg base (L2.CX P w) (k + 1) f fd ps (spT K cls ps.length (fn G ps.length I.N.length body)) := by
  refine F.okX S (fun vs H Q E ⟨ss, R, h, _⟩ => h) fun cdv A outer s H vs Q E hr ⟨ss, R, hl, hs, hrs, h⟩ => ?_
  have C : Sok I G ⟨K, H, R, cls, fun c d _ H => E c d H⟩ (cxOf (L2.CX P w) P w K mg base I.N qual (defScope st) f cdv A outer s H E) (defScope st) :=
    sok_def S hr hb hc hf hx (takes_of rfl rfl rfl rfl)
  refine ⟨_, runs_ok G I body C _ hok, boxes ss (I.N.length - ss.length), R, rel_start hs hrs, ?_⟩
  have hn : ss.length = ps.length := by rw [← rpss_len hrs, hl]
  unfold fn at h
  rw [if_pos hn] at h
  refine post_fin (F := ⟨K, H, R, cls, fun c d _ H => E c d H⟩) (E := E) (fun _ _ _ h => h) ?_
  rw [hn]
  exact h
theorem cal_of {k : Nat} {x qual : Str} {st : Stmt} {f : Addr} {fd : FuncData} {ps : List Str} {body : List CS} (F : Fun K x qual st f fd) (hm : mg x = some (.ref f)) (hB : Binds K fd ps []) (S : FnScope I.N ps (defScope st)) (hok : okSs I (defScope st) body (defBody st) = true)
    (hb : ∀ x ∈ builtins, mg (Str.ofString x) = none) (hc : Cons K mg I.cons G.cons) (hf : Cals P w K mg base cls k I.fns G.fns) (hx : Excs K mg cls I.exs G.sub) : Cal P w K mg base cls (k + 1) x (fn G ps.length I.N.length body) :=
  ⟨f, fd, ps, hm, F.kp, hB, fun ss h => fn_arity ss h, def_ok F S hok hb hc hf hx⟩
/-- a def that is not called at all -/
theorem cal_bad {k : Nat} {x qual : Str} {st : Stmt} {f : Addr} {fd : FuncData} {ps : List Str} (F : Fun K x qual st f fd) (hm : mg x = some (.ref f)) (hB : Binds K fd ps []) (S : FnScope I.N ps (defScope st)) : Cal P w K mg base cls (k + 1) x (fun _ => .bad) :=
  ⟨f, fd, ps, hm, F.kp, hB, fun ss h => absurd rfl h, F.okX S (fun vs H Q E ⟨ss, R, h, _⟩ => h) fun cdv A outer s H vs Q E hr ⟨ss, R, _, _, _, h⟩ => h.elim⟩
/-- what law(script) promises -/
def spLaw (K : Fr') : Sp := fun vs H Q _ => ∃ (a : Addr) (ns : List Int), vs = [.ref a] ∧ SqL K H a (ns.map V.int) ∧ ns.length ≤ 63 ∧ ∀ H', Q (.bl true) H'
theorem law_ok {k : Nat} {x qual : Str} {st : Stmt} {f : Addr} {fd : FuncData} {p : Str} {body : List CS} (F : Fun K x qual st f fd) (S : FnScope I.N [p] (defScope st)) (hok : okSs I (defScope st) body (defBody st) = true)
    (hb : ∀ x ∈ builtins, mg (Str.ofString x) = none) (hc : Cons K mg I.cons G.cons) (hf : Cals P w K mg base cls k I.fns G.fns) (hx : Excs K mg cls I.exs G.sub) (hl : ∀ ns : List Int, ns.length ≤ 63 → fn G 1 I.N.length body [.scr ns] = .ok (.d (.bl true))) :
    FnOk P w K mg base CX0 (k + 1) f fd [p] (spLaw K) := by
  obtain ⟨oc, od, kV, doc, pm, an, cdv, ct, osl, rfl, lk, hcd⟩ := F.ex
  refine fn_of lk hcd S (fun vs H Q E ⟨a, ns, h, _⟩ => by rw [h]; rfl) fun A outer s H vs Q E hr ⟨a, ns, ev, hS, h63, q⟩ => ?_
  subst ev
  have C : Sok I G ⟨K, H, H, cls, fun _ _ _ _ => False⟩ (cxOf CX0 P w K mg base I.N qual (defScope st) f cdv A outer s H E) (defScope st) :=
    sok_def S hr hb hc hf hx (fun _ _ ⟨_, _, _, _, _, _, _, _, _, _, _, _, _, _, _, _, w⟩ => w.elim)
  have hrs : RpSs K H [.scr ns] [.ref a] := ⟨.ref a, [], rfl, ⟨a, rfl, hS, Nat.le_trans h63 (by decide)⟩, rfl⟩
  refine ⟨_, runs_ok G I body C _ hok, boxes [.scr ns] (I.N.length - 1), H, rel_start (ss := [.scr ns]) .refl hrs, ?_⟩
  have h := hl ns h63
  unfold fn at h
  rw [if_pos (show [SV.scr ns].length = 1 from rfl)] at h
  refine post_fin (F := ⟨K, H, H, cls, fun _ _ _ _ => False⟩) (E := fun _ _ _ => False) (fun _ _ _ h => h) ?_
  have e : (runs G body (boxes [.scr ns] (I.N.length - 1))).fin = .ok (.d (.bl true)) := h
  rw [e]
  intro v H' R' _ (rv : v = .bl true)
  rw [rv]; exact q H'
/-! ### constants of the module -/
def ValC (K : Fr') (p : PV) (u : Value) : Prop := ∃ v, RelV v u ∧ ∀ R, RpD K R p v
def ValsC (K : Fr') : List PV → List Value → Prop
  | [], us => us = []
  | p :: ps, us => ∃ u ws, us = u :: ws ∧ ValC K p u ∧ ValsC K ps ws
theorem con_of {h : Heap} {x : Str} {u : Value} {p : PV} (X : K.In h) (G : h.Ns mainGlobals mg) (a : PySem.W.nsIn K mainGlobals x = some (some u)) (v : ValC K p u) : Con K mg x (.d p) := by
  obtain ⟨v, r, k⟩ := v
  exact ⟨u, v, PySem.W.mg_of X G a, r, fun R => k R⟩
theorem val_int {i : Int} {t : Tok} : ValC K (.int i) (.int i t) := ⟨.int i, ⟨t, rfl⟩, fun _ => rfl⟩
theorem val_bl {b : Bool} : ValC K (.bl b) (.bool b) := ⟨.bl b, rfl, fun _ => rfl⟩
theorem val_non : ValC K .non .none := ⟨.non, rfl, fun _ => rfl⟩
theorem val_str {z : Str} {t : Tok} (h : z.length ≤ line) : ValC K (.str z) (.str z t) := ⟨.str z, ⟨t, rfl⟩, fun _ => ⟨rfl, h⟩⟩
theorem vals_len : ∀ {ps : List PV} {us : List Value}, ValsC K ps us → us.length = ps.length
  | [], _, r => by rw [show _ = [] from r]; rfl
  | _ :: _, _, ⟨u, ws, e, _, rs⟩ => by rw [e]; simp [vals_len rs]
theorem vals_v : ∀ {ps : List PV} {us : List Value}, ValsC K ps us → ∃ vs, Vals vs us ∧ ∀ R, RpL K R ps vs
  | [], _, r => by rw [show _ = [] from r]; exact ⟨[], .nil, fun _ => rfl⟩
  | _ :: _, _, ⟨u, ws, e, ⟨v, r, k⟩, rs⟩ => by
    obtain ⟨vs, r2, k2⟩ := vals_v rs
    subst e
    exact ⟨v :: vs, .cons r r2, fun R => ⟨v, vs, rfl, k R, k2 R⟩⟩
theorem val_tup {a : Addr} {od : Option Addr} {its : Array Value} {n : Nat} {sl : Array (Option Value)} {ps : List PV} (l : K.lookup a = some ⟨.type "tuple", od, .seq its n, sl⟩) (r : ValsC K ps its.toList) (h : ps.length ≤ line) : ValC K (.tup ps) (.ref a) := by
  obtain ⟨vs, r2, k⟩ := vals_v r
  have hz : its.size ≤ sizeLine := by
    have := vals_len r
    rw [Array.length_toList] at this
    rw [this, ← line_eq]; exact h
  exact ⟨.ref a, rfl, fun R => ⟨a, vs, rfl, .inr ⟨_, its, n, l, rfl, rfl, hz, r2⟩, h, k R⟩⟩
end
end Bw
end

section
set_option autoImplicit false
set_option linter.all false
/-! Mx: plain facts about the evaluator. -/
namespace Bw
@[simp] theorem fin_ret (s : SV) : (Out.ret s).fin = .ok s := rfl
@[simp] theorem fin_nx (Γ : Gm) : (Out.nx Γ).fin = .ok (.d .non) := rfl
@[simp] theorem fin_exc (c : Nat) (Γ : Gm) : (Out.exc c Γ).fin = .exc c := rfl
@[simp] theorem isInt_int (i : Int) : isInt? (.d (.int i)) = .ok i := rfl
@[simp] theorem isBl_bl (b : Bool) : isBl? (.d (.bl b)) = .ok b := rfl
@[simp] theorem data_d (p : PV) : data? (.d p) = .ok p := rfl
@[simp] theorem seq_tup (xs : List PV) : seq? (.d (.tup xs)) = .ok xs := rfl
@[simp] theorem seq_lst (xs : List PV) : seq? (.d (.lst xs)) = .ok xs := rfl
@[simp] theorem seqs_tup (xs ys : List PV) : seqs? (.d (.tup xs)) (.d (.tup ys)) = .ok (xs, ys) := rfl
@[simp] theorem seqs_lst (xs ys : List PV) : seqs? (.d (.lst xs)) (.d (.lst ys)) = .ok (xs, ys) := rfl
@[simp] theorem datas_nil : datas? [] = .ok [] := rfl
@[simp] theorem datas_cons (p : PV) (ss : List SV) : datas? (.d p :: ss) = (datas? ss).bind fun ps => .ok (p :: ps) := rfl
/-! ### booleans go inward -/
@[simp] theorem ite_res {α : Type} {p : Prop} [Decidable p] (a b : α) : (if p then Res.ok a else Res.ok b) = Res.ok (if p then a else b) := by split <;> rfl
@[simp] theorem ite_sv {p : Prop} [Decidable p] (a b : PV) : (if p then SV.d a else SV.d b) = SV.d (if p then a else b) := by split <;> rfl
@[simp] theorem ite_bl {p : Prop} [Decidable p] (a b : Bool) : (if p then PV.bl a else PV.bl b) = PV.bl (if p then a else b) := by split <;> rfl
@[simp] theorem ite_int {p : Prop} [Decidable p] (a b : Int) : (if p then PV.int a else PV.int b) = PV.int (if p then a else b) := by split <;> rfl
/-! ### ints -/
@[simp] theorem b_add (i j : Int) : binop .add (.d (.int i)) (.d (.int j)) = .ok (.d (.int (i + j))) := rfl
@[simp] theorem b_sub (i j : Int) : binop .sub (.d (.int i)) (.d (.int j)) = .ok (.d (.int (i - j))) := rfl
theorem b_mul {i j : Int} (h : i.natAbs < 2 ^ 64 ∨ j.natAbs < 2 ^ 64) : binop .mul (.d (.int i)) (.d (.int j)) = .ok (.d (.int (i * j))) := if_pos h
theorem b_fdiv {i j : Int} (h : 0 < j) (h2 : j < 1073741824) : binop .fdiv (.d (.int i)) (.d (.int j)) = .ok (.d (.int (i / j))) := if_pos ⟨h, by omega⟩
theorem b_mod {i j : Int} (h : 0 < j) : binop .mod (.d (.int i)) (.d (.int j)) = .ok (.d (.int (i % j))) := if_pos h
@[simp] theorem c_lt (i j : Int) : cmpop .lt (.d (.int i)) (.d (.int j)) = .ok (decide (i < j)) := by simp [cmpop, cmpb, sha, shal, ltT]
@[simp] theorem c_gt (i j : Int) : cmpop .gt (.d (.int i)) (.d (.int j)) = .ok (decide (j < i)) := by simp [cmpop, cmpb, sha, shal, ltT]
@[simp] theorem c_le (i j : Int) : cmpop .le (.d (.int i)) (.d (.int j)) = .ok (decide (i ≤ j)) := by
  have : (!decide (j < i)) = decide (i ≤ j) := by by_cases h : j < i <;> simp [h] <;> omega
  simp [cmpop, cmpb, sha, shal, ltT, this]
@[simp] theorem c_ge (i j : Int) : cmpop .ge (.d (.int i)) (.d (.int j)) = .ok (decide (j ≤ i)) := by
  have : (!decide (i < j)) = decide (j ≤ i) := by by_cases h : i < j <;> simp [h] <;> omega
  simp [cmpop, cmpb, sha, shal, ltT, this]
@[simp] theorem c_eqI (i j : Int) : cmpop .eq (.d (.int i)) (.d (.int j)) = .ok (decide (i = j)) := by simp [cmpop, sha, shal, pyEq]
@[simp] theorem c_neI (i j : Int) : cmpop .ne (.d (.int i)) (.d (.int j)) = .ok (!decide (i = j)) := by simp [cmpop, sha, shal, pyEq]
@[simp] theorem c_eqB (i j : Bool) : cmpop .eq (.d (.bl i)) (.d (.bl j)) = .ok (i == j) := by simp [cmpop, sha, shal, pyEq]
@[simp] theorem c_neB (i j : Bool) : cmpop .ne (.d (.bl i)) (.d (.bl j)) = .ok (!(i == j)) := by simp [cmpop, sha, shal, pyEq]
@[simp] theorem c_isN (p : PV) : cmpop .is (.d p) (.d .non) = .ok (isNon p) := by cases p <;> rfl
@[simp] theorem c_notN (p : PV) : cmpop .isnot (.d p) (.d .non) = .ok (!isNon p) := by cases p <;> rfl
@[simp] theorem c_eqS (a b : PySem.Str) : cmpop .eq (.d (.str a)) (.d (.str b)) = .ok (decide (a = b)) := by simp [cmpop, sha, shal, pyEq]
@[simp] theorem c_neS (a b : PySem.Str) : cmpop .ne (.d (.str a)) (.d (.str b)) = .ok (!decide (a = b)) := by simp [cmpop, sha, shal, pyEq]
@[simp] theorem f_int (i : Int) : f1op .int (.d (.int i)) = .ok (.d (.int i)) := rfl
@[simp] theorem f_abs (i : Int) : f1op .abs (.d (.int i)) = .ok (.d (.int (if i < 0 then -i else i))) := rfl
@[simp] theorem f_lenT (xs : List PV) : f1op .len (.d (.tup xs)) = .ok (.d (.int xs.length)) := rfl
@[simp] theorem f_lenL (xs : List PV) : f1op .len (.d (.lst xs)) = .ok (.d (.int xs.length)) := rfl
@[simp] theorem f_tup (xs : List PV) : f1op .tuple (.d (.lst xs)) = .ok (.d (.tup xs)) := rfl
@[simp] theorem f_max2 (x y : Int) : f2op .max (.d (.int x)) (.d (.int y)) = .ok (.d (.int (if y > x then y else x))) := rfl
@[simp] theorem f_min2 (x y : Int) : f2op .min (.d (.int x)) (.d (.int y)) = .ok (.d (.int (if y < x then y else x))) := rfl
/-! ### lists of ints -/
def ti (xs : List Int) : PV := .tup (xs.map .int)
def li (xs : List Int) : PV := .lst (xs.map .int)
@[simp] theorem f_lenTi (xs : List Int) : f1op .len (.d (ti xs)) = .ok (.d (.int xs.length)) := by simp [ti]
@[simp] theorem f_lenLi (xs : List Int) : f1op .len (.d (li xs)) = .ok (.d (.int xs.length)) := by simp [li]
theorem ix_pos {α : Type} {xs : List α} {i : Int} (h : 0 ≤ i) (h2 : i < xs.length) : atP xs i = xs[i.toNat]? := by
  unfold atP ixP
  rw [if_pos h, if_pos h2]; rfl
theorem ix_neg {α : Type} {xs : List α} {i : Int} (h : i < 0) (h2 : -(xs.length : Int) ≤ i) : atP xs i = xs[(i + xs.length).toNat]? := by
  unfold atP ixP
  rw [if_neg (by omega), if_pos h2]; rfl
def gt (xs : List Int) (i : Int) : Int := xs.getD i.toNat 0
theorem gt_get {xs : List Int} {i : Int} (h : 0 ≤ i) (h2 : i < xs.length) : xs[i.toNat]? = some (gt xs i) := by
  have l : i.toNat < xs.length := by omega
  unfold gt
  rw [List.getD_eq_getElem?_getD, List.getElem?_eq_getElem l]; rfl
theorem ix_ti {xs : List Int} {i : Int} (h : 0 ≤ i) (h2 : i < xs.length) : idxop (.d (ti xs)) (.d (.int i)) = .ok (.d (.int (gt xs i))) := by
  show (match atP (xs.map PV.int) i with | some p => Res.ok (SV.d p) | none => .bad) = _
  rw [ix_pos h (by simpa using h2), List.getElem?_map, gt_get h h2]; rfl
theorem ix_li {xs : List Int} {i : Int} (h : 0 ≤ i) (h2 : i < xs.length) : idxop (.d (li xs)) (.d (.int i)) = .ok (.d (.int (gt xs i))) := by
  show (match atP (xs.map PV.int) i with | some p => Res.ok (SV.d p) | none => .bad) = _
  rw [ix_pos h (by simpa using h2), List.getElem?_map, gt_get h h2]; rfl
theorem ix_tup {xs : List PV} {i : Int} {p : PV} (h : 0 ≤ i) (h2 : xs[i.toNat]? = some p) : idxop (.d (.tup xs)) (.d (.int i)) = .ok (.d p) := by
  have l : i.toNat < xs.length := (List.getElem?_eq_some_iff.mp h2).1
  show (match atP xs i with | some p => Res.ok (SV.d p) | none => .bad) = _
  rw [ix_pos h (by omega), h2]
@[simp] theorem ix_t0 (p : PV) (xs : List PV) : idxop (.d (.tup (p :: xs))) (.d (.int 0)) = .ok (.d p) := ix_tup (by omega) rfl
@[simp] theorem ix_t1 (p q : PV) (xs : List PV) : idxop (.d (.tup (p :: q :: xs))) (.d (.int 1)) = .ok (.d q) := ix_tup (by omega) rfl
@[simp] theorem ix_t2 (p q r : PV) (xs : List PV) : idxop (.d (.tup (p :: q :: r :: xs))) (.d (.int 2)) = .ok (.d r) := ix_tup (by omega) rfl
@[simp] theorem sq_ti (xs : List Int) : seq? (.d (ti xs)) = .ok (xs.map .int) := rfl
@[simp] theorem sq_li (xs : List Int) : seq? (.d (li xs)) = .ok (xs.map .int) := rfl
/-! ### ranges -/
theorem range_map (lo : Int) : ∀ n : Nat, rangeP lo 1 n = (List.range n).map fun (i : Nat) => PV.int (lo + i) := fun n => by
  refine List.ext_getElem? fun i => ?_
  rw [rangeP_get, List.getElem?_map]
  by_cases h : i < n
  · rw [if_pos h, List.getElem?_range h]; simp
  · rw [if_neg h, List.getElem?_eq_none (by simpa using h)]; rfl
theorem rangeN_one' (a b : Int) : rangeN a b 1 = (b - a).toNat := by
  unfold rangeN
  rw [if_pos (by decide), Int.ediv_one]
  congr 1; omega
theorem rng_ok {lo hi : Int} (h1 : -1000000 ≤ lo) (h2 : lo ≤ 1000000) (h3 : -1000000 ≤ hi) (h4 : hi ≤ 1000000) : rng? lo hi 1 = .ok ((List.range (hi - lo).toNat).map fun (i : Nat) => PV.int (lo + i)) := by
  unfold rng?
  rw [rangeN_one', range_map, if_pos]
  have e : (hi - lo).toNat ≤ line := by unfold line; omega
  have b1 : big lo = true := by simp only [big, decide_eq_true_eq]; omega
  have b2 : big hi = true := by simp only [big, decide_eq_true_eq]; omega
  rw [b1, b2, decide_eq_true e]; rfl
/-! ### comprehensions -/
theorem mapR_opt {α β : Type} {f : α → Res (Option β)} {g : α → Option β} : ∀ {xs : List α}, (∀ x ∈ xs, f x = .ok (g x)) → mapR f xs = .ok (xs.filterMap g)
  | [], _ => rfl
  | x :: xs, h => by
    rw [mapR, h x (List.mem_cons_self ..), mapR_opt fun y hy => h y (List.mem_cons_of_mem _ hy)]
    simp only [Res.tame_ok, Res.bind_ok, List.filterMap_cons]
    cases g x <;> rfl
theorem mapR_map {α β : Type} {f : α → Res (Option β)} {g : α → β} {xs : List α} (h : ∀ x ∈ xs, f x = .ok (some (g x))) : mapR f xs = .ok (xs.map g) := by
  rw [mapR_opt (g := fun x => some (g x)) h]
  simp
theorem mapR_comp {α β γ : Type} {f : β → Res (Option γ)} {k : α → β} : ∀ {xs : List α}, mapR f (xs.map k) = mapR (fun x => f (k x)) xs
  | [] => rfl
  | x :: xs => by rw [List.map_cons, mapR, mapR, mapR_comp]
theorem bools_map {α : Type} (b : α → Bool) : ∀ xs : List α, bools? (xs.map fun x => PV.bl (b x)) = .ok (xs.map b)
  | [] => rfl
  | x :: xs => by rw [List.map_cons, bools?, bools_map b xs]; rfl
theorem f_all {α : Type} (b : α → Bool) (xs : List α) : f1op .all (.d (.lst (xs.map fun x => PV.bl (b x)))) = .ok (.d (.bl (xs.all b))) := by
  show (bools? _).bind _ = _
  rw [bools_map]
  simp [List.all_map]
theorem f_any {α : Type} (b : α → Bool) (xs : List α) : f1op .any (.d (.lst (xs.map fun x => PV.bl (b x)))) = .ok (.d (.bl (xs.any b))) := by
  show (bools? _).bind _ = _
  rw [bools_map]
  simp [List.any_map]
/-! ### loops -/
theorem forR_inv {f : PV → Gm → Out} {xs : List PV} {Γ : Gm} (P : Nat → Gm → Prop) (h0 : P 0 Γ) (step : ∀ (i : Nat) x Γ, xs[i]? = some x → P i Γ → ∃ Γ', (f x Γ = .nx Γ' ∨ f x Γ = .cont Γ') ∧ P (i + 1) Γ') : ∃ Γ', forR f xs Γ = .nx Γ' ∧ P xs.length Γ' := by
  induction xs generalizing Γ P with
  | nil => exact ⟨Γ, rfl, h0⟩
  | cons x xs ih =>
    obtain ⟨Γ1, e, p1⟩ := step 0 x Γ rfl h0
    obtain ⟨Γ2, e2, p2⟩ := ih (fun i => P (i + 1)) p1 fun i y Γ hy p => step (i + 1) y Γ (by simpa using hy) p
    refine ⟨Γ2, ?_, p2⟩
    show (f x Γ).loop _ = _
    rcases e with e | e <;> rw [e] <;> exact e2
/-- each turn either goes on, or the def is left with r -/
theorem forR_ret {f : PV → Gm → Out} {xs : List PV} {Γ : Gm} {r : SV} (P : Nat → Gm → Prop) (h0 : P 0 Γ) (step : ∀ (i : Nat) x Γ, xs[i]? = some x → P i Γ → f x Γ = .ret r ∨ ∃ Γ', (f x Γ = .nx Γ' ∨ f x Γ = .cont Γ') ∧ P (i + 1) Γ') : forR f xs Γ = .ret r ∨ ∃ Γ', forR f xs Γ = .nx Γ' ∧ P xs.length Γ' := by
  induction xs generalizing Γ P with
  | nil => exact .inr ⟨Γ, rfl, h0⟩
  | cons x xs ih =>
    rcases step 0 x Γ rfl h0 with e | ⟨Γ1, e, p1⟩
    · left
      show (f x Γ).loop _ = _
      rw [e]; rfl
    rcases ih (fun i => P (i + 1)) p1 (fun i y Γ hy p => step (i + 1) y Γ (by simpa using hy) p) with e2 | ⟨Γ2, e2, p2⟩
    · left
      show (f x Γ).loop _ = _
      rcases e with e | e <;> rw [e] <;> exact e2
    · right
      refine ⟨Γ2, ?_, p2⟩
      show (f x Γ).loop _ = _
      rcases e with e | e <;> rw [e] <;> exact e2
theorem while_inv {c : Gm → Res Bool} {f : Gm → Out} (P : Nat → Gm → Prop) (step : ∀ n Γ, P n Γ → c Γ = .ok false ∨ (c Γ = .ok true ∧ ∃ m Γ', m < n ∧ (f Γ = .nx Γ' ∨ f Γ = .cont Γ') ∧ P m Γ')) : ∀ (n : Nat) (Γ : Gm), P n Γ → ∃ m Γ', whileR c f Γ = .nx Γ' ∧ P m Γ' ∧ c Γ' = .ok false := by
  intro n
  induction n using Nat.strongRecOn with
  | _ n ih =>
    intro Γ p
    rw [while_eq]
    rcases step n Γ p with e | ⟨e, m, Γ1, hm, e2, p1⟩
    · exact ⟨n, Γ, by rw [e]; rfl, p, e⟩
    · obtain ⟨k, Γ2, e3, p2, e4⟩ := ih m hm Γ1 p1
      refine ⟨k, Γ2, ?_, p2, e4⟩
      rw [e]
      show (f Γ).loop _ = _
      rcases e2 with e2 | e2 <;> rw [e2] <;> exact e3
end Bw
namespace Bw
/-! ### slices, pairs -/
theorem cut_map {α β : Type} (f : α → β) (xs : List α) (lo hi : Option Int) : cutP (xs.map f) lo hi = (cutP xs lo hi).map f := by
  unfold cutP
  rw [List.length_map, List.map_take, List.map_drop]
theorem sl_ti (xs : List Int) (lo hi : Option Int) : slop (.d (ti xs)) lo hi = .ok (.d (ti (cutP xs lo hi))) := by
  show Res.ok (SV.d (.tup (cutP (xs.map PV.int) lo hi))) = _
  rw [cut_map]; rfl
theorem sl_li (xs : List Int) (lo hi : Option Int) : slop (.d (li xs)) lo hi = .ok (.d (li (cutP xs lo hi))) := by
  show Res.ok (SV.d (.lst (cutP (xs.map PV.int) lo hi))) = _
  rw [cut_map]; rfl
theorem cut_from {α : Type} (xs : List α) (k : Nat) : cutP xs (some k) none = xs.drop k := by
  have e : sxP xs.length 0 (some (k : Int)) = min k xs.length := by
    simp only [sxP]
    rw [if_pos (Int.natCast_nonneg k)]
    rfl
  have e2 : sxP xs.length xs.length none = xs.length := rfl
  unfold cutP
  rw [e, e2]
  rcases Nat.le_total k xs.length with h | h
  · rw [Nat.min_eq_left h, List.take_of_length_le (by rw [List.length_drop]; omega)]
  · rw [Nat.min_eq_right h, List.drop_eq_nil_of_le h, List.drop_eq_nil_of_le (Nat.le_refl _), List.take_nil]
theorem cut_upto {α : Type} (xs : List α) (k : Nat) : cutP xs none (some k) = xs.take k := by
  have e : sxP xs.length xs.length (some (k : Int)) = min k xs.length := by
    simp only [sxP]
    rw [if_pos (Int.natCast_nonneg k)]
    rfl
  have e2 : sxP xs.length 0 none = 0 := rfl
  unfold cutP
  rw [e, e2, List.drop_zero, Nat.sub_zero]
  rcases Nat.le_total k xs.length with h | h
  · rw [Nat.min_eq_left h]
  · rw [Nat.min_eq_right h, List.take_of_length_le (Nat.le_refl _), List.take_of_length_le h]
theorem zip_map {α β : Type} (f : α → PV) (g : β → PV) : ∀ (xs : List α) (ys : List β), zipP (xs.map f) (ys.map g) = (xs.zip ys).map fun p => PV.tup [f p.1, g p.2]
  | [], _ => rfl
  | x :: xs, [] => rfl
  | x :: xs, y :: ys => by rw [List.map_cons, List.map_cons, zipP, zip_map f g xs ys]; rfl
theorem enum_map {α : Type} (f : α → PV) (k : Int) (xs : List α) : enumP k (xs.map f) = (xs.zipIdx).map fun p => PV.tup [.int (k + p.2), f p.1] := by
  refine List.ext_getElem? fun i => ?_
  rw [enumP_get, List.getElem?_map, List.getElem?_map, List.getElem?_zipIdx]
  cases xs[i]? <;> simp
/-- strictly rising -/
def Asc (xs : List Int) : Prop := ∀ i : Nat, i + 1 < xs.length → xs.getD i 0 < xs.getD (i + 1) 0
theorem asc_all {xs : List Int} (h : Asc xs) : (xs.zip xs.tail).all (fun p => decide (p.1 < p.2)) = true := by
  rw [← List.drop_one, List.all_eq_true]
  intro p hp
  obtain ⟨i, hi⟩ := List.getElem?_of_mem hp
  rw [List.getElem?_zip_eq_some] at hi
  obtain ⟨h1, h2⟩ := hi
  rw [List.getElem?_drop] at h2
  have l : 1 + i < xs.length := (List.getElem?_eq_some_iff.mp h2).1
  have := h i (by omega)
  rw [List.getD_eq_getElem?_getD, List.getD_eq_getElem?_getD, h1, show i + 1 = 1 + i by omega, h2] at this
  simpa using this
end Bw
namespace Bw
@[simp] theorem f_all2 (a b : Bool) : f1op .all (.d (.lst [.bl a, .bl b])) = .ok (.d (.bl (a && b))) := by simp [f1op, bools?]
theorem forR_next {f : PV → Gm → Out} {xs : List PV} {Γ : Gm} {k : Gm → Out} {r : Out} (P : Nat → Gm → Prop) (h0 : P 0 Γ) (step : ∀ (i : Nat) x Γ, xs[i]? = some x → P i Γ → ∃ Γ', (f x Γ = .nx Γ' ∨ f x Γ = .cont Γ') ∧ P (i + 1) Γ')
    (hk : ∀ Γ', P xs.length Γ' → k Γ' = r) : (forR f xs Γ).next k = r := by
  obtain ⟨Γ', e, p⟩ := forR_inv P h0 step
  rw [e]; exact hk Γ' p
/-- the def is left in the loop, or the loop ends -/
theorem forR_leave {f : PV → Gm → Out} {xs : List PV} {Γ : Gm} {k : Gm → Out} {r : SV} (P : Nat → Gm → Prop) (h0 : P 0 Γ) (step : ∀ (i : Nat) x Γ, xs[i]? = some x → P i Γ → f x Γ = .ret r ∨ ∃ Γ', (f x Γ = .nx Γ' ∨ f x Γ = .cont Γ') ∧ P (i + 1) Γ')
    (hk : ∀ Γ', P xs.length Γ' → k Γ' = .ret r) : (forR f xs Γ).next k = .ret r := by
  rcases forR_ret P h0 step with e | ⟨Γ', e, p⟩
  · rw [e]; rfl
  · rw [e]; exact hk Γ' p
theorem while_next {c : Gm → Res Bool} {f : Gm → Out} {Γ : Gm} {k : Gm → Out} {r : Out} (P : Nat → Gm → Prop) (n : Nat) (h0 : P n Γ) (step : ∀ n Γ, P n Γ → c Γ = .ok false ∨ (c Γ = .ok true ∧ ∃ m Γ', m < n ∧ (f Γ = .nx Γ' ∨ f Γ = .cont Γ') ∧ P m Γ'))
    (hk : ∀ m Γ', P m Γ' → c Γ' = .ok false → k Γ' = r) : (whileR c f Γ).next k = r := by
  obtain ⟨m, Γ', e, p, q⟩ := while_inv P step n Γ h0
  rw [e]; exact hk m Γ' p q
theorem enum_at {xs : List Int} {i : Nat} {x : PV} (h : (enumP 0 (xs.map PV.int))[i]? = some x) : i < xs.length ∧ x = .tup [.int i, .int (gt xs i)] := by
  rw [enumP_get, List.getElem?_map] at h
  cases e : xs[i]? with
  | none => rw [e] at h; cases h
  | some v =>
    rw [e] at h
    have l := (List.getElem?_eq_some_iff.mp e).1
    refine ⟨l, ?_⟩
    have : gt xs (i : Int) = v := by
      unfold gt
      rw [List.getD_eq_getElem?_getD, Int.toNat_natCast, e]; rfl
    rw [this]
    simpa using h.symm
@[simp] theorem enum_len (k : Int) (xs : List PV) : (enumP k xs).length = xs.length := enumP_len k xs
theorem range_at {lo : Int} {n i : Nat} {x : PV} (h : ((List.range n).map fun (i : Nat) => PV.int (lo + i))[i]? = some x) : i < n ∧ x = .int (lo + i) := by
  rw [List.getElem?_map] at h
  cases e : (List.range n)[i]? with
  | none => rw [e] at h; cases h
  | some v =>
    have l := (List.getElem?_eq_some_iff.mp e).1
    rw [List.length_range] at l
    rw [List.getElem?_range l] at e
    cases e
    rw [List.getElem?_range l] at h
    exact ⟨l, by simpa using h.symm⟩
end Bw
namespace Bw
theorem fin_eq {o : Out} {s : SV} (h : o = .ret s) : o.fin = .ok s := by rw [h]; rfl
theorem filt_succ (i : Nat) (p : Nat → Bool) (g : Nat → PV) : (((List.range (i + 1)).filter p).map g) = ((List.range i).filter p).map g ++ (if p i then [g i] else []) := by
  rw [List.range_succ, List.filter_append, List.map_append]
  congr 1
  cases h : p i <;> simp [h]
theorem filt_le (n : Nat) (p : Nat → Bool) (g : Nat → PV) : (((List.range n).filter p).map g).length ≤ n := by
  rw [List.length_map]
  have := List.length_filter_le p (List.range n)
  rw [List.length_range] at this
  exact this
end Bw
namespace Bw
/-! ### the greatest, the least -/
def mx (xs : List Int) : Int := xs.tail.foldl (fun a y => if a < y then y else a) (xs.headD 0)
def mn (xs : List Int) : Int := xs.tail.foldl (fun a y => if y < a then y else a) (xs.headD 0)
theorem fold_mx : ∀ (xs : List Int) (a : Int), (xs.foldl (fun a y => if a < y then y else a) a = a ∨ xs.foldl (fun a y => if a < y then y else a) a ∈ xs) ∧ a ≤ xs.foldl (fun a y => if a < y then y else a) a ∧ ∀ x ∈ xs, x ≤ xs.foldl (fun a y => if a < y then y else a) a
  | [], a => ⟨.inl rfl, Int.le_refl _, by simp⟩
  | x :: xs, a => by
    obtain ⟨h1, h2, h3⟩ := fold_mx xs (if a < x then x else a)
    simp only [List.foldl_cons, List.mem_cons]
    refine ⟨?_, ?_, ?_⟩
    · rcases h1 with h1 | h1
      · rw [h1]
        by_cases c : a < x
        · rw [if_pos c]; exact .inr (.inl rfl)
        · rw [if_neg c]; exact .inl rfl
      · exact .inr (.inr h1)
    · refine Int.le_trans ?_ h2
      split <;> omega
    · rintro y (rfl | hy)
      · refine Int.le_trans ?_ h2
        split <;> omega
      · exact h3 y hy
theorem fold_mn : ∀ (xs : List Int) (a : Int), (xs.foldl (fun a y => if y < a then y else a) a = a ∨ xs.foldl (fun a y => if y < a then y else a) a ∈ xs) ∧ xs.foldl (fun a y => if y < a then y else a) a ≤ a ∧ ∀ x ∈ xs, xs.foldl (fun a y => if y < a then y else a) a ≤ x
  | [], a => ⟨.inl rfl, Int.le_refl _, by simp⟩
  | x :: xs, a => by
    obtain ⟨h1, h2, h3⟩ := fold_mn xs (if x < a then x else a)
    simp only [List.foldl_cons, List.mem_cons]
    refine ⟨?_, ?_, ?_⟩
    · rcases h1 with h1 | h1
      · rw [h1]
        by_cases c : x < a
        · rw [if_pos c]; exact .inr (.inl rfl)
        · rw [if_neg c]; exact .inl rfl
      · exact .inr (.inr h1)
    · refine Int.le_trans h2 ?_
      split <;> omega
    · rintro y (rfl | hy)
      · refine Int.le_trans h2 ?_
        split <;> omega
      · exact h3 y hy
theorem mx_mem {xs : List Int} (h : xs ≠ []) : mx xs ∈ xs := by
  cases xs with
  | nil => exact absurd rfl h
  | cons a xs =>
    rcases (fold_mx xs a).1 with q | q
    · show xs.foldl _ a ∈ _; rw [q]; exact List.mem_cons_self ..
    · exact List.mem_cons_of_mem _ q
theorem mx_le {xs : List Int} {x : Int} (h : x ∈ xs) : x ≤ mx xs := by
  cases xs with
  | nil => cases h
  | cons a xs =>
    rcases List.mem_cons.mp h with e | e
    · rw [e]; exact (fold_mx xs a).2.1
    · exact (fold_mx xs a).2.2 x e
theorem mn_mem {xs : List Int} (h : xs ≠ []) : mn xs ∈ xs := by
  cases xs with
  | nil => exact absurd rfl h
  | cons a xs =>
    rcases (fold_mn xs a).1 with q | q
    · show xs.foldl _ a ∈ _; rw [q]; exact List.mem_cons_self ..
    · exact List.mem_cons_of_mem _ q
theorem mn_le {xs : List Int} {x : Int} (h : x ∈ xs) : mn xs ≤ x := by
  cases xs with
  | nil => cases h
  | cons a xs =>
    rcases List.mem_cons.mp h with e | e
    · rw [e]; exact (fold_mn xs a).2.1
    · exact (fold_mn xs a).2.2 x e
theorem alk_ints (xs : List Int) : allAlk (xs.map PV.int) = true := by
  unfold allAlk
  simp [List.all_eq_true, alk, isNon, sha, shal]
theorem maxP_ints : ∀ (xs : List Int) (a : Int), maxP (.int a) (xs.map PV.int) = .int (xs.foldl (fun a y => if a < y then y else a) a)
  | [], _ => rfl
  | x :: xs, a => by
    show maxP (if ltT (.int a) (.int x) then .int x else .int a) (xs.map PV.int) = _
    rw [show (if ltT (.int a) (.int x) then PV.int x else .int a) = .int (if a < x then x else a) by by_cases c : a < x <;> simp [ltT, c], maxP_ints xs]; rfl
theorem minP_ints : ∀ (xs : List Int) (a : Int), minP (.int a) (xs.map PV.int) = .int (xs.foldl (fun a y => if y < a then y else a) a)
  | [], _ => rfl
  | x :: xs, a => by
    show minP (if ltT (.int x) (.int a) then .int x else .int a) (xs.map PV.int) = _
    rw [show (if ltT (.int x) (.int a) then PV.int x else .int a) = .int (if x < a then x else a) by by_cases c : x < a <;> simp [ltT, c], minP_ints xs]; rfl
theorem f_maxI {xs : List Int} (h : xs ≠ []) {s : SV} (hs : seq? s = .ok (xs.map .int)) : f1op .max s = .ok (.d (.int (mx xs))) := by
  cases xs with
  | nil => exact absurd rfl h
  | cons a xs =>
    have : f1op .max s = (seq? s).bind fun ps => match ps with
      | [] => .bad
      | p :: ps => if allAlk (p :: ps) then .ok (.d (maxP p ps)) else .bad := by unfold f1op; rfl
    rw [this, hs]
    have q := alk_ints (a :: xs)
    simp only [List.map_cons, Res.bind_ok] at q ⊢
    rw [if_pos q, maxP_ints]; rfl
theorem f_minI {xs : List Int} (h : xs ≠ []) {s : SV} (hs : seq? s = .ok (xs.map .int)) : f1op .min s = .ok (.d (.int (mn xs))) := by
  cases xs with
  | nil => exact absurd rfl h
  | cons a xs =>
    have : f1op .min s = (seq? s).bind fun ps => match ps with
      | [] => .bad
      | p :: ps => if allAlk (p :: ps) then .ok (.d (minP p ps)) else .bad := by unfold f1op; rfl
    rw [this, hs]
    have q := alk_ints (a :: xs)
    simp only [List.map_cons, Res.bind_ok] at q ⊢
    rw [if_pos q, minP_ints]; rfl
/-- pairs of ints -/
def pr (p : Int × Int) : PV := .tup [.int p.1, .int p.2]
def mnp (L : List (Int × Int)) : Int × Int := L.tail.foldl (fun a y => if ltT (pr y) (pr a) then y else a) (L.headD (0, 0))
theorem minP_prs : ∀ (xs : List (Int × Int)) (a : Int × Int), minP (pr a) (xs.map pr) = pr (xs.foldl (fun a y => if ltT (pr y) (pr a) then y else a) a)
  | [], _ => rfl
  | x :: xs, a => by
    show minP (if ltT (pr x) (pr a) then pr x else pr a) (xs.map pr) = _
    rw [show (if ltT (pr x) (pr a) then pr x else pr a) = pr (if ltT (pr x) (pr a) then x else a) by split <;> rfl, minP_prs xs]; rfl
theorem mnp_mem {L : List (Int × Int)} (h : L ≠ []) : mnp L ∈ L := by
  cases L with
  | nil => exact absurd rfl h
  | cons a xs =>
    have key : ∀ (xs : List (Int × Int)) (a : Int × Int), xs.foldl (fun a y => if ltT (pr y) (pr a) then y else a) a ∈ a :: xs := by
      intro xs
      induction xs with
      | nil => intro a; exact List.mem_cons_self ..
      | cons x xs ih =>
        intro a
        rcases List.mem_cons.mp (ih (if ltT (pr x) (pr a) then x else a)) with e | e
        · show xs.foldl _ (if ltT (pr x) (pr a) then x else a) ∈ _
          rw [e]; split <;> simp
        · exact List.mem_cons_of_mem _ (List.mem_cons_of_mem _ e)
    exact key xs a
theorem f_minPr {L : List (Int × Int)} (h : L ≠ []) : f1op .min (.d (.lst (L.map pr))) = .ok (.d (pr (mnp L))) := by
  cases L with
  | nil => exact absurd rfl h
  | cons a xs =>
    have e : f1op .min (.d (.lst ((a :: xs).map pr))) = if allAlk ((a :: xs).map pr) then .ok (.d (minP (pr a) (xs.map pr))) else .bad := rfl
    have q : allAlk ((a :: xs).map pr) = true := by
      unfold allAlk
      simp [List.all_eq_true, alk, alkL, isNon, sha, shal, shalL, pr]
    rw [e, if_pos q, minP_prs]; rfl
/-! ### ranges with a condition -/
theorem filt_ge (r : Nat) : ∀ n : Nat, (List.range n).filter (fun i => decide (r ≤ i)) = (List.range (n - r)).map (fun k => k + r)
  | 0 => by simp
  | n + 1 => by
    rw [List.range_succ, List.filter_append, filt_ge r n]
    by_cases h : r ≤ n
    · rw [show n + 1 - r = (n - r) + 1 by omega, List.range_succ, List.map_append]
      simp [h]
    · rw [show n + 1 - r = n - r by omega]
      simp [h]
theorem filt_lt (r n : Nat) : (List.range n).filter (fun i => decide (i + r < n)) = List.range (n - r) := by
  have key : ∀ m, m ≤ n → (List.range m).filter (fun i => decide (i + r < n)) = List.range (min m (n - r)) := by
    intro m
    induction m with
    | zero => intro _; simp
    | succ m ih =>
      intro hm
      rw [List.range_succ, List.filter_append, ih (by omega)]
      by_cases h : m + r < n
      · rw [show min (m + 1) (n - r) = min m (n - r) + 1 by omega, List.range_succ, show min m (n - r) = m by omega]
        simp [h]
      · rw [show min (m + 1) (n - r) = min m (n - r) by omega]
        simp [h]
  rw [key n (Nat.le_refl _), show min n (n - r) = n - r by omega]
end Bw
namespace Bw
@[simp] theorem isNon_non : isNon .non = true := rfl
@[simp] theorem isNon_int (i : Int) : isNon (.int i) = false := rfl
@[simp] theorem isNon_bl (i : Bool) : isNon (.bl i) = false := rfl
@[simp] theorem isNon_tup (i : List PV) : isNon (.tup i) = false := rfl
@[simp] theorem isNon_lst (i : List PV) : isNon (.lst i) = false := rfl
@[simp] theorem isNon_str (i : PySem.Str) : isNon (.str i) = false := rfl
@[simp] theorem binop_lst (xs ys : List PV) (h : xs.length + ys.length ≤ line) : binop .add (.d (.lst xs)) (.d (.lst ys)) = .ok (.d (.lst (xs ++ ys))) := by
  show (chk (xs ++ ys)).bind _ = _
  unfold chk
  rw [if_pos (by rw [List.length_append]; exact h)]; rfl
theorem binop_tup (xs ys : List PV) (h : xs.length + ys.length ≤ line) : binop .add (.d (.tup xs)) (.d (.tup ys)) = .ok (.d (.tup (xs ++ ys))) := by
  show (chk (xs ++ ys)).bind _ = _
  unfold chk
  rw [if_pos (by rw [List.length_append]; exact h)]; rfl
theorem catR_map {α β : Type} {f : α → Res (List β)} {g : α → List β} : ∀ {xs : List α}, (∀ x ∈ xs, f x = .ok (g x)) → catR f xs = .ok (xs.flatMap g)
  | [], _ => rfl
  | x :: xs, h => by
    rw [catR, h x (List.mem_cons_self ..), catR_map fun y hy => h y (List.mem_cons_of_mem _ hy)]
    simp [List.flatMap_cons]
theorem catR_comp {α β γ : Type} {f : β → Res (List γ)} {k : α → β} : ∀ {xs : List α}, catR f (xs.map k) = catR (fun x => f (k x)) xs
  | [] => rfl
  | x :: xs => by rw [List.map_cons, catR, catR, catR_comp]
/-- the least that does -/
theorem least_of {p : Nat → Prop} (n : Nat) (h : p n) : ∃ r, r ≤ n ∧ p r ∧ ∀ k, k < r → ¬ p k := by
  induction n using Nat.strongRecOn with
  | _ n ih =>
    by_cases q : ∃ k, k < n ∧ p k
    · obtain ⟨k, hk, pk⟩ := q
      obtain ⟨r, h1, h2, h3⟩ := ih k hk pk
      exact ⟨r, by omega, h2, h3⟩
    · exact ⟨n, Nat.le_refl _, h, fun k hk pk => q ⟨k, hk, pk⟩⟩
end Bw
namespace Bw
@[simp] theorem bindT_name (i : Nat) (p : PV) (Γ : Gm) : bindT (.name i) p Γ = some (Γ.set i (.sh (.d p))) := rfl
@[simp] theorem bindT_tup (ts : List CT) (ps : List PV) (Γ : Gm) : bindT (.tup ts) (.tup ps) Γ = bindTs ts ps Γ := rfl
@[simp] theorem bindTs_nil (Γ : Gm) : bindTs [] [] Γ = some Γ := rfl
@[simp] theorem bindTs_cons (t : CT) (ts : List CT) (p : PV) (ps : List PV) (Γ : Gm) : bindTs (t :: ts) (p :: ps) Γ = (bindT t p Γ).bind fun Γ' => bindTs ts ps Γ' := rfl
@[simp] theorem bindT_pr (i j : Nat) (p : Int × Int) (Γ : Gm) : bindT (.tup [.name i, .name j]) (pr p) Γ = some ((Γ.set i (.sh (.d (.int p.1)))).set j (.sh (.d (.int p.2)))) := rfl
@[simp] theorem chk_ok (xs : List PV) (h : xs.length ≤ line) : chk xs = .ok xs := if_pos h
end Bw
namespace Bw
/-- a loop that is left at the first item of a kind -/
theorem forR_dich {f : PV → Gm → Out} (Bad : PV → Prop) (P : Gm → Prop) (Q : SV → Prop) : ∀ {xs : List PV} {Γ : Gm}, P Γ →
    (∀ x ∈ xs, ∀ Γ, P Γ → (Bad x ∧ ∃ r, f x Γ = .ret r ∧ Q r) ∨ (¬ Bad x ∧ ∃ Γ', (f x Γ = .nx Γ' ∨ f x Γ = .cont Γ') ∧ P Γ')) →
    ((∃ x ∈ xs, Bad x) ∧ ∃ r, forR f xs Γ = .ret r ∧ Q r) ∨ ((∀ x ∈ xs, ¬ Bad x) ∧ ∃ Γ', forR f xs Γ = .nx Γ' ∧ P Γ')
  | [], Γ, h0, _ => .inr ⟨by simp, Γ, rfl, h0⟩
  | x :: xs, Γ, h0, step => by
    rcases step x (List.mem_cons_self ..) Γ h0 with ⟨b, r, e, q⟩ | ⟨nb, Γ1, e, p1⟩
    · left
      refine ⟨⟨x, List.mem_cons_self .., b⟩, r, ?_, q⟩
      show (f x Γ).loop _ = _
      rw [e]; rfl
    · have go : forR f (x :: xs) Γ = forR f xs Γ1 := by
        show (f x Γ).loop _ = _
        rcases e with e | e <;> rw [e] <;> rfl
      rcases forR_dich Bad P Q (Γ := Γ1) p1 (fun y hy => step y (List.mem_cons_of_mem _ hy)) with ⟨⟨y, hy, b⟩, r, e2, q⟩ | ⟨nb2, Γ2, e2, p2⟩
      · exact .inl ⟨⟨y, List.mem_cons_of_mem _ hy, b⟩, r, by rw [go]; exact e2, q⟩
      · refine .inr ⟨fun y hy => ?_, Γ2, by rw [go]; exact e2, p2⟩
        rcases List.mem_cons.mp hy with e | e
        · rw [e]; exact nb
        · exact nb2 y e
end Bw
namespace Bw
theorem forR_dichK {f : PV → Gm → Out} {xs : List PV} {Γ : Gm} {k : Gm → Out} (C : Out → Prop) (Bad : PV → Prop) (P : Gm → Prop) (Q : SV → Prop) (h0 : P Γ)
    (step : ∀ x ∈ xs, ∀ Γ, P Γ → (Bad x ∧ ∃ r, f x Γ = .ret r ∧ Q r) ∨ (¬ Bad x ∧ ∃ Γ', (f x Γ = .nx Γ' ∨ f x Γ = .cont Γ') ∧ P Γ'))
    (h1 : (∃ x ∈ xs, Bad x) → ∀ r, Q r → C (.ret r)) (h2 : (∀ x ∈ xs, ¬ Bad x) → ∀ Γ', P Γ' → C (k Γ')) : C ((forR f xs Γ).next k) := by
  rcases forR_dich Bad P Q h0 step with ⟨b, r, e, q⟩ | ⟨nb, Γ2, e, p⟩
  · rw [e]; exact h1 b r q
  · rw [e]; exact h2 nb Γ2 p
end Bw
namespace Bw
theorem forR_invK {f : PV → Gm → Out} {xs : List PV} {Γ : Gm} {k : Gm → Out} (C : Out → Prop) (P : Nat → Gm → Prop) (h0 : P 0 Γ) (step : ∀ (i : Nat) x Γ, xs[i]? = some x → P i Γ → ∃ Γ', (f x Γ = .nx Γ' ∨ f x Γ = .cont Γ') ∧ P (i + 1) Γ')
    (hk : ∀ Γ', P xs.length Γ' → C (k Γ')) : C ((forR f xs Γ).next k) := by
  obtain ⟨Γ', e, p⟩ := forR_inv P h0 step
  rw [e]; exact hk Γ' p
theorem whileK {c : Gm → Res Bool} {f : Gm → Out} {Γ : Gm} {k : Gm → Out} (C : Out → Prop) (P : Nat → Gm → Prop) (n : Nat) (h0 : P n Γ) (step : ∀ n Γ, P n Γ → c Γ = .ok false ∨ (c Γ = .ok true ∧ ∃ m Γ', m < n ∧ (f Γ = .nx Γ' ∨ f Γ = .cont Γ') ∧ P m Γ'))
    (hk : ∀ m Γ', P m Γ' → c Γ' = .ok false → C (k Γ')) : C ((whileR c f Γ).next k) := by
  obtain ⟨m, Γ', e, p, q⟩ := while_inv P step n Γ h0
  rw [e]; exact hk m Γ' p q
theorem range_at' {n i : Nat} {x : PV} (h : ((List.range n).map fun (i : Nat) => PV.int (0 + i))[i]? = some x) : i < n ∧ x = .int i := by
  obtain ⟨h1, h2⟩ := range_at h
  exact ⟨h1, by simpa using h2⟩
end Bw
namespace Bw
@[simp] theorem next_next (o : Out) (k k' : Gm → Out) : (o.next k).next k' = o.next fun Γ => (k Γ).next k' := by cases o <;> rfl
end Bw
namespace Bw
theorem range_mapS (lo st : Int) (n : Nat) : rangeP lo st n = (List.range n).map fun (i : Nat) => PV.int (lo + i * st) := by
  refine List.ext_getElem? fun i => ?_
  rw [rangeP_get, List.getElem?_map]
  by_cases h : i < n
  · rw [if_pos h, List.getElem?_range h]; rfl
  · rw [if_neg h, List.getElem?_eq_none (by simpa using h)]; rfl
end Bw
namespace Bw
theorem runs_append (G : Ctx) : ∀ (xs ys : List CS) (Γ : Gm), runs G (xs ++ ys) Γ = (runs G xs Γ).next fun Γ' => runs G ys Γ'
  | [], ys, Γ => by simp [runs]
  | x :: xs, ys, Γ => by
    rw [List.cons_append, runs, runs, next_next]
    congr 1
    funext Γ'
    exact runs_append G xs ys Γ'
end Bw
namespace Bw
/-- a loop that is left at the first item that is bad -/
theorem forR_find {f : PV → Gm → Out} (Bad : PV → Bool) (g : PV → SV) (P : Gm → Prop) : ∀ {xs : List PV} {Γ : Gm}, P Γ →
    (∀ x ∈ xs, ∀ Γ, P Γ → (Bad x = true → f x Γ = .ret (g x)) ∧ (Bad x = false → ∃ Γ', (f x Γ = .nx Γ' ∨ f x Γ = .cont Γ') ∧ P Γ')) →
    (∀ x, xs.find? Bad = some x → forR f xs Γ = .ret (g x)) ∧ (xs.find? Bad = none → ∃ Γ', forR f xs Γ = .nx Γ' ∧ P Γ')
  | [], Γ, h0, _ => ⟨fun x h => by simp at h, fun _ => ⟨Γ, rfl, h0⟩⟩
  | y :: ys, Γ, h0, step => by
    obtain ⟨s1, s2⟩ := step y (List.mem_cons_self ..) Γ h0
    cases e : Bad y with
    | true =>
      rw [List.find?_cons_of_pos e]
      refine ⟨fun x h => ?_, fun h => by cases h⟩
      cases h
      show (f y Γ).loop _ = _
      rw [s1 e]; rfl
    | false =>
      rw [List.find?_cons_of_neg (by simp [e])]
      obtain ⟨Γ1, e1, p1⟩ := s2 e
      have go : forR f (y :: ys) Γ = forR f ys Γ1 := by
        show (f y Γ).loop _ = _
        rcases e1 with e1 | e1 <;> rw [e1] <;> rfl
      rw [go]
      exact forR_find Bad g P (Γ := Γ1) p1 fun x hx => step x (List.mem_cons_of_mem _ hx)
end Bw
namespace Bw
mutual
theorem pyEq_same : ∀ p : PV, pyEq p p = true
  | .non => rfl
  | .bl b => by simp [pyEq]
  | .int i => by simp [pyEq]
  | .str s => by simp [pyEq]
  | .tup xs => by rw [pyEq]; exact pyEqL_same xs
  | .lst xs => by rw [pyEq]; exact pyEqL_same xs
theorem pyEqL_same : ∀ ps : List PV, pyEqL ps ps = true
  | [] => rfl
  | x :: xs => by simp [pyEqL, pyEq_same x, pyEqL_same xs]
end
theorem ne_same {p : PV} (h : sha p = true) : cmpop .ne (.d p) (.d p) = .ok false := by
  show (if sha p || sha p then Res.ok (!pyEq p p) else .bad) = _
  rw [h, pyEq_same]; rfl
theorem eq_same {p : PV} (h : sha p = true) : cmpop .eq (.d p) (.d p) = .ok true := by
  show (if sha p || sha p then Res.ok (pyEq p p) else .bad) = _
  rw [h, pyEq_same]; rfl
end Bw
namespace Bw
/-- the first answer, from the place k on, n places -/
def firstN (g : Nat → Option SV) : Nat → Nat → Option SV
  | _, 0 => none
  | k, n + 1 => match g k with
    | some s => some s
    | none => firstN g (k + 1) n
/-- a loop that is left at the first place with an answer -/
theorem forR_selN {f : PV → Gm → Out} (g : Nat → Option SV) (P : Gm → Prop) : ∀ {xs : List PV} {Γ : Gm} (k : Nat), P Γ →
    (∀ i x, xs[i]? = some x → ∀ Γ, P Γ → (∀ s, g (k + i) = some s → f x Γ = .ret s) ∧ (g (k + i) = none → ∃ Γ', (f x Γ = .nx Γ' ∨ f x Γ = .cont Γ') ∧ P Γ')) →
    (∀ s, firstN g k xs.length = some s → forR f xs Γ = .ret s) ∧ (firstN g k xs.length = none → ∃ Γ', forR f xs Γ = .nx Γ' ∧ P Γ')
  | [], Γ, k, h0, _ => ⟨(fun s h => nomatch h), (fun _ => ⟨Γ, rfl, h0⟩)⟩
  | y :: ys, Γ, k, h0, step => by
    obtain ⟨s1, s2⟩ := step 0 y rfl Γ h0
    rw [Nat.add_zero] at s1 s2
    rw [List.length_cons, firstN]
    cases e : g k with
    | some s =>
      refine ⟨fun x h => ?_, fun h => by cases h⟩
      cases h
      show (f y Γ).loop _ = _
      rw [s1 s e]; rfl
    | none =>
      obtain ⟨Γ1, e1, p1⟩ := s2 e
      have go : forR f (y :: ys) Γ = forR f ys Γ1 := by
        show (f y Γ).loop _ = _
        rcases e1 with e1 | e1 <;> rw [e1] <;> rfl
      rw [go]
      exact forR_selN g P (Γ := Γ1) (k + 1) p1 fun i x hx => by
        have := step (i + 1) x (by simpa using hx)
        rwa [show k + (i + 1) = k + 1 + i by omega] at this
theorem firstN_ext {g h : Nat → Option SV} : ∀ (n k : Nat), (∀ i, i < n → g (k + i) = h (k + i)) → firstN g k n = firstN h k n
  | 0, _, _ => rfl
  | n + 1, k, e => by
    have e0 := e 0 (by omega)
    rw [Nat.add_zero] at e0
    have ih := firstN_ext (g := g) (h := h) n (k + 1) fun i hi => by
      have := e (i + 1) (by omega)
      rwa [show k + (i + 1) = k + 1 + i by omega] at this
    rw [firstN, firstN, e0, ih]
/-- the first of those that are filtered -/
theorem firstN_filter (b : Nat → Bool) (h : Nat → SV) : ∀ (n k : Nat), firstN (fun i => if b i then some (h i) else none) k n = (((List.range' k n).filter b).head?).map h
  | 0, _ => rfl
  | n + 1, k => by
    rw [firstN, List.range'_succ, List.filter_cons]
    cases e : b k with
    | true => simp
    | false => simpa using firstN_filter b h n (k + 1)
end Bw
namespace Bw
theorem forR_selK {f : PV → Gm → Out} {xs : List PV} {Γ : Gm} {k : Gm → Out} (C : Out → Prop) (g : Nat → Option SV) (P : Gm → Prop) (h0 : P Γ)
    (step : ∀ i x, xs[i]? = some x → ∀ Γ, P Γ → (∀ s, g i = some s → f x Γ = .ret s) ∧ (g i = none → ∃ Γ', (f x Γ = .nx Γ' ∨ f x Γ = .cont Γ') ∧ P Γ'))
    (hs : ∀ s, firstN g 0 xs.length = some s → C (.ret s)) (hn : firstN g 0 xs.length = none → ∀ Γ', P Γ' → C (k Γ')) : C ((forR f xs Γ).next k) := by
  obtain ⟨a, b⟩ := forR_selN (f := f) (xs := xs) g P 0 h0 fun i x hx Γ p => by
    have := step i x hx Γ p
    rwa [Nat.zero_add]
  cases e : firstN g 0 xs.length with
  | some s => rw [a s e]; exact hs s e
  | none =>
    obtain ⟨Γ', e2, p⟩ := b e
    rw [e2]; exact hn e Γ' p
end Bw
end

section
set_option autoImplicit false
set_option linter.all false
set_option maxRecDepth 100000
namespace K87
open Bw
def xsub : Nat → Nat → Option Bool
  | 0, 0 => some true
  | 0, 1 => some false
  | 0, 2 => some false
  | 1, 0 => some false
  | 1, 1 => some true
  | 1, 2 => some false
  | 2, 0 => some false
  | 2, 1 => some false
  | 2, 2 => some true
  | _, _ => none
def c__law_draws : List CS := [(.own 2 (.lst [])), (.set (.name 3) (.int 7)), (.for (.name 4) (.seq (.sl (.var 0) none (some (.int 63)))) [(.set (.name 6) (.f1 .abs (.var 4))), (.set (.name 3) (.bin .mod (.f1 .int (.bin .add (.bin .add (.bin .mul (.var 3) (.int 48271)) (.var 6)) (.int 11))) (.int 2147483647))), (.ife (.cmp .ge (.var 6) (.bin .pow (.int 10) (.int 18))) [(.for (.name 5) (.rng1 (.int 60)) [(.ife (.cmp .gt (.var 6) (.int 0)) [(.app 2 (.bin .mod (.f1 .int (.var 6)) (.int 1009))), (.set (.name 6) (.bin .fdiv (.var 6) (.int 1009)))] [])])] [(.app 2 (.bin .mod (.bin .fdiv (.f1 .int (.bin .add (.bin .mul (.var 3) (.int 16807)) (.int 5))) (.int 3)) (.int 65521)))])]), (.for (.name 5) (.rng1 (.var 1)) [(.ife (.cmp .lt (.f1 .len (.own 2)) (.var 1)) [(.set (.name 3) (.bin .mod (.f1 .int (.bin .add (.bin .add (.bin .mul (.var 3) (.int 69621)) (.var 5)) (.int 1))) (.int 2147483647))), (.app 2 (.bin .mod (.bin .fdiv (.f1 .int (.var 3)) (.int 7)) (.int 65521)))] [])]), (.frz 2), (.ret (.sl (.var 2) none (some (.var 1))))]
noncomputable def g__law_draws : Bw.Ctx := ⟨[], [], xsub⟩
noncomputable def f__law_draws : List SV → Res SV := fn g__law_draws 2 7 c__law_draws
def c__law_sheet : List CS := [(.parO [3, 1, 4] [false, false, true] [(.bin .add (.int 1) (.bin .mod (.f1 .int (.idx (.var 0) (.int 0))) (.int 6))), (.bin .add (.int 1) (.bin .mod (.f1 .int (.idx (.var 0) (.int 1))) (.int 6))), (.lst [])]), (.set (.name 1) (.ife (.cmp .eq (.bin .mod (.f1 .int (.idx (.var 0) (.int 2))) (.int 2)) (.int 0)) (.var 3) (.var 1))), (.for (.name 2) (.rng1 (.bin .mod (.f1 .int (.idx (.var 0) (.int 3))) (.int 6))) [(.app 4 (.tup [(.bin .mod (.f1 .int (.idx (.var 0) (.bin .add (.int 4) (.var 2)))) (.var 3)), (.bin .mod (.bin .fdiv (.f1 .int (.idx (.var 0) (.bin .add (.int 4) (.var 2)))) (.int 8)) (.var 1))]))]), (.frz 4), (.ife (.cmp .eq (.bin .mod (.f1 .int (.idx (.var 0) (.int 10))) (.int 3)) (.int 0)) [(.set (.name 4) (.bin .add (.var 4) (.lc (.tup [(.name 5), (.name 6)]) (.seq (.sl (.var 4) none (some (.int 3)))) [] (.tup [(.bin .sub (.bin .sub (.var 3) (.int 1)) (.var 5)), (.bin .sub (.bin .sub (.var 1) (.int 1)) (.var 6))]))))] []), (.ife (.cmp .eq (.bin .mod (.f1 .int (.idx (.var 0) (.int 10))) (.int 5)) (.int 0)) [(.set (.name 4) (.bin .add (.var 4) (.lc (.tup [(.name 5), (.name 6)]) (.seq (.sl (.var 4) none (some (.int 3)))) [] (.tup [(.var 5), (.bin .sub (.bin .sub (.var 1) (.int 1)) (.var 6))]))))] []), (.ret (.tup [(.var 3), (.var 1), (.f1 .tuple (.sl (.dst false (.var 4)) none (some (.int 8))))]))]
noncomputable def g__law_sheet : Bw.Ctx := ⟨[], [], xsub⟩
noncomputable def f__law_sheet : List SV → Res SV := fn g__law_sheet 1 7 c__law_sheet
def c__law_posed : List CS := [(.set (.tup [(.name 4), (.name 5), (.name 6)]) (.var 0)), (.set (.name 2) (.bin .add (.bin .mul (.lst [(.str "flip")]) (.bin .fdiv (.var 1) (.int 4))) (.bin .mul (.lst [(.str "turn")]) (.bin .mod (.var 1) (.int 4))))), (.for (.name 3) (.seq (.var 2)) [(.ife (.cmp .eq (.var 3) (.str "flip")) [(.set (.name 6) (.lc (.tup [(.name 7), (.name 8)]) (.seq (.var 6)) [] (.tup [(.var 7), (.bin .sub (.bin .sub (.var 5) (.int 1)) (.var 8))])))] [(.set (.tup [(.name 6), (.name 4), (.name 5)]) (.tup [(.lc (.tup [(.name 7), (.name 8)]) (.seq (.var 6)) [] (.tup [(.var 8), (.bin .sub (.bin .sub (.var 4) (.int 1)) (.var 7))])), (.var 5), (.var 4)]))])]), (.ret (.tup [(.var 4), (.var 5), (.f1 .tuple (.f1 .sorted (.var 6)))]))]
noncomputable def g__law_posed : Bw.Ctx := ⟨[], [], xsub⟩
noncomputable def f__law_posed : List SV → Res SV := fn g__law_posed 2 9 c__law_posed
def c_is_whole : List CS := [(.ret (.and (.isa (.var 0) .int) (.and (.not (.isa (.var 0) .bool)) (.chain .le .le (.var 1) (.var 0) (.var 2)))))]
noncomputable def g_is_whole : Bw.Ctx := ⟨[], [], xsub⟩
noncomputable def f_is_whole : List SV → Res SV := fn g_is_whole 3 3 c_is_whole
def c_ascends : List CS := [(.ret (.f1 .all (.lc (.tup [(.name 1), (.name 2)]) (.zip (.var 0) (.sl (.var 0) (some (.int 1)) none)) [] (.cmp .lt (.var 1) (.var 2)))))]
noncomputable def g_ascends : Bw.Ctx := ⟨[], [], xsub⟩
noncomputable def f_ascends : List SV → Res SV := fn g_ascends 1 3 c_ascends
def c__are_points : List CS := [(.ife (.or (.not (.isa (.var 2) .tuple)) (.cmp .gt (.f1 .len (.var 2)) (.glob 0))) [(.ret (.bl false))] []), (.for (.name 3) (.seq (.var 2)) [(.ife (.or (.not (.isa (.var 3) .tuple)) (.or (.cmp .ne (.f1 .len (.var 3)) (.int 2)) (.not (.call 0 [(.idx (.var 3) (.int 0)), (.int 0), (.bin .sub (.var 0) (.int 1))])))) [(.ret (.bl false))] []), (.ife (.not (.call 0 [(.idx (.var 3) (.int 1)), (.int 0), (.bin .sub (.var 1) (.int 1))])) [(.ret (.bl false))] [])]), (.ret (.call 1 [(.var 2)]))]
noncomputable def g__are_points : Bw.Ctx := ⟨[f_is_whole, f_ascends], [.d (.int (10))], xsub⟩
noncomputable def f__are_points : List SV → Res SV := fn g__are_points 3 4 c__are_points
def c__check_sheet : List CS := [(.ife (.or (.not (.isa (.var 0) .tuple)) (.cmp .ne (.f1 .len (.var 0)) (.int 3))) [(.raise 0)] []), (.ife (.or (.not (.call 0 [(.idx (.var 0) (.int 0)), (.int 1), (.glob 0)])) (.not (.call 0 [(.idx (.var 0) (.int 1)), (.int 1), (.glob 0)]))) [(.raise 0)] []), (.ife (.not (.call 1 [(.idx (.var 0) (.int 0)), (.idx (.var 0) (.int 1)), (.idx (.var 0) (.int 2))])) [(.raise 0)] [])]
noncomputable def g__check_sheet : Bw.Ctx := ⟨[f_is_whole, f__are_points], [.d (.int (12))], xsub⟩
noncomputable def f__check_sheet : List SV → Res SV := fn g__check_sheet 1 1 c__check_sheet
def c__check_pose : List CS := [(.ife (.not (.call 0 [(.var 0), (.int 0), (.bin .sub (.glob 0) (.int 1))])) [(.raise 1)] [])]
noncomputable def g__check_pose : Bw.Ctx := ⟨[f_is_whole], [.d (.int (8))], xsub⟩
noncomputable def f__check_pose : List SV → Res SV := fn g__check_pose 1 1 c__check_pose
def c__posed : List CS := [(.set (.tup [(.name 3), (.name 4), (.name 5)]) (.var 0)), (.ife (.cmp .ge (.var 1) (.glob 0)) [(.set (.name 5) (.lc (.tup [(.name 6), (.name 7)]) (.seq (.var 5)) [] (.tup [(.var 6), (.bin .sub (.bin .sub (.var 4) (.int 1)) (.var 7))])))] []), (.for (.name 2) (.rng1 (.bin .mod (.var 1) (.glob 0))) [(.set (.name 5) (.lc (.tup [(.name 6), (.name 7)]) (.seq (.var 5)) [] (.tup [(.var 7), (.bin .sub (.bin .sub (.var 3) (.int 1)) (.var 6))]))), (.set (.tup [(.name 3), (.name 4)]) (.tup [(.var 4), (.var 3)]))]), (.ret (.tup [(.var 3), (.var 4), (.f1 .tuple (.f1 .sorted (.var 5)))]))]
noncomputable def g__posed : Bw.Ctx := ⟨[], [.d (.int (4))], xsub⟩
noncomputable def f__posed : List SV → Res SV := fn g__posed 2 8 c__posed
def c_posed : List CS := [(.expr (.call 0 [(.var 0)])), (.expr (.call 1 [(.var 1)])), (.ret (.call 2 [(.var 0), (.var 1)]))]
noncomputable def g_posed : Bw.Ctx := ⟨[f__check_sheet, f__check_pose, f__posed], [], xsub⟩
noncomputable def f_posed : List SV → Res SV := fn g_posed 2 2 c_posed
def c_undone : List CS := [(.expr (.call 0 [(.var 0)])), (.ret (.ife (.cmp .ge (.var 0) (.glob 0)) (.var 0) (.bin .mod (.bin .sub (.glob 0) (.var 0)) (.glob 0))))]
noncomputable def g_undone : Bw.Ctx := ⟨[f__check_pose], [.d (.int (4))], xsub⟩
noncomputable def f_undone : List SV → Res SV := fn g_undone 1 1 c_undone
def c_behind : List CS := [(.expr (.call 0 [(.var 0)])), (.expr (.call 0 [(.var 1)])), (.par [3, 4] [(.bin .mod (.var 0) (.glob 0)), (.bin .mod (.var 1) (.glob 0))]), (.ife (.cmp .lt (.var 1) (.glob 0)) [(.ret (.bin .add (.bin .sub (.var 0) (.var 3)) (.bin .mod (.bin .add (.var 3) (.var 4)) (.glob 0))))] []), (.set (.name 2) (.bin .mod (.bin .sub (.var 4) (.var 3)) (.glob 0))), (.ret (.ife (.cmp .ge (.var 0) (.glob 0)) (.var 2) (.bin .add (.var 2) (.glob 0))))]
noncomputable def g_behind : Bw.Ctx := ⟨[f__check_pose], [.d (.int (4))], xsub⟩
noncomputable def f_behind : List SV → Res SV := fn g_behind 2 5 c_behind
def c__poses_for : List CS := [(.ret (.f1 .tuple (.lc (.name 2) (.rng1 (.glob 0)) [(.cmp .eq (.call 0 [(.var 0), (.var 2)]) (.var 1))] (.var 2))))]
noncomputable def g__poses_for : Bw.Ctx := ⟨[f__posed], [.d (.int (8))], xsub⟩
noncomputable def f__poses_for : List SV → Res SV := fn g__poses_for 2 3 c__poses_for
def c_own_poses : List CS := [(.expr (.call 0 [(.var 0)])), (.ret (.call 1 [(.var 0), (.var 0)]))]
noncomputable def g_own_poses : Bw.Ctx := ⟨[f__check_sheet, f__poses_for], [], xsub⟩
noncomputable def f_own_poses : List SV → Res SV := fn g_own_poses 1 1 c_own_poses
def c_poses_for : List CS := [(.expr (.call 0 [(.var 0)])), (.expr (.call 0 [(.var 1)])), (.ret (.call 1 [(.var 0), (.var 1)]))]
noncomputable def g_poses_for : Bw.Ctx := ⟨[f__check_sheet, f__poses_for], [], xsub⟩
noncomputable def f_poses_for : List SV → Res SV := fn g_poses_for 2 2 c_poses_for
def c__law_sets : List CS := [(.set (.name 1) (.lst [(.tup [])])), (.for (.name 2) (.seq (.var 0)) [(.set (.name 1) (.bin .add (.var 1) (.lc (.name 4) (.seq (.var 1)) [] (.bin .add (.var 4) (.tup [(.var 2)])))))]), (.ret (.lc (.tup [(.name 3), (.name 4)]) (.seq (.f1 .sorted (.lc (.name 4) (.seq (.var 1)) [] (.tup [(.f1 .len (.var 4)), (.var 4)])))) [] (.var 4)))]
noncomputable def g__law_sets : Bw.Ctx := ⟨[], [], xsub⟩
noncomputable def f__law_sets : List SV → Res SV := fn g__law_sets 1 5 c__law_sets
def c__chosen : List CS := [(.ife (.cmp .eq (.var 2) (.int 0)) [(.ret (.lst [(.tup [])]))] []), (.own 3 (.lst [])), (.for (.name 4) (.rng2 (.var 1) (.f1 .len (.var 0))) [(.ext 3 (.lc (.name 5) (.seq (.call 0 [(.var 0), (.bin .add (.var 4) (.int 1)), (.bin .sub (.var 2) (.int 1))])) [] (.bin .add (.tup [(.idx (.var 0) (.var 4))]) (.var 5))))]), (.frz 3), (.ret (.var 3))]
noncomputable def r__chosen : Nat → List SV → Res SV
  | 0 => fun _ => .bad
  | d + 1 => fn ⟨[r__chosen d], [], xsub⟩ 3 6 c__chosen
noncomputable def f__chosen : List SV → Res SV := r__chosen 20
def c__tells : List CS := [(.set (.name 2) (.tup [(.idx (.var 0) (.int 0)), (.idx (.var 0) (.int 1)), (.var 1)])), (.ret (.cmp .eq (.call 0 [(.var 2), (.var 2)]) (.tup [(.int 0)])))]
noncomputable def g__tells : Bw.Ctx := ⟨[f__poses_for], [], xsub⟩
noncomputable def f__tells : List SV → Res SV := fn g__tells 2 3 c__tells
def c_fewest_telling : List CS := [(.expr (.call 0 [(.var 0)])), (.for (.name 1) (.rng1 (.bin .add (.f1 .len (.idx (.var 0) (.int 2))) (.int 1))) [(.for (.name 2) (.seq (.call 1 [(.idx (.var 0) (.int 2)), (.int 0), (.var 1)])) [(.ife (.call 2 [(.var 0), (.var 2)]) [(.ret (.var 2))] [])])]), (.ret .non)]
noncomputable def g_fewest_telling : Bw.Ctx := ⟨[f__check_sheet, f__chosen, f__tells], [], xsub⟩
noncomputable def f_fewest_telling : List SV → Res SV := fn g_fewest_telling 1 3 c_fewest_telling
def c_pose_seen : List CS := [(.expr (.call 0 [(.var 0)])), (.expr (.call 0 [(.var 2)])), (.ife (.or (.not (.call 1 [(.idx (.var 0) (.int 0)), (.idx (.var 0) (.int 1)), (.var 1)])) (.not (.f1 .all (.lc (.name 4) (.seq (.var 1)) [] (.cmp .isin (.var 4) (.idx (.var 0) (.int 2))))))) [(.raise 2)] []), (.ife (.not (.call 2 [(.var 0), (.var 1)])) [(.raise 2)] []), (.set (.name 3) (.call 3 [(.tup [(.idx (.var 0) (.int 0)), (.idx (.var 0) (.int 1)), (.var 1)]), (.var 2)])), (.ret (.ife (.cmp .gt (.f1 .len (.var 3)) (.int 0)) (.idx (.var 3) (.int 0)) .non))]
noncomputable def g_pose_seen : Bw.Ctx := ⟨[f__check_sheet, f__are_points, f__tells, f__poses_for], [], xsub⟩
noncomputable def f_pose_seen : List SV → Res SV := fn g_pose_seen 3 5 c_pose_seen
def c__law_error : List CS := [(.try [(.ife (.cmp .eq (.var 0) (.int 0)) [(.expr (.call 0 [(.var 1), (.var 2)]))] [(.ife (.cmp .eq (.var 0) (.int 1)) [(.expr (.call 1 [(.var 1)]))] [(.ife (.cmp .eq (.var 0) (.int 2)) [(.expr (.call 2 [(.var 1), (.var 2)]))] [(.ife (.cmp .eq (.var 0) (.int 3)) [(.expr (.call 2 [(.var 2), (.var 1)]))] [(.ife (.cmp .eq (.var 0) (.int 4)) [(.expr (.call 3 [(.var 1)]))] [(.ife (.cmp .eq (.var 0) (.int 5)) [(.expr (.call 4 [(.var 1), (.var 2), (.var 3)]))] [(.ife (.cmp .eq (.var 0) (.int 6)) [(.expr (.call 5 [(.var 1), (.var 2)]))] [(.expr (.call 6 [(.var 1)]))])])])])])])])] [(0, (.retc (.str "sheet"))), (1, (.retc (.str "pose"))), (2, (.retc (.str "telling")))]), (.ret (.str "none"))]
noncomputable def g__law_error : Bw.Ctx := ⟨[f_posed, f_own_poses, f_poses_for, f_fewest_telling, f_pose_seen, f_behind, f_undone], [], xsub⟩
noncomputable def f__law_error : List SV → Res SV := fn g__law_error 4 4 c__law_error
def b_law_1 : List CS := [(.set (.name 20) (.call 5 [(.var 4), (.var 14)])), (.ife (.or (.cmp .ne (.call 2 [(.var 3), (.var 20)]) (.call 2 [(.call 2 [(.var 3), (.var 4)]), (.var 14)])) (.cmp .ne (.call 3 [(.call 3 [(.var 12), (.var 4)]), (.var 14)]) (.idx (.var 2) (.var 20)))) [(.ret (.bl false))] []), (.ife (.not (.f1 .all (.lc (.name 23) (.rng1 (.int 8)) [] (.cmp .eq (.call 5 [(.var 20), (.var 23)]) (.call 5 [(.var 4), (.call 5 [(.var 14), (.var 23)])]))))) [(.ret (.bl false))] [])]
def b_law_2 : List CS := [(.ife (.or (.cmp .ne (.call 5 [(.var 4), (.call 4 [(.var 4)])]) (.int 0)) (.or (.cmp .ne (.call 5 [(.call 4 [(.var 4)]), (.var 4)]) (.int 0)) (.or (.cmp .ne (.call 5 [(.int 0), (.var 4)]) (.var 4)) (.cmp .ne (.call 5 [(.var 4), (.int 0)]) (.var 4))))) [(.ret (.bl false))] []), (.for (.name 14) (.rng1 (.int 8)) b_law_1)]
def b_law_3 : List CS := [(.set (.name 15) (.f1 .tuple (.lc (.name 4) (.rng1 (.int 8)) [(.cmp .eq (.idx (.var 2) (.var 4)) (.var 6))] (.var 4)))), (.ife (.or (.cmp .ne (.call 7 [(.var 12), (.var 6)]) (.var 15)) (.cmp .notin (.f1 .len (.var 15)) (.tup [(.int 0), (.f1 .len (.var 5))]))) [(.ret (.bl false))] [])]
def b_law_4 : List CS := [(.ife (.cmp .ne (.call 10 [(.var 12), (.var 8), (.call 2 [(.tup [(.var 16), (.var 17), (.var 8)]), (.var 4)])]) (.var 4)) [(.ret (.bl false))] [])]
def b_law_5 : List CS := [(.for (.name 4) (.rng1 (.int 8)) b_law_4), (.set (.name 15) (.lc (.name 4) (.rng1 (.int 8)) [(.cmp .eq (.call 2 [(.tup [(.var 16), (.var 17), (.var 8)]), (.var 4)]) (.var 13))] (.var 4))), (.ife (.cmp .ne (.call 10 [(.var 12), (.var 8), (.var 13)]) (.ife (.cmp .gt (.f1 .len (.var 15)) (.int 0)) (.idx (.var 15) (.int 0)) .non)) [(.ret (.bl false))] [])]
def b_law_6 : List CS := [(.ife (.cmp .ne (.call 11 [(.int 5), (.var 12), (.var 8), (.var 13)]) (.str "telling")) [(.ret (.bl false))] [])]
def b_law_7 : List CS := [(.set (.name 19) (.lst [(.call 11 [(.int 0), (.var 10), (.int 0), .non]), (.call 11 [(.int 1), (.var 10), .non, .non]), (.call 11 [(.int 4), (.var 10), .non, .non]), (.call 11 [(.int 5), (.var 10), (.tup []), (.var 13)])])), (.ife (.or (.cmp .ne (.var 19) (.bin .mul (.lst [(.str "sheet")]) (.int 4))) (.cmp .ne (.call 11 [(.int 5), (.var 12), (.tup []), (.var 10)]) (.str "sheet"))) [(.ret (.bl false))] []), (.ife (.cmp .ne (.lc (.name 22) (.seq (.tup [(.int 2), (.int 3)])) [] (.call 11 [(.var 22), (.var 10), (.var 12), .non])) (.bin .mul (.lst [(.str "sheet")]) (.int 2))) [(.ret (.bl false))] [])]
def c_law : List CS := [(.set (.name 1) (.call 0 [(.var 0), (.int 50)])), (.set (.tup [(.name 12), (.name 13)]) (.tup [(.call 1 [(.var 1)]), (.call 1 [(.sl (.var 1) (some (.int 11)) none)])])), (.set (.name 2) (.lc (.name 4) (.rng1 (.int 8)) [] (.call 2 [(.var 12), (.var 4)]))), (.ife (.cmp .ne (.lc (.name 4) (.rng1 (.int 8)) [] (.call 3 [(.var 12), (.var 4)])) (.var 2)) [(.ret (.bl false))] []), (.set (.name 3) (.tup [(.int 3), (.int 4), (.tup [(.tup [(.int 0), (.int 0)]), (.tup [(.int 0), (.int 1)]), (.tup [(.int 1), (.int 3)])])])), (.for (.name 4) (.rng1 (.int 8)) b_law_2), (.set (.name 5) (.f1 .tuple (.lc (.name 4) (.rng1 (.int 8)) [(.cmp .eq (.idx (.var 2) (.var 4)) (.var 12))] (.var 4)))), (.ife (.or (.cmp .ne (.call 6 [(.var 12)]) (.var 5)) (.cmp .notin (.f1 .len (.var 5)) (.tup [(.int 1), (.int 2), (.int 4), (.int 8)]))) [(.ret (.bl false))] []), (.for (.name 6) (.seq (.bin .add (.var 2) (.lst [(.var 13)]))) b_law_3), (.set (.tup [(.name 16), (.name 17), (.name 18)]) (.var 12)), (.set (.name 7) (.lc (.name 21) (.seq (.call 8 [(.var 18)])) [(.not (.f1 .any (.lc (.name 4) (.rng2 (.int 1) (.int 8)) [] (.cmp .eq (.call 2 [(.tup [(.var 16), (.var 17), (.var 21)]), (.var 4)]) (.tup [(.var 16), (.var 17), (.var 21)])))))] (.var 21))), (.ife (.cmp .ne (.call 9 [(.var 12)]) (.ife (.cmp .gt (.f1 .len (.var 7)) (.int 0)) (.idx (.var 7) (.int 0)) .non)) [(.ret (.bl false))] []), (.for (.name 8) (.seq (.bin .add (.sl (.var 7) none (some (.int 3))) (.sl (.var 7) (some (.neg (.int 2))) none))) b_law_5), (.for (.name 8) (.seq (.bin .add (.sl (.lc (.name 21) (.seq (.call 8 [(.var 18)])) [(.cmp .notin (.var 21) (.var 7))] (.var 21)) none (some (.int 20))) (.lst [.non, (.f1 .list (.var 18)), (.bin .add (.rev (.var 18)) (.tup [(.tup [(.int 0), (.int 0)])])), (.tup [(.tup [(.int 9), (.int 9)])]), (.tup [(.tup [(.bl true), (.int 0)])])]))) b_law_6), (.set (.name 9) (.lst [.non, (.tup [(.int 0), (.int 1), (.tup [])]), (.tup [(.int 1), (.int 13), (.tup [])]), (.tup [(.int 1), (.int 1)]), (.tup [(.int 1), (.bl true), (.tup [])]), (.tup [(.int 2), (.int 2), (.lst [(.tup [(.int 0), (.int 0)])])]), (.tup [(.int 2), (.int 2), (.tup [(.tup [(.int 0), (.int 2)])])]), (.tup [(.int 2), (.int 2), (.tup [(.tup [(.int 1), (.int 0)]), (.tup [(.int 0), (.int 0)])])]), (.tup [(.int 2), (.int 2), (.tup [(.tup [(.int 0), (.int 0)]), (.tup [(.int 0), (.int 0)])])])])), (.for (.name 10) (.seq (.bin .add (.var 9) (.lst [(.tup [(.int 2), (.int 2), (.tup [(.tup [(.int 0)])])]), (.tup [(.int 12), (.int 12), (.f1 .tuple (.lc (.name 24) (.rng1 (.int 11)) [] (.tup [(.int 0), (.var 24)])))])]))) b_law_7), (.set (.name 11) (.tup [(.neg (.int 1)), (.int 8), (.bl true), .non, (.str "0")])), (.ife (.not (.f1 .all (.lc (.name 10) (.seq (.var 11)) [] (.and (.cmp .eq (.call 11 [(.int 0), (.var 12), (.var 10), .non]) (.str "pose")) (.and (.cmp .eq (.call 11 [(.int 6), (.var 10), (.int 0), .non]) (.str "pose")) (.cmp .eq (.call 11 [(.int 6), (.int 0), (.var 10), .non]) (.str "pose"))))))) [(.ret (.bl false))] []), (.ret (.cmp .eq (.lc (.name 10) (.seq (.var 11)) [] (.call 11 [(.int 7), (.var 10), .non, .non])) (.bin .mul (.lst [(.str "pose")]) (.int 5))))]
noncomputable def g_law : Bw.Ctx := ⟨[f__law_draws, f__law_sheet, f__law_posed, f_posed, f_undone, f_behind, f_own_poses, f_poses_for, f__law_sets, f_fewest_telling, f_pose_seen, f__law_error], [], xsub⟩
noncomputable def f_law : List SV → Res SV := fn g_law 1 25 c_law
def c__law_columns : List CS := [(.par [5, 6] [(.tup []), (.bin .sub (.bin .mod (.f1 .int (.idx (.var 0) (.var 1))) (.int 9)) (.int 4))]), (.for (.name 4) (.rng1 (.var 2)) [(.set (.name 6) (.bin .add (.bin .add (.var 6) (.int 1)) (.bin .mod (.bin .fdiv (.f1 .int (.idx (.var 0) (.bin .add (.bin .add (.var 1) (.int 1)) (.bin .mod (.var 4) (.int 12))))) (.bin .add (.int 1) (.bin .fdiv (.var 4) (.int 12)))) (.var 3)))), (.set (.name 5) (.bin .add (.var 5) (.tup [(.var 6)])))]), (.ret (.var 5))]
noncomputable def g__law_columns : Bw.Ctx := ⟨[], [], fun _ _ => none⟩
noncomputable def f__law_columns : List SV → Res SV := fn g__law_columns 4 7 c__law_columns
def c__law_river : List CS := [(.par [3, 4] [(.bin .add (.int 1) (.bin .mod (.f1 .int (.idx (.var 0) (.var 1))) (.var 2))), (.bin .mod (.bin .fdiv (.f1 .int (.idx (.var 0) (.var 1))) (.int 32)) (.int 4))]), (.par [5, 6] [(.call 0 [(.var 0), (.bin .add (.var 1) (.int 1)), (.var 3), (.idx (.lst [(.int 1), (.int 3), (.int 8), (.int 2)]) (.var 4))]), (.call 0 [(.var 0), (.bin .add (.var 1) (.int 14)), (.var 3), (.idx (.lst [(.int 1), (.int 2), (.int 8), (.int 4)]) (.var 4))])]), (.ret (.tup [(.var 5), (.f1 .tuple (.lc (.name 7) (.seq (.var 6)) [] (.bin .add (.var 7) (.bin .mod (.bin .fdiv (.f1 .int (.idx (.var 0) (.var 1))) (.int 128)) (.idx (.lst [(.int 1), (.int 6), (.int 12)]) (.bin .mod (.f1 .int (.idx (.var 0) (.var 1))) (.int 3)))))))]))]
noncomputable def g__law_river : Bw.Ctx := ⟨[f__law_columns], [], fun _ _ => none⟩
noncomputable def f__law_river : List SV → Res SV := fn g__law_river 3 8 c__law_river
def c__law_bounds : List CS := [(.set (.tup [(.name 4), (.name 5)]) (.var 0)), (.set (.name 2) (.lc (.name 6) (.rng2 (.var 1) (.f1 .len (.var 4))) [] (.bin .sub (.bin .add (.idx (.var 4) (.bin .sub (.var 6) (.var 1))) (.var 1)) (.idx (.var 5) (.var 6))))), (.set (.name 3) (.lc (.name 6) (.rng1 (.bin .sub (.f1 .len (.var 4)) (.var 1))) [] (.bin .sub (.bin .sub (.idx (.var 4) (.bin .add (.var 6) (.var 1))) (.var 1)) (.idx (.var 5) (.var 6))))), (.ret (.tup [(.ife (.cmp .gt (.f1 .len (.var 2)) (.int 0)) (.f1 .max (.var 2)) .non), (.ife (.cmp .gt (.f1 .len (.var 3)) (.int 0)) (.f1 .min (.var 3)) .non)]))]
noncomputable def g__law_bounds : Bw.Ctx := ⟨[], [], fun _ _ => none⟩
noncomputable def f__law_bounds : List SV → Res SV := fn g__law_bounds 2 7 c__law_bounds
def c__are_columns : List CS := [(.ife (.or (.not (.isa (.var 0) .tuple)) (.not (.chain .le .le (.int 1) (.f1 .len (.var 0)) (.glob 0)))) [(.ret (.bl false))] []), (.ret (.and (.f1 .all (.lc (.name 1) (.seq (.var 0)) [] (.call 0 [(.var 1), (.bin .sub (.int 0) (.glob 1)), (.glob 1)]))) (.call 1 [(.var 0)])))]
noncomputable def g__are_columns : Bw.Ctx := ⟨[f_is_whole, f_ascends], [.d (.int (20)), .d (.int (1000))], fun _ _ => none⟩
noncomputable def f__are_columns : List SV → Res SV := fn g__are_columns 1 2 c__are_columns
def c_is_river : List CS := [(.ife (.or (.not (.isa (.var 0) .tuple)) (.or (.cmp .ne (.f1 .len (.var 0)) (.int 2)) (.not (.f1 .all (.lc (.name 1) (.seq (.var 0)) [] (.call 0 [(.var 1)])))))) [(.ret (.bl false))] []), (.ret (.cmp .eq (.f1 .len (.idx (.var 0) (.int 0))) (.f1 .len (.idx (.var 0) (.int 1)))))]
noncomputable def g_is_river : Bw.Ctx := ⟨[f__are_columns], [], fun _ _ => none⟩
noncomputable def f_is_river : List SV → Res SV := fn g_is_river 1 2 c_is_river
def c_check_river : List CS := [(.ife (.not (.call 0 [(.var 0)])) [.never] [])]
noncomputable def g_check_river : Bw.Ctx := ⟨[f_is_river], [], fun _ _ => none⟩
noncomputable def f_check_river : List SV → Res SV := fn g_check_river 1 1 c_check_river
def c_check_rows : List CS := [(.ife (.not (.call 0 [(.var 0), (.int 0), (.glob 0)])) [.never] [])]
noncomputable def g_check_rows : Bw.Ctx := ⟨[f_is_whole], [.d (.int (1000))], fun _ _ => none⟩
noncomputable def f_check_rows : List SV → Res SV := fn g_check_rows 1 1 c_check_rows
def c_low_side : List CS := [(.ret (.ife (.cmp .ge (.var 1) (.var 2)) (.bin .add (.idx (.idx (.var 0) (.int 0)) (.bin .sub (.var 1) (.var 2))) (.var 2)) .non))]
noncomputable def g_low_side : Bw.Ctx := ⟨[], [], fun _ _ => none⟩
noncomputable def f_low_side : List SV → Res SV := fn g_low_side 3 3 c_low_side
def c__lows : List CS := [(.own 2 (.lst [])), (.for (.tup [(.name 3), (.name 4)]) (.enum (.idx (.var 0) (.int 1))) [(.set (.name 5) (.call 0 [(.var 0), (.var 3), (.var 1)])), (.ife (.cmp .isnot (.var 5) .non) [(.app 2 (.tup [(.bin .sub (.var 5) (.var 4)), (.var 3)]))] [])]), (.frz 2), (.ret (.var 2))]
noncomputable def g__lows : Bw.Ctx := ⟨[f_low_side], [], fun _ _ => none⟩
noncomputable def f__lows : List SV → Res SV := fn g__lows 2 6 c__lows
def c_high_side : List CS := [(.ret (.ife (.cmp .lt (.bin .add (.var 1) (.var 2)) (.f1 .len (.idx (.var 0) (.int 0)))) (.bin .sub (.idx (.idx (.var 0) (.int 0)) (.bin .add (.var 1) (.var 2))) (.var 2)) .non))]
noncomputable def g_high_side : Bw.Ctx := ⟨[], [], fun _ _ => none⟩
noncomputable def f_high_side : List SV → Res SV := fn g_high_side 3 3 c_high_side
def c__highs : List CS := [(.own 2 (.lst [])), (.for (.tup [(.name 3), (.name 4)]) (.enum (.idx (.var 0) (.int 1))) [(.set (.name 5) (.call 0 [(.var 0), (.var 3), (.var 1)])), (.ife (.cmp .isnot (.var 5) .non) [(.app 2 (.tup [(.bin .sub (.var 5) (.var 4)), (.var 3)]))] [])]), (.frz 2), (.ret (.var 2))]
noncomputable def g__highs : Bw.Ctx := ⟨[f_high_side], [], fun _ _ => none⟩
noncomputable def f__highs : List SV → Res SV := fn g__highs 2 6 c__highs
def c__shifts : List CS := [(.set (.name 2) (.lc (.tup [(.name 6), (.name 7)]) (.seq (.call 0 [(.var 0), (.var 1)])) [] (.var 6))), (.set (.name 3) (.lc (.tup [(.name 6), (.name 7)]) (.seq (.call 1 [(.var 0), (.var 1)])) [] (.var 6))), (.set (.name 4) (.ife (.cmp .gt (.f1 .len (.var 2)) (.int 0)) (.f1 .max (.var 2)) .non)), (.set (.name 5) (.ife (.cmp .gt (.f1 .len (.var 3)) (.int 0)) (.f1 .min (.var 3)) .non)), (.ife (.and (.cmp .isnot (.var 4) .non) (.and (.cmp .isnot (.var 5) .non) (.cmp .gt (.var 4) (.var 5)))) [(.ret .non)] []), (.ret (.tup [(.var 4), (.var 5)]))]
noncomputable def g__shifts : Bw.Ctx := ⟨[f__lows, f__highs], [], fun _ _ => none⟩
noncomputable def f__shifts : List SV → Res SV := fn g__shifts 2 8 c__shifts
def c_shifts : List CS := [(.expr (.call 0 [(.var 0)])), (.expr (.call 1 [(.var 1)])), (.ret (.call 2 [(.var 0), (.var 1)]))]
noncomputable def g_shifts : Bw.Ctx := ⟨[f_check_river, f_check_rows, f__shifts], [], fun _ _ => none⟩
noncomputable def f_shifts : List SV → Res SV := fn g_shifts 2 2 c_shifts
def c__law_shifted : List CS := [(.ret (.tup [(.idx (.var 0) (.int 0)), (.f1 .tuple (.lc (.name 2) (.seq (.idx (.var 0) (.int 1))) [] (.bin .add (.var 2) (.var 1))))]))]
noncomputable def g__law_shifted : Bw.Ctx := ⟨[], [], fun _ _ => none⟩
noncomputable def f__law_shifted : List SV → Res SV := fn g__law_shifted 2 3 c__law_shifted
def c__law_is_bar : List CS := [(.set (.tup [(.name 4), (.name 5)]) (.var 0)), (.ife (.cmp .eq (.var 1) (.str "left")) [(.ret (.and (.cmp .ge (.bin .sub (.var 2) (.var 3)) (.int 0)) (.cmp .lt (.idx (.var 5) (.var 2)) (.bin .add (.idx (.var 4) (.bin .sub (.var 2) (.var 3))) (.var 3)))))] []), (.ret (.and (.cmp .lt (.bin .add (.var 2) (.var 3)) (.f1 .len (.var 4))) (.cmp .gt (.idx (.var 5) (.var 2)) (.bin .sub (.idx (.var 4) (.bin .add (.var 2) (.var 3))) (.var 3)))))]
noncomputable def g__law_is_bar : Bw.Ctx := ⟨[], [], fun _ _ => none⟩
noncomputable def f__law_is_bar : List SV → Res SV := fn g__law_is_bar 4 6 c__law_is_bar
def c__law_bars : List CS := [(.set (.name 2) (.lc (.name 3) (.rng1 (.f1 .len (.idx (.var 0) (.int 0)))) [(.call 0 [(.var 0), (.str "left"), (.var 3), (.var 1)])] (.tup [(.str "left"), (.var 3)]))), (.ret (.bin .add (.var 2) (.lc (.name 3) (.rng1 (.f1 .len (.idx (.var 0) (.int 0)))) [(.call 0 [(.var 0), (.str "right"), (.var 3), (.var 1)])] (.tup [(.str "right"), (.var 3)]))))]
noncomputable def g__law_bars : Bw.Ctx := ⟨[f__law_is_bar], [], fun _ _ => none⟩
noncomputable def f__law_bars : List SV → Res SV := fn g__law_bars 2 4 c__law_bars
def c__crossing : List CS := [(.set (.name 2) (.lc2 (.tup [(.name 3), (.name 4)]) (.seq (.call 0 [(.var 0), (.var 1)])) [] (.tup [(.name 5), (.name 6)]) (.seq (.call 1 [(.var 0), (.var 1)])) [(.cmp .gt (.var 3) (.var 5))] (.tup [(.var 4), (.var 6)]))), (.ret (.ife (.cmp .gt (.f1 .len (.var 2)) (.int 0)) (.f1 .min (.var 2)) .non))]
noncomputable def g__crossing : Bw.Ctx := ⟨[f__lows, f__highs], [], fun _ _ => none⟩
noncomputable def f__crossing : List SV → Res SV := fn g__crossing 2 7 c__crossing
def c__nearest : List CS := [(.ife (.and (.cmp .isnot (.var 0) .non) (.cmp .gt (.var 0) (.int 0))) [(.ret (.var 0))] []), (.ret (.ife (.and (.cmp .isnot (.var 1) .non) (.cmp .lt (.var 1) (.int 0))) (.var 1) (.int 0)))]
noncomputable def g__nearest : Bw.Ctx := ⟨[], [], fun _ _ => none⟩
noncomputable def f__nearest : List SV → Res SV := fn g__nearest 2 2 c__nearest
def c_best_shift : List CS := [(.expr (.call 0 [(.var 0)])), (.set (.name 1) (.int 0)), (.set (.name 2) .non), (.while (.cmp .is (.call 1 [(.var 0), (.var 1)]) .non) [(.set (.name 2) (.call 2 [(.var 0), (.var 1)])), (.aug 1 .add (.int 1))]), (.set (.tup [(.name 3), (.name 4)]) (.call 1 [(.var 0), (.var 1)])), (.ret (.tup [(.var 1), (.call 3 [(.var 3), (.var 4)]), (.var 2)]))]
noncomputable def g_best_shift : Bw.Ctx := ⟨[f_check_river, f__shifts, f__crossing, f__nearest], [], fun _ _ => none⟩
noncomputable def f_best_shift : List SV → Res SV := fn g_best_shift 1 5 c_best_shift
def c__is_barred : List CS := [(.set (.tup [(.name 5), (.name 6)]) (.var 1)), (.set (.name 3) (.idx (.idx (.var 0) (.int 1)) (.var 6))), (.ife (.cmp .eq (.var 5) (.glob 0)) [(.set (.name 7) (.call 0 [(.var 0), (.var 6), (.var 2)])), (.ret (.and (.cmp .isnot (.var 7) .non) (.cmp .lt (.var 3) (.var 7))))] []), (.set (.name 4) (.call 1 [(.var 0), (.var 6), (.var 2)])), (.ret (.and (.cmp .isnot (.var 4) .non) (.cmp .gt (.var 3) (.var 4))))]
noncomputable def g__is_barred : Bw.Ctx := ⟨[f_low_side, f_high_side], [.d (.str "left")], fun _ _ => none⟩
noncomputable def f__is_barred : List SV → Res SV := fn g__is_barred 3 8 c__is_barred
def c_first_bar : List CS := [(.for (.name 2) (.seq (.tup [(.glob 0), (.glob 1)])) [(.for (.name 3) (.rng1 (.f1 .len (.idx (.var 0) (.int 0)))) [(.ife (.call 0 [(.var 0), (.tup [(.var 2), (.var 3)]), (.var 1)]) [(.ret (.tup [(.var 2), (.var 3)]))] [])])]), (.ret .non)]
noncomputable def g_first_bar : Bw.Ctx := ⟨[f__is_barred], [.d (.str "left"), .d (.str "right")], fun _ _ => none⟩
noncomputable def f_first_bar : List SV → Res SV := fn g_first_bar 2 4 c_first_bar
def c__columns : List CS := [(.own 2 (.lst [])), (.for (.tup [(.name 3), (.name 4)]) (.enum (.idx (.var 0) (.int 1))) [(.own 5 (.lst [])), (.for (.name 6) (.rng1 (.bin .add (.var 1) (.int 1))) [(.par [8, 9] [(.call 0 [(.var 0), (.var 3), (.var 6)]), (.call 1 [(.var 0), (.var 3), (.var 6)])]), (.set (.name 7) (.ife (.cmp .is (.var 8) .non) (.var 4) (.f2 .max (.var 8) (.var 4)))), (.app 5 (.ife (.cmp .is (.var 9) .non) (.var 7) (.f2 .min (.var 9) (.var 7))))]), (.frz 5), (.app 2 (.f1 .tuple (.var 5)))]), (.frz 2), (.ret (.f1 .tuple (.var 2)))]
noncomputable def g__columns : Bw.Ctx := ⟨[f_low_side, f_high_side], [], fun _ _ => none⟩
noncomputable def f__columns : List SV → Res SV := fn g__columns 2 10 c__columns
def c_least_rows : List CS := [(.expr (.call 0 [(.var 0)])), (.set (.name 1) (.int 0)), (.set (.name 2) .non), (.set (.name 3) (.call 1 [(.var 0), (.var 1)])), (.while (.cmp .isnot (.var 3) .non) [(.set (.name 2) (.var 3)), (.aug 1 .add (.int 1)), (.set (.name 3) (.call 1 [(.var 0), (.var 1)]))]), (.ret (.tup [(.var 1), (.call 2 [(.var 0), (.var 1)]), (.var 2)]))]
noncomputable def g_least_rows : Bw.Ctx := ⟨[f_check_river, f_first_bar, f__columns], [], fun _ _ => none⟩
noncomputable def f_least_rows : List SV → Res SV := fn g_least_rows 1 4 c_least_rows
def c_crossing_fault : List CS := [(.expr (.call 0 [(.var 0)])), (.expr (.call 1 [(.var 1)])), (.ife (.or (.not (.isa (.var 2) .tuple)) (.or (.cmp .ne (.f1 .len (.var 2)) (.int 2)) (.not (.f1 .all (.lc (.name 5) (.seq (.var 2)) [] (.call 2 [(.var 5), (.int 0), (.bin .sub (.f1 .len (.idx (.var 0) (.int 0))) (.int 1))])))))) [(.ret (.str "form"))] []), (.set (.name 3) (.call 3 [(.var 0), (.idx (.var 2) (.int 0)), (.var 1)])), (.set (.name 4) (.call 4 [(.var 0), (.idx (.var 2) (.int 1)), (.var 1)])), (.ife (.or (.cmp .is (.var 3) .non) (.cmp .is (.var 4) .non)) [(.ret (.str "free"))] []), (.ret (.ife (.cmp .gt (.bin .sub (.var 3) (.idx (.idx (.var 0) (.int 1)) (.idx (.var 2) (.int 0)))) (.bin .sub (.var 4) (.idx (.idx (.var 0) (.int 1)) (.idx (.var 2) (.int 1))))) .non (.str "free")))]
noncomputable def g_crossing_fault : Bw.Ctx := ⟨[f_check_river, f_check_rows, f_is_whole, f_low_side, f_high_side], [], fun _ _ => none⟩
noncomputable def f_crossing_fault : List SV → Res SV := fn g_crossing_fault 3 6 c_crossing_fault
def c__law_least : List CS := [(.set (.name 1) (.int 0)), (.while (.cmp .gt (.f1 .len (.call 0 [(.var 0), (.var 1)])) (.int 0)) [(.set (.name 1) (.bin .add (.var 1) (.int 1)))]), (.ret (.var 1))]
noncomputable def g__law_least : Bw.Ctx := ⟨[f__law_bars], [], fun _ _ => none⟩
noncomputable def f__law_least : List SV → Res SV := fn g__law_least 1 2 c__law_least
def c__law_lie : List CS := [(.set (.tup [(.name 4), (.name 5)]) (.var 0)), (.ife (.or (.cmp .ne (.f1 .len (.var 1)) (.f1 .len (.var 4))) (.not (.f1 .all (.lc (.name 6) (.rng1 (.f1 .len (.var 1))) [] (.and (.cmp .eq (.f1 .len (.idx (.var 1) (.var 6))) (.bin .add (.var 2) (.int 1))) (.and (.cmp .eq (.idx (.idx (.var 1) (.var 6)) (.int 0)) (.idx (.var 4) (.var 6))) (.cmp .eq (.idx (.idx (.var 1) (.var 6)) (.neg (.int 1))) (.idx (.var 5) (.var 6))))))))) [(.ret (.bl false))] []), (.for (.name 3) (.rng1 (.var 2)) [(.for (.name 6) (.rng1 (.bin .sub (.f1 .len (.var 1)) (.int 1))) [(.ife (.cmp .ge (.f2 .max (.idx (.idx (.var 1) (.var 6)) (.var 3)) (.idx (.idx (.var 1) (.var 6)) (.bin .add (.var 3) (.int 1)))) (.f2 .min (.idx (.idx (.var 1) (.bin .add (.var 6) (.int 1))) (.var 3)) (.idx (.idx (.var 1) (.bin .add (.var 6) (.int 1))) (.bin .add (.var 3) (.int 1))))) [(.ret (.bl false))] [])])]), (.ret (.bl true))]
noncomputable def g__law_lie : Bw.Ctx := ⟨[], [], fun _ _ => none⟩
noncomputable def f__law_lie : List SV → Res SV := fn g__law_lie 3 7 c__law_lie
def c__law_told : List CS := [(.set (.tup [(.name 4), (.name 5)]) (.var 0)), (.set (.name 2) (.tup [])), (.for (.name 3) (.rng1 (.f1 .len (.var 4))) [(.set (.name 6) (.tup [])), (.for (.name 7) (.rng1 (.bin .add (.var 1) (.int 1))) [(.set (.name 8) (.idx (.var 5) (.var 3))), (.ife (.and (.cmp .ge (.bin .sub (.var 3) (.var 7)) (.int 0)) (.cmp .lt (.var 8) (.bin .add (.idx (.var 4) (.bin .sub (.var 3) (.var 7))) (.var 7)))) [(.set (.name 8) (.bin .add (.idx (.var 4) (.bin .sub (.var 3) (.var 7))) (.var 7)))] []), (.ife (.and (.cmp .lt (.bin .add (.var 3) (.var 7)) (.f1 .len (.var 4))) (.cmp .gt (.var 8) (.bin .sub (.idx (.var 4) (.bin .add (.var 3) (.var 7))) (.var 7)))) [(.set (.name 8) (.bin .sub (.idx (.var 4) (.bin .add (.var 3) (.var 7))) (.var 7)))] []), (.set (.name 6) (.bin .add (.var 6) (.tup [(.var 8)])))]), (.set (.name 2) (.bin .add (.var 2) (.tup [(.var 6)])))]), (.ret (.var 2))]
noncomputable def g__law_told : Bw.Ctx := ⟨[], [], fun _ _ => none⟩
noncomputable def f__law_told : List SV → Res SV := fn g__law_told 2 9 c__law_told
def c__is_wire : List CS := [(.ife (.or (.not (.isa (.var 0) .tuple)) (.cmp .ne (.f1 .len (.var 0)) (.var 1))) [(.ret (.bl false))] []), (.ret (.f1 .all (.lc (.name 2) (.seq (.var 0)) [] (.and (.isa (.var 2) .int) (.not (.isa (.var 2) .bool))))))]
noncomputable def g__is_wire : Bw.Ctx := ⟨[], [], fun _ _ => none⟩
noncomputable def f__is_wire : List SV → Res SV := fn g__is_wire 2 3 c__is_wire
def c_wires_fault : List CS := [(.expr (.call 0 [(.var 0)])), (.set (.tup [(.name 4), (.name 5)]) (.var 0)), (.ife (.or (.not (.isa (.var 1) .tuple)) (.or (.cmp .ne (.f1 .len (.var 1)) (.f1 .len (.var 4))) (.not (.isa (.idx (.var 1) (.int 0)) .tuple)))) [(.ret (.glob 0))] []), (.set (.name 2) (.f1 .len (.idx (.var 1) (.int 0)))), (.ife (.or (.not (.chain .le .le (.int 1) (.var 2) (.bin .add (.glob 1) (.int 1)))) (.not (.f1 .all (.lc (.name 8) (.seq (.var 1)) [] (.call 1 [(.var 8), (.var 2)]))))) [(.ret (.glob 0))] []), (.for (.tup [(.name 6), (.name 7)]) (.enum (.var 1)) [(.ife (.cmp .ne (.tup [(.idx (.var 7) (.int 0)), (.idx (.var 7) (.neg (.int 1)))]) (.tup [(.idx (.var 4) (.var 6)), (.idx (.var 5) (.var 6))])) [(.ret (.tup [(.str "ends"), (.var 6)]))] [])]), (.for (.name 3) (.rng1 (.bin .sub (.var 2) (.int 1))) [(.for (.name 6) (.rng1 (.bin .sub (.f1 .len (.var 1)) (.int 1))) [(.ife (.cmp .ge (.f1 .max (.sl (.idx (.var 1) (.var 6)) (some (.var 3)) (some (.bin .add (.var 3) (.int 2))))) (.f1 .min (.sl (.idx (.var 1) (.bin .add (.var 6) (.int 1))) (some (.var 3)) (some (.bin .add (.var 3) (.int 2)))))) [(.ret (.tup [(.str "meet"), (.var 3), (.var 6)]))] [])])]), (.ret .non)]
noncomputable def g_wires_fault : Bw.Ctx := ⟨[f_check_river, f__is_wire], [.d (.tup [(.str "form")]), .d (.int (1000))], fun _ _ => none⟩
noncomputable def f_wires_fault : List SV → Res SV := fn g_wires_fault 2 9 c_wires_fault
def c_bar_fault : List CS := [(.expr (.call 0 [(.var 0)])), (.expr (.call 1 [(.var 1)])), (.ife (.or (.not (.isa (.var 2) .tuple)) (.or (.cmp .ne (.f1 .len (.var 2)) (.int 2)) (.or (.not (.isa (.idx (.var 2) (.int 0)) .str)) (.cmp .notin (.idx (.var 2) (.int 0)) (.tup [(.glob 0), (.glob 1)]))))) [(.ret (.str "form"))] []), (.ife (.not (.call 2 [(.idx (.var 2) (.int 1)), (.int 0), (.bin .sub (.f1 .len (.idx (.var 0) (.int 0))) (.int 1))])) [(.ret (.str "form"))] []), (.ret (.ife (.call 3 [(.var 0), (.var 2), (.var 1)]) .non (.str "free")))]
noncomputable def g_bar_fault : Bw.Ctx := ⟨[f_check_river, f_check_rows, f_is_whole, f__is_barred], [.d (.str "left"), .d (.str "right")], fun _ _ => none⟩
noncomputable def f_bar_fault : List SV → Res SV := fn g_bar_fault 3 3 c_bar_fault
def c_wires_for : List CS := [(.expr (.call 0 [(.var 0)])), (.expr (.call 1 [(.var 1)])), (.ife (.cmp .isnot (.call 2 [(.var 0), (.var 1)]) .non) [(.raise 2)] []), (.ret (.call 3 [(.var 0), (.var 1)]))]
noncomputable def g_wires_for : Bw.Ctx := ⟨[f_check_river, f_check_rows, f_first_bar, f__columns], [], fun _ _ => none⟩
noncomputable def f_wires_for : List SV → Res SV := fn g_wires_for 2 2 c_wires_for
def c__law_barred : List CS := [(.try [(.expr (.call 0 [(.var 0), (.var 1)]))] [(2, (.retc (.bl true)))]), (.ret (.bl false))]
noncomputable def g__law_barred : Bw.Ctx := ⟨[f_wires_for], [], fun _ _ => none⟩
noncomputable def f__law_barred : List SV → Res SV := fn g__law_barred 2 2 c__law_barred
def c__law_due : List CS := [(.set (.tup [(.name 5), (.name 6)]) (.var 0)), (.ife (.or (.not (.isa (.var 1) .tuple)) (.or (.cmp .ne (.f1 .len (.var 1)) (.f1 .len (.var 5))) (.or (.not (.isa (.idx (.var 1) (.int 0)) .tuple)) (.not (.chain .lt .lt (.int 0) (.f1 .len (.idx (.var 1) (.int 0))) (.int 1002)))))) [(.ret (.tup [(.str "form")]))] []), (.for (.name 2) (.seq (.var 1)) [(.ife (.or (.not (.isa (.var 2) .tuple)) (.or (.cmp .ne (.f1 .len (.var 2)) (.f1 .len (.idx (.var 1) (.int 0)))) (.not (.f1 .all (.lc (.name 8) (.seq (.var 2)) [] (.and (.isa (.var 8) .int) (.not (.isa (.var 8) .bool)))))))) [(.ret (.tup [(.str "form")]))] [])]), (.set (.name 3) (.lc (.name 7) (.rng1 (.f1 .len (.var 1))) [(.or (.cmp .ne (.idx (.idx (.var 1) (.var 7)) (.int 0)) (.idx (.var 5) (.var 7))) (.cmp .ne (.idx (.idx (.var 1) (.var 7)) (.neg (.int 1))) (.idx (.var 6) (.var 7))))] (.var 7))), (.ife (.cmp .gt (.f1 .len (.var 3)) (.int 0)) [(.ret (.tup [(.str "ends"), (.idx (.var 3) (.int 0))]))] []), (.for (.name 4) (.rng1 (.bin .sub (.f1 .len (.idx (.var 1) (.int 0))) (.int 1))) [(.for (.name 7) (.rng1 (.bin .sub (.f1 .len (.var 1)) (.int 1))) [(.ife (.cmp .ge (.f2 .max (.idx (.idx (.var 1) (.var 7)) (.var 4)) (.idx (.idx (.var 1) (.var 7)) (.bin .add (.var 4) (.int 1)))) (.f2 .min (.idx (.idx (.var 1) (.bin .add (.var 7) (.int 1))) (.var 4)) (.idx (.idx (.var 1) (.bin .add (.var 7) (.int 1))) (.bin .add (.var 4) (.int 1))))) [(.ret (.tup [(.str "meet"), (.var 4), (.var 7)]))] [])])]), (.ret .non)]
noncomputable def g__law_due : Bw.Ctx := ⟨[], [], fun _ _ => none⟩
noncomputable def f__law_due : List SV → Res SV := fn g__law_due 2 9 c__law_due
def c__law_word : List CS := [(.try [(.ife (.cmp .eq (.var 0) (.int 0)) [(.expr (.call 0 [(.var 1), (.var 2)]))] [(.ife (.cmp .eq (.var 0) (.int 1)) [(.expr (.call 1 [(.var 1)]))] [(.ife (.cmp .eq (.var 0) (.int 2)) [(.expr (.call 2 [(.var 1)]))] [(.ife (.cmp .eq (.var 0) (.int 3)) [(.expr (.call 3 [(.var 1), (.var 2), .non]))] [(.ife (.cmp .eq (.var 0) (.int 4)) [(.expr (.call 4 [(.var 1), (.var 2)]))] [(.ife (.cmp .eq (.var 0) (.int 5)) [(.expr (.call 5 [(.var 1), (.var 2)]))] [(.expr (.call 6 [(.var 1), (.var 2), .non]))])])])])])])] [(0, (.retc (.str "river"))), (1, (.retc (.str "rows")))]), (.ret (.str "none"))]
noncomputable def g__law_word : Bw.Ctx := ⟨[f_wires_fault, f_least_rows, f_best_shift, f_bar_fault, f_wires_for, f_shifts, f_crossing_fault], [], fun _ _ => none⟩
noncomputable def f__law_word : List SV → Res SV := fn g__law_word 3 3 c__law_word
end K87
end

section
set_option autoImplicit false
set_option linter.all false
set_option maxRecDepth 100000
namespace K87
open Bw
def DrP (ns : List Int) (many lo hi : Nat) (Γ : Gm) : Prop := ∃ (D : List Int) (s : Int) (a b c : Bx), lo ≤ D.length ∧ D.length ≤ hi ∧ (∀ x ∈ D, 0 ≤ x) ∧ 0 ≤ s ∧ s < 2147483648 ∧ Γ = [.sh (.scr ns), .sh (.d (.int many)), .ow (.d (.lst (D.map .int))), .sh (.d (.int s)), a, b, c]
def DiP (ns : List Int) (many hi : Nat) (s : Int) (a : Bx) (Γ : Gm) : Prop := ∃ (D : List Int) (b : Bx) (n : Int), D.length ≤ hi ∧ (∀ x ∈ D, 0 ≤ x) ∧ 0 ≤ n ∧ Γ = [.sh (.scr ns), .sh (.d (.int many)), .ow (.d (.lst (D.map .int))), .sh (.d (.int s)), a, b, .sh (.d (.int n))]
theorem nn_app {D : List Int} {x : Int} (h : ∀ y ∈ D, 0 ≤ y) (hx : 0 ≤ x) : ∀ y ∈ D ++ [x], 0 ≤ y := fun y hy => by
  rcases List.mem_append.mp hy with q | q
  · exact h y q
  · rw [List.mem_singleton.mp q]; exact hx
theorem draws_ev (ns : List Int) (h : ns.length ≤ 63) (many : Nat) (hm : many ≤ 1000) : ∃ ds : List Int, ds.length = many ∧ (∀ x ∈ ds, 0 ≤ x) ∧ f__law_draws [.scr ns, .d (.int many)] = .ok (.d (li ds)) := by
  have m1 : ∀ s, binop .mul (.d (.int s)) (.d (.int 48271)) = .ok (.d (.int (s * 48271))) := fun s => b_mul (.inr (by decide))
  have m2 : ∀ s, binop .mul (.d (.int s)) (.d (.int 16807)) = .ok (.d (.int (s * 16807))) := fun s => b_mul (.inr (by decide))
  have m3 : ∀ s, binop .mul (.d (.int s)) (.d (.int 69621)) = .ok (.d (.int (s * 69621))) := fun s => b_mul (.inr (by decide))
  have d1 : ∀ s, binop .mod (.d (.int s)) (.d (.int 2147483647)) = .ok (.d (.int (s % 2147483647))) := fun s => b_mod (by decide)
  have d2 : ∀ s, binop .mod (.d (.int s)) (.d (.int 1009)) = .ok (.d (.int (s % 1009))) := fun s => b_mod (by decide)
  have d3 : ∀ s, binop .mod (.d (.int s)) (.d (.int 65521)) = .ok (.d (.int (s % 65521))) := fun s => b_mod (by decide)
  have q1 : ∀ s, binop .fdiv (.d (.int s)) (.d (.int 1009)) = .ok (.d (.int (s / 1009))) := fun s => b_fdiv (by decide) (by decide)
  have q2 : ∀ s, binop .fdiv (.d (.int s)) (.d (.int 3)) = .ok (.d (.int (s / 3))) := fun s => b_fdiv (by decide) (by decide)
  have q3 : ∀ s, binop .fdiv (.d (.int s)) (.d (.int 7)) = .ok (.d (.int (s / 7))) := fun s => b_fdiv (by decide) (by decide)
  have pw : binop .pow (.d (.int 10)) (.d (.int 18)) = .ok (.d (.int 1000000000000000000)) := by simp [binop]
  have cut : slop (.scr ns) none (some 63) = .ok (.d (.lst ((ns.take 63).map .int))) := by
    show Res.ok (SV.d (.lst (cutP (ns.map PV.int) none (some ((63 : Nat) : Int))))) = _
    rw [cut_upto, List.map_take]
  have r60 : rng? 0 60 1 = .ok ((List.range 60).map fun (i : Nat) => PV.int (0 + i)) := rng_ok (by decide) (by decide) (by decide) (by decide)
  have rm : rng? 0 (many : Int) 1 = .ok ((List.range many).map fun (i : Nat) => PV.int (0 + i)) := by
    rw [rng_ok (by omega) (by omega) (by omega) (by omega), Int.sub_zero, Int.toNat_natCast]
  have ln : ∀ n, n ≤ 5000 → n < line := fun n hn => by unfold line; omega
  simp [f__law_draws, c__law_draws, fn, runs, run, ev, evL, evI, evO, cut]
  refine forR_invK (fun o => ∃ ds : List Int, ds.length = many ∧ (∀ x ∈ ds, 0 ≤ x) ∧ o.fin = .ok (.d (li ds))) (fun i => DrP ns many 0 (60 * i)) ⟨[], 7, _, _, _, by simp, by simp, by simp, by decide, by decide, rfl⟩ ?_ ?_
  · rintro i x _ hx ⟨D, s, a, b, c, h1, h2, h3, h4, h5, rfl⟩
    have hi : i < 63 := by
      have := (List.getElem?_eq_some_iff.mp hx).1
      simp at this; omega
    obtain ⟨z, hz⟩ : ∃ z : Int, x = .int z := by
      have q := List.mem_of_mem_take (List.mem_of_getElem? hx)
      obtain ⟨z, _, hz⟩ := List.mem_map.mp q
      exact ⟨z, hz.symm⟩
    subst hz
    generalize hN : (if z < 0 then -z else z) = nn
    have n0 : 0 ≤ nn := by rw [← hN]; split <;> omega
    generalize hS : (s * 48271 + nn + 11) % 2147483647 = s'
    have s0 : 0 ≤ s' := by rw [← hS]; exact Int.emod_nonneg _ (by decide)
    have s1 : s' < 2147483648 := by
      have := Int.emod_lt_of_pos (s * 48271 + nn + 11) (show (0 : Int) < 2147483647 by decide)
      omega
    by_cases c18 : (1000000000000000000 : Int) ≤ nn
    · simp [hN, m1, d1, hS, pw, r60, c18]
      refine forR_invK (fun o => ∃ Γ', (o = .nx Γ' ∨ o = .cont Γ') ∧ DrP ns many 0 (60 * (i + 1)) Γ') (fun j => DiP ns many (60 * i + j) s' (.sh (.d (.int z)))) ⟨D, _, nn, by omega, h3, n0, rfl⟩ ?_ ?_
      · rintro j x _ hx ⟨D, b, n, g1, g2, g3, rfl⟩
        have hj : j < 60 := by
          have := (List.getElem?_eq_some_iff.mp hx).1
          simpa using this
        have zl := ln D.length (by omega)
        by_cases cn : 0 < n
        · have fin : ∀ b, DiP ns many (60 * i + (j + 1)) s' (.sh (.d (.int z))) [.sh (.scr ns), .sh (.d (.int many)), .ow (.d (.lst (D.map .int ++ [.int (n % 1009)]))), .sh (.d (.int s')), .sh (.d (.int z)), b, .sh (.d (.int (n / 1009)))] := fun b =>
            ⟨D ++ [n % 1009], b, n / 1009, by simp; omega, nn_app g2 (Int.emod_nonneg _ (by decide)), Int.ediv_nonneg g3 (by decide), by simp⟩
          simp [cn, d2, q1, appR, zl, fin]
        · have fin : ∀ b, DiP ns many (60 * i + (j + 1)) s' (.sh (.d (.int z))) [.sh (.scr ns), .sh (.d (.int many)), .ow (.d (.lst (D.map .int))), .sh (.d (.int s')), .sh (.d (.int z)), b, .sh (.d (.int n))] := fun b =>
            ⟨D, b, n, by omega, g2, g3, rfl⟩
          simp [cn, fin]
      · rintro _ ⟨D, b, n, g1, g2, g3, rfl⟩
        refine ⟨_, .inl rfl, D, s', _, _, _, by omega, ?_, g2, s0, s1, rfl⟩
        simp at g1
        omega
    · have zl := ln D.length (by omega)
      have fin : DrP ns many 0 (60 * (i + 1)) [.sh (.scr ns), .sh (.d (.int many)), .ow (.d (.lst (D.map .int ++ [.int ((s' * 16807 + 5) / 3 % 65521)]))), .sh (.d (.int s')), .sh (.d (.int z)), b, .sh (.d (.int nn))] :=
        ⟨D ++ [(s' * 16807 + 5) / 3 % 65521], s', _, _, _, by omega, by simp; omega, nn_app h3 (Int.emod_nonneg _ (by decide)), s0, s1, by rw [List.map_append]; rfl⟩
      simp [hN, m1, d1, hS, pw, m2, q2, d3, c18, appR, zl, fin]
  · rintro _ ⟨D, s, a, b, c, h1, h2, h3, h4, h5, rfl⟩
    have hD : D.length ≤ 3780 := by
      simp at h2
      omega
    simp [rm]
    refine forR_invK (fun o => ∃ ds : List Int, ds.length = many ∧ (∀ x ∈ ds, 0 ≤ x) ∧ o.fin = .ok (.d (li ds))) (fun i => DrP ns many (min i many) (3780 + i)) ⟨D, s, _, _, _, by omega, by omega, h3, h4, h5, rfl⟩ ?_ ?_
    · rintro i x _ hx ⟨D, s, a, b, c, h1, h2, h3, h4, h5, rfl⟩
      obtain ⟨li', rfl⟩ : i < many ∧ x = .int i := by
        have q : ((List.range many).map fun (i : Nat) => PV.int (0 + i))[i]? = some x := by simpa using hx
        exact range_at' q
      have zl := ln D.length (by omega)
      by_cases cl : D.length < many
      · generalize hS : (s * 69621 + (i : Int) + 1) % 2147483647 = s'
        have s0 : 0 ≤ s' := by rw [← hS]; exact Int.emod_nonneg _ (by decide)
        have s1 : s' < 2147483648 := by
          have := Int.emod_lt_of_pos (s * 69621 + (i : Int) + 1) (show (0 : Int) < 2147483647 by decide)
          omega
        have fin : DrP ns many (min (i + 1) many) (3780 + (i + 1)) [.sh (.scr ns), .sh (.d (.int many)), .ow (.d (.lst (D.map .int ++ [.int (s' / 7 % 65521)]))), .sh (.d (.int s')), a, .sh (.d (.int i)), c] :=
          ⟨D ++ [s' / 7 % 65521], s', _, _, _, by simp; omega, by simp; omega, nn_app h3 (Int.emod_nonneg _ (by decide)), s0, s1, by rw [List.map_append]; rfl⟩
        have cl' : (D.length : Int) < many := by omega
        simp [cl, m3, d1, hS, q3, d3, appR, zl, fin]
      · have fin : DrP ns many (min (i + 1) many) (3780 + (i + 1)) [.sh (.scr ns), .sh (.d (.int many)), .ow (.d (.lst (D.map .int))), .sh (.d (.int s)), a, .sh (.d (.int i)), c] :=
          ⟨D, s, _, _, _, by omega, by omega, h3, h4, h5, rfl⟩
        simp [cl, fin]
    · rintro _ ⟨D, s, a, b, c, h1, h2, h3, h4, h5, rfl⟩
      have hl : many ≤ D.length := by simp at h1; omega
      refine ⟨D.take many, by simp; omega, fun x hx => h3 x (List.mem_of_mem_take hx), ?_⟩
      have e : slop (.d (.lst (D.map .int))) none (some (many : Int)) = .ok (.d (li (D.take many))) := by
        have := sl_li D none (some (many : Int))
        rw [cut_upto] at this
        exact this
      simp [e]
end K87
end

section
set_option autoImplicit false
set_option linter.all false
set_option maxRecDepth 100000
namespace K87
open Bw
/-! ### points, put in order -/
abbrev Pt := Int × Int
def lt2 (a b : Pt) : Prop := a.1 < b.1 ∨ (a.1 = b.1 ∧ a.2 < b.2)
instance (a b : Pt) : Decidable (lt2 a b) := by unfold lt2; infer_instance
def le2b (a b : Pt) : Bool := !decide (lt2 b a)
def sp (L : List Pt) : List Pt := L.mergeSort le2b
theorem lt2_tri (a b : Pt) : lt2 a b ∨ a = b ∨ lt2 b a := by
  obtain ⟨a1, a2⟩ := a
  obtain ⟨b1, b2⟩ := b
  unfold lt2
  simp only [Prod.mk.injEq]
  omega
theorem lt2_irr {a b : Pt} (h : lt2 a b) (h2 : lt2 b a) : False := by unfold lt2 at *; omega
theorem lt2_ne {a b : Pt} (h : lt2 a b) : a ≠ b := fun e => by subst e; exact lt2_irr h h
theorem lt2_trans {a b c : Pt} (h : lt2 a b) (h2 : lt2 b c) : lt2 a c := by unfold lt2 at *; omega
theorem le2_iff {a b : Pt} : le2b a b = true ↔ lt2 a b ∨ a = b := by
  unfold le2b
  rw [Bool.not_eq_true', decide_eq_false_iff_not]
  constructor
  · intro h
    rcases lt2_tri a b with c | c | c
    · exact .inl c
    · exact .inr c
    · exact absurd c h
  · rintro (h | rfl) q
    · exact lt2_irr h q
    · exact lt2_irr q q
theorem le2_trans (a b c : Pt) (h : le2b a b = true) (h2 : le2b b c = true) : le2b a c = true := by
  rw [le2_iff] at *
  rcases h with h | rfl
  · rcases h2 with h2 | rfl
    · exact .inl (lt2_trans h h2)
    · exact .inl h
  · exact h2
theorem le2_total (a b : Pt) : (le2b a b || le2b b a) = true := by
  rw [Bool.or_eq_true, le2_iff, le2_iff]
  rcases lt2_tri a b with c | c | c
  · exact .inl (.inl c)
  · exact .inl (.inr c)
  · exact .inr (.inl c)
theorem sp_perm (L : List Pt) : (sp L).Perm L := List.mergeSort_perm L le2b
theorem sp_pw (L : List Pt) : (sp L).Pairwise (fun a b => le2b a b = true) := List.pairwise_mergeSort le2_trans le2_total L
theorem sp_eq {L M : List Pt} (h : L.Perm M) : sp L = sp M :=
  ((sp_perm L).trans (h.trans (sp_perm M).symm)).eq_of_pairwise (le := fun a b => le2b a b = true) (fun a b _ _ h1 h2 => by
    rw [le2_iff] at *
    rcases h1 with h1 | h1
    · rcases h2 with h2 | h2
      · exact (lt2_irr h1 h2).elim
      · exact h2.symm
    · exact h1) (sp_pw L) (sp_pw M)
/-- strictly ascending -/
def SA (L : List Pt) : Prop := L.Pairwise lt2
theorem SA.nodup {L : List Pt} (h : SA L) : L.Nodup := h.imp fun h => lt2_ne h
theorem sp_of_SA {L : List Pt} (h : SA L) : sp L = L :=
  (sp_perm L).eq_of_pairwise (le := fun a b => le2b a b = true) (fun a b _ _ h1 h2 => by
    rw [le2_iff] at *
    rcases h1 with h1 | h1
    · rcases h2 with h2 | h2
      · exact (lt2_irr h1 h2).elim
      · exact h2.symm
    · exact h1) (sp_pw L) (h.imp fun h => le2_iff.mpr (.inl h))
theorem sp_SA {L : List Pt} (h : L.Nodup) : SA (sp L) := by
  have nd : (sp L).Nodup := (sp_perm L).nodup_iff.mpr h
  refine List.Pairwise.imp_of_mem (fun {a b} _ _ ⟨h1, h2⟩ => ?_) (List.Pairwise.and (sp_pw L) nd)
  rw [le2_iff] at h1
  rcases h1 with h1 | h1
  · exact h1
  · exact absurd h1 h2
/-! ### as trees -/
theorem ltT_pr (a b : Pt) : ltT (pr a) (pr b) = decide (lt2 a b) := by
  obtain ⟨a1, a2⟩ := a
  obtain ⟨b1, b2⟩ := b
  unfold lt2
  by_cases h : a1 = b1
  · subst h
    by_cases h2 : a2 = b2
    · subst h2; simp [pr, ltT, ltTL, pyEq, pyEqL]
    · simp [pr, ltT, ltTL, pyEq, h2]
  · simp [pr, ltT, ltTL, pyEq, h]
theorem pyEq_pr (a b : Pt) : pyEq (pr a) (pr b) = decide (a = b) := by
  obtain ⟨a1, a2⟩ := a
  obtain ⟨b1, b2⟩ := b
  by_cases h : a1 = b1 <;> by_cases h2 : a2 = b2 <;> simp [pr, pyEq, pyEqL, h, h2]
theorem shal_int' : ∀ (n : Nat) (x : Int), shal n (.int x) = true
  | 0, _ => rfl
  | _ + 1, _ => rfl
theorem shal_pr (n : Nat) (a : Pt) : shal (n + 1) (pr a) = true := by
  show shalL n [.int a.1, .int a.2] = true
  rw [shalL, shalL, shalL, shal_int', shal_int']; rfl
theorem shal_prs (n : Nat) : ∀ L : List Pt, shalL (n + 1) (L.map pr) = true
  | [] => rfl
  | a :: L => by rw [List.map_cons, shalL, shal_pr, shal_prs n L]; rfl
theorem sortable_prs (L : List Pt) : sortable (L.map pr) = true := by
  unfold sortable allAlk
  have a1 : ((L.map pr).all fun x => (L.map pr).all fun y => alk x y) = true := by
    rw [List.all_eq_true]
    intro x hx
    rw [List.all_eq_true]
    intro y hy
    obtain ⟨a, _, rfl⟩ := List.mem_map.mp hx
    obtain ⟨b, _, rfl⟩ := List.mem_map.mp hy
    rfl
  have a2 : ((L.map pr).all fun x => !isNon x && sha x) = true := by
    rw [List.all_eq_true]
    intro x hx
    obtain ⟨a, _, rfl⟩ := List.mem_map.mp hx
    have : sha (pr a) = true := shal_pr _ a
    rw [this]; rfl
  have a3 : ((L.map pr).all fun x => isTup1 x) = true := by
    rw [List.all_eq_true]
    intro x hx
    obtain ⟨a, _, rfl⟩ := List.mem_map.mp hx
    rfl
  rw [a1, a2, a3]; rfl
theorem sortP_prs (L : List Pt) : sortP (L.map pr) = (sp L).map pr := by
  unfold sortP sp
  refine (List.map_mergeSort fun a _ b _ => ?_).symm
  rw [ltT_pr]; rfl
theorem sorted_prs {q : PV} {L : List Pt} (h : seq? (.d q) = .ok (L.map pr)) : f1op .sorted (.d q) = .ok (.d (.lst ((sp L).map pr))) := by
  show (seq? (.d q)).bind _ = _
  rw [h, Res.bind_ok, if_pos (sortable_prs L), sortP_prs]
/-! ### sheets -/
abbrev Sh := Int × Int × List Pt
def sv (S : Sh) : PV := .tup [.int S.1, .int S.2.1, .tup (S.2.2.map pr)]
theorem pyEqL_prs : ∀ L M : List Pt, pyEqL (L.map pr) (M.map pr) = decide (L = M)
  | [], [] => by simp [pyEqL]
  | [], _ :: _ => by simp [pyEqL]
  | _ :: _, [] => by simp [pyEqL]
  | x :: xs, y :: ys => by
    rw [List.map_cons, List.map_cons, pyEqL, pyEqL_prs xs ys, pyEq_pr]
    by_cases h : x = y <;> by_cases h2 : xs = ys <;> simp [h, h2]
theorem pyEq_sv (a b : Sh) : pyEq (sv a) (sv b) = decide (a = b) := by
  obtain ⟨a1, a2, a3⟩ := a
  obtain ⟨b1, b2, b3⟩ := b
  simp only [sv, pyEq, pyEqL, pyEqL_prs]
  by_cases h : a1 = b1 <;> by_cases h2 : a2 = b2 <;> by_cases h3 : a3 = b3 <;> simp [h, h2, h3]
theorem shal_sv (n : Nat) (a : Sh) : shal (n + 3) (sv a) = true := by
  show shalL (n + 2) [.int a.1, .int a.2.1, .tup (a.2.2.map pr)] = true
  rw [shalL, shalL, shalL, shalL, shal_int', shal_int']
  show (true && (true && (shalL (n + 1) (a.2.2.map pr) && true))) = true
  rw [shal_prs]; rfl
theorem sha_sv (a : Sh) : sha (sv a) = true := shal_sv _ a
theorem eq_sv (a b : Sh) : cmpop .eq (.d (sv a)) (.d (sv b)) = .ok (decide (a = b)) := by
  simp [cmpop, sha_sv, pyEq_sv]
theorem ne_sv (a b : Sh) : cmpop .ne (.d (sv a)) (.d (sv b)) = .ok (!decide (a = b)) := by
  simp [cmpop, sha_sv, pyEq_sv]
/-! ### loops that keep a state -/
theorem forR_state {σ : Type} {f : PV → Gm → Out} (St : σ → Gm → Prop) (g : PV → σ → σ) : ∀ {xs : List PV} {S : σ} {Γ : Gm}, (∀ x ∈ xs, ∀ S Γ, St S Γ → ∃ Γ', f x Γ = .nx Γ' ∧ St (g x S) Γ') → St S Γ → ∃ Γ', forR f xs Γ = .nx Γ' ∧ St (xs.foldl (fun S x => g x S) S) Γ'
  | [], S, Γ, _, h => ⟨Γ, rfl, h⟩
  | x :: xs, S, Γ, step, h => by
    obtain ⟨Γ1, e, h1⟩ := step x (List.mem_cons_self ..) S Γ h
    obtain ⟨Γ2, e2, h2⟩ := forR_state St g (xs := xs) (fun y hy => step y (List.mem_cons_of_mem _ hy)) h1
    refine ⟨Γ2, ?_, h2⟩
    show (f x Γ).loop _ = _
    rw [e]; exact e2
end K87
end

section
set_option autoImplicit false
set_option linter.all false
set_option maxRecDepth 100000
namespace K87
open Bw
def tn (S : Sh) : Sh := (S.2.1, S.1, S.2.2.map fun x => (x.2, S.1 - 1 - x.1))
def fl (S : Sh) : Sh := (S.1, S.2.1, S.2.2.map fun x => (x.1, S.2.1 - 1 - x.2))
def so (S : Sh) : Sh := (S.1, S.2.1, sp S.2.2)
def tns : Nat → Sh → Sh
  | 0, S => S
  | n + 1, S => tns n (tn S)
def ps (p : Nat) (S : Sh) : Sh := so (tns (p % 4) (if 4 ≤ p then fl S else S))
theorem bt_sv (S : Sh) (i j k : Nat) (Γ : Gm) : bindT (.tup [.name i, .name j, .name k]) (sv S) Γ = some (((Γ.set i (.sh (.d (.int S.1)))).set j (.sh (.d (.int S.2.1)))).set k (.sh (.d (.tup (S.2.2.map pr))))) := rfl
def PoP (v0 v1 : SV) (S : Sh) (Γ : Gm) : Prop := ∃ q a b c, seq? (.d q) = .ok (S.2.2.map pr) ∧ Γ = [.sh v0, .sh v1, a, .sh (.d (.int S.1)), .sh (.d (.int S.2.1)), .sh (.d q), b, c]
theorem foldl_tns (S : Sh) : ∀ xs : List Nat, (xs.map fun (i : Nat) => PV.int (i : Int)).foldl (fun S _ => tn S) S = tns xs.length S
  | [] => rfl
  | x :: xs => by
    rw [List.map_cons, List.foldl_cons, List.length_cons, tns]
    induction xs generalizing S x with
    | nil => rfl
    | cons y ys ih => rw [List.map_cons, List.foldl_cons, List.length_cons, tns]; exact ih (tn S) y
theorem posed_loop (v0 v1 : SV) (S : Sh) (n : Nat) (Γ : Gm) (h : PoP v0 v1 S Γ) : ∃ Γ', forR (fun x Γ => oout (bindT (.name 2) x Γ) fun Γ' => runs g__posed [.set (.name 5) (.lc (.tup [.name 6, .name 7]) (.seq (.var 5)) [] (.tup [.var 7, .bin .sub (.bin .sub (.var 3) (.int 1)) (.var 6)])), .set (.tup [.name 3, .name 4]) (.tup [.var 4, .var 3])] Γ') ((List.range n).map fun (i : Nat) => PV.int (i : Int)) Γ = .nx Γ' ∧ PoP v0 v1 (tns n S) Γ' := by
  obtain ⟨Γ', e, h'⟩ := forR_state (f := fun x Γ => oout (bindT (.name 2) x Γ) fun Γ' => runs g__posed [.set (.name 5) (.lc (.tup [.name 6, .name 7]) (.seq (.var 5)) [] (.tup [.var 7, .bin .sub (.bin .sub (.var 3) (.int 1)) (.var 6)])), .set (.tup [.name 3, .name 4]) (.tup [.var 4, .var 3])] Γ') (PoP v0 v1) (fun _ S => tn S) (xs := (List.range n).map fun (i : Nat) => PV.int (i : Int)) (fun x _ S Γ ⟨q, a, b, c, hq, e⟩ => by
    subst e
    simp [runs, run, ev, evI, evL, hq]
    rw [mapR_comp, mapR_map (g := fun x => pr (x.2, S.1 - 1 - x.1)) (fun x hx => by simp [evC, pr])]
    simp
    exact ⟨_, _, _, _, show seq? (.d (.lst ((S.2.2).map fun x => pr (x.2, S.1 - 1 - x.1)))) = .ok ((tn S).2.2.map pr) by simp [tn, Function.comp_def], rfl⟩) h
  rw [foldl_tns, List.length_range] at h'
  exact ⟨Γ', e, h'⟩
theorem posed_ev (S : Sh) (p : Nat) (hp : p < 8) : f__posed [.d (sv S), .d (.int p)] = .ok (.d (sv (ps p S))) := by
  have k0 : g__posed.cons[0]? = some (.d (.int 4)) := rfl
  have rg : rng? 0 ((p % 4 : Nat) : Int) 1 = .ok ((List.range (p % 4)).map fun (i : Nat) => PV.int (i : Int)) := by
    rw [rng_ok (by omega) (by omega) (by omega) (by omega), Int.sub_zero, Int.toNat_natCast]
    simp only [Int.zero_add]
  have md : binop .mod (.d (.int p)) (.d (.int 4)) = .ok (.d (.int ((p % 4 : Nat) : Int))) := by rw [b_mod (by decide)]; rfl
  have fin : ∀ (S' : Sh) Γ, PoP (.d (sv S)) (.d (.int p)) S' Γ → (runs g__posed [.for (.name 2) (.rng1 (.bin .mod (.var 1) (.glob 0))) [.set (.name 5) (.lc (.tup [.name 6, .name 7]) (.seq (.var 5)) [] (.tup [.var 7, .bin .sub (.bin .sub (.var 3) (.int 1)) (.var 6)])), .set (.tup [.name 3, .name 4]) (.tup [.var 4, .var 3])], .ret (.tup [.var 3, .var 4, .f1 .tuple (.f1 .sorted (.var 5))])] Γ).fin = .ok (.d (sv (so (tns (p % 4) S')))) := fun S' Γ h => by
    have li : evI g__posed (.rng1 (.bin .mod (.var 1) (.glob 0))) Γ = .ok ((List.range (p % 4)).map fun (i : Nat) => PV.int (i : Int)) := by
      obtain ⟨q, a, b, c, hq, e⟩ := h
      subst e
      simp only [evI, ev, k0, rdSh_sh, List.getElem?_cons_succ, List.getElem?_cons_zero, Res.bind_ok]
      show ((binop BOp.mod (.d (.int p)) (.d (.int 4))).bind fun y => (isInt? y).bind fun j => rng? 0 j 1) = _
      rw [md]
      exact rg
    obtain ⟨Γ', e, h'⟩ := posed_loop (.d (sv S)) (.d (.int p)) S' (p % 4) Γ h
    obtain ⟨q, a, b, c, hq, e2⟩ := h'
    subst e2
    rw [runs, run, li, Res.out_ok, e]
    have sq := sorted_prs hq
    simp [runs, run, ev, evL, sq, so, sv]
  show (runs g__posed c__posed _).fin = _
  by_cases c : 4 ≤ p
  · have c' : (4 : Int) ≤ p := by omega
    have h1 : PoP (.d (sv S)) (.d (.int p)) (fl S) [.sh (.d (sv S)), .sh (.d (.int p)), .no, .sh (.d (.int S.1)), .sh (.d (.int S.2.1)), .sh (.d (.lst (S.2.2.map fun x => pr (x.1, S.2.1 - 1 - x.2)))), .no, .no] :=
      ⟨_, _, _, _, show seq? (.d (.lst ((S.2.2).map fun x => pr (x.1, S.2.1 - 1 - x.2)))) = .ok ((fl S).2.2.map pr) by simp [fl, Function.comp_def], rfl⟩
    have := fin (fl S) _ h1
    have e : ps p S = so (tns (p % 4) (fl S)) := by unfold ps; rw [if_pos c]
    rw [e, ← this]
    unfold c__posed
    rw [runs, run]
    simp [ev, bt_sv, runs, run, evI, evL, k0, c, c']
    rw [mapR_comp, mapR_map (g := fun x => pr (x.1, S.2.1 - 1 - x.2)) (fun x hx => by simp [evC, pr])]
    rfl
  · have c' : ¬ (4 : Int) ≤ p := by omega
    have h1 : PoP (.d (sv S)) (.d (.int p)) S [.sh (.d (sv S)), .sh (.d (.int p)), .no, .sh (.d (.int S.1)), .sh (.d (.int S.2.1)), .sh (.d (.tup (S.2.2.map pr))), .no, .no] := ⟨_, _, _, _, rfl, rfl⟩
    have := fin S _ h1
    have e : ps p S = so (tns (p % 4) S) := by unfold ps; rw [if_neg c]
    rw [e, ← this]
    unfold c__posed
    rw [runs, run]
    simp [ev, bt_sv, runs, run, evI, evL, k0, c, c']
/-! ### the law's own way -/
def LpP (v0 v1 v2 : SV) (S : Sh) (Γ : Gm) : Prop := ∃ q a b c, seq? (.d q) = .ok (S.2.2.map pr) ∧ Γ = [.sh v0, .sh v1, .sh v2, a, .sh (.d (.int S.1)), .sh (.d (.int S.2.1)), .sh (.d q), b, c]
def stepsL (p : Nat) : List PV := (if 4 ≤ p then [.str "flip"] else []) ++ List.replicate (p % 4) (.str "turn")
def lpBody : List CS := [.ife (.cmp .eq (.var 3) (.str "flip")) [.set (.name 6) (.lc (.tup [.name 7, .name 8]) (.seq (.var 6)) [] (.tup [.var 7, .bin .sub (.bin .sub (.var 5) (.int 1)) (.var 8)]))] [.set (.tup [.name 6, .name 4, .name 5]) (.tup [.lc (.tup [.name 7, .name 8]) (.seq (.var 6)) [] (.tup [.var 8, .bin .sub (.bin .sub (.var 4) (.int 1)) (.var 7)]), .var 5, .var 4])]]
theorem tf_ne : ¬ ("turn" : PySem.Str) = "flip" := by decide
theorem lp_flip (v0 v1 v2 : SV) (S : Sh) (Γ : Gm) (h : LpP v0 v1 v2 S Γ) : ∃ Γ', oout (bindT (.name 3) (.str "flip") Γ) (fun Γ' => runs g__law_posed lpBody Γ') = .nx Γ' ∧ LpP v0 v1 v2 (fl S) Γ' := by
  obtain ⟨q, a, b, c, hq, e⟩ := h
  subst e
  simp [lpBody, runs, run, ev, evI, evL, hq]
  rw [mapR_comp, mapR_map (g := fun x => pr (x.1, S.2.1 - 1 - x.2)) (fun x hx => by simp [evC, pr])]
  simp
  exact ⟨_, _, _, _, show seq? (.d (.lst ((S.2.2).map fun x => pr (x.1, S.2.1 - 1 - x.2)))) = .ok ((fl S).2.2.map pr) by simp [fl, Function.comp_def], rfl⟩
theorem lp_turn (v0 v1 v2 : SV) (S : Sh) (Γ : Gm) (h : LpP v0 v1 v2 S Γ) : ∃ Γ', oout (bindT (.name 3) (.str "turn") Γ) (fun Γ' => runs g__law_posed lpBody Γ') = .nx Γ' ∧ LpP v0 v1 v2 (tn S) Γ' := by
  obtain ⟨q, a, b, c, hq, e⟩ := h
  subst e
  simp [lpBody, runs, run, ev, evI, evL, hq, tf_ne]
  rw [mapR_comp, mapR_map (g := fun x => pr (x.2, S.1 - 1 - x.1)) (fun x hx => by simp [evC, pr])]
  simp
  exact ⟨_, _, _, _, show seq? (.d (.lst ((S.2.2).map fun x => pr (x.2, S.1 - 1 - x.1)))) = .ok ((tn S).2.2.map pr) by simp [tn, Function.comp_def], rfl⟩
theorem lp_turns (v0 v1 v2 : SV) : ∀ (n : Nat) (S : Sh) (Γ : Gm), LpP v0 v1 v2 S Γ → ∃ Γ', forR (fun x Γ => oout (bindT (.name 3) x Γ) fun Γ' => runs g__law_posed lpBody Γ') (List.replicate n (.str "turn")) Γ = .nx Γ' ∧ LpP v0 v1 v2 (tns n S) Γ'
  | 0, S, Γ, h => ⟨Γ, rfl, h⟩
  | n + 1, S, Γ, h => by
    obtain ⟨Γ1, e1, h1⟩ := lp_turn v0 v1 v2 S Γ h
    obtain ⟨Γ2, e2, h2⟩ := lp_turns v0 v1 v2 n (tn S) Γ1 h1
    refine ⟨Γ2, ?_, h2⟩
    rw [List.replicate_succ]
    show (oout (bindT (.name 3) (.str "turn") Γ) fun Γ' => runs g__law_posed lpBody Γ').loop _ = _
    rw [e1]; exact e2
theorem lp_all (v0 v1 v2 : SV) (p : Nat) (S : Sh) (Γ : Gm) (h : LpP v0 v1 v2 S Γ) : ∃ Γ', forR (fun x Γ => oout (bindT (.name 3) x Γ) fun Γ' => runs g__law_posed lpBody Γ') (stepsL p) Γ = .nx Γ' ∧ LpP v0 v1 v2 (tns (p % 4) (if 4 ≤ p then fl S else S)) Γ' := by
  unfold stepsL
  by_cases c : 4 ≤ p
  · rw [if_pos c, if_pos c]
    obtain ⟨Γ1, e1, h1⟩ := lp_flip v0 v1 v2 S Γ h
    obtain ⟨Γ2, e2, h2⟩ := lp_turns v0 v1 v2 (p % 4) (fl S) Γ1 h1
    refine ⟨Γ2, ?_, h2⟩
    show (oout (bindT (.name 3) (.str "flip") Γ) fun Γ' => runs g__law_posed lpBody Γ').loop _ = _
    rw [e1]; exact e2
  · rw [if_neg c, if_neg c]
    exact lp_turns v0 v1 v2 (p % 4) S Γ h
theorem steps_ev (p : Nat) (hp : p < 8) (Γ : Gm) (h : Γ[1]? = some (.sh (.d (.int p)))) : ev g__law_posed (.bin .add (.bin .mul (.lst [.str "flip"]) (.bin .fdiv (.var 1) (.int 4))) (.bin .mul (.lst [.str "turn"]) (.bin .mod (.var 1) (.int 4)))) Γ = .ok (.d (.lst (stepsL p))) := by
  simp only [ev, evL, h, rdSh_sh, Res.bind_ok, datas_cons, datas_nil]
  match p, hp with
  | 0, _ => rfl
  | 1, _ => rfl
  | 2, _ => rfl
  | 3, _ => rfl
  | 4, _ => rfl
  | 5, _ => rfl
  | 6, _ => rfl
  | 7, _ => rfl
theorem lposed_ev (S : Sh) (p : Nat) (hp : p < 8) : f__law_posed [.d (sv S), .d (.int p)] = .ok (.d (sv (ps p S))) := by
  have st := steps_ev p hp [.sh (.d (sv S)), .sh (.d (.int p)), .no, .no, .sh (.d (.int S.1)), .sh (.d (.int S.2.1)), .sh (.d (.tup (S.2.2.map pr))), .no, .no] rfl
  obtain ⟨Γ', e, h'⟩ := lp_all (.d (sv S)) (.d (.int p)) (.d (.lst (stepsL p))) p S [.sh (.d (sv S)), .sh (.d (.int p)), .sh (.d (.lst (stepsL p))), .no, .sh (.d (.int S.1)), .sh (.d (.int S.2.1)), .sh (.d (.tup (S.2.2.map pr))), .no, .no] ⟨_, _, _, _, rfl, rfl⟩
  obtain ⟨q, a, b, c, hq, e2⟩ := h'
  subst e2
  have sq := sorted_prs hq
  have l0 : runs g__law_posed [.set (.tup [.name 4, .name 5, .name 6]) (.var 0)] [.sh (.d (sv S)), .sh (.d (.int p)), .no, .no, .no, .no, .no, .no, .no] = .nx [.sh (.d (sv S)), .sh (.d (.int p)), .no, .no, .sh (.d (.int S.1)), .sh (.d (.int S.2.1)), .sh (.d (.tup (S.2.2.map pr))), .no, .no] := by
    simp [runs, run, ev, bt_sv]
  have l1 : runs g__law_posed [.set (.name 2) (.bin .add (.bin .mul (.lst [.str "flip"]) (.bin .fdiv (.var 1) (.int 4))) (.bin .mul (.lst [.str "turn"]) (.bin .mod (.var 1) (.int 4))))] [.sh (.d (sv S)), .sh (.d (.int p)), .no, .no, .sh (.d (.int S.1)), .sh (.d (.int S.2.1)), .sh (.d (.tup (S.2.2.map pr))), .no, .no] = .nx [.sh (.d (sv S)), .sh (.d (.int p)), .sh (.d (.lst (stepsL p))), .no, .sh (.d (.int S.1)), .sh (.d (.int S.2.1)), .sh (.d (.tup (S.2.2.map pr))), .no, .no] := by
    rw [runs, run, st]; rfl
  have l2 : runs g__law_posed [.for (.name 3) (.seq (.var 2)) lpBody] [.sh (.d (sv S)), .sh (.d (.int p)), .sh (.d (.lst (stepsL p))), .no, .sh (.d (.int S.1)), .sh (.d (.int S.2.1)), .sh (.d (.tup (S.2.2.map pr))), .no, .no] = .nx [.sh (.d (sv S)), .sh (.d (.int p)), .sh (.d (.lst (stepsL p))), a, .sh (.d (.int (tns (p % 4) (if 4 ≤ p then fl S else S)).1)), .sh (.d (.int (tns (p % 4) (if 4 ≤ p then fl S else S)).2.1)), .sh (.d q), b, c] := by
    rw [runs, run, show evI g__law_posed (.seq (.var 2)) [.sh (.d (sv S)), .sh (.d (.int p)), .sh (.d (.lst (stepsL p))), .no, .sh (.d (.int S.1)), .sh (.d (.int S.2.1)), .sh (.d (.tup (S.2.2.map pr))), .no, .no] = .ok (stepsL p) from rfl, Res.out_ok, e, Out.next_nx, runs]
  show (runs g__law_posed c__law_posed _).fin = _
  rw [show c__law_posed = [.set (.tup [.name 4, .name 5, .name 6]) (.var 0)] ++ ([.set (.name 2) (.bin .add (.bin .mul (.lst [.str "flip"]) (.bin .fdiv (.var 1) (.int 4))) (.bin .mul (.lst [.str "turn"]) (.bin .mod (.var 1) (.int 4))))] ++ ([.for (.name 3) (.seq (.var 2)) lpBody] ++ [.ret (.tup [.var 4, .var 5, .f1 .tuple (.f1 .sorted (.var 6))])])) from rfl, runs_append]
  show ((runs g__law_posed _ [.sh (.d (sv S)), .sh (.d (.int p)), .no, .no, .no, .no, .no, .no, .no]).next _).fin = _
  rw [l0, Out.next_nx, runs_append, l1, Out.next_nx, runs_append, l2, Out.next_nx]
  simp [runs, run, ev, evL, sq, ps, so, sv]
end K87
end

section
set_option autoImplicit false
set_option linter.all false
set_option maxRecDepth 100000
namespace K87
open Bw
/-! ### the eight poses -/
def mp (h w : Int) (p : Nat) (x : Pt) : Pt := match p with
  | 0 => x
  | 1 => (x.2, h - 1 - x.1)
  | 2 => (h - 1 - x.1, w - 1 - x.2)
  | 3 => (w - 1 - x.2, x.1)
  | 4 => (x.1, w - 1 - x.2)
  | 5 => (w - 1 - x.2, h - 1 - x.1)
  | 6 => (h - 1 - x.1, x.2)
  | _ => (x.2, x.1)
def hp (h w : Int) (p : Nat) : Int := if p % 2 = 1 then w else h
theorem lt8 {p : Nat} (h : p < 8) : p = 0 ∨ p = 1 ∨ p = 2 ∨ p = 3 ∨ p = 4 ∨ p = 5 ∨ p = 6 ∨ p = 7 := by omega
theorem ps_mp (h w : Int) (L : List Pt) {p : Nat} (hp8 : p < 8) : ps p (h, w, L) = (hp h w p, hp w h p, sp (L.map (mp h w p))) := by
  have key : ∀ (f g : Pt → Pt), (∀ x, f x = g x) → sp (L.map f) = sp (L.map g) := fun f g e => by rw [show f = g from funext e]
  rcases lt8 hp8 with rfl | rfl | rfl | rfl | rfl | rfl | rfl | rfl <;>
    (simp [ps, tns, tn, fl, so, hp, Function.comp_def]; try (refine key _ _ fun x => ?_); try (obtain ⟨a, b⟩ := x); try (simp [mp]); try omega)
  · exact congrArg sp (List.map_id L).symm
def bh (p q : Nat) : Nat := if q < 4 then p - p % 4 + (p % 4 + q % 4) % 4 else (if 4 ≤ p then (q % 4 + 4 - p % 4) % 4 else (q % 4 + 4 - p % 4) % 4 + 4)
def un (p : Nat) : Nat := if 4 ≤ p then p else (4 - p) % 4
theorem bh_lt : ∀ p, p < 8 → ∀ q, q < 8 → bh p q < 8 := by decide
theorem un_lt : ∀ p, p < 8 → un p < 8 := by decide
theorem bh_un : ∀ p, p < 8 → bh p (un p) = 0 ∧ bh (un p) p = 0 ∧ bh 0 p = p ∧ bh p 0 = p := by decide
theorem bh_assoc : ∀ p, p < 8 → ∀ q, q < 8 → ∀ r, r < 8 → bh (bh p q) r = bh p (bh q r) := by decide +kernel
theorem mp_comp (h w : Int) {p q : Nat} (h1 : p < 8) (h2 : q < 8) (x : Pt) : mp (hp h w p) (hp w h p) q (mp h w p x) = mp h w (bh p q) x := by
  obtain ⟨a, b⟩ := x
  rcases lt8 h1 with rfl | rfl | rfl | rfl | rfl | rfl | rfl | rfl <;> rcases lt8 h2 with rfl | rfl | rfl | rfl | rfl | rfl | rfl | rfl <;>
    (simp [mp, hp, bh]; try omega)
theorem hp_comp (h w : Int) {p q : Nat} (h1 : p < 8) (h2 : q < 8) : hp (hp h w p) (hp w h p) q = hp h w (bh p q) := by
  rcases lt8 h1 with rfl | rfl | rfl | rfl | rfl | rfl | rfl | rfl <;> rcases lt8 h2 with rfl | rfl | rfl | rfl | rfl | rfl | rfl | rfl <;> rfl
theorem ps_comp (S : Sh) {p q : Nat} (h1 : p < 8) (h2 : q < 8) : ps q (ps p S) = ps (bh p q) S := by
  obtain ⟨h, w, L⟩ := S
  rw [ps_mp h w L h1, ps_mp _ _ _ h2, ps_mp h w L (bh_lt p h1 q h2), hp_comp h w h1 h2, hp_comp w h h1 h2]
  have e : sp ((sp (L.map (mp h w p))).map (mp (hp h w p) (hp w h p) q)) = sp (L.map (mp h w (bh p q))) := by
    rw [sp_eq ((sp_perm (L.map (mp h w p))).map _), List.map_map]
    congr 1
    refine List.map_congr_left fun x _ => mp_comp h w h1 h2 x
  rw [e]
structure Ok (S : Sh) : Prop where
  h1 : 1 ≤ S.1 ∧ S.1 ≤ 12
  h2 : 1 ≤ S.2.1 ∧ S.2.1 ≤ 12
  len : S.2.2.length ≤ 10
  rg : ∀ x ∈ S.2.2, 0 ≤ x.1 ∧ x.1 < S.1 ∧ 0 ≤ x.2 ∧ x.2 < S.2.1
  sa : SA S.2.2
theorem ps_zero {S : Sh} (h : SA S.2.2) : ps 0 S = S := by
  obtain ⟨a, b, L⟩ := S
  rw [ps_mp a b L (by decide)]
  have : L.map (mp a b 0) = L := List.map_id L
  rw [this, sp_of_SA h]; rfl
theorem mp_inj (h w : Int) {p : Nat} (hp8 : p < 8) {x y : Pt} (e : mp h w p x = mp h w p y) : x = y := by
  have := congrArg (mp (hp h w p) (hp w h p) (un p)) e
  rw [mp_comp h w hp8 (un_lt p hp8), mp_comp h w hp8 (un_lt p hp8), (bh_un p hp8).1] at this
  exact this
theorem ps_ok {S : Sh} (k : Ok S) {p : Nat} (hp8 : p < 8) : Ok (ps p S) := by
  obtain ⟨h, w, L⟩ := S
  obtain ⟨h1, h2, h3, h4, h5⟩ := k
  rw [ps_mp h w L hp8]
  have c : ∀ a b : Int, hp a b p = a ∨ hp a b p = b := fun a b => by unfold hp; split <;> simp
  refine ⟨?_, ?_, ?_, fun x hx => ?_, sp_SA ?_⟩
  · show 1 ≤ hp h w p ∧ hp h w p ≤ 12
    rcases c h w with e | e <;> rw [e] <;> assumption
  · show 1 ≤ hp w h p ∧ hp w h p ≤ 12
    rcases c w h with e | e <;> rw [e] <;> assumption
  · show (sp (L.map (mp h w p))).length ≤ 10
    rw [(sp_perm _).length_eq, List.length_map]; exact h3
  · have hx : x ∈ sp (L.map (mp h w p)) := hx
    rw [(sp_perm _).mem_iff, List.mem_map] at hx
    obtain ⟨y, hy, rfl⟩ := hx
    have b := h4 y hy
    obtain ⟨y1, y2⟩ := y
    rcases lt8 hp8 with rfl | rfl | rfl | rfl | rfl | rfl | rfl | rfl <;> simp [mp, hp] at b ⊢ <;> omega
  · rw [List.Nodup, List.pairwise_map]
    exact h5.nodup.imp fun ne e => ne (mp_inj h w hp8 e)
/-! ### counting -/
def own8 (B : Nat → Bool) : List Nat := (List.range 8).filter B
def cl8 (bs : List Bool) : Bool := (List.range 8).all fun i => (List.range 8).all fun j => !(bs.getD i false && bs.getD j false) || bs.getD (bh i j) false
def gd (bs : List Bool) (i : Nat) : Bool := bs.getD i false
theorem cnt_all : ∀ b0 b1 b2 b3 b4 b5 b6 b7 : Bool, cl8 [b0, b1, b2, b3, b4, b5, b6, b7] = true → b0 = true → (let n := (own8 (gd [b0, b1, b2, b3, b4, b5, b6, b7])).length; n = 1 ∨ n = 2 ∨ n = 4 ∨ n = 8) := by decide +kernel
theorem cos_all : ∀ b0 b1 b2 b3 b4 b5 b6 b7 : Bool, ∀ q, q < 8 → (own8 fun p => gd [b0, b1, b2, b3, b4, b5, b6, b7] (bh p (un q))).length = (own8 (gd [b0, b1, b2, b3, b4, b5, b6, b7])).length := by decide +kernel
def bs8 (B : Nat → Bool) : List Bool := [B 0, B 1, B 2, B 3, B 4, B 5, B 6, B 7]
theorem gd_bs (B : Nat → Bool) {i : Nat} (h : i < 8) : gd (bs8 B) i = B i := by
  rcases lt8 h with rfl | rfl | rfl | rfl | rfl | rfl | rfl | rfl <;> rfl
theorem own_cnt {S : Sh} (h : SA S.2.2) : (let n := (own8 fun p => decide (ps p S = S)).length; n = 1 ∨ n = 2 ∨ n = 4 ∨ n = 8) := by
  have c := cnt_all (decide (ps 0 S = S)) (decide (ps 1 S = S)) (decide (ps 2 S = S)) (decide (ps 3 S = S)) (decide (ps 4 S = S)) (decide (ps 5 S = S)) (decide (ps 6 S = S)) (decide (ps 7 S = S)) ?_ (by rw [decide_eq_true_eq]; exact ps_zero h)
  · have e : own8 (gd (bs8 fun p => decide (ps p S = S))) = own8 fun p => decide (ps p S = S) := List.filter_congr fun i hi => gd_bs _ (List.mem_range.mp hi)
    rw [← e]; exact c
  · show cl8 (bs8 fun p => decide (ps p S = S)) = true
    unfold cl8
    rw [List.all_eq_true]
    intro i hi
    rw [List.all_eq_true]
    intro j hj
    rw [List.mem_range] at hi hj
    have e1 := gd_bs (fun p => decide (ps p S = S)) hi
    have e2 := gd_bs (fun p => decide (ps p S = S)) hj
    have e3 := gd_bs (fun p => decide (ps p S = S)) (bh_lt i hi j hj)
    unfold gd at e1 e2 e3
    rw [e1, e2, e3]
    by_cases c1 : ps i S = S
    · by_cases c2 : ps j S = S
      · have : ps (bh i j) S = S := by rw [← ps_comp S hi hj, c1, c2]
        simp [c1, c2, this]
      · simp [c2]
    · simp [c1]
theorem due_cnt {S : Sh} (h : SA S.2.2) (T : Sh) : (own8 fun p => decide (ps p S = T)).length = 0 ∨ (own8 fun p => decide (ps p S = T)).length = (own8 fun p => decide (ps p S = S)).length := by
  by_cases c : ∃ q, q < 8 ∧ ps q S = T
  · right
    obtain ⟨q, hq, rfl⟩ := c
    have e : own8 (fun p => decide (ps p S = ps q S)) = own8 fun p => gd (bs8 fun p => decide (ps p S = S)) (bh p (un q)) := List.filter_congr fun p hp => by
      rw [List.mem_range] at hp
      have hu := un_lt q hq
      rw [gd_bs _ (bh_lt p hp _ hu)]
      congr 1
      rw [eq_iff_iff]
      constructor
      · intro e
        rw [← ps_comp S hp hu, e, ps_comp S hq hu, (bh_un q hq).1, ps_zero h]
      · intro e
        have e2 : bh (bh p (un q)) q = p := by rw [bh_assoc p hp _ hu q hq, (bh_un q hq).2.1, (bh_un p hp).2.2.2]
        have : ps q (ps (bh p (un q)) S) = ps q S := by rw [e]
        rw [ps_comp S (bh_lt p hp _ hu) hq, e2] at this
        exact this
    have e2 : own8 (fun p => decide (ps p S = S)) = own8 (gd (bs8 fun p => decide (ps p S = S))) := List.filter_congr fun i hi => (gd_bs (fun p => decide (ps p S = S)) (List.mem_range.mp hi)).symm
    rw [e, e2]
    exact cos_all _ _ _ _ _ _ _ _ q hq
  · left
    rw [List.length_eq_zero_iff, own8, List.filter_eq_nil_iff]
    intro p hp
    rw [List.mem_range] at hp
    rw [decide_eq_true_eq]
    exact fun e => c ⟨p, hp, e⟩
end K87
end

section
set_option autoImplicit false
set_option linter.all false
set_option maxRecDepth 100000
namespace K87
open Bw
theorem is_whole_int (i a b : Int) : f_is_whole [.d (.int i), .d (.int a), .d (.int b)] = .ok (.d (.bl (decide (a ≤ i) && decide (i ≤ b)))) := by
  simp [f_is_whole, c_is_whole, fn, runs, run, ev, isaop, isaP]
theorem is_whole_bl (z : Bool) (a b : Int) : f_is_whole [.d (.bl z), .d (.int a), .d (.int b)] = .ok (.d (.bl false)) := by
  simp [f_is_whole, c_is_whole, fn, runs, run, ev, isaop, isaP]
theorem is_whole_non (a b : Int) : f_is_whole [.d .non, .d (.int a), .d (.int b)] = .ok (.d (.bl false)) := by
  simp [f_is_whole, c_is_whole, fn, runs, run, ev, isaop, isaP]
theorem is_whole_str (s : PySem.Str) (a b : Int) : f_is_whole [.d (.str s), .d (.int a), .d (.int b)] = .ok (.d (.bl false)) := by
  simp [f_is_whole, c_is_whole, fn, runs, run, ev, isaop, isaP]
/-! ### poses -/
theorem check_pose_ev (p : Nat) (h : p < 8) : f__check_pose [.d (.int p)] = .ok (.d .non) := by
  have k0 : g__check_pose.cons[0]? = some (.d (.int 8)) := rfl
  have g0 : g__check_pose.fns[0]? = some f_is_whole := rfl
  have w := is_whole_int p 0 7
  rw [decide_eq_true (show (0 : Int) ≤ p by omega), decide_eq_true (show (p : Int) ≤ 7 by omega)] at w
  simp [f__check_pose, c__check_pose, fn, runs, run, ev, evL, g0, k0, w]
def badPose : List PV := [.int (-1), .int 8, .bl true, .non, .str "0"]
theorem check_pose_bad : ∀ x ∈ badPose, f__check_pose [.d x] = .exc 1 := by
  have k0 : g__check_pose.cons[0]? = some (.d (.int 8)) := rfl
  have g0 : g__check_pose.fns[0]? = some f_is_whole := rfl
  have w1 := is_whole_int (-1) 0 7
  have w2 := is_whole_int 8 0 7
  have w3 := is_whole_bl true 0 7
  have w4 := is_whole_non 0 7
  have w5 := is_whole_str "0" 0 7
  intro x hx
  simp only [badPose, List.mem_cons, List.not_mem_nil, or_false] at hx
  rcases hx with rfl | rfl | rfl | rfl | rfl
  · simp at w1
    simp [f__check_pose, c__check_pose, fn, runs, run, ev, evL, g0, k0, w1]
  · simp at w2
    simp [f__check_pose, c__check_pose, fn, runs, run, ev, evL, g0, k0, w2]
  · simp [f__check_pose, c__check_pose, fn, runs, run, ev, evL, g0, k0, w3]
  · simp [f__check_pose, c__check_pose, fn, runs, run, ev, evL, g0, k0, w4]
  · simp [f__check_pose, c__check_pose, fn, runs, run, ev, evL, g0, k0, w5]
theorem undone_ev (p : Nat) (h : p < 8) : f_undone [.d (.int p)] = .ok (.d (.int (un p))) := by
  have k0 : g_undone.cons[0]? = some (.d (.int 4)) := rfl
  have g0 : g_undone.fns[0]? = some f__check_pose := rfl
  have c := check_pose_ev p h
  have md := fun i => b_mod (i := i) (j := 4) (by decide)
  by_cases d : 4 ≤ p
  · have d' : (4 : Int) ≤ p := by omega
    simp [f_undone, c_undone, fn, runs, run, ev, evL, g0, k0, c, md, un, d, d']
  · have d' : ¬ (4 : Int) ≤ p := by omega
    have r : (4 - (p : Int)) % 4 = (un p : Nat) := by unfold un; rw [if_neg d]; omega
    simp [f_undone, c_undone, fn, runs, run, ev, evL, g0, k0, c, md, d, d', r]
theorem behind_ev (p q : Nat) (h : p < 8) (h2 : q < 8) : f_behind [.d (.int p), .d (.int q)] = .ok (.d (.int (bh p q))) := by
  have k0 : g_behind.cons[0]? = some (.d (.int 4)) := rfl
  have g0 : g_behind.fns[0]? = some f__check_pose := rfl
  have c := check_pose_ev p h
  have c2 := check_pose_ev q h2
  have md := fun i => b_mod (i := i) (j := 4) (by decide)
  have e1 : (p : Int) % 4 = ((p % 4 : Nat) : Int) := rfl
  by_cases d1 : q < 4
  · have d1' : (q : Int) < 4 := by omega
    have r : (p : Int) - (p : Int) % 4 + ((p : Int) % 4 + (q : Int) % 4) % 4 = (bh p q : Nat) := by
      unfold bh; rw [if_pos d1]; omega
    simp [f_behind, c_behind, fn, runs, run, ev, evL, g0, k0, c, c2, md, d1, d1', sets]
    rw [← r]; omega
  · have d1' : ¬ (q : Int) < 4 := by omega
    by_cases d2 : 4 ≤ p
    · have d2' : (4 : Int) ≤ p := by omega
      have r : ((q : Int) % 4 - (p : Int) % 4) % 4 = (bh p q : Nat) := by
        unfold bh; rw [if_neg d1, if_pos d2]; omega
      simp [f_behind, c_behind, fn, runs, run, ev, evL, g0, k0, c, c2, md, d1, d1', d2, d2', sets]
      rw [← r]; simp
    · have d2' : ¬ (4 : Int) ≤ p := by omega
      have r : ((q : Int) % 4 - (p : Int) % 4) % 4 + 4 = (bh p q : Nat) := by
        unfold bh; rw [if_neg d1, if_neg d2]; omega
      simp [f_behind, c_behind, fn, runs, run, ev, evL, g0, k0, c, c2, md, d1, d1', d2, d2', sets]
      rw [← r]; simp
/-! ### which poses lead there -/
def due8 (S T : Sh) : List Nat := own8 fun p => decide (ps p S = T)
def tn8 (L : List Nat) : PV := .tup (L.map fun (i : Nat) => PV.int (i : Int))
theorem poses_for_ev (S T : Sh) : f__poses_for [.d (sv S), .d (sv T)] = .ok (.d (tn8 (due8 S T))) := by
  have k0 : g__poses_for.cons[0]? = some (.d (.int 8)) := rfl
  have g0 : g__poses_for.fns[0]? = some f__posed := rfl
  have rg : rng? 0 8 1 = .ok ((List.range 8).map fun (i : Nat) => PV.int (i : Int)) := by rw [rng_ok (by decide) (by decide) (by decide) (by decide)]; simp
  simp [f__poses_for, c__poses_for, fn, runs, run, ev, evL, evI, g0, k0, rg]
  rw [mapR_comp, mapR_opt (g := fun i : Nat => if decide (ps i S = T) then some (PV.int (i : Int)) else none) (fun i hi => by
    have := posed_ev S i (List.mem_range.mp hi)
    simp [evC, ev, evL, g0, this, eq_sv])]
  simp only [Res.bind_ok, f_tup, Out.next_ret, fin_ret, Res.out_ok]
  have e : (List.range 8).filterMap (fun i : Nat => if decide (ps i S = T) then some (PV.int (i : Int)) else none) = (due8 S T).map fun (i : Nat) => PV.int (i : Int) := by
    unfold due8 own8
    generalize List.range 8 = l
    induction l with
    | nil => rfl
    | cons x xs ih =>
      rw [List.filterMap_cons, List.filter_cons, ih]
      by_cases c : ps x S = T <;> simp [c]
  rw [e]; rfl
end K87
end

section
set_option autoImplicit false
set_option linter.all false
set_option maxRecDepth 100000
namespace K87
open Bw
def adj : List Pt → Bool
  | [] => true
  | [_] => true
  | x :: y :: r => decide (lt2 x y) && adj (y :: r)
theorem adj_SA : ∀ L : List Pt, adj L = true ↔ SA L
  | [] => by simp [adj, SA]
  | [x] => by simp [adj, SA]
  | x :: y :: r => by
    have ih := adj_SA (y :: r)
    rw [adj, Bool.and_eq_true, decide_eq_true_iff, ih]
    unfold SA
    rw [List.pairwise_cons (a := x)]
    constructor
    · rintro ⟨h1, h2⟩
      refine ⟨fun z hz => ?_, h2⟩
      rcases List.mem_cons.mp hz with rfl | hz
      · exact h1
      · exact lt2_trans h1 ((List.pairwise_cons.mp h2).1 z hz)
    · rintro ⟨h1, h2⟩
      exact ⟨h1 y (List.mem_cons_self ..), h2⟩
theorem adj_zip : ∀ L : List Pt, (L.zip L.tail).all (fun p => decide (lt2 p.1 p.2)) = adj L
  | [] => rfl
  | [x] => rfl
  | x :: y :: r => by
    have ih := adj_zip (y :: r)
    rw [adj, ← ih]; rfl
theorem c_ltP (a b : Pt) : cmpop .lt (.d (pr a)) (.d (pr b)) = .ok (decide (lt2 a b)) := by
  have c : cmpb (pr a) (pr b) = true := by
    unfold pr cmpb
    simp [cmpbL, cmpb]
  have s : sha (pr a) = true := shal_pr _ a
  show (if (cmpb (pr a) (pr b) && (sha (pr a) || sha (pr b))) = true then Res.ok (ltT (pr a) (pr b)) else .bad) = _
  rw [c, s, ltT_pr]; rfl
instance (L : List Pt) : Decidable (SA L) := decidable_of_iff (adj L = true) (adj_SA L)
theorem ascends_ev (L : List Pt) : f_ascends [.d (.tup (L.map pr))] = .ok (.d (.bl (decide (SA L)))) := by
  have e : slop (.d (.tup (L.map pr))) (some 1) none = .ok (.d (.tup (L.tail.map pr))) := by
    show Res.ok (SV.d (.tup (cutP (L.map pr) (some ((1 : Nat) : Int)) none))) = _
    rw [cut_from, List.map_tail, List.drop_one]
  have e2 : zipP (L.map pr) (L.tail.map pr) = (L.zip L.tail).map fun p => PV.tup [pr p.1, pr p.2] := zip_map _ _ _ _
  have bt : ∀ (p : Pt × Pt) (Γ : Gm), bindT (.tup [.name 1, .name 2]) (.tup [pr p.1, pr p.2]) Γ = some ((Γ.set 1 (.sh (.d (pr p.1)))).set 2 (.sh (.d (pr p.2)))) := fun _ _ => rfl
  simp [f_ascends, c_ascends, fn, runs, run, ev, evI, evC, evO, e]
  rw [← List.map_tail, e2, mapR_comp, mapR_map (g := fun p : Pt × Pt => PV.bl (decide (lt2 p.1 p.2))) (fun p _ => by simp [c_ltP])]
  simp only [Res.bind_ok, f_all, adj_zip]
  have : adj L = decide (SA L) := by
    rw [Bool.eq_iff_iff, decide_eq_true_iff]; exact adj_SA L
  rw [this]; rfl
def InR (h w : Int) (x : Pt) : Prop := 0 ≤ x.1 ∧ x.1 < h ∧ 0 ≤ x.2 ∧ x.2 < w
instance (h w : Int) (x : Pt) : Decidable (InR h w x) := by unfold InR; infer_instance
theorem are_pts (h w : Int) (P : List Pt) (hl : P.length ≤ 10) : f__are_points [.d (.int h), .d (.int w), .d (.tup (P.map pr))] = .ok (.d (.bl (decide ((∀ x ∈ P, InR h w x) ∧ SA P)))) := by
  have k0 : g__are_points.cons[0]? = some (.d (.int 10)) := rfl
  have g0 : g__are_points.fns[0]? = some f_is_whole := rfl
  have g1 : g__are_points.fns[1]? = some f_ascends := rfl
  have t : isaop (.d (.tup (P.map pr))) .tuple = .ok true := rfl
  have nl : ¬ (10 : Int) < P.length := by omega
  have nl' : ¬ 10 < P.length := by omega
  generalize hD : (decide ((∀ x ∈ P, InR h w x) ∧ SA P)) = D
  simp [f__are_points, c__are_points, fn, runs, run, ev, evL, evI, g0, g1, k0, t, nl, nl']
  refine forR_dichK (fun o => o.fin = .ok (.d (.bl D))) (fun x => ∃ y ∈ P, x = pr y ∧ ¬ InR h w y)
    (fun Γ => ∃ b, Γ = [.sh (.d (.int h)), .sh (.d (.int w)), .sh (.d (.tup (P.map pr))), b]) (fun r => r = .d (.bl false)) ⟨_, rfl⟩ ?_ ?_ ?_
  · rintro x hx _ ⟨b, rfl⟩
    obtain ⟨y, hy, rfl⟩ := List.mem_map.mp hx
    have t2 : isaop (.d (pr y)) .tuple = .ok true := rfl
    have l2 : f1op .len (.d (pr y)) = .ok (.d (.int 2)) := rfl
    have i0 : idxop (.d (pr y)) (.d (.int 0)) = .ok (.d (.int y.1)) := ix_t0 _ _
    have i1 : idxop (.d (pr y)) (.d (.int 1)) = .ok (.d (.int y.2)) := ix_t1 _ _ _
    have w1 := is_whole_int y.1 0 (h - 1)
    have w2 := is_whole_int y.2 0 (w - 1)
    have inj : ∀ z : Pt, pr y = pr z → y = z := fun z e => by
      have : decide (y = z) = true := by rw [← pyEq_pr, e, pyEq_pr]; simp
      simpa using this
    by_cases c : InR h w y
    · right
      refine ⟨fun ⟨z, _, e, n⟩ => n (inj z e ▸ c), ?_⟩
      obtain ⟨c1, c2, c3, c4⟩ := c
      rw [decide_eq_true c1, decide_eq_true (show y.1 ≤ h - 1 by omega)] at w1
      rw [decide_eq_true c3, decide_eq_true (show y.2 ≤ w - 1 by omega)] at w2
      simp [t2, l2, i0, i1, w1, w2]
    · left
      refine ⟨⟨y, hy, rfl, c⟩, _, ?_, rfl⟩
      by_cases c1 : 0 ≤ y.1 ∧ y.1 ≤ h - 1
      · have c2 : ¬ (0 ≤ y.2 ∧ y.2 ≤ w - 1) := fun c2 => c ⟨c1.1, by omega, c2.1, by omega⟩
        rw [decide_eq_true c1.1, decide_eq_true c1.2] at w1
        have c2' : (decide (0 ≤ y.2) && decide (y.2 ≤ w - 1)) = false := by simpa using c2
        rw [c2'] at w2
        simp [t2, l2, i0, i1, w1, w2]
      · have c1' : (decide (0 ≤ y.1) && decide (y.1 ≤ h - 1)) = false := by simpa using c1
        rw [c1'] at w1
        simp [t2, l2, i0, i1, w1]
  · rintro ⟨x, _, y, hy, _, n⟩ r rfl
    have : ¬ ((∀ x ∈ P, InR h w x) ∧ SA P) := fun q => n (q.1 y hy)
    rw [← hD, decide_eq_false this]; rfl
  · rintro ha _ ⟨b, rfl⟩
    have al : ∀ x ∈ P, InR h w x := fun y hy => Classical.byContradiction fun n => ha (pr y) (List.mem_map.mpr ⟨y, hy, rfl⟩) ⟨y, hy, rfl, n⟩
    have : decide ((∀ x ∈ P, InR h w x) ∧ SA P) = decide (SA P) := by
      rw [decide_eq_decide]; exact ⟨fun q => q.2, fun q => ⟨al, q⟩⟩
    rw [← hD, this]
    simp [ascends_ev P]
theorem are_not (h w : Int) (v : PV) (hv : isaP v .tuple = false) : f__are_points [.d (.int h), .d (.int w), .d v] = .ok (.d (.bl false)) := by
  have t : isaop (.d v) .tuple = .ok false := by show Res.ok (isaP v .tuple) = _; rw [hv]
  simp [f__are_points, c__are_points, fn, runs, run, ev, evL, evI, t]
theorem check_sheet_ev {S : Sh} (k : Ok S) : f__check_sheet [.d (sv S)] = .ok (.d .non) := by
  have k0 : g__check_sheet.cons[0]? = some (.d (.int 12)) := rfl
  have g0 : g__check_sheet.fns[0]? = some f_is_whole := rfl
  have g1 : g__check_sheet.fns[1]? = some f__are_points := rfl
  have t : isaop (.d (sv S)) .tuple = .ok true := rfl
  have l : f1op .len (.d (sv S)) = .ok (.d (.int 3)) := rfl
  have i0 : idxop (.d (sv S)) (.d (.int 0)) = .ok (.d (.int S.1)) := ix_t0 _ _
  have i1 : idxop (.d (sv S)) (.d (.int 1)) = .ok (.d (.int S.2.1)) := ix_t1 _ _ _
  have i2 : idxop (.d (sv S)) (.d (.int 2)) = .ok (.d (.tup (S.2.2.map pr))) := ix_t2 _ _ _ _
  have w1 := is_whole_int S.1 1 12
  have w2 := is_whole_int S.2.1 1 12
  rw [decide_eq_true k.h1.1, decide_eq_true k.h1.2] at w1
  rw [decide_eq_true k.h2.1, decide_eq_true k.h2.2] at w2
  have a := are_pts S.1 S.2.1 S.2.2 k.len
  rw [decide_eq_true ⟨fun x hx => k.rg x hx, k.sa⟩] at a
  simp [f__check_sheet, c__check_sheet, fn, runs, run, ev, evL, g0, g1, k0, t, l, i0, i1, i2, w1, w2, a]
end K87
end

section
set_option autoImplicit false
set_option linter.all false
set_option maxRecDepth 100000
namespace K87
open Bw
/-- what is no sheet -/
def wrongs : List PV := [.non, .tup [.int 0, .int 1, .tup []], .tup [.int 1, .int 13, .tup []], .tup [.int 1, .int 1], .tup [.int 1, .bl true, .tup []], .tup [.int 2, .int 2, .lst [.tup [.int 0, .int 0]]], .tup [.int 2, .int 2, .tup [.tup [.int 0, .int 2]]], .tup [.int 2, .int 2, .tup [.tup [.int 1, .int 0], .tup [.int 0, .int 0]]], .tup [.int 2, .int 2, .tup [.tup [.int 0, .int 0], .tup [.int 0, .int 0]]]]
def wrongs2 : List PV := [.tup [.int 2, .int 2, .tup [.tup [.int 0]]], .tup [.int 12, .int 12, .tup ((List.range 11).map fun (k : Nat) => PV.tup [.int 0, .int (k : Int)])]]
theorem bad3 (h w : Int) (v : PV) (h1 : 1 ≤ h ∧ h ≤ 12) (h2 : 1 ≤ w ∧ w ≤ 12) (a : f__are_points [.d (.int h), .d (.int w), .d v] = .ok (.d (.bl false))) : f__check_sheet [.d (.tup [.int h, .int w, v])] = .exc 0 := by
  have k0 : g__check_sheet.cons[0]? = some (.d (.int 12)) := rfl
  have g0 : g__check_sheet.fns[0]? = some f_is_whole := rfl
  have g1 : g__check_sheet.fns[1]? = some f__are_points := rfl
  have t : isaop (.d (.tup [.int h, .int w, v])) .tuple = .ok true := rfl
  have l : f1op .len (.d (.tup [.int h, .int w, v])) = .ok (.d (.int 3)) := rfl
  have i0 : idxop (.d (.tup [.int h, .int w, v])) (.d (.int 0)) = .ok (.d (.int h)) := ix_t0 _ _
  have i1 : idxop (.d (.tup [.int h, .int w, v])) (.d (.int 1)) = .ok (.d (.int w)) := ix_t1 _ _ _
  have i2 : idxop (.d (.tup [.int h, .int w, v])) (.d (.int 2)) = .ok (.d v) := ix_t2 _ _ _ _
  have w1 := is_whole_int h 1 12
  have w2 := is_whole_int w 1 12
  rw [decide_eq_true h1.1, decide_eq_true h1.2] at w1
  rw [decide_eq_true h2.1, decide_eq_true h2.2] at w2
  simp [f__check_sheet, c__check_sheet, fn, runs, run, ev, evL, g0, g1, k0, t, l, i0, i1, i2, w1, w2, a]
theorem wrong_bad : ∀ x ∈ wrongs ++ wrongs2, f__check_sheet [.d x] = .exc 0 := by
  have k0 : g__check_sheet.cons[0]? = some (.d (.int 12)) := rfl
  have g0 : g__check_sheet.fns[0]? = some f_is_whole := rfl
  have w1 := is_whole_int 0 1 12
  have w2 := is_whole_int 1 1 12
  have w3 := is_whole_int 13 1 12
  have w4 := is_whole_bl true 1 12
  simp at w1 w2 w3
  intro x hx
  simp only [wrongs, wrongs2, List.cons_append, List.nil_append, List.mem_cons, List.not_mem_nil, or_false] at hx
  rcases hx with rfl | rfl | rfl | rfl | rfl | rfl | rfl | rfl | rfl | rfl | rfl
  · simp [f__check_sheet, c__check_sheet, fn, runs, run, ev, evL, isaop, isaP]
  · simp [f__check_sheet, c__check_sheet, fn, runs, run, ev, evL, isaop, isaP, g0, k0, w1]
  · simp [f__check_sheet, c__check_sheet, fn, runs, run, ev, evL, isaop, isaP, g0, k0, w2, w3]
  · simp [f__check_sheet, c__check_sheet, fn, runs, run, ev, evL, isaop, isaP]
  · simp [f__check_sheet, c__check_sheet, fn, runs, run, ev, evL, isaop, isaP, g0, k0, w2, w4]
  · exact bad3 2 2 _ (by decide) (by decide) (are_not 2 2 _ rfl)
  · exact bad3 2 2 _ (by decide) (by decide) (are_pts 2 2 [(0, 2)] (by decide))
  · exact bad3 2 2 _ (by decide) (by decide) (are_pts 2 2 [(1, 0), (0, 0)] (by decide))
  · exact bad3 2 2 _ (by decide) (by decide) (are_pts 2 2 [(0, 0), (0, 0)] (by decide))
  · refine bad3 2 2 _ (by decide) (by decide) ?_
    have k1 : g__are_points.cons[0]? = some (.d (.int 10)) := rfl
    simp [f__are_points, c__are_points, fn, runs, run, ev, evL, evI, isaop, isaP, k1, forR, Out.loop]
  · refine bad3 12 12 _ (by decide) (by decide) ?_
    have k1 : g__are_points.cons[0]? = some (.d (.int 10)) := rfl
    simp [f__are_points, c__are_points, fn, runs, run, ev, evL, evI, isaop, isaP, k1]
/-! ### telling -/
theorem eq_tn (L M : List Nat) : cmpop .eq (.d (tn8 L)) (.d (tn8 M)) = .ok (decide (L = M)) := by
  have p : ∀ L M : List Nat, pyEqL (L.map fun (i : Nat) => PV.int (i : Int)) (M.map fun (i : Nat) => PV.int (i : Int)) = decide (L = M) := fun L => by
    induction L with
    | nil => intro M; cases M <;> simp [pyEqL]
    | cons x xs ih =>
      intro M
      cases M with
      | nil => simp [pyEqL]
      | cons y ys =>
        rw [List.map_cons, List.map_cons, pyEqL, ih, pyEq]
        by_cases h : x = y <;> by_cases h2 : xs = ys <;> simp [h, h2]
        omega
  have s : ∀ (n : Nat) (L : List Nat), shalL n (L.map fun (i : Nat) => PV.int (i : Int)) = true := fun n L => by
    induction L with
    | nil => rfl
    | cons x xs ih => rw [List.map_cons, shalL, shal_int', ih]; rfl
  show (if (sha (tn8 L) || sha (tn8 M)) = true then Res.ok (pyEqL _ _) else .bad) = _
  have : sha (tn8 L) = true := s _ L
  rw [this, p]; rfl
theorem ne_tn (L : List Nat) : cmpop .ne (.d (tn8 L)) (.d (tn8 L)) = .ok false := by
  have s : ∀ (n : Nat) (L : List Nat), shalL n (L.map fun (i : Nat) => PV.int (i : Int)) = true := fun n L => by
    induction L with
    | nil => rfl
    | cons x xs ih => rw [List.map_cons, shalL, shal_int', ih]; rfl
  exact ne_same (s _ L)
def tells (h w : Int) (P : List Pt) : Bool := decide (due8 (h, w, P) (h, w, P) = [0])
theorem tells_ev (S : Sh) (P : List Pt) : f__tells [.d (sv S), .d (.tup (P.map pr))] = .ok (.d (.bl (tells S.1 S.2.1 P))) := by
  have g0 : g__tells.fns[0]? = some f__poses_for := rfl
  have i0 : idxop (.d (sv S)) (.d (.int 0)) = .ok (.d (.int S.1)) := ix_t0 _ _
  have i1 : idxop (.d (sv S)) (.d (.int 1)) = .ok (.d (.int S.2.1)) := ix_t1 _ _ _
  have e : PV.tup [.int S.1, .int S.2.1, .tup (P.map pr)] = sv (S.1, S.2.1, P) := rfl
  have q := poses_for_ev (S.1, S.2.1, P) (S.1, S.2.1, P)
  have z : PV.tup [.int 0] = tn8 [0] := rfl
  simp [f__tells, c__tells, fn, runs, run, ev, evL, g0, i0, i1, e, q, z, eq_tn, tells]
theorem posed_prog {S : Sh} (k : Ok S) {p : Nat} (h : p < 8) : f_posed [.d (sv S), .d (.int p)] = .ok (.d (sv (ps p S))) := by
  simp [f_posed, c_posed, fn, runs, run, ev, evL, g_posed, check_sheet_ev k, check_pose_ev p h, posed_ev S p h]
theorem own_poses_ev {S : Sh} (k : Ok S) : f_own_poses [.d (sv S)] = .ok (.d (tn8 (due8 S S))) := by
  simp [f_own_poses, c_own_poses, fn, runs, run, ev, evL, g_own_poses, check_sheet_ev k, poses_for_ev]
theorem poses_for_prog {S T : Sh} (k : Ok S) (k2 : Ok T) : f_poses_for [.d (sv S), .d (sv T)] = .ok (.d (tn8 (due8 S T))) := by
  simp [f_poses_for, c_poses_for, fn, runs, run, ev, evL, g_poses_for, check_sheet_ev k, check_sheet_ev k2, poses_for_ev]
/-! ### pose_seen -/
theorem in_prs (x : Pt) (L : List Pt) : cmpop .isin (.d (pr x)) (.d (.tup (L.map pr))) = .ok (decide (x ∈ L)) := by
  have s : sha (pr x) = true := shal_pr _ x
  show (if sha (pr x) = true then Res.ok ((L.map pr).any fun y => pyEq y (pr x)) else .bad) = _
  rw [s, if_pos rfl, List.any_map]
  congr 1
  rw [Bool.eq_iff_iff, List.any_eq_true, decide_eq_true_iff]
  constructor
  · rintro ⟨y, hy, e⟩
    have e : pyEq (pr y) (pr x) = true := e
    rw [pyEq_pr, decide_eq_true_iff] at e
    rw [← e]; exact hy
  · intro h
    refine ⟨x, h, ?_⟩
    show pyEq (pr x) (pr x) = true
    rw [pyEq_pr]; simp
def headP (L : List Nat) : PV := match L with
  | [] => .non
  | i :: _ => .int (i : Int)
theorem all_in (P L : List Pt) (Γ : Gm) : mapR (fun x => (cmpop .isin (.d x) (.d (.tup (L.map pr)))).bind fun b => Res.ok (some (PV.bl b))) (P.map pr) = .ok (P.map fun x => PV.bl (decide (x ∈ L))) := by
  rw [mapR_comp, mapR_map (g := fun x => PV.bl (decide (x ∈ L))) (fun x hx => by rw [in_prs]; rfl)]
theorem pose_seen_ev {S T : Sh} (k : Ok S) (k2 : Ok T) (P : List Pt) (hl : P.length ≤ 10) (hr : ∀ x ∈ P, InR S.1 S.2.1 x) (hs : SA P) (hm : ∀ x ∈ P, x ∈ S.2.2) (ht : tells S.1 S.2.1 P = true) :
    f_pose_seen [.d (sv S), .d (.tup (P.map pr)), .d (sv T)] = .ok (.d (headP (due8 (S.1, S.2.1, P) T))) := by
  have g0 : g_pose_seen.fns[0]? = some f__check_sheet := rfl
  have g1 : g_pose_seen.fns[1]? = some f__are_points := rfl
  have g2 : g_pose_seen.fns[2]? = some f__tells := rfl
  have g3 : g_pose_seen.fns[3]? = some f__poses_for := rfl
  have i0 : idxop (.d (sv S)) (.d (.int 0)) = .ok (.d (.int S.1)) := ix_t0 _ _
  have i1 : idxop (.d (sv S)) (.d (.int 1)) = .ok (.d (.int S.2.1)) := ix_t1 _ _ _
  have i2 : idxop (.d (sv S)) (.d (.int 2)) = .ok (.d (.tup (S.2.2.map pr))) := ix_t2 _ _ _ _
  have e : PV.tup [.int S.1, .int S.2.1, .tup (P.map pr)] = sv (S.1, S.2.1, P) := rfl
  have q := poses_for_ev (S.1, S.2.1, P) T
  have a := are_pts S.1 S.2.1 P hl
  rw [decide_eq_true ⟨hr, hs⟩] at a
  have tl := tells_ev S P
  rw [ht] at tl
  have c := check_sheet_ev k
  have c2 := check_sheet_ev k2
  have al : (P.map fun x => PV.bl (decide (x ∈ S.2.2))) = P.map fun _ => PV.bl true := List.map_congr_left fun x hx => by rw [decide_eq_true (hm x hx)]
  have fa := f_all (fun _ : Pt => true) P
  simp [f_pose_seen, c_pose_seen, fn, runs, run, ev, evL, evI, evC, g0, g1, g2, g3, i0, i1, i2, c, c2, a]
  rw [mapR_comp, mapR_map (g := fun _ : Pt => PV.bl true) (fun x hx => by simp [in_prs, hm x hx])]
  simp [fa, tl, e, q, i0, i1]
  cases due8 (S.1, S.2.1, P) T with
  | nil => simp [tn8, headP]
  | cons i l =>
    have i0 : idxop (.d (tn8 (i :: l))) (.d (.int 0)) = .ok (.d (.int i)) := ix_t0 _ _
    have gz : (0 : Int) < (l.length : Int) + 1 := by omega
    simp [i0, headP]
    simp [tn8, gz]
end K87
end

section
set_option autoImplicit false
set_option linter.all false
set_option maxRecDepth 100000
namespace K87
open Bw
/-! ### all choices of points -/
def chs : List Pt → Nat → List (List Pt)
  | _, 0 => [[]]
  | [], _ + 1 => []
  | x :: xs, k + 1 => (chs xs k).map (fun r => x :: r) ++ chs xs (k + 1)
theorem chs_zero (L : List Pt) : chs L 0 = [[]] := by cases L <;> rfl
theorem chs_mem : ∀ (L : List Pt) (k : Nat) (P : List Pt), P ∈ chs L k ↔ P.Sublist L ∧ P.length = k
  | L, 0, P => by
    rw [chs_zero, List.mem_singleton]
    constructor
    · rintro rfl; exact ⟨List.nil_sublist _, rfl⟩
    · rintro ⟨_, h⟩; exact List.length_eq_zero_iff.mp h
  | [], k + 1, P => by
    rw [chs]
    constructor
    · intro h; cases h
    · rintro ⟨h1, h2⟩
      rw [List.sublist_nil] at h1
      subst h1; cases h2
  | x :: xs, k + 1, P => by
    rw [chs, List.mem_append, List.mem_map, chs_mem xs (k + 1) P, List.sublist_cons_iff]
    constructor
    · rintro (⟨r, hr, rfl⟩ | ⟨h1, h2⟩)
      · obtain ⟨h1, h2⟩ := (chs_mem xs k r).mp hr
        exact ⟨.inr ⟨r, rfl, h1⟩, by rw [List.length_cons, h2]⟩
      · exact ⟨.inl h1, h2⟩
    · rintro ⟨h1 | ⟨r, rfl, h1⟩, h2⟩
      · exact .inr ⟨h1, h2⟩
      · exact .inl ⟨r, (chs_mem xs k r).mpr ⟨h1, by rw [List.length_cons] at h2; omega⟩, rfl⟩
theorem chs_len : ∀ (L : List Pt) (k : Nat), (chs L k).length ≤ 2 ^ L.length
  | L, 0 => by rw [chs_zero]; exact Nat.one_le_two_pow
  | [], k + 1 => by simp [chs]
  | x :: xs, k + 1 => by
    have h1 := chs_len xs k
    have h2 := chs_len xs (k + 1)
    rw [chs, List.length_append, List.length_map, List.length_cons, Nat.pow_succ]; omega
/-- one by one, as tuples stand -/
def lex : List Pt → List Pt → Bool
  | _, [] => false
  | [], _ :: _ => true
  | x :: xs, y :: ys => if x = y then lex xs ys else decide (lt2 x y)
theorem lex_tri : ∀ a b : List Pt, lex a b = true ∨ a = b ∨ lex b a = true
  | [], [] => .inr (.inl rfl)
  | [], _ :: _ => .inl rfl
  | _ :: _, [] => .inr (.inr rfl)
  | x :: xs, y :: ys => by
    by_cases h : x = y
    · subst h
      simp only [lex, if_true]
      rcases lex_tri xs ys with h | h | h
      · exact .inl h
      · exact .inr (.inl (by rw [h]))
      · exact .inr (.inr h)
    · simp only [lex, if_neg h, if_neg (Ne.symm h), decide_eq_true_eq]
      rcases lt2_tri x y with c | c | c
      · exact .inl c
      · exact absurd c h
      · exact .inr (.inr c)
theorem lex_nil (a : List Pt) : lex a [] = false := by cases a <;> rfl
theorem lex_irr : ∀ a b : List Pt, lex a b = true → lex b a = true → False
  | a, [], h, _ => by rw [lex_nil] at h; cases h
  | [], _ :: _, _, h => by rw [lex_nil] at h; cases h
  | x :: xs, y :: ys, h, h2 => by
    by_cases e : x = y
    · subst e
      simp only [lex, if_true] at h h2
      exact lex_irr xs ys h h2
    · simp only [lex, if_neg e, if_neg (Ne.symm e), decide_eq_true_eq] at h h2
      exact lt2_irr h h2
theorem lex_trans : ∀ a b c : List Pt, lex a b = true → lex b c = true → lex a c = true
  | a, [], _, h, _ => by rw [lex_nil] at h; cases h
  | _, b :: bs, [], _, h => by rw [lex_nil] at h; cases h
  | [], _ :: _, _ :: _, _, _ => rfl
  | x :: xs, y :: ys, z :: zs, h, h2 => by
    by_cases e : x = y
    · subst e
      by_cases e2 : x = z
      · subst e2
        simp only [lex, if_true] at h h2 ⊢
        exact lex_trans xs ys zs h h2
      · simp only [lex, if_true, if_neg e2] at h h2 ⊢
        exact h2
    · by_cases e2 : y = z
      · subst e2
        simp only [lex, if_neg e] at h ⊢
        exact h
      · simp only [lex, if_neg e, if_neg e2, decide_eq_true_eq] at h h2
        have t := lt2_trans h h2
        simp only [lex, if_neg (lt2_ne t), decide_eq_true_eq]
        exact t
def ltS (a b : List Pt) : Prop := a.length < b.length ∨ (a.length = b.length ∧ lex a b = true)
instance (a b : List Pt) : Decidable (ltS a b) := by unfold ltS; infer_instance
theorem ltS_tri (a b : List Pt) : ltS a b ∨ a = b ∨ ltS b a := by
  unfold ltS
  rcases Nat.lt_trichotomy a.length b.length with h | h | h
  · exact .inl (.inl h)
  · rcases lex_tri a b with c | c | c
    · exact .inl (.inr ⟨h, c⟩)
    · exact .inr (.inl c)
    · exact .inr (.inr (.inr ⟨h.symm, c⟩))
  · exact .inr (.inr (.inl h))
theorem ltS_irr {a b : List Pt} (h : ltS a b) (h2 : ltS b a) : False := by
  rcases h with h | ⟨h, l⟩ <;> rcases h2 with h2 | ⟨h2, l2⟩
  · omega
  · omega
  · omega
  · exact lex_irr a b l l2
theorem ltS_trans {a b c : List Pt} (h : ltS a b) (h2 : ltS b c) : ltS a c := by
  rcases h with h | ⟨h, l⟩ <;> rcases h2 with h2 | ⟨h2, l2⟩
  · exact .inl (by omega)
  · exact .inl (by omega)
  · exact .inl (by omega)
  · exact .inr ⟨by omega, lex_trans a b c l l2⟩
def leS (a b : List Pt) : Bool := !decide (ltS b a)
theorem leS_iff {a b : List Pt} : leS a b = true ↔ ltS a b ∨ a = b := by
  unfold leS
  rw [Bool.not_eq_true', decide_eq_false_iff_not]
  constructor
  · intro h
    rcases ltS_tri a b with c | c | c
    · exact .inl c
    · exact .inr c
    · exact absurd c h
  · rintro (h | rfl) q
    · exact ltS_irr h q
    · exact ltS_irr q q
theorem leS_trans (a b c : List Pt) (h : leS a b = true) (h2 : leS b c = true) : leS a c = true := by
  rw [leS_iff] at *
  rcases h with h | rfl
  · rcases h2 with h2 | rfl
    · exact .inl (ltS_trans h h2)
    · exact .inl h
  · exact h2
theorem leS_total (a b : List Pt) : (leS a b || leS b a) = true := by
  rw [Bool.or_eq_true, leS_iff, leS_iff]
  rcases ltS_tri a b with c | c | c
  · exact .inl (.inl c)
  · exact .inl (.inr c)
  · exact .inr (.inl c)
/-- all choices, the short ones first -/
def comb (L : List Pt) : List (List Pt) := (List.range (L.length + 1)).flatMap (chs L)
theorem comb_mem {L P : List Pt} : P ∈ comb L ↔ P.Sublist L := by
  unfold comb
  rw [List.mem_flatMap]
  constructor
  · rintro ⟨k, _, h⟩; exact ((chs_mem L k P).mp h).1
  · intro h
    exact ⟨P.length, List.mem_range.mpr (by have := h.length_le; omega), (chs_mem L _ P).mpr ⟨h, rfl⟩⟩
theorem chs_pw : ∀ {L : List Pt} (h : SA L) (k : Nat), (chs L k).Pairwise fun a b => lex a b = true
  | L, _, 0 => by rw [chs_zero]; exact List.pairwise_singleton _ _
  | [], _, k + 1 => by rw [chs]; exact List.Pairwise.nil
  | x :: xs, h, k + 1 => by
    obtain ⟨h1, h2⟩ := List.pairwise_cons.mp h
    rw [chs, List.pairwise_append]
    refine ⟨?_, chs_pw h2 (k + 1), fun a ha b hb => ?_⟩
    · rw [List.pairwise_map]
      refine (chs_pw h2 k).imp fun {a b} l => ?_
      simp only [lex, if_true]; exact l
    · obtain ⟨r, _, rfl⟩ := List.mem_map.mp ha
      obtain ⟨s1, s2⟩ := (chs_mem xs (k + 1) b).mp hb
      cases b with
      | nil => cases s2
      | cons y ys =>
        have l := h1 y (s1.subset (List.mem_cons_self ..))
        simp only [lex, if_neg (lt2_ne l), decide_eq_true_eq]; exact l
theorem comb_pw {L : List Pt} (h : SA L) : (comb L).Pairwise ltS := by
  unfold comb
  rw [List.pairwise_flatMap]
  refine ⟨fun k _ => ?_, ?_⟩
  · refine List.Pairwise.imp_of_mem (fun {a b} ha hb l => ?_) (chs_pw h k)
    have h1 := ((chs_mem L k a).mp ha).2
    have h2 := ((chs_mem L k b).mp hb).2
    exact .inr ⟨by omega, l⟩
  · refine List.pairwise_lt_range.imp fun {a b} l x hx y hy => ?_
    have h1 := ((chs_mem L a x).mp hx).2
    have h2 := ((chs_mem L b y).mp hy).2
    exact .inl (by omega)
/-- the law's own sets -/
def pwF (acc : List (List Pt)) (L : List Pt) : List (List Pt) := L.foldl (fun acc x => acc ++ acc.map fun a => a ++ [x]) acc
theorem pwF_mem : ∀ (L : List Pt) (acc : List (List Pt)) (P : List Pt), P ∈ pwF acc L ↔ ∃ a ∈ acc, ∃ s, s.Sublist L ∧ P = a ++ s
  | [], acc, P => by
    constructor
    · intro h; exact ⟨P, h, [], List.Sublist.refl _, by simp⟩
    · rintro ⟨a, ha, s, hs, rfl⟩
      rw [List.sublist_nil] at hs
      subst hs
      simpa [pwF] using ha
  | x :: xs, acc, P => by
    have ih := pwF_mem xs (acc ++ acc.map fun a => a ++ [x]) P
    show P ∈ pwF (acc ++ acc.map fun a => a ++ [x]) xs ↔ _
    rw [ih]
    constructor
    · rintro ⟨a, ha, s, hs, rfl⟩
      rcases List.mem_append.mp ha with ha | ha
      · exact ⟨a, ha, s, hs.cons _, rfl⟩
      · obtain ⟨b, hb, rfl⟩ := List.mem_map.mp ha
        exact ⟨b, hb, x :: s, hs.cons_cons x, by simp⟩
    · rintro ⟨a, ha, s, hs, rfl⟩
      rcases List.sublist_cons_iff.mp hs with hs | ⟨r, rfl, hr⟩
      · exact ⟨a, List.mem_append_left _ ha, s, hs, rfl⟩
      · exact ⟨a ++ [x], List.mem_append_right _ (List.mem_map.mpr ⟨a, ha, rfl⟩), r, hr, by simp⟩
theorem pwF_nodup : ∀ (L : List Pt) (acc : List (List Pt)), L.Nodup → acc.Nodup → (∀ a ∈ acc, ∀ x ∈ L, x ∉ a) → (pwF acc L).Nodup
  | [], acc, _, h, _ => h
  | x :: xs, acc, h1, h2, h3 => by
    obtain ⟨n1, n2⟩ := List.nodup_cons.mp h1
    refine pwF_nodup xs _ n2 (List.nodup_append.mpr ⟨h2, ?_, fun a ha b hb e => ?_⟩) fun a ha y hy => ?_
    · rw [List.Nodup, List.pairwise_map]
      exact h2.imp fun {a b} ne e => ne (List.append_cancel_right e)
    · obtain ⟨c, _, rfl⟩ := List.mem_map.mp hb
      exact h3 a ha x (List.mem_cons_self ..) (by rw [e]; simp)
    · rcases List.mem_append.mp ha with ha | ha
      · exact h3 a ha y (List.mem_cons_of_mem _ hy)
      · obtain ⟨c, hc, rfl⟩ := List.mem_map.mp ha
        intro q
        rcases List.mem_append.mp q with q | q
        · exact h3 c hc y (List.mem_cons_of_mem _ hy) q
        · rw [List.mem_singleton] at q
          subst q; exact n1 hy
theorem pw_comb {L : List Pt} (h : SA L) : (pwF [[]] L).mergeSort leS = comb L := by
  have nd : (pwF [[]] L).Nodup := pwF_nodup L [[]] h.nodup (by simp) (by simp)
  have pm : (pwF [[]] L).Perm (comb L) := by
    refine (List.perm_ext_iff_of_nodup nd ((comb_pw h).imp fun {a b} l e => ?_)).mpr fun P => ?_
    · subst e; exact ltS_irr l l
    · rw [pwF_mem, comb_mem]
      constructor
      · rintro ⟨a, ha, s, hs, rfl⟩
        rw [List.mem_singleton] at ha
        subst ha; exact hs
      · intro hs; exact ⟨[], by simp, P, hs, rfl⟩
  refine ((List.mergeSort_perm _ leS).trans pm).eq_of_pairwise (le := fun a b => leS a b = true) (fun a b _ _ h1 h2 => ?_) (List.pairwise_mergeSort leS_trans leS_total _) ((comb_pw h).imp fun l => leS_iff.mpr (.inl l))
  rw [leS_iff] at *
  rcases h1 with h1 | h1
  · rcases h2 with h2 | h2
    · exact (ltS_irr h1 h2).elim
    · exact h2.symm
  · exact h1
theorem pwF_len : ∀ (L : List Pt) (acc : List (List Pt)), (pwF acc L).length = acc.length * 2 ^ L.length
  | [], acc => by simp [pwF]
  | x :: xs, acc => by
    show (pwF (acc ++ acc.map fun a => a ++ [x]) xs).length = _
    rw [pwF_len xs, List.length_append, List.length_map, List.length_cons, Nat.pow_succ, Nat.mul_comm (2 ^ xs.length) 2, ← Nat.mul_assoc]
    congr 1; omega
end K87
end

section
set_option autoImplicit false
set_option linter.all false
set_option maxRecDepth 100000
namespace K87
open Bw
def pt (L : List Pt) : PV := .tup (L.map pr)
def ChP (L : List Pt) (b k i : Nat) (Γ : Gm) : Prop := b + i ≤ L.length ∧ ∃ F c d, F ++ chs (L.drop (b + i)) (k + 1) = chs (L.drop b) (k + 1) ∧ Γ = [.sh (.d (pt L)), .sh (.d (.int b)), .sh (.d (.int (k + 1 : Nat))), .ow (.d (.lst (F.map pt))), c, d]
theorem chosen_ev {L : List Pt} (hl : L.length ≤ 8) : ∀ (k d b : Nat), k < d → b ≤ L.length → r__chosen d [.d (pt L), .d (.int b), .d (.int k)] = .ok (.d (.lst ((chs (L.drop b) k).map pt)))
  | _, 0, _, h, _ => by omega
  | 0, d + 1, b, _, _ => by
    rw [chs_zero]
    simp [r__chosen, c__chosen, fn, runs, run, ev, evL, evI, pt]
  | k + 1, d + 1, b, h, hb => by
    have ih := fun b hb => chosen_ev hl k d b (by omega) hb
    generalize hd : r__chosen d = F at ih
    have g0 : (⟨[F], [], xsub⟩ : Ctx).fns[0]? = some F := rfl
    have z : ((k : Int) + 1 - 1) = k := by omega
    have nz : ¬ ((k : Int) + 1 = 0) := by omega
    have rg : rng? (b : Int) (L.length : Int) 1 = .ok ((List.range (L.length - b)).map fun (i : Nat) => PV.int ((b : Int) + i)) := by
      rw [rng_ok (by omega) (by omega) (by omega) (by omega), show ((L.length : Int) - b).toNat = L.length - b by omega]
    have ll : f1op .len (.d (pt L)) = .ok (.d (.int L.length)) := by unfold pt; simp
    unfold r__chosen
    rw [hd]
    simp [c__chosen, fn, runs, run, ev, evL, evI, g0, z, nz, ll, rg]
    refine forR_invK (fun o => o.fin = .ok (.d (.lst ((chs (L.drop b) (k + 1)).map pt)))) (fun i Γ => ChP L b k i Γ) ⟨hb, [], _, _, by simp, rfl⟩ ?_ ?_
    · rintro i x _ hx ⟨hi, A, c, d', hA, rfl⟩
      obtain ⟨li, rfl⟩ := range_at hx
      have lt : b + i < L.length := by omega
      have dr : L.drop (b + i) = L[b + i] :: L.drop (b + i + 1) := List.drop_eq_getElem_cons lt
      rw [dr, chs, ← List.append_assoc] at hA
      have ix : idxop (.d (pt L)) (.d (.int ((b : Int) + i))) = .ok (.d (pr L[b + i])) := by
        refine ix_tup (by omega) ?_
        rw [show ((b : Int) + i).toNat = b + i by omega, List.getElem?_map, List.getElem?_eq_getElem lt]; rfl
      have hc := ih (b + i + 1) (by omega)
      have ci : ((b + i + 1 : Nat) : Int) = (b : Int) + i + 1 := by omega
      rw [ci] at hc
      generalize L[b + i] = y at ix hA
      have tot := chs_len (L.drop b) (k + 1)
      rw [← hA, List.length_append, List.length_append, List.length_map] at tot
      have t8 : 2 ^ (L.drop b).length ≤ 2 ^ 8 := Nat.pow_le_pow_right (by decide) (by rw [List.length_drop]; omega)
      generalize chs (L.drop (b + i + 1)) k = M at hc hA tot
      have hM : ∀ P ∈ M, P.length ≤ 8 := fun P hP => by
        have m1 : y :: P ∈ chs (L.drop b) (k + 1) := by
          rw [← hA]
          exact List.mem_append_left _ (List.mem_append_right _ (List.mem_map.mpr ⟨P, hP, rfl⟩))
        have := ((chs_mem _ _ _).mp m1).1.length_le
        rw [List.length_cons, List.length_drop] at this
        omega
      simp [hc]
      rw [mapR_comp, mapR_map (g := fun P => pt (y :: P)) (fun P hP => by
        have ad : binop .add (.d (.tup [pr y])) (.d (pt P)) = .ok (.d (pt (y :: P))) := by
          have := hM P hP
          unfold pt
          rw [binop_tup _ _ (by rw [List.length_map]; simp; unfold line; omega)]; rfl
        simp [evC, ev, ix, ad])]
      have zl : (A.map pt).length + (M.map fun P => pt (y :: P)).length ≤ line := by
        rw [List.length_map, List.length_map]
        unfold line; omega
      simp [lst?]
      rw [if_pos (by simpa using zl)]
      refine ⟨_, .inl rfl, by omega, A ++ M.map (fun r => y :: r), .sh (.d (.int ((b : Int) + i))), d', hA, ?_⟩
      simp [pt, Function.comp_def]
    · rintro _ ⟨hi, A, c, d', hA, rfl⟩
      rw [List.length_map, List.length_range] at hA hi
      rw [show b + (L.length - b) = L.length by omega, List.drop_length, chs, List.append_nil] at hA
      subst hA
      simp
/-! ### the law's sets -/
def szp (P : List Pt) : PV := .tup [.int P.length, pt P]
theorem shal_pt (n : Nat) (P : List Pt) : shal (n + 2) (pt P) = true := shal_prs n P
theorem ltTL_prs : ∀ a b : List Pt, ltTL (a.map pr) (b.map pr) = lex a b
  | a, [] => by rw [lex_nil]; cases a <;> rfl
  | [], _ :: _ => rfl
  | x :: xs, y :: ys => by
    rw [List.map_cons, List.map_cons, ltTL, ltTL_prs xs ys, pyEq_pr, ltT_pr, lex]
    by_cases h : x = y <;> simp [h]
theorem ltT_szp (a b : List Pt) : ltT (szp a) (szp b) = decide (ltS a b) := by
  show (if pyEq (.int a.length) (.int b.length) then (if pyEq (pt a) (pt b) then false else ltTL (a.map pr) (b.map pr)) else decide ((a.length : Int) < b.length)) = _
  have e1 : pyEq (.int (a.length : Int)) (.int (b.length : Int)) = decide (a.length = b.length) := by
    rw [pyEq]
    by_cases h : a.length = b.length <;> simp [h]
    omega
  have e2 : pyEq (pt a) (pt b) = decide (a = b) := pyEqL_prs a b
  rw [e1, e2, ltTL_prs]
  unfold ltS
  by_cases h : a.length = b.length
  · by_cases h2 : a = b
    · subst h2
      have : ¬ lex a a = true := fun q => lex_irr a a q q
      simp [this]
    · simp [h, h2]
  · have : (a.length : Int) < b.length ↔ a.length < b.length := by omega
    simp [h, this]
theorem sorted_szp (W : List (List Pt)) : f1op .sorted (.d (.lst (W.map szp))) = .ok (.d (.lst ((W.mergeSort leS).map szp))) := by
  have s1 : sortable (W.map szp) = true := by
    unfold sortable allAlk
    have al : ∀ a b : List Pt, alkL (a.map pr) (b.map pr) = true := fun a => by
      induction a with
      | nil => intro b; cases b <;> rfl
      | cons x xs ih =>
        intro b
        cases b with
        | nil => rfl
        | cons y ys =>
          rw [List.map_cons, List.map_cons, alkL, ih]; rfl
    have a1 : ((W.map szp).all fun x => (W.map szp).all fun y => alk x y) = true := by
      rw [List.all_eq_true]
      intro x hx
      rw [List.all_eq_true]
      intro y hy
      obtain ⟨a, _, rfl⟩ := List.mem_map.mp hx
      obtain ⟨b, _, rfl⟩ := List.mem_map.mp hy
      show (true && (alkL (a.map pr) (b.map pr) && true)) = true
      rw [al]; rfl
    have a2 : ((W.map szp).all fun x => !isNon x && sha x) = true := by
      rw [List.all_eq_true]
      intro x hx
      obtain ⟨a, _, rfl⟩ := List.mem_map.mp hx
      have : sha (szp a) = true := by
        show shalL 59 [.int a.length, pt a] = true
        rw [shalL, shalL, shalL, shal_int']
        show (true && (shal (57 + 2) (pt a) && true)) = true
        rw [shal_pt]; rfl
      rw [this]; rfl
    have a3 : ((W.map szp).all fun x => isTup1 x) = true := by
      rw [List.all_eq_true]
      intro x hx
      obtain ⟨a, _, rfl⟩ := List.mem_map.mp hx
      rfl
    rw [a1, a2, a3]; rfl
  have s2 : sortP (W.map szp) = (W.mergeSort leS).map szp := by
    unfold sortP
    refine (List.map_mergeSort fun a _ b _ => ?_).symm
    rw [ltT_szp]; rfl
  have key : ∀ {q : PV} {ps : List PV}, seq? (.d q) = .ok ps → sortable ps = true → f1op .sorted (.d q) = .ok (.d (.lst (sortP ps))) := fun {q ps} h s => by
    show (seq? (.d q)).bind _ = _
    rw [h, Res.bind_ok, if_pos s]
  rw [key (seq_lst _) s1, s2]
def SeP (L : List Pt) (i : Nat) (Γ : Gm) : Prop := ∃ b c d, Γ = [.sh (.d (pt L)), .sh (.d (.lst ((pwF [[]] (L.take i)).map pt))), b, c, d]
theorem sets_ev {L : List Pt} (hl : L.length ≤ 8) (hs : SA L) : f__law_sets [.d (pt L)] = .ok (.d (.lst ((comb L).map pt))) := by
  simp [f__law_sets, c__law_sets, fn, runs, run, ev, evL, evI]
  have sq : seq? (.d (pt L)) = .ok (L.map pr) := rfl
  simp [sq]
  refine forR_invK (fun o => o.fin = .ok (.d (.lst ((comb L).map pt)))) (SeP L) ⟨_, _, _, rfl⟩ ?_ ?_
  · rintro i x _ hx ⟨b, c, d, rfl⟩
    rw [List.getElem?_map] at hx
    cases e : L[i]? with
    | none => rw [e] at hx; cases hx
    | some y =>
      rw [e] at hx
      cases hx
      have ts : L.take (i + 1) = L.take i ++ [y] := by rw [List.take_add_one, e]; rfl
      have pn : pwF [[]] (L.take (i + 1)) = pwF [[]] (L.take i) ++ (pwF [[]] (L.take i)).map fun a => a ++ [y] := by
        unfold pwF
        rw [ts, List.foldl_append]; rfl
      have pl := pwF_len (L.take i) [[]]
      rw [List.length_singleton, Nat.one_mul] at pl
      have tl : (L.take i).length ≤ 8 := by rw [List.length_take]; omega
      have t8 : 2 ^ (L.take i).length ≤ 2 ^ 8 := Nat.pow_le_pow_right (by decide) tl
      have hM : ∀ P ∈ pwF [[]] (L.take i), P.length ≤ 8 := fun P hP => by
        obtain ⟨a, ha, s, hs, rfl⟩ := (pwF_mem _ _ _).mp hP
        rw [List.mem_singleton] at ha
        subst ha
        have := hs.length_le
        simp; omega
      have fin : ∀ b c d, SeP L (i + 1) [.sh (.d (pt L)), .sh (.d (.lst ((pwF [[]] (L.take i)).map pt ++ (pwF [[]] (L.take i)).map fun a => pt (a ++ [y])))), b, c, d] := fun b c d => by
        refine ⟨b, c, d, ?_⟩
        rw [pn, List.map_append, List.map_map]; rfl
      generalize pwF [[]] (L.take i) = W at *
      simp
      rw [mapR_comp, mapR_map (g := fun P => pt (P ++ [y])) (fun P hP => by
        have ad : binop .add (.d (pt P)) (.d (.tup [pr y])) = .ok (.d (pt (P ++ [y]))) := by
          have := hM P hP
          unfold pt
          rw [binop_tup _ _ (by rw [List.length_map]; simp; unfold line; omega), List.map_append]; rfl
        simp [evC, ev, ad])]
      simp only [Res.bind_ok]
      rw [binop_lst _ _ (by rw [List.length_map, List.length_map, pl]; unfold line; omega)]
      exact ⟨_, .inl rfl, fin _ _ _⟩
  · rintro _ ⟨b, c, d, rfl⟩
    rw [List.length_map, List.take_length]
    simp
    rw [mapR_comp, mapR_map (g := szp) (fun P hP => by
      have l : f1op .len (.d (pt P)) = .ok (.d (.int P.length)) := by unfold pt; simp
      simp [evC, ev, l, szp])]
    simp only [Res.bind_ok, sorted_szp, pw_comb hs, seq_lst]
    rw [mapR_comp, mapR_map (g := pt) (fun P hP => by
      have bt : ∀ Γ : Gm, bindT (.tup [.name 3, .name 4]) (szp P) Γ = some ((Γ.set 3 (.sh (.d (.int P.length)))).set 4 (.sh (.d (pt P)))) := fun _ => rfl
      simp [bt, evC, ev])]
    simp
end K87
end

section
set_option autoImplicit false
set_option linter.all false
set_option maxRecDepth 100000
namespace K87
open Bw
theorem forR_findM {α : Type} (pv : α → PV) (b : α → Bool) {f : PV → Gm → Out} (P : Gm → Prop) : ∀ (xs : List α) (Γ : Gm), P Γ →
    (∀ x ∈ xs, ∀ Γ, P Γ → (b x = true → f (pv x) Γ = .ret (.d (pv x))) ∧ (b x = false → ∃ Γ', f (pv x) Γ = .nx Γ' ∧ P Γ')) →
    (∀ x, xs.find? b = some x → forR f (xs.map pv) Γ = .ret (.d (pv x))) ∧ (xs.find? b = none → ∃ Γ', forR f (xs.map pv) Γ = .nx Γ' ∧ P Γ')
  | [], Γ, h0, _ => ⟨fun x h => by simp at h, fun _ => ⟨Γ, rfl, h0⟩⟩
  | y :: ys, Γ, h0, step => by
    obtain ⟨s1, s2⟩ := step y (List.mem_cons_self ..) Γ h0
    cases e : b y with
    | true =>
      rw [List.find?_cons_of_pos e]
      refine ⟨fun x h => ?_, fun h => by cases h⟩
      cases h
      show (f (pv y) Γ).loop _ = _
      rw [s1 e]; rfl
    | false =>
      rw [List.find?_cons_of_neg (by simp [e])]
      obtain ⟨Γ1, e1, p1⟩ := s2 e
      have go : forR f ((y :: ys).map pv) Γ = forR f (ys.map pv) Γ1 := by
        show (f (pv y) Γ).loop _ = _
        rw [e1]; rfl
      rw [go]
      exact forR_findM pv b P ys Γ1 p1 fun x hx => step x (List.mem_cons_of_mem _ hx)
theorem forR_findF {α : Type} (pv : α → PV) (b : α → Bool) (h : Nat → List α) {f : PV → Gm → Out} (P : Gm → Prop) : ∀ (ks : List Nat) (Γ : Gm), P Γ →
    (∀ k ∈ ks, ∀ Γ, P Γ → (∀ x, (h k).find? b = some x → f (.int (k : Int)) Γ = .ret (.d (pv x))) ∧ ((h k).find? b = none → ∃ Γ', f (.int (k : Int)) Γ = .nx Γ' ∧ P Γ')) →
    (∀ x, (ks.flatMap h).find? b = some x → forR f (ks.map fun (i : Nat) => PV.int (i : Int)) Γ = .ret (.d (pv x))) ∧ ((ks.flatMap h).find? b = none → ∃ Γ', forR f (ks.map fun (i : Nat) => PV.int (i : Int)) Γ = .nx Γ' ∧ P Γ')
  | [], Γ, h0, _ => ⟨fun x h => by simp at h, fun _ => ⟨Γ, rfl, h0⟩⟩
  | y :: ys, Γ, h0, step => by
    obtain ⟨s1, s2⟩ := step y (List.mem_cons_self ..) Γ h0
    rw [List.flatMap_cons, List.find?_append]
    cases e : (h y).find? b with
    | some z =>
      refine ⟨fun x h => ?_, fun h => by cases h⟩
      cases h
      show (f (.int (y : Int)) Γ).loop _ = _
      rw [s1 z e]; rfl
    | none =>
      obtain ⟨Γ1, e1, p1⟩ := s2 e
      have go : forR f ((y :: ys).map fun (i : Nat) => PV.int (i : Int)) Γ = forR f (ys.map fun (i : Nat) => PV.int (i : Int)) Γ1 := by
        show (f (.int (y : Int)) Γ).loop _ = _
        rw [e1]; rfl
      rw [go, Option.none_or]
      exact forR_findF pv b h P ys Γ1 p1 fun x hx => step x (List.mem_cons_of_mem _ hx)
def headT (W : List (List Pt)) : PV := match W with
  | [] => .non
  | P :: _ => pt P
theorem fewest_ev {S : Sh} (k : Ok S) (hl : S.2.2.length ≤ 8) : f_fewest_telling [.d (sv S)] = .ok (.d (headT ((comb S.2.2).filter (tells S.1 S.2.1)))) := by
  have g0 : g_fewest_telling.fns[0]? = some f__check_sheet := rfl
  have g1 : g_fewest_telling.fns[1]? = some f__chosen := rfl
  have g2 : g_fewest_telling.fns[2]? = some f__tells := rfl
  have i2 : idxop (.d (sv S)) (.d (.int 2)) = .ok (.d (pt S.2.2)) := ix_t2 _ _ _ _
  have ll : f1op .len (.d (pt S.2.2)) = .ok (.d (.int S.2.2.length)) := by unfold pt; simp
  have rg : rng? 0 ((S.2.2.length : Int) + 1) 1 = .ok ((List.range (S.2.2.length + 1)).map fun (i : Nat) => PV.int (i : Int)) := by
    rw [rng_ok (by omega) (by omega) (by omega) (by omega), show ((S.2.2.length : Int) + 1 - 0).toNat = S.2.2.length + 1 by omega]; simp
  have ch : ∀ m : Nat, m ≤ S.2.2.length → f__chosen [.d (pt S.2.2), .d (.int 0), .d (.int m)] = .ok (.d (.lst ((chs S.2.2 m).map pt))) := fun m hm => by
    have := chosen_ev hl m 20 0 (by omega) (by omega)
    rw [List.drop_zero] at this
    exact this
  obtain ⟨f1, f2⟩ := forR_findF pt (tells S.1 S.2.1) (chs S.2.2) (f := fun x Γ => oout (bindT (.name 1) x Γ) fun Γ' => runs g_fewest_telling [.for (.name 2) (.seq (.call 1 [.idx (.var 0) (.int 2), .int 0, .var 1])) [.ife (.call 2 [.var 0, .var 2]) [.ret (.var 2)] []]] Γ')
    (fun Γ => ∃ a b, Γ = [.sh (.d (sv S)), a, b]) (List.range (S.2.2.length + 1)) [.sh (.d (sv S)), .no, .no] ⟨_, _, rfl⟩ fun m hm Γ ⟨a, b, e⟩ => by
      subst e
      rw [List.mem_range] at hm
      have cm := ch m (by omega)
      obtain ⟨q1, q2⟩ := forR_findM pt (tells S.1 S.2.1) (f := fun x Γ => oout (bindT (.name 2) x Γ) fun Γ' => runs g_fewest_telling [.ife (.call 2 [.var 0, .var 2]) [.ret (.var 2)] []] Γ')
        (fun Γ => ∃ b, Γ = [.sh (.d (sv S)), .sh (.d (.int m)), b]) (chs S.2.2 m) [.sh (.d (sv S)), .sh (.d (.int m)), b] ⟨_, rfl⟩ fun P hP Γ ⟨b, e⟩ => by
          subst e
          have tv : f__tells [.d (sv S), .d (pt P)] = .ok (.d (.bl (tells S.1 S.2.1 P))) := tells_ev S P
          constructor
          · intro t
            rw [t] at tv
            simp [runs, run, ev, evL, g2, tv]
          · intro t
            rw [t] at tv
            simp [runs, run, ev, evL, g2, tv]
      have li : evI g_fewest_telling (.seq (.call 1 [.idx (.var 0) (.int 2), .int 0, .var 1])) [.sh (.d (sv S)), .sh (.d (.int m)), b] = .ok ((chs S.2.2 m).map pt) := by
        simp [evI, ev, evL, g1, i2, cm]
      constructor
      · intro x hx
        have := q1 x hx
        show (runs g_fewest_telling _ [.sh (.d (sv S)), .sh (.d (.int m)), b]) = _
        rw [runs, run, li, Res.out_ok, this]; rfl
      · intro hx
        obtain ⟨Γ', e, b', rfl⟩ := q2 hx
        refine ⟨[.sh (.d (sv S)), .sh (.d (.int m)), b'], ?_, _, _, rfl⟩
        show (runs g_fewest_telling _ [.sh (.d (sv S)), .sh (.d (.int m)), b]) = _
        rw [runs, run, li, Res.out_ok, e]; rfl
  have li : evI g_fewest_telling (.rng1 (.bin .add (.f1 .len (.idx (.var 0) (.int 2))) (.int 1))) [.sh (.d (sv S)), .no, .no] = .ok ((List.range (S.2.2.length + 1)).map fun (i : Nat) => PV.int (i : Int)) := by
    simp only [evI, ev, List.getElem?_cons_zero, rdSh_sh, Res.bind_ok, i2, ll, b_add, isInt_int, rg]
  have l0 : runs g_fewest_telling [.expr (.call 0 [.var 0])] [.sh (.d (sv S)), .no, .no] = .nx [.sh (.d (sv S)), .no, .no] := by
    simp [runs, run, ev, evL, g0, check_sheet_ev k]
  have hd : ∀ W : List (List Pt), W.find? (tells S.1 S.2.1) = (W.filter (tells S.1 S.2.1)).head? := fun W => (List.head?_filter ..).symm
  have fl : (comb S.2.2).find? (tells S.1 S.2.1) = ((comb S.2.2).filter (tells S.1 S.2.1)).head? := hd _
  show (runs g_fewest_telling c_fewest_telling [.sh (.d (sv S)), .no, .no]).fin = _
  rw [show c_fewest_telling = [.expr (.call 0 [.var 0])] ++ ([.for (.name 1) (.rng1 (.bin .add (.f1 .len (.idx (.var 0) (.int 2))) (.int 1))) [.for (.name 2) (.seq (.call 1 [.idx (.var 0) (.int 2), .int 0, .var 1])) [.ife (.call 2 [.var 0, .var 2]) [.ret (.var 2)] []]]] ++ [.ret .non]) from rfl, runs_append, l0, Out.next_nx, runs_append]
  rw [runs, run, li, Res.out_ok]
  unfold comb at fl ⊢
  cases e : ((List.range (S.2.2.length + 1)).flatMap (chs S.2.2)).filter (tells S.1 S.2.1) with
  | nil =>
    rw [e] at fl
    obtain ⟨Γ', e2, a, b, rfl⟩ := f2 fl
    rw [e2]
    simp [runs, run, ev, headT]
  | cons P W =>
    rw [e] at fl
    have := f1 P fl
    rw [this]; rfl
theorem tells_any {h w : Int} {P : List Pt} (hs : SA P) : tells h w P = !((List.range 7).any fun i => decide (ps (1 + i) (h, w, P) = (h, w, P))) := by
  have z : ps 0 (h, w, P) = (h, w, P) := ps_zero hs
  unfold tells due8 own8
  rw [show List.range 8 = 0 :: (List.range 7).map (fun i => 1 + i) from by decide, List.filter_cons, if_pos (by rw [decide_eq_true_eq]; exact z)]
  rw [Bool.eq_iff_iff, decide_eq_true_iff, Bool.not_eq_true', List.any_eq_false]
  constructor
  · intro q i hi
    have q : ((List.range 7).map fun i => 1 + i).filter (fun p => decide (ps p (h, w, P) = (h, w, P))) = [] := (List.cons.inj q).2
    rw [List.filter_eq_nil_iff] at q
    exact q (1 + i) (List.mem_map.mpr ⟨i, hi, rfl⟩)
  · intro q
    congr 1
    rw [List.filter_eq_nil_iff]
    intro a ha
    obtain ⟨i, hi, rfl⟩ := List.mem_map.mp ha
    exact q i hi
/-! ### what is refused -/
def word (e : Nat) : PySem.Str := match e with
  | 0 => "sheet"
  | 1 => "pose"
  | _ => "telling"
theorem caught_ev (e : Nat) (he : e < 3) (Γ : Gm) : caught g__law_error e Γ [(0, .retc (.str "sheet")), (1, .retc (.str "pose")), (2, .retc (.str "telling"))] = .ret (.d (.str (word e))) := by
  have s00 : g__law_error.sub 0 0 = some true := rfl
  have s10 : g__law_error.sub 1 0 = some false := rfl
  have s11 : g__law_error.sub 1 1 = some true := rfl
  have s20 : g__law_error.sub 2 0 = some false := rfl
  have s21 : g__law_error.sub 2 1 = some false := rfl
  have s22 : g__law_error.sub 2 2 = some true := rfl
  rcases (by omega : e = 0 ∨ e = 1 ∨ e = 2) with rfl | rfl | rfl
  · simp [caught, s00, ev, word]
  · simp [caught, s10, s11, ev, word]
  · simp [caught, s20, s21, s22, ev, word]
theorem err_of (c e : Nat) (hc : c < 8) (he : e < 3) (x y z : PV)
    (h : (match c with
      | 0 => f_posed [.d x, .d y]
      | 1 => f_own_poses [.d x]
      | 2 => f_poses_for [.d x, .d y]
      | 3 => f_poses_for [.d y, .d x]
      | 4 => f_fewest_telling [.d x]
      | 5 => f_pose_seen [.d x, .d y, .d z]
      | 6 => f_behind [.d x, .d y]
      | _ => f_undone [.d x]) = .exc e) : f__law_error [.d (.int c), .d x, .d y, .d z] = .ok (.d (.str (word e))) := by
  have f0 : g__law_error.fns[0]? = some f_posed := rfl
  have f1 : g__law_error.fns[1]? = some f_own_poses := rfl
  have f2 : g__law_error.fns[2]? = some f_poses_for := rfl
  have f3 : g__law_error.fns[3]? = some f_fewest_telling := rfl
  have f4 : g__law_error.fns[4]? = some f_pose_seen := rfl
  have f5 : g__law_error.fns[5]? = some f_behind := rfl
  have f6 : g__law_error.fns[6]? = some f_undone := rfl
  have ct := caught_ev e he
  rcases lt8 hc with rfl | rfl | rfl | rfl | rfl | rfl | rfl | rfl <;> simp at h <;> simp [f__law_error, c__law_error, fn, runs, run, ev, evL, f0, f1, f2, f3, f4, f5, f6, h, ct]
end K87
end

section
set_option autoImplicit false
set_option linter.all false
set_option maxRecDepth 100000
namespace K87
open Bw
/-! ### the callees' refusals -/
theorem posed_sheet {x y : PV} (h : f__check_sheet [.d x] = .exc 0) : f_posed [.d x, .d y] = .exc 0 := by
  simp [f_posed, c_posed, fn, runs, run, ev, evL, g_posed, h]
theorem own_sheet {x : PV} (h : f__check_sheet [.d x] = .exc 0) : f_own_poses [.d x] = .exc 0 := by
  simp [f_own_poses, c_own_poses, fn, runs, run, ev, evL, g_own_poses, h]
theorem for_sheet {x y : PV} (h : f__check_sheet [.d x] = .exc 0) : f_poses_for [.d x, .d y] = .exc 0 := by
  simp [f_poses_for, c_poses_for, fn, runs, run, ev, evL, g_poses_for, h]
theorem for_sheet2 {S : Sh} (k : Ok S) {y : PV} (h : f__check_sheet [.d y] = .exc 0) : f_poses_for [.d (sv S), .d y] = .exc 0 := by
  simp [f_poses_for, c_poses_for, fn, runs, run, ev, evL, g_poses_for, h, check_sheet_ev k]
theorem few_sheet {x : PV} (h : f__check_sheet [.d x] = .exc 0) : f_fewest_telling [.d x] = .exc 0 := by
  simp [f_fewest_telling, c_fewest_telling, fn, runs, run, ev, evL, g_fewest_telling, h]
theorem seen_sheet {x y z : PV} (h : f__check_sheet [.d x] = .exc 0) : f_pose_seen [.d x, .d y, .d z] = .exc 0 := by
  simp [f_pose_seen, c_pose_seen, fn, runs, run, ev, evL, g_pose_seen, h]
theorem seen_sheet2 {S : Sh} (k : Ok S) {y z : PV} (h : f__check_sheet [.d z] = .exc 0) : f_pose_seen [.d (sv S), .d y, .d z] = .exc 0 := by
  simp [f_pose_seen, c_pose_seen, fn, runs, run, ev, evL, g_pose_seen, h, check_sheet_ev k]
theorem posed_pose {S : Sh} (k : Ok S) {y : PV} (h : f__check_pose [.d y] = .exc 1) : f_posed [.d (sv S), .d y] = .exc 1 := by
  simp [f_posed, c_posed, fn, runs, run, ev, evL, g_posed, h, check_sheet_ev k]
theorem beh_pose {x y : PV} (h : f__check_pose [.d x] = .exc 1) : f_behind [.d x, .d y] = .exc 1 := by
  simp [f_behind, c_behind, fn, runs, run, ev, evL, g_behind, h]
theorem beh_pose2 {y : PV} (h : f__check_pose [.d y] = .exc 1) : f_behind [.d (.int 0), .d y] = .exc 1 := by
  have c : f__check_pose [.d (.int 0)] = .ok (.d .non) := check_pose_ev 0 (by decide)
  simp [f_behind, c_behind, fn, runs, run, ev, evL, g_behind, h, c]
theorem und_pose {x : PV} (h : f__check_pose [.d x] = .exc 1) : f_undone [.d x] = .exc 1 := by
  simp [f_undone, c_undone, fn, runs, run, ev, evL, g_undone, h]
theorem seen_no {S T : Sh} (k : Ok S) (k2 : Ok T) {v : PV} (h : f__are_points [.d (.int S.1), .d (.int S.2.1), .d v] = .ok (.d (.bl false))) : f_pose_seen [.d (sv S), .d v, .d (sv T)] = .exc 2 := by
  have g0 : g_pose_seen.fns[0]? = some f__check_sheet := rfl
  have g1 : g_pose_seen.fns[1]? = some f__are_points := rfl
  have i0 : idxop (.d (sv S)) (.d (.int 0)) = .ok (.d (.int S.1)) := ix_t0 _ _
  have i1 : idxop (.d (sv S)) (.d (.int 1)) = .ok (.d (.int S.2.1)) := ix_t1 _ _ _
  simp [f_pose_seen, c_pose_seen, fn, runs, run, ev, evL, g0, g1, check_sheet_ev k, check_sheet_ev k2, i0, i1, h]
theorem seen_out {S T : Sh} (k : Ok S) (k2 : Ok T) (P : List Pt) (hl : P.length ≤ 10) (hr : ∀ x ∈ P, InR S.1 S.2.1 x) (hs : SA P) (hm : ∃ x ∈ P, x ∉ S.2.2) : f_pose_seen [.d (sv S), .d (pt P), .d (sv T)] = .exc 2 := by
  have g0 : g_pose_seen.fns[0]? = some f__check_sheet := rfl
  have g1 : g_pose_seen.fns[1]? = some f__are_points := rfl
  have i0 : idxop (.d (sv S)) (.d (.int 0)) = .ok (.d (.int S.1)) := ix_t0 _ _
  have i1 : idxop (.d (sv S)) (.d (.int 1)) = .ok (.d (.int S.2.1)) := ix_t1 _ _ _
  have i2 : idxop (.d (sv S)) (.d (.int 2)) = .ok (.d (.tup (S.2.2.map pr))) := ix_t2 _ _ _ _
  have a : f__are_points [.d (.int S.1), .d (.int S.2.1), .d (pt P)] = _ := are_pts S.1 S.2.1 P hl
  rw [decide_eq_true ⟨hr, hs⟩] at a
  have al : (P.all fun x => decide (x ∈ S.2.2)) = false := by
    rw [List.all_eq_false]
    obtain ⟨x, h1, h2⟩ := hm
    exact ⟨x, h1, by simpa using h2⟩
  have sq : seq? (.d (pt P)) = .ok (P.map pr) := rfl
  have fa := f_all (fun x : Pt => decide (x ∈ S.2.2)) P
  rw [al] at fa
  simp [f_pose_seen, c_pose_seen, fn, runs, run, ev, evL, evI, evC, g0, g1, check_sheet_ev k, check_sheet_ev k2, i0, i1, i2, a, sq]
  rw [mapR_comp, mapR_map (g := fun x : Pt => PV.bl (decide (x ∈ S.2.2))) (fun x hx => by simp [in_prs])]
  simp only [Res.bind_ok, fa]
  simp
theorem seen_dull {S T : Sh} (k : Ok S) (k2 : Ok T) (P : List Pt) (hl : P.length ≤ 10) (hr : ∀ x ∈ P, InR S.1 S.2.1 x) (hs : SA P) (hm : ∀ x ∈ P, x ∈ S.2.2) (ht : tells S.1 S.2.1 P = false) : f_pose_seen [.d (sv S), .d (pt P), .d (sv T)] = .exc 2 := by
  have g0 : g_pose_seen.fns[0]? = some f__check_sheet := rfl
  have g1 : g_pose_seen.fns[1]? = some f__are_points := rfl
  have g2 : g_pose_seen.fns[2]? = some f__tells := rfl
  have i0 : idxop (.d (sv S)) (.d (.int 0)) = .ok (.d (.int S.1)) := ix_t0 _ _
  have i1 : idxop (.d (sv S)) (.d (.int 1)) = .ok (.d (.int S.2.1)) := ix_t1 _ _ _
  have i2 : idxop (.d (sv S)) (.d (.int 2)) = .ok (.d (.tup (S.2.2.map pr))) := ix_t2 _ _ _ _
  have a : f__are_points [.d (.int S.1), .d (.int S.2.1), .d (pt P)] = _ := are_pts S.1 S.2.1 P hl
  rw [decide_eq_true ⟨hr, hs⟩] at a
  have tl : f__tells [.d (sv S), .d (pt P)] = _ := tells_ev S P
  rw [ht] at tl
  have sq : seq? (.d (pt P)) = .ok (P.map pr) := rfl
  have fa := f_all (fun _ : Pt => true) P
  simp [f_pose_seen, c_pose_seen, fn, runs, run, ev, evL, evI, evC, g0, g1, g2, check_sheet_ev k, check_sheet_ev k2, i0, i1, i2, a, sq]
  rw [mapR_comp, mapR_map (g := fun _ : Pt => PV.bl true) (fun x hx => by simp [in_prs, hm x hx])]
  simp [fa, tl]
/-! ### the sheet that is drawn -/
structure Ok6 (S : Sh) : Prop where
  ok : Ok S
  h6 : S.1 ≤ 6
  w6 : S.2.1 ≤ 6
  len : S.2.2.length ≤ 8
def cd (x : Pt) : Int := x.1 * 64 + x.2
def dc (c : Int) : Pt := (c / 64, c % 64)
theorem deco_dc (c : Int) : deco c = pr (dc c) := rfl
theorem dc_cd {x : Pt} (h : 0 ≤ x.2 ∧ x.2 < 64) : dc (cd x) = x := by
  obtain ⟨a, b⟩ := x
  unfold dc cd
  simp at h ⊢; omega
theorem codes_prs : ∀ D : List Pt, (∀ x ∈ D, (0 ≤ x.1 ∧ x.1 < 64) ∧ (0 ≤ x.2 ∧ x.2 < 64)) → codes? (D.map pr) = some (D.map cd)
  | [], _ => rfl
  | x :: xs, h => by
    have ih := codes_prs xs fun y hy => h y (List.mem_cons_of_mem _ hy)
    obtain ⟨⟨h1, h2⟩, h3, h4⟩ := h x (List.mem_cons_self ..)
    have c1 : code1 (pr x) = some (cd x) := if_pos ⟨h1, h2, h3, h4⟩
    show ((code1 (pr x)).bind fun c => (codes? (xs.map pr)).bind fun cs => some (c :: cs)) = _
    rw [c1, ih]; rfl
/-- the points in order, each once -/
def uq (D : List Pt) : List Pt := (sortI (D.map cd)).map dc
theorem uq_mem {D : List Pt} (h : ∀ x ∈ D, (0 ≤ x.1 ∧ x.1 < 64) ∧ (0 ≤ x.2 ∧ x.2 < 64)) {x : Pt} (hx : x ∈ uq D) : x ∈ D := by
  obtain ⟨c, hc, rfl⟩ := List.mem_map.mp hx
  rw [mem_sortI] at hc
  obtain ⟨y, hy, rfl⟩ := List.mem_map.mp hc
  rw [dc_cd (h y hy).2]; exact hy
theorem uq_SA {D : List Pt} : SA (uq D) := by
  unfold SA uq
  rw [List.pairwise_map]
  refine sortI_pw.imp fun {a b} l => ?_
  unfold lt2 dc
  simp; omega
theorem sset_ev (D : List Pt) (h : ∀ x ∈ D, (0 ≤ x.1 ∧ x.1 < 64) ∧ (0 ≤ x.2 ∧ x.2 < 64)) (hl : D.length < 64) : f1op .sortedset (.d (.lst (D.map pr))) = .ok (.d (.lst ((uq D).map pr))) := by
  cases D with
  | nil => rfl
  | cons x xs =>
    have c := codes_prs (x :: xs) h
    have key : ∀ {q : PV} {ps : List PV} {cs : List Int}, seq? (.d q) = .ok ps → (tupHd ps && isLs (.d q)) = true → codes? ps = some cs → cs.length < 64 → f1op .sortedset (.d q) = .ok (.d (.lst ((sortI cs).map deco))) := fun {q ps cs} h1 h2 h3 h4 => by
      show (seq? (.d q)).bind _ = _
      rw [h1, Res.bind_ok, if_pos h2, h3]
      exact if_pos h4
    rw [key (seq_lst _) rfl c (by rw [List.length_map]; exact hl)]
    unfold uq
    rw [List.map_map]; rfl
def In6 (h w : Int) (D : List Pt) : Prop := ∀ x ∈ D, 0 ≤ x.1 ∧ x.1 < h ∧ 0 ≤ x.2 ∧ x.2 < w
theorem take_in {h w : Int} {D : List Pt} (k : In6 h w D) (n : Nat) : In6 h w (D.take n) := fun x hx => k x (List.mem_of_mem_take hx)
end K87
end

section
set_option autoImplicit false
set_option linter.all false
set_option maxRecDepth 100000
namespace K87
open Bw
theorem ds_ge {ds : List Int} (hd : ∀ x ∈ ds, 0 ≤ x) {i : Int} (h : 0 ≤ i) (h2 : i < ds.length) : 0 ≤ gt ds i := hd _ (List.mem_of_getElem? (gt_get h h2))
def DrwP (ds : List Int) (h w : Int) (i : Nat) (Γ : Gm) : Prop := ∃ D c a b, D.length ≤ i ∧ In6 h w D ∧ Γ = [.sh (.d (li ds)), .sh (.d (.int w)), c, .sh (.d (.int h)), .ow (.d (.lst (D.map pr))), a, b]
theorem law_sheet_ev (ds : List Int) (hd : ∀ x ∈ ds, 0 ≤ x) (hl : 11 ≤ ds.length) : ∃ S, Ok6 S ∧ f__law_sheet [.d (li ds)] = .ok (.d (sv S)) := by
  have ix : ∀ i : Nat, i < 11 → idxop (.d (li ds)) (.d (.int (i : Int))) = .ok (.d (.int (gt ds i))) := fun i hi => ix_li (by omega) (by omega)
  have i0 : idxop (.d (li ds)) (.d (.int 0)) = .ok (.d (.int (gt ds 0))) := ix 0 (by decide)
  have i1 : idxop (.d (li ds)) (.d (.int 1)) = .ok (.d (.int (gt ds 1))) := ix 1 (by decide)
  have i2 : idxop (.d (li ds)) (.d (.int 2)) = .ok (.d (.int (gt ds 2))) := ix 2 (by decide)
  have i3 : idxop (.d (li ds)) (.d (.int 3)) = .ok (.d (.int (gt ds 3))) := ix 3 (by decide)
  have i10 : idxop (.d (li ds)) (.d (.int 10)) = .ok (.d (.int (gt ds 10))) := ix 10 (by decide)
  have m6 := fun s => b_mod (i := s) (j := 6) (by decide)
  have m2 := fun s => b_mod (i := s) (j := 2) (by decide)
  have m3 := fun s => b_mod (i := s) (j := 3) (by decide)
  have m5 := fun s => b_mod (i := s) (j := 5) (by decide)
  have f8 := fun s => b_fdiv (i := s) (j := 8) (by decide) (by decide)
  have l0 : ∃ h w : Int, (1 ≤ h ∧ h ≤ 6) ∧ (1 ≤ w ∧ w ≤ 6) ∧ runs g__law_sheet (c__law_sheet.take 2) [.sh (.d (li ds)), .no, .no, .no, .no, .no, .no] = .nx [.sh (.d (li ds)), .sh (.d (.int w)), .no, .sh (.d (.int h)), .ow (.d (.lst [])), .no, .no] := by
    have a0 := Int.emod_nonneg (gt ds 0) (show (6 : Int) ≠ 0 by decide)
    have a1 := Int.emod_lt_of_pos (gt ds 0) (show (0 : Int) < 6 by decide)
    have b0 := Int.emod_nonneg (gt ds 1) (show (6 : Int) ≠ 0 by decide)
    have b1 := Int.emod_lt_of_pos (gt ds 1) (show (0 : Int) < 6 by decide)
    by_cases c : gt ds 2 % 2 = 0
    · refine ⟨1 + gt ds 0 % 6, 1 + gt ds 0 % 6, by omega, by omega, ?_⟩
      simp [c__law_sheet, runs, run, ev, evL, i0, i1, i2, m6, m2, c, setsO]
    · refine ⟨1 + gt ds 0 % 6, 1 + gt ds 1 % 6, by omega, by omega, ?_⟩
      simp [c__law_sheet, runs, run, ev, evL, i0, i1, i2, m6, m2, c, setsO]
  obtain ⟨h, w, hh, hw, l0⟩ := l0
  obtain ⟨n, hn⟩ : ∃ n : Nat, (n : Int) = gt ds 3 % 6 := ⟨(gt ds 3 % 6).toNat, by have := Int.emod_nonneg (gt ds 3) (show (6 : Int) ≠ 0 by decide); omega⟩
  have hn5 : n ≤ 5 := by have := Int.emod_lt_of_pos (gt ds 3) (show (0 : Int) < 6 by decide); omega
  have rg : rng? 0 (n : Int) 1 = .ok ((List.range n).map fun (i : Nat) => PV.int (i : Int)) := by rw [rng_ok (by omega) (by omega) (by omega) (by omega)]; simp
  have mh := fun s => b_mod (i := s) (j := h) (by omega)
  have mw := fun s => b_mod (i := s) (j := w) (by omega)
  obtain ⟨Γ1, e1, D, c, a, b, hD, kD, rfl⟩ := forR_inv (f := fun x Γ => oout (bindT (.name 2) x Γ) fun Γ' => runs g__law_sheet [.app 4 (.tup [.bin .mod (.f1 .int (.idx (.var 0) (.bin .add (.int 4) (.var 2)))) (.var 3), .bin .mod (.bin .fdiv (.f1 .int (.idx (.var 0) (.bin .add (.int 4) (.var 2)))) (.int 8)) (.var 1)])] Γ') (xs := (List.range n).map fun (i : Nat) => PV.int (i : Int)) (Γ := [.sh (.d (li ds)), .sh (.d (.int w)), .no, .sh (.d (.int h)), .ow (.d (.lst [])), .no, .no])
    (DrwP ds h w) ⟨[], _, _, _, by simp, (fun x hx => nomatch hx), rfl⟩ fun i x Γ hx ⟨D, c, a, b, hD, kD, e⟩ => by
      subst e
      have hx : ((List.range n).map fun (i : Nat) => PV.int (0 + i))[i]? = some x := by simpa using hx
      obtain ⟨hi, rfl⟩ := range_at' hx
      have i4 : idxop (.d (li ds)) (.d (.int (4 + (i : Int)))) = .ok (.d (.int (gt ds (4 + i)))) := ix_li (by omega) (by omega)
      have zl : D.length < line := by unfold line; omega
      refine ⟨_, .inl ?_, D ++ [(gt ds (4 + i) % h, gt ds (4 + i) / 8 % w)], .sh (.d (.int i)), a, b, by simp; omega, fun x hx => ?_, rfl⟩
      · simp [runs, run, ev, evL, i4, mh, mw, f8, appR, zl, pr]
      · rcases List.mem_append.mp hx with q | q
        · exact kD x q
        · rw [List.mem_singleton] at q
          subst q
          exact ⟨Int.emod_nonneg _ (by omega), Int.emod_lt_of_pos _ (by omega), Int.emod_nonneg _ (by omega), Int.emod_lt_of_pos _ (by omega)⟩
  rw [List.length_map, List.length_range] at hD
  have l1 : runs g__law_sheet [.for (.name 2) (.rng1 (.bin .mod (.f1 .int (.idx (.var 0) (.int 3))) (.int 6))) [.app 4 (.tup [.bin .mod (.f1 .int (.idx (.var 0) (.bin .add (.int 4) (.var 2)))) (.var 3), .bin .mod (.bin .fdiv (.f1 .int (.idx (.var 0) (.bin .add (.int 4) (.var 2)))) (.int 8)) (.var 1)])], .frz 4] [.sh (.d (li ds)), .sh (.d (.int w)), .no, .sh (.d (.int h)), .ow (.d (.lst [])), .no, .no] = .nx [.sh (.d (li ds)), .sh (.d (.int w)), c, .sh (.d (.int h)), .sh (.d (.lst (D.map pr))), a, b] := by
    have li : evI g__law_sheet (.rng1 (.bin .mod (.f1 .int (.idx (.var 0) (.int 3))) (.int 6))) [.sh (.d (li ds)), .sh (.d (.int w)), .no, .sh (.d (.int h)), .ow (.d (.lst [])), .no, .no] = .ok ((List.range n).map fun (i : Nat) => PV.int (i : Int)) := by
      simp only [evI, ev, List.getElem?_cons_zero, rdSh_sh, Res.bind_ok, i3, f_int, m6, isInt_int, ← hn, rg]
    rw [runs, run, li, Res.out_ok, e1, Out.next_nx]
    simp [runs, run]
  have sl3 : ∀ E : List Pt, slop (.d (.lst (E.map pr))) none (some 3) = .ok (.d (.lst ((E.take 3).map pr))) := fun E => by
    show Res.ok (SV.d (.lst (cutP (E.map pr) none (some ((3 : Nat) : Int))))) = _
    rw [cut_upto, List.map_take]
  have ap : ∀ E M : List Pt, E.length ≤ 20 → M.length ≤ 20 → binop .add (.d (.lst (E.map pr))) (.d (.lst (M.map pr))) = .ok (.d (.lst ((E ++ M).map pr))) := fun E M h1 h2 => by
    rw [binop_lst _ _ (by rw [List.length_map, List.length_map]; unfold line; omega), List.map_append]
  have ap2 : ∀ (E M : List Pt) (g : Pt → Pt), E.length ≤ 20 → M.length ≤ 20 → binop .add (.d (.lst (E.map pr))) (.d (.lst (M.map fun x => pr (g x)))) = .ok (.d (.lst ((E ++ M.map g).map pr))) := fun E M g h1 h2 => by
    have := ap E (M.map g) h1 (by rw [List.length_map]; exact h2)
    rwa [List.map_map] at this
  have l2 : ∃ D2 : List Pt, D2.length ≤ 8 ∧ In6 h w D2 ∧ runs g__law_sheet [.ife (.cmp .eq (.bin .mod (.f1 .int (.idx (.var 0) (.int 10))) (.int 3)) (.int 0)) [.set (.name 4) (.bin .add (.var 4) (.lc (.tup [.name 5, .name 6]) (.seq (.sl (.var 4) none (some (.int 3)))) [] (.tup [.bin .sub (.bin .sub (.var 3) (.int 1)) (.var 5), .bin .sub (.bin .sub (.var 1) (.int 1)) (.var 6)])))] []] [.sh (.d (li ds)), .sh (.d (.int w)), c, .sh (.d (.int h)), .sh (.d (.lst (D.map pr))), a, b] = .nx [.sh (.d (li ds)), .sh (.d (.int w)), c, .sh (.d (.int h)), .sh (.d (.lst (D2.map pr))), a, b] := by
    by_cases q : gt ds 10 % 3 = 0
    · refine ⟨D ++ (D.take 3).map (fun x => (h - 1 - x.1, w - 1 - x.2)), ?_, ?_, ?_⟩
      · rw [List.length_append, List.length_map, List.length_take]; omega
      · intro x hx
        rcases List.mem_append.mp hx with k | k
        · exact kD x k
        · obtain ⟨y, hy, rfl⟩ := List.mem_map.mp k
          have := take_in kD 3 y hy
          simp; omega
      · simp [runs, run, ev, evL, evI, evO, i10, m3, q, sl3]
        rw [← List.map_take, mapR_comp, mapR_map (g := fun x => pr (h - 1 - x.1, w - 1 - x.2)) (fun x hx => by simp [evC, pr])]
        simp only [Res.bind_ok]
        rw [ap2 D (D.take 3) (fun x => (h - 1 - x.1, w - 1 - x.2)) (by omega) (by rw [List.length_take]; omega)]
        simp
    · refine ⟨D, by omega, kD, ?_⟩
      simp [runs, run, ev, evL, evI, i10, m3, q]
  obtain ⟨D2, hD2, kD2, l2⟩ := l2
  have l3 : ∃ D3 : List Pt, D3.length ≤ 11 ∧ In6 h w D3 ∧ runs g__law_sheet [.ife (.cmp .eq (.bin .mod (.f1 .int (.idx (.var 0) (.int 10))) (.int 5)) (.int 0)) [.set (.name 4) (.bin .add (.var 4) (.lc (.tup [.name 5, .name 6]) (.seq (.sl (.var 4) none (some (.int 3)))) [] (.tup [.var 5, .bin .sub (.bin .sub (.var 1) (.int 1)) (.var 6)])))] []] [.sh (.d (li ds)), .sh (.d (.int w)), c, .sh (.d (.int h)), .sh (.d (.lst (D2.map pr))), a, b] = .nx [.sh (.d (li ds)), .sh (.d (.int w)), c, .sh (.d (.int h)), .sh (.d (.lst (D3.map pr))), a, b] := by
    by_cases q : gt ds 10 % 5 = 0
    · refine ⟨D2 ++ (D2.take 3).map (fun x => (x.1, w - 1 - x.2)), ?_, ?_, ?_⟩
      · rw [List.length_append, List.length_map, List.length_take]; omega
      · intro x hx
        rcases List.mem_append.mp hx with k | k
        · exact kD2 x k
        · obtain ⟨y, hy, rfl⟩ := List.mem_map.mp k
          have := take_in kD2 3 y hy
          simp; omega
      · simp [runs, run, ev, evL, evI, evO, i10, m5, q, sl3]
        rw [← List.map_take, mapR_comp, mapR_map (g := fun x => pr (x.1, w - 1 - x.2)) (fun x hx => by simp [evC, pr])]
        simp only [Res.bind_ok]
        rw [ap2 D2 (D2.take 3) (fun x => (x.1, w - 1 - x.2)) (by omega) (by rw [List.length_take]; omega)]
        simp
    · refine ⟨D2, by omega, kD2, ?_⟩
      simp [runs, run, ev, evL, evI, i10, m5, q]
  obtain ⟨D3, hD3, kD3, l3⟩ := l3
  have in64 : ∀ x ∈ D3, (0 ≤ x.1 ∧ x.1 < 64) ∧ (0 ≤ x.2 ∧ x.2 < 64) := fun x hx => by have := kD3 x hx; omega
  have ss := sset_ev D3 in64 (by omega)
  have sl8 : slop (.d (.lst ((uq D3).map pr))) none (some 8) = .ok (.d (.lst (((uq D3).take 8).map pr))) := by
    show Res.ok (SV.d (.lst (cutP ((uq D3).map pr) none (some ((8 : Nat) : Int))))) = _
    rw [cut_upto, List.map_take]
  refine ⟨(h, w, (uq D3).take 8), ⟨⟨by simp; omega, by simp; omega, by simp; omega, fun x hx => ?_, ?_⟩, by simp; omega, by simp; omega, by simp; omega⟩, ?_⟩
  · have := kD3 x (uq_mem in64 (List.mem_of_mem_take hx))
    exact this
  · exact List.Pairwise.sublist (List.take_sublist 8 _) uq_SA
  · show (runs g__law_sheet c__law_sheet [.sh (.d (li ds)), .no, .no, .no, .no, .no, .no]).fin = _
    have sp5 : c__law_sheet = c__law_sheet.take 2 ++ ([.for (.name 2) (.rng1 (.bin .mod (.f1 .int (.idx (.var 0) (.int 3))) (.int 6))) [.app 4 (.tup [.bin .mod (.f1 .int (.idx (.var 0) (.bin .add (.int 4) (.var 2)))) (.var 3), .bin .mod (.bin .fdiv (.f1 .int (.idx (.var 0) (.bin .add (.int 4) (.var 2)))) (.int 8)) (.var 1)])], .frz 4] ++ ([.ife (.cmp .eq (.bin .mod (.f1 .int (.idx (.var 0) (.int 10))) (.int 3)) (.int 0)) [.set (.name 4) (.bin .add (.var 4) (.lc (.tup [.name 5, .name 6]) (.seq (.sl (.var 4) none (some (.int 3)))) [] (.tup [.bin .sub (.bin .sub (.var 3) (.int 1)) (.var 5), .bin .sub (.bin .sub (.var 1) (.int 1)) (.var 6)])))] []] ++ ([.ife (.cmp .eq (.bin .mod (.f1 .int (.idx (.var 0) (.int 10))) (.int 5)) (.int 0)) [.set (.name 4) (.bin .add (.var 4) (.lc (.tup [.name 5, .name 6]) (.seq (.sl (.var 4) none (some (.int 3)))) [] (.tup [.var 5, .bin .sub (.bin .sub (.var 1) (.int 1)) (.var 6)])))] []] ++ [.ret (.tup [.var 3, .var 1, .f1 .tuple (.sl (.dst false (.var 4)) none (some (.int 8)))])]))) := rfl
    rw [sp5, runs_append, l0, Out.next_nx, runs_append, l1, Out.next_nx, runs_append, l2, Out.next_nx, runs_append, l3, Out.next_nx]
    simp [runs, run, ev, evL, evO, ss, sl8, sv]
end K87
end

section
set_option autoImplicit false
set_option linter.all false
set_option maxRecDepth 100000
namespace K87
open Bw
theorem for_step {G : Ctx} {t : CT} {it : CI} {body : List CS} {xs : List PV} {Γ Γ' : Gm} (l : evI G it Γ = .ok xs) (f : forR (fun x Γ => oout (bindT t x Γ) fun Γ' => runs G body Γ') xs Γ = .nx Γ') : runs G [.for t it body] Γ = .nx Γ' := by
  rw [runs, run, l, Res.out_ok, f, Out.next_nx, runs]
theorem ix_lst {xs : List PV} {i : Int} {p : PV} (h : 0 ≤ i) (h2 : xs[i.toNat]? = some p) : idxop (.d (.lst xs)) (.d (.int i)) = .ok (.d p) := by
  have l : i.toNat < xs.length := (List.getElem?_eq_some_iff.mp h2).1
  show (match atP xs i with | some p => Res.ok (SV.d p) | none => .bad) = _
  rw [ix_pos h (by omega), h2]
theorem r8 : rng? 0 8 1 = .ok ((List.range 8).map fun (i : Nat) => PV.int (i : Int)) := by rw [rng_ok (by decide) (by decide) (by decide) (by decide)]; simp
def odS : Sh := (3, 4, [(0, 0), (0, 1), (1, 3)])
def fcs (S : Sh) : PV := .lst ((List.range 8).map fun i => sv (ps i S))
def Lt (ns ds : List Int) (S O : Sh) (b2 b3 b4 b5 b6 b7 b8 b9 b10 b11 b14 b15 b16 b17 b18 b19 b20 b21 b22 b23 b24 : Bx) : Gm :=
  [.sh (.scr ns), .sh (.d (li ds)), b2, b3, b4, b5, b6, b7, b8, b9, b10, b11, .sh (.d (sv S)), .sh (.d (sv O)), b14, b15, b16, b17, b18, b19, b20, b21, b22, b23, b24]
theorem fcs_ix (S : Sh) {k : Nat} (h : k < 8) : idxop (.d (fcs S)) (.d (.int k)) = .ok (.d (sv (ps k S))) := by
  refine ix_lst (by omega) ?_
  rw [Int.toNat_natCast, List.getElem?_map, List.getElem?_range h]; rfl
theorem sha_fcs (S : Sh) : sha (fcs S) = true := by
  show shalL 59 ((List.range 8).map fun i => sv (ps i S)) = true
  generalize List.range 8 = l
  induction l with
  | nil => rfl
  | cons x xs ih => rw [List.map_cons, shalL, ih, show shal 59 (sv (ps x S)) = true from shal_sv 56 _]; rfl
theorem lp_list (S : Sh) : mapR (fun x => (f__law_posed [.d (sv S), .d x]).bind fun s => (data? s).bind fun p => Res.ok (some p)) ((List.range 8).map fun (i : Nat) => PV.int (i : Int)) = .ok ((List.range 8).map fun i => sv (ps i S)) := by
  rw [mapR_comp, mapR_map (g := fun i => sv (ps i S)) (fun i hi => by rw [lposed_ev S i (List.mem_range.mp hi)]; rfl)]
theorem po_list {S : Sh} (k : Ok S) : mapR (fun x => (f_posed [.d (sv S), .d x]).bind fun s => (data? s).bind fun p => Res.ok (some p)) ((List.range 8).map fun (i : Nat) => PV.int (i : Int)) = .ok ((List.range 8).map fun i => sv (ps i S)) := by
  rw [mapR_comp, mapR_map (g := fun i => sv (ps i S)) (fun i hi => by rw [posed_prog k (List.mem_range.mp hi)]; rfl)]
/-- all eight are drawn and compared -/
theorem head_ev (ns ds : List Int) {S O : Sh} (k : Ok S) (b2 b3 b4 b5 b6 b7 b8 b9 b10 b11 b14 b15 b16 b17 b18 b19 b20 b21 b22 b23 b24 : Bx) :
    runs g_law ((c_law.drop 2).take 3) (Lt ns ds S O b2 b3 b4 b5 b6 b7 b8 b9 b10 b11 b14 b15 b16 b17 b18 b19 b20 b21 b22 b23 b24) = .nx (Lt ns ds S O (.sh (.d (fcs S))) (.sh (.d (sv odS))) b4 b5 b6 b7 b8 b9 b10 b11 b14 b15 b16 b17 b18 b19 b20 b21 b22 b23 b24) := by
  have g2 : g_law.fns[2]? = some f__law_posed := rfl
  have g3 : g_law.fns[3]? = some f_posed := rfl
  have l1 := lp_list S
  have l2 := po_list k
  have ne := ne_same (sha_fcs S)
  unfold fcs at ne
  have od : PV.tup [.int 3, .int 4, .tup [.tup [.int 0, .int 0], .tup [.int 0, .int 1], .tup [.int 1, .int 3]]] = sv odS := rfl
  simp [c_law, Lt, runs, run, ev, evL, evI, evC, r8, g2, g3, l1, l2]
  simp [Lt, runs, run, ev, evL, ne, od, fcs]
/-- two poses, one behind the other -/
theorem b1_ev (ns ds : List Int) {S O : Sh} (k : Ok S) (p q : Nat) (hp8 : p < 8) (hq : q < 8) (b5 b6 b7 b8 b9 b10 b11 b15 b16 b17 b18 b19 b20 b21 b22 b23 b24 : Bx) :
    runs g_law b_law_1 (Lt ns ds S O (.sh (.d (fcs S))) (.sh (.d (sv odS))) (.sh (.d (.int p))) b5 b6 b7 b8 b9 b10 b11 (.sh (.d (.int q))) b15 b16 b17 b18 b19 b20 b21 b22 b23 b24) = .nx (Lt ns ds S O (.sh (.d (fcs S))) (.sh (.d (sv odS))) (.sh (.d (.int p))) b5 b6 b7 b8 b9 b10 b11 (.sh (.d (.int q))) b15 b16 b17 b18 b19 (.sh (.d (.int (bh p q)))) b21 b22 b23 b24) := by
  have g2 : g_law.fns[2]? = some f__law_posed := rfl
  have g3 : g_law.fns[3]? = some f_posed := rfl
  have g5 : g_law.fns[5]? = some f_behind := rfl
  have be := behind_ev p q hp8 hq
  have hb := bh_lt p hp8 q hq
  have o1 := lposed_ev odS (bh p q) hb
  have o2 := lposed_ev odS p hp8
  have o3 := lposed_ev (ps p odS) q hq
  rw [ps_comp odS hp8 hq] at o3
  have p1 := posed_prog k hp8
  have p2 := posed_prog (ps_ok k hp8) hq
  rw [ps_comp S hp8 hq] at p2
  have fi := fcs_ix S hb
  have n1 := ne_sv (ps (bh p q) odS) (ps (bh p q) odS)
  have n2 := ne_sv (ps (bh p q) S) (ps (bh p q) S)
  have al : mapR (fun x => ((f_behind [.d (.int (bh p q)), .d x]).bind fun a => (f_behind [.d (.int q), .d x]).bind fun c => (f_behind [.d (.int p), c]).bind fun b => (cmpop .eq a b).bind fun c => Res.ok (some (PV.bl c)))) ((List.range 8).map fun (i : Nat) => PV.int (i : Int)) = .ok ((List.range 8).map fun _ => PV.bl true) := by
    rw [mapR_comp, mapR_map (g := fun _ : Nat => PV.bl true) (fun i hi => by
      have hi := List.mem_range.mp hi
      rw [behind_ev _ i hb hi, Res.bind_ok, behind_ev q i hq hi, Res.bind_ok, behind_ev p _ hp8 (bh_lt q hq i hi), Res.bind_ok, bh_assoc p hp8 q hq i hi]
      simp)]
  have fa := f_all (fun _ : Nat => true) (List.range 8)
  generalize hB : bh p q = B at *
  simp [b_law_1, Lt, runs, run, ev, evL, evI, evC, g2, g3, g5, be, o1, o2, o3, p1, p2, fi, n1, n2, r8]
  rw [mapR_comp, mapR_map (g := fun _ : Nat => PV.bl true) (fun i hi => by
      have hi := List.mem_range.mp hi
      have e1 := behind_ev B i hb hi
      have e2 := behind_ev q i hq hi
      have e3 := behind_ev p _ hp8 (bh_lt q hq i hi)
      have e4 := bh_assoc p hp8 q hq i hi
      rw [hB] at e4
      rw [← e4] at e3
      simp [e1, e2, e4, e3])]
  simp only [Res.bind_ok, fa]
  simp
end K87
end

section
set_option autoImplicit false
set_option linter.all false
set_option maxRecDepth 100000
namespace K87
open Bw
theorem b2_ev (ns ds : List Int) {S O : Sh} (k : Ok S) (p : Nat) (hp8 : p < 8) (b5 b6 b7 b8 b9 b10 b11 b14 b15 b16 b17 b18 b19 b20 b21 b22 b23 b24 : Bx) :
    ∃ c14 c20, runs g_law b_law_2 (Lt ns ds S O (.sh (.d (fcs S))) (.sh (.d (sv odS))) (.sh (.d (.int p))) b5 b6 b7 b8 b9 b10 b11 b14 b15 b16 b17 b18 b19 b20 b21 b22 b23 b24) = .nx (Lt ns ds S O (.sh (.d (fcs S))) (.sh (.d (sv odS))) (.sh (.d (.int p))) b5 b6 b7 b8 b9 b10 b11 c14 b15 b16 b17 b18 b19 c20 b21 b22 b23 b24) := by
  have g4 : g_law.fns[4]? = some f_undone := rfl
  have g5 : g_law.fns[5]? = some f_behind := rfl
  have hu := un_lt p hp8
  obtain ⟨u1, u2, u3, u4⟩ := bh_un p hp8
  have u := undone_ev p hp8
  have e1 := behind_ev p _ hp8 hu
  have e2 := behind_ev _ p hu hp8
  have e3 : f_behind [.d (.int 0), .d (.int p)] = _ := behind_ev 0 p (by decide) hp8
  have e4 : f_behind [.d (.int p), .d (.int 0)] = _ := behind_ev p 0 hp8 (by decide)
  rw [u1] at e1
  rw [u2] at e2
  rw [u3] at e3
  rw [u4] at e4
  have l1 : runs g_law (b_law_2.take 1) (Lt ns ds S O (.sh (.d (fcs S))) (.sh (.d (sv odS))) (.sh (.d (.int p))) b5 b6 b7 b8 b9 b10 b11 b14 b15 b16 b17 b18 b19 b20 b21 b22 b23 b24) = .nx (Lt ns ds S O (.sh (.d (fcs S))) (.sh (.d (sv odS))) (.sh (.d (.int p))) b5 b6 b7 b8 b9 b10 b11 b14 b15 b16 b17 b18 b19 b20 b21 b22 b23 b24) := by
    generalize hU : ((un p : Nat) : Int) = U at *
    simp [b_law_2, Lt, runs, run, ev, evL, g4, g5, u, e1, e2, e3, e4]
  obtain ⟨Γ', e, c14, c20, rfl⟩ := forR_inv (f := fun x Γ => oout (bindT (.name 14) x Γ) fun Γ' => runs g_law b_law_1 Γ') (xs := (List.range 8).map fun (i : Nat) => PV.int (i : Int)) (Γ := Lt ns ds S O (.sh (.d (fcs S))) (.sh (.d (sv odS))) (.sh (.d (.int p))) b5 b6 b7 b8 b9 b10 b11 b14 b15 b16 b17 b18 b19 b20 b21 b22 b23 b24)
    (fun _ Γ => ∃ c14 c20, Γ = Lt ns ds S O (.sh (.d (fcs S))) (.sh (.d (sv odS))) (.sh (.d (.int p))) b5 b6 b7 b8 b9 b10 b11 c14 b15 b16 b17 b18 b19 c20 b21 b22 b23 b24) ⟨_, _, rfl⟩ fun i x Γ hx ⟨c14, c20, hΓ⟩ => by
      subst hΓ
      have hx : ((List.range 8).map fun (i : Nat) => PV.int (0 + i))[i]? = some x := by simpa using hx
      obtain ⟨hi, rfl⟩ := range_at' hx
      rw [bindT_name, oout_some]
      exact ⟨_, .inl (b1_ev ns ds k p i hp8 hi b5 b6 b7 b8 b9 b10 b11 b15 b16 b17 b18 b19 c20 b21 b22 b23 b24), _, _, rfl⟩
  refine ⟨c14, c20, ?_⟩
  rw [show b_law_2 = b_law_2.take 1 ++ [.for (.name 14) (.rng1 (.int 8)) b_law_1] from rfl, runs_append, l1, Out.next_nx]
  exact for_step (by simp [evI, ev, r8]) e
theorem group_ev (ns ds : List Int) {S O : Sh} (k : Ok S) (b4 b5 b6 b7 b8 b9 b10 b11 b14 b15 b16 b17 b18 b19 b20 b21 b22 b23 b24 : Bx) :
    ∃ c4 c14 c20, runs g_law [.for (.name 4) (.rng1 (.int 8)) b_law_2] (Lt ns ds S O (.sh (.d (fcs S))) (.sh (.d (sv odS))) b4 b5 b6 b7 b8 b9 b10 b11 b14 b15 b16 b17 b18 b19 b20 b21 b22 b23 b24) = .nx (Lt ns ds S O (.sh (.d (fcs S))) (.sh (.d (sv odS))) c4 b5 b6 b7 b8 b9 b10 b11 c14 b15 b16 b17 b18 b19 c20 b21 b22 b23 b24) := by
  obtain ⟨Γ', e, c4, c14, c20, rfl⟩ := forR_inv (f := fun x Γ => oout (bindT (.name 4) x Γ) fun Γ' => runs g_law b_law_2 Γ') (xs := (List.range 8).map fun (i : Nat) => PV.int (i : Int)) (Γ := Lt ns ds S O (.sh (.d (fcs S))) (.sh (.d (sv odS))) b4 b5 b6 b7 b8 b9 b10 b11 b14 b15 b16 b17 b18 b19 b20 b21 b22 b23 b24)
    (fun _ Γ => ∃ c4 c14 c20, Γ = Lt ns ds S O (.sh (.d (fcs S))) (.sh (.d (sv odS))) c4 b5 b6 b7 b8 b9 b10 b11 c14 b15 b16 b17 b18 b19 c20 b21 b22 b23 b24) ⟨_, _, _, rfl⟩ fun i x Γ hx ⟨c4, c14, c20, hΓ⟩ => by
      subst hΓ
      have hx : ((List.range 8).map fun (i : Nat) => PV.int (0 + i))[i]? = some x := by simpa using hx
      obtain ⟨hi, rfl⟩ := range_at' hx
      obtain ⟨d14, d20, e⟩ := b2_ev ns ds (O := O) k i hi b5 b6 b7 b8 b9 b10 b11 c14 b15 b16 b17 b18 b19 c20 b21 b22 b23 b24
      rw [bindT_name, oout_some]
      exact ⟨_, .inl e, _, _, _, rfl⟩
  exact ⟨c4, c14, c20, for_step (by simp [evI, ev, r8]) e⟩
/-- which faces are one -/
theorem due_list (S T : Sh) : (List.range 8).filterMap (fun i : Nat => if decide (ps i S = T) then some (PV.int (i : Int)) else none) = (due8 S T).map fun (i : Nat) => PV.int (i : Int) := by
  unfold due8 own8
  generalize List.range 8 = l
  induction l with
  | nil => rfl
  | cons x xs ih =>
    rw [List.filterMap_cons, List.filter_cons, ih]
    by_cases c : ps x S = T <;> simp [c]
theorem len_tn (L : List Nat) : f1op .len (.d (tn8 L)) = .ok (.d (.int L.length)) := by unfold tn8; simp
theorem own_ev (ns ds : List Int) {S O : Sh} (k : Ok S) (b3 b4 b5 b6 b7 b8 b9 b10 b11 b14 b15 b16 b17 b18 b19 b20 b21 b22 b23 b24 : Bx) :
    runs g_law ((c_law.drop 6).take 2) (Lt ns ds S O (.sh (.d (fcs S))) b3 b4 b5 b6 b7 b8 b9 b10 b11 b14 b15 b16 b17 b18 b19 b20 b21 b22 b23 b24) = .nx (Lt ns ds S O (.sh (.d (fcs S))) b3 b4 (.sh (.d (tn8 (due8 S S)))) b6 b7 b8 b9 b10 b11 b14 b15 b16 b17 b18 b19 b20 b21 b22 b23 b24) := by
  have g6 : g_law.fns[6]? = some f_own_poses := rfl
  have oe := own_poses_ev k
  have ne := ne_tn (due8 S S)
  have le := len_tn (due8 S S)
  have cn := own_cnt k.sa
  have cn : (due8 S S).length = 1 ∨ (due8 S S).length = 2 ∨ (due8 S S).length = 4 ∨ (due8 S S).length = 8 := cn
  have ni : cmpop .notin (.d (.int (due8 S S).length)) (.d (.tup [.int 1, .int 2, .int 4, .int 8])) = .ok false := by
    rcases cn with e | e | e | e <;> rw [e] <;> rfl
  have l1 : runs g_law ((c_law.drop 6).take 1) (Lt ns ds S O (.sh (.d (fcs S))) b3 b4 b5 b6 b7 b8 b9 b10 b11 b14 b15 b16 b17 b18 b19 b20 b21 b22 b23 b24) = .nx (Lt ns ds S O (.sh (.d (fcs S))) b3 b4 (.sh (.d (tn8 (due8 S S)))) b6 b7 b8 b9 b10 b11 b14 b15 b16 b17 b18 b19 b20 b21 b22 b23 b24) := by
    simp [c_law, Lt, runs, run, ev, evL, evI, r8]
    rw [mapR_comp, mapR_opt (g := fun i : Nat => if decide (ps i S = S) then some (PV.int (i : Int)) else none) (fun i hi => by
      have := fcs_ix S (List.mem_range.mp hi)
      simp [evC, ev, this, eq_sv]), due_list]
    simp [tn8]
  rw [show (c_law.drop 6).take 2 = (c_law.drop 6).take 1 ++ (c_law.drop 7).take 1 from rfl, runs_append, l1, Out.next_nx]
  simp [c_law, Lt, runs, run, ev, evL, g6, oe, ne, le, ni]
theorem b3_ev (ns ds : List Int) {S O T : Sh} (k : Ok S) (kT : Ok T) (b3 b4 b7 b8 b9 b10 b11 b14 b15 b16 b17 b18 b19 b20 b21 b22 b23 b24 : Bx) :
    ∃ c15, runs g_law b_law_3 (Lt ns ds S O (.sh (.d (fcs S))) b3 b4 (.sh (.d (tn8 (due8 S S)))) (.sh (.d (sv T))) b7 b8 b9 b10 b11 b14 b15 b16 b17 b18 b19 b20 b21 b22 b23 b24) = .nx (Lt ns ds S O (.sh (.d (fcs S))) b3 b4 (.sh (.d (tn8 (due8 S S)))) (.sh (.d (sv T))) b7 b8 b9 b10 b11 b14 c15 b16 b17 b18 b19 b20 b21 b22 b23 b24) := by
  have g7 : g_law.fns[7]? = some f_poses_for := rfl
  have oe := poses_for_prog k kT
  have ne := ne_tn (due8 S T)
  have le := len_tn (due8 S T)
  have le2 := len_tn (due8 S S)
  have cn : (due8 S T).length = 0 ∨ (due8 S T).length = (due8 S S).length := due_cnt k.sa T
  have ni : cmpop .notin (.d (.int (due8 S T).length)) (.d (.tup [.int 0, .int (due8 S S).length])) = .ok false := by
    have key : ∀ (p : PV) (ys : List PV), sha p = true → cmpop .notin (.d p) (.d (.tup ys)) = .ok (!ys.any fun y => pyEq y p) := fun p ys h => by simp [cmpop, h]
    rw [key _ _ (shal_int' _ _)]
    rcases cn with e | e <;> rw [e] <;> simp [pyEq]
  refine ⟨.sh (.d (tn8 (due8 S T))), ?_⟩
  have l1 : runs g_law (b_law_3.take 1) (Lt ns ds S O (.sh (.d (fcs S))) b3 b4 (.sh (.d (tn8 (due8 S S)))) (.sh (.d (sv T))) b7 b8 b9 b10 b11 b14 b15 b16 b17 b18 b19 b20 b21 b22 b23 b24) = .nx (Lt ns ds S O (.sh (.d (fcs S))) b3 b4 (.sh (.d (tn8 (due8 S S)))) (.sh (.d (sv T))) b7 b8 b9 b10 b11 b14 (.sh (.d (tn8 (due8 S T)))) b16 b17 b18 b19 b20 b21 b22 b23 b24) := by
    simp [b_law_3, Lt, runs, run, ev, evL, evI, r8]
    rw [mapR_comp, mapR_opt (g := fun i : Nat => if decide (ps i S = T) then some (PV.int (i : Int)) else none) (fun i hi => by
      have := fcs_ix S (List.mem_range.mp hi)
      simp [evC, ev, this, eq_sv]), due_list]
    simp [tn8]
  rw [show b_law_3 = b_law_3.take 1 ++ b_law_3.drop 1 from rfl, runs_append, l1, Out.next_nx]
  simp [b_law_3, Lt, runs, run, ev, evL, g7, oe, ne, le, le2, ni]
theorem there_ev (ns ds : List Int) {S O : Sh} (k : Ok S) (kO : Ok O) (b3 b4 b6 b7 b8 b9 b10 b11 b14 b15 b16 b17 b18 b19 b20 b21 b22 b23 b24 : Bx) :
    ∃ c6 c15, runs g_law [.for (.name 6) (.seq (.bin .add (.var 2) (.lst [.var 13]))) b_law_3] (Lt ns ds S O (.sh (.d (fcs S))) b3 b4 (.sh (.d (tn8 (due8 S S)))) b6 b7 b8 b9 b10 b11 b14 b15 b16 b17 b18 b19 b20 b21 b22 b23 b24) = .nx (Lt ns ds S O (.sh (.d (fcs S))) b3 b4 (.sh (.d (tn8 (due8 S S)))) c6 b7 b8 b9 b10 b11 b14 c15 b16 b17 b18 b19 b20 b21 b22 b23 b24) := by
  obtain ⟨Γ', e, c6, c15, rfl⟩ := forR_inv (f := fun x Γ => oout (bindT (.name 6) x Γ) fun Γ' => runs g_law b_law_3 Γ') (xs := ((List.range 8).map fun i => sv (ps i S)) ++ [sv O]) (Γ := Lt ns ds S O (.sh (.d (fcs S))) b3 b4 (.sh (.d (tn8 (due8 S S)))) b6 b7 b8 b9 b10 b11 b14 b15 b16 b17 b18 b19 b20 b21 b22 b23 b24)
    (fun _ Γ => ∃ c6 c15, Γ = Lt ns ds S O (.sh (.d (fcs S))) b3 b4 (.sh (.d (tn8 (due8 S S)))) c6 b7 b8 b9 b10 b11 b14 c15 b16 b17 b18 b19 b20 b21 b22 b23 b24) ⟨_, _, rfl⟩ fun i x Γ hx ⟨c6, c15, hΓ⟩ => by
      subst hΓ
      obtain ⟨T, kT, rfl⟩ : ∃ T, Ok T ∧ x = sv T := by
        rcases List.mem_append.mp (List.mem_of_getElem? hx) with h | h
        · obtain ⟨j, hj, rfl⟩ := List.mem_map.mp h
          exact ⟨_, ps_ok k (List.mem_range.mp hj), rfl⟩
        · exact ⟨O, kO, List.mem_singleton.mp h⟩
      obtain ⟨d15, e⟩ := b3_ev ns ds (O := O) k kT b3 b4 b7 b8 b9 b10 b11 b14 c15 b16 b17 b18 b19 b20 b21 b22 b23 b24
      rw [bindT_name, oout_some]
      exact ⟨_, .inl e, _, _, rfl⟩
  refine ⟨c6, c15, for_step ?_ e⟩
  simp [evI, ev, evL, Lt, fcs]
  rw [binop_lst _ _ (by simp; unfold line; omega)]
  rfl
end K87
end

section
set_option autoImplicit false
set_option linter.all false
set_option maxRecDepth 100000
namespace K87
open Bw
def TL (S : Sh) : List (List Pt) := (comb S.2.2).filter (tells S.1 S.2.1)
theorem comb_SA {L P : List Pt} (h : SA L) (hP : P ∈ comb L) : SA P := List.Pairwise.sublist (comb_mem.mp hP) h
theorem comb_ok {S : Sh} (k : Ok S) {P : List Pt} (hP : P ∈ comb S.2.2) : Ok (S.1, S.2.1, P) := by
  have sl := comb_mem.mp hP
  exact ⟨k.h1, k.h2, Nat.le_trans sl.length_le k.len, fun x hx => k.rg x (sl.subset hx), comb_SA k.sa hP⟩
theorem comb_len {L : List Pt} (h : SA L) (hl : L.length ≤ 8) : (comb L).length ≤ 256 := by
  rw [← pw_comb h, List.length_mergeSort, pwF_len, List.length_singleton, Nat.one_mul]
  exact Nat.pow_le_pow_right (by decide) hl
theorem headT_ne (W : List (List Pt)) : cmpop .ne (.d (headT W)) (.d (headT W)) = .ok false := by
  cases W with
  | nil => exact ne_same rfl
  | cons P W => exact ne_same (shal_pt 58 P)
theorem r17 : rng? 1 8 1 = .ok ((List.range 7).map fun (i : Nat) => PV.int (1 + (i : Int))) := by rw [rng_ok (by decide) (by decide) (by decide) (by decide)]; simp
theorem tell_ev (ns ds : List Int) {S O : Sh} (k : Ok S) (hl : S.2.2.length ≤ 8) (b2 b3 b4 b5 b6 b7 b8 b9 b10 b11 b14 b15 b16 b17 b18 b19 b20 b21 b22 b23 b24 : Bx) :
    runs g_law ((c_law.drop 9).take 3) (Lt ns ds S O b2 b3 b4 b5 b6 b7 b8 b9 b10 b11 b14 b15 b16 b17 b18 b19 b20 b21 b22 b23 b24) = .nx (Lt ns ds S O b2 b3 b4 b5 b6 (.sh (.d (.lst ((TL S).map pt)))) b8 b9 b10 b11 b14 b15 (.sh (.d (.int S.1))) (.sh (.d (.int S.2.1))) (.sh (.d (pt S.2.2))) b19 b20 b21 b22 b23 b24) := by
  have g2 : g_law.fns[2]? = some f__law_posed := rfl
  have g8 : g_law.fns[8]? = some f__law_sets := rfl
  have g9 : g_law.fns[9]? = some f_fewest_telling := rfl
  have se := sets_ev hl k.sa
  have fe := fewest_ev k hl
  have hn := headT_ne (TL S)
  have l1 : runs g_law ((c_law.drop 9).take 1) (Lt ns ds S O b2 b3 b4 b5 b6 b7 b8 b9 b10 b11 b14 b15 b16 b17 b18 b19 b20 b21 b22 b23 b24) = .nx (Lt ns ds S O b2 b3 b4 b5 b6 b7 b8 b9 b10 b11 b14 b15 (.sh (.d (.int S.1))) (.sh (.d (.int S.2.1))) (.sh (.d (pt S.2.2))) b19 b20 b21 b22 b23 b24) := by
    simp [c_law, Lt, runs, run, ev, bt_sv, pt]
  have l2 : runs g_law ((c_law.drop 10).take 1) (Lt ns ds S O b2 b3 b4 b5 b6 b7 b8 b9 b10 b11 b14 b15 (.sh (.d (.int S.1))) (.sh (.d (.int S.2.1))) (.sh (.d (pt S.2.2))) b19 b20 b21 b22 b23 b24) = .nx (Lt ns ds S O b2 b3 b4 b5 b6 (.sh (.d (.lst ((TL S).map pt)))) b8 b9 b10 b11 b14 b15 (.sh (.d (.int S.1))) (.sh (.d (.int S.2.1))) (.sh (.d (pt S.2.2))) b19 b20 b21 b22 b23 b24) := by
    simp [c_law, Lt, runs, run, ev, evL, evI, g8, se]
    rw [mapR_comp, mapR_opt (g := fun P => if tells S.1 S.2.1 P then some (pt P) else none) (fun P hP => by
      have ta := tells_any (h := S.1) (w := S.2.1) (comb_SA k.sa hP)
      have e : PV.tup [.int S.1, .int S.2.1, pt P] = sv (S.1, S.2.1, P) := rfl
      have fa := f_any (fun i : Nat => decide (ps (1 + i) (S.1, S.2.1, P) = (S.1, S.2.1, P))) (List.range 7)
      simp [evC, ev, evL, evI, r17]
      rw [mapR_comp, mapR_map (g := fun i : Nat => PV.bl (decide (ps (1 + i) (S.1, S.2.1, P) = (S.1, S.2.1, P)))) (fun i hi => by
        have := lposed_ev (S.1, S.2.1, P) (1 + i) (by rw [List.mem_range] at hi; omega)
        rw [show ((1 + i : Nat) : Int) = 1 + (i : Int) by omega] at this
        simp [g2, e, this, eq_sv])]
      simp only [Res.bind_ok, fa]
      rw [ta]
      cases ((List.range 7).any fun i => decide (ps (1 + i) (S.1, S.2.1, P) = (S.1, S.2.1, P))) <;> rfl)]
    have ff : (comb S.2.2).filterMap (fun P => if tells S.1 S.2.1 P then some (pt P) else none) = (TL S).map pt := by
      unfold TL
      generalize comb S.2.2 = W
      induction W with
      | nil => rfl
      | cons x xs ih =>
        rw [List.filterMap_cons, List.filter_cons, ih]
        cases tells S.1 S.2.1 x <;> simp
    rw [ff]; rfl
  rw [show (c_law.drop 9).take 3 = (c_law.drop 9).take 1 ++ ((c_law.drop 10).take 1 ++ (c_law.drop 11).take 1) from rfl, runs_append, l1, Out.next_nx, runs_append, l2, Out.next_nx]
  have fe : f_fewest_telling [.d (sv S)] = .ok (.d (headT (TL S))) := fe
  cases hT : TL S with
  | nil =>
    rw [hT] at fe hn
    simp [headT] at fe hn
    simp [c_law, Lt, runs, run, ev, evL, g9, fe, hn, headT]
  | cons P W =>
    rw [hT] at fe hn
    simp [headT] at fe hn
    have i0 : idxop (.d (.lst (pt P :: W.map pt))) (.d (.int 0)) = .ok (.d (pt P)) := ix_lst (by decide) rfl
    have gz : (0 : Int) < (W.length : Int) + 1 := by omega
    simp [c_law, Lt, runs, run, ev, evL, g9, fe, hn, headT, i0, gz]
theorem un_eq : ∀ p, p < 8 → ∀ i, i < 8 → (bh i (un p) = 0 ↔ i = p) := by decide
theorem own_one : ∀ p, p < 8 → (List.range 8).filter (fun i => decide (i = p)) = [p] := by decide
theorem due_self {X : Sh} (hs : SA X.2.2) (ht : due8 X X = [0]) {p : Nat} (hp8 : p < 8) : due8 X (ps p X) = [p] := by
  have st : ∀ i, i < 8 → (ps i X = X ↔ i = 0) := fun i hi => by
    have m : i ∈ due8 X X ↔ ps i X = X := by
      unfold due8 own8
      rw [List.mem_filter, List.mem_range, decide_eq_true_iff]
      exact ⟨fun h => h.2, fun h => ⟨hi, h⟩⟩
    rw [← m, ht, List.mem_singleton]
  rw [← own_one p hp8]
  unfold due8 own8
  refine List.filter_congr fun i hi => ?_
  rw [List.mem_range] at hi
  have hu := un_lt p hp8
  rw [decide_eq_decide, ← un_eq p hp8 i hi, ← st _ (bh_lt i hi _ hu), ← ps_comp X hi hu]
  constructor
  · intro e; rw [e, ps_comp X hp8 hu, (bh_un p hp8).1, ps_zero hs]
  · intro e
    have e2 : bh (bh i (un p)) p = i := by rw [bh_assoc i hi _ hu p hp8, (bh_un p hp8).2.1, (bh_un i hi).2.2.2]
    have := congrArg (ps p) e
    rw [ps_comp X hi hu, ps_comp X (bh_lt i hi _ hu) hp8, e2] at this
    exact this
theorem headP_ne (L : List Nat) : cmpop .ne (.d (headP L)) (.d (headP L)) = .ok false := by
  cases L with
  | nil => exact ne_same rfl
  | cons P W => exact ne_same rfl
/-- one of the choices that tell -/
theorem b4_ev (ns ds : List Int) {S O : Sh} (k : Ok S) {P : List Pt} (hP : P ∈ comb S.2.2) (ht : tells S.1 S.2.1 P = true) (p : Nat) (hp8 : p < 8) (b2 b3 b5 b6 b7 b9 b10 b11 b14 b15 b19 b20 b21 b22 b23 b24 : Bx) :
    runs g_law b_law_4 (Lt ns ds S O b2 b3 (.sh (.d (.int p))) b5 b6 b7 (.sh (.d (pt P))) b9 b10 b11 b14 b15 (.sh (.d (.int S.1))) (.sh (.d (.int S.2.1))) (.sh (.d (pt S.2.2))) b19 b20 b21 b22 b23 b24) = .nx (Lt ns ds S O b2 b3 (.sh (.d (.int p))) b5 b6 b7 (.sh (.d (pt P))) b9 b10 b11 b14 b15 (.sh (.d (.int S.1))) (.sh (.d (.int S.2.1))) (.sh (.d (pt S.2.2))) b19 b20 b21 b22 b23 b24) := by
  have g2 : g_law.fns[2]? = some f__law_posed := rfl
  have g10 : g_law.fns[10]? = some f_pose_seen := rfl
  have kP := comb_ok k hP
  have e : PV.tup [.int S.1, .int S.2.1, pt P] = sv (S.1, S.2.1, P) := rfl
  have lp := lposed_ev (S.1, S.2.1, P) p hp8
  have sl := comb_mem.mp hP
  have se : f_pose_seen [.d (sv S), .d (pt P), .d (sv (ps p (S.1, S.2.1, P)))] = _ := pose_seen_ev k (ps_ok kP hp8) P kP.len kP.rg kP.sa (fun x hx => sl.subset hx) ht
  have ht : due8 (S.1, S.2.1, P) (S.1, S.2.1, P) = [0] := by unfold tells at ht; simpa using ht
  rw [due_self kP.sa ht hp8] at se
  simp [headP] at se
  simp [b_law_4, Lt, runs, run, ev, evL, g2, g10, e, lp, se]
theorem b5_ev (ns ds : List Int) {S O : Sh} (k : Ok S) (kO : Ok O) {P : List Pt} (hP : P ∈ comb S.2.2) (ht : tells S.1 S.2.1 P = true) (b2 b3 b4 b5 b6 b7 b9 b10 b11 b14 b15 b19 b20 b21 b22 b23 b24 : Bx) :
    ∃ c4 c15, runs g_law b_law_5 (Lt ns ds S O b2 b3 b4 b5 b6 b7 (.sh (.d (pt P))) b9 b10 b11 b14 b15 (.sh (.d (.int S.1))) (.sh (.d (.int S.2.1))) (.sh (.d (pt S.2.2))) b19 b20 b21 b22 b23 b24) = .nx (Lt ns ds S O b2 b3 c4 b5 b6 b7 (.sh (.d (pt P))) b9 b10 b11 b14 c15 (.sh (.d (.int S.1))) (.sh (.d (.int S.2.1))) (.sh (.d (pt S.2.2))) b19 b20 b21 b22 b23 b24) := by
  have g2 : g_law.fns[2]? = some f__law_posed := rfl
  have g10 : g_law.fns[10]? = some f_pose_seen := rfl
  have kP := comb_ok k hP
  have sl := comb_mem.mp hP
  have e0 : PV.tup [.int S.1, .int S.2.1, pt P] = sv (S.1, S.2.1, P) := rfl
  obtain ⟨Γ', e, c4, rfl⟩ := forR_inv (f := fun x Γ => oout (bindT (.name 4) x Γ) fun Γ' => runs g_law b_law_4 Γ') (xs := (List.range 8).map fun (i : Nat) => PV.int (i : Int)) (Γ := Lt ns ds S O b2 b3 b4 b5 b6 b7 (.sh (.d (pt P))) b9 b10 b11 b14 b15 (.sh (.d (.int S.1))) (.sh (.d (.int S.2.1))) (.sh (.d (pt S.2.2))) b19 b20 b21 b22 b23 b24)
    (fun _ Γ => ∃ c4, Γ = Lt ns ds S O b2 b3 c4 b5 b6 b7 (.sh (.d (pt P))) b9 b10 b11 b14 b15 (.sh (.d (.int S.1))) (.sh (.d (.int S.2.1))) (.sh (.d (pt S.2.2))) b19 b20 b21 b22 b23 b24) ⟨_, rfl⟩ fun i x Γ hx ⟨c4, hΓ⟩ => by
      subst hΓ
      have hx : ((List.range 8).map fun (i : Nat) => PV.int (0 + i))[i]? = some x := by simpa using hx
      obtain ⟨hi, rfl⟩ := range_at' hx
      rw [bindT_name, oout_some]
      exact ⟨_, .inl (b4_ev ns ds k hP ht i hi b2 b3 b5 b6 b7 b9 b10 b11 b14 b15 b19 b20 b21 b22 b23 b24), _, rfl⟩
  have l1 : runs g_law [.for (.name 4) (.rng1 (.int 8)) b_law_4] (Lt ns ds S O b2 b3 b4 b5 b6 b7 (.sh (.d (pt P))) b9 b10 b11 b14 b15 (.sh (.d (.int S.1))) (.sh (.d (.int S.2.1))) (.sh (.d (pt S.2.2))) b19 b20 b21 b22 b23 b24) = _ := for_step (by simp [evI, ev, r8]) e
  have se : f_pose_seen [.d (sv S), .d (pt P), .d (sv O)] = _ := pose_seen_ev k kO P kP.len kP.rg kP.sa (fun x hx => sl.subset hx) ht
  have l2 : runs g_law ((b_law_5.drop 1).take 1) (Lt ns ds S O b2 b3 c4 b5 b6 b7 (.sh (.d (pt P))) b9 b10 b11 b14 b15 (.sh (.d (.int S.1))) (.sh (.d (.int S.2.1))) (.sh (.d (pt S.2.2))) b19 b20 b21 b22 b23 b24) = .nx (Lt ns ds S O b2 b3 c4 b5 b6 b7 (.sh (.d (pt P))) b9 b10 b11 b14 (.sh (.d (.lst ((due8 (S.1, S.2.1, P) O).map fun (i : Nat) => PV.int (i : Int))))) (.sh (.d (.int S.1))) (.sh (.d (.int S.2.1))) (.sh (.d (pt S.2.2))) b19 b20 b21 b22 b23 b24) := by
    simp [b_law_5, Lt, runs, run, ev, evL, evI, r8]
    rw [mapR_comp, mapR_opt (g := fun i : Nat => if decide (ps i (S.1, S.2.1, P) = O) then some (PV.int (i : Int)) else none) (fun i hi => by
      have := lposed_ev (S.1, S.2.1, P) i (List.mem_range.mp hi)
      simp [evC, ev, evL, g2, e0, this, eq_sv]), due_list]
    simp
  have hn := headP_ne (due8 (S.1, S.2.1, P) O)
  refine ⟨c4, .sh (.d (.lst ((due8 (S.1, S.2.1, P) O).map fun (i : Nat) => PV.int (i : Int)))), ?_⟩
  rw [show b_law_5 = [.for (.name 4) (.rng1 (.int 8)) b_law_4] ++ ((b_law_5.drop 1).take 1 ++ b_law_5.drop 2) from rfl, runs_append, l1, Out.next_nx, runs_append, l2, Out.next_nx]
  cases hD : due8 (S.1, S.2.1, P) O with
  | nil =>
    rw [hD] at se hn
    simp [headP] at se hn
    simp [b_law_5, Lt, runs, run, ev, evL, g10, se, hn]
  | cons j D =>
    rw [hD] at se hn
    simp [headP] at se hn
    have i0 : idxop (.d (.lst (.int (j : Int) :: D.map fun (i : Nat) => PV.int (i : Int)))) (.d (.int 0)) = .ok (.d (.int j)) := ix_lst (by decide) rfl
    have gz : (0 : Int) < (D.length : Int) + 1 := by omega
    simp [b_law_5, Lt, runs, run, ev, evL, g10, se, hn, i0, gz]
end K87
end

section
set_option autoImplicit false
set_option linter.all false
set_option maxRecDepth 100000
namespace K87
open Bw
theorem cut_mem {α : Type} {xs : List α} {lo hi : Option Int} {x : α} (h : x ∈ cutP xs lo hi) : x ∈ xs := by
  unfold cutP at h
  exact List.mem_of_mem_drop (List.mem_of_mem_take h)
theorem cut_le {α : Type} (xs : List α) (lo hi : Option Int) : (cutP xs lo hi).length ≤ xs.length := by
  unfold cutP
  rw [List.length_take, List.length_drop]; omega
theorem TL_mem {S : Sh} {P : List Pt} (h : P ∈ TL S) : P ∈ comb S.2.2 ∧ tells S.1 S.2.1 P = true := List.mem_filter.mp h
theorem TL_len {S : Sh} (k : Ok S) (hl : S.2.2.length ≤ 8) : (TL S).length ≤ 256 := Nat.le_trans (List.length_filter_le _ _) (comb_len k.sa hl)
theorem some_ev (ns ds : List Int) {S O : Sh} (k : Ok S) (kO : Ok O) (hl : S.2.2.length ≤ 8) (b2 b3 b4 b5 b6 b8 b9 b10 b11 b14 b15 b19 b20 b21 b22 b23 b24 : Bx) :
    ∃ c4 c8 c15, runs g_law [.for (.name 8) (.seq (.bin .add (.sl (.var 7) none (some (.int 3))) (.sl (.var 7) (some (.neg (.int 2))) none))) b_law_5] (Lt ns ds S O b2 b3 b4 b5 b6 (.sh (.d (.lst ((TL S).map pt)))) b8 b9 b10 b11 b14 b15 (.sh (.d (.int S.1))) (.sh (.d (.int S.2.1))) (.sh (.d (pt S.2.2))) b19 b20 b21 b22 b23 b24) = .nx (Lt ns ds S O b2 b3 c4 b5 b6 (.sh (.d (.lst ((TL S).map pt)))) c8 b9 b10 b11 b14 c15 (.sh (.d (.int S.1))) (.sh (.d (.int S.2.1))) (.sh (.d (pt S.2.2))) b19 b20 b21 b22 b23 b24) := by
  have c1 := cut_le ((TL S).map pt) none (some 3)
  have c2 := cut_le ((TL S).map pt) (some (-2)) none
  have tl := TL_len k hl
  rw [List.length_map] at c1 c2
  obtain ⟨Γ', e, c4, c8, c15, rfl⟩ := forR_inv (f := fun x Γ => oout (bindT (.name 8) x Γ) fun Γ' => runs g_law b_law_5 Γ') (xs := cutP ((TL S).map pt) none (some 3) ++ cutP ((TL S).map pt) (some (-2)) none) (Γ := Lt ns ds S O b2 b3 b4 b5 b6 (.sh (.d (.lst ((TL S).map pt)))) b8 b9 b10 b11 b14 b15 (.sh (.d (.int S.1))) (.sh (.d (.int S.2.1))) (.sh (.d (pt S.2.2))) b19 b20 b21 b22 b23 b24)
    (fun _ Γ => ∃ c4 c8 c15, Γ = Lt ns ds S O b2 b3 c4 b5 b6 (.sh (.d (.lst ((TL S).map pt)))) c8 b9 b10 b11 b14 c15 (.sh (.d (.int S.1))) (.sh (.d (.int S.2.1))) (.sh (.d (pt S.2.2))) b19 b20 b21 b22 b23 b24) ⟨_, _, _, rfl⟩ fun i x Γ hx ⟨c4, c8, c15, hΓ⟩ => by
      subst hΓ
      obtain ⟨P, hP, rfl⟩ : ∃ P, P ∈ TL S ∧ x = pt P := by
        have : x ∈ (TL S).map pt := by
          rcases List.mem_append.mp (List.mem_of_getElem? hx) with h | h <;> exact cut_mem h
        obtain ⟨P, h1, h2⟩ := List.mem_map.mp this
        exact ⟨P, h1, h2.symm⟩
      obtain ⟨h1, h2⟩ := TL_mem hP
      obtain ⟨d4, d15, e⟩ := b5_ev ns ds k kO h1 h2 b2 b3 c4 b5 b6 (.sh (.d (.lst ((TL S).map pt)))) b9 b10 b11 b14 c15 b19 b20 b21 b22 b23 b24
      rw [bindT_name, oout_some]
      exact ⟨_, .inl e, _, _, _, rfl⟩
  refine ⟨c4, c8, c15, for_step ?_ e⟩
  have s1 : slop (.d (.lst ((TL S).map pt))) none (some 3) = .ok (.d (.lst (cutP ((TL S).map pt) none (some 3)))) := rfl
  have s2 : slop (.d (.lst ((TL S).map pt))) (some (-2)) none = .ok (.d (.lst (cutP ((TL S).map pt) (some (-2)) none))) := rfl
  have bl := binop_lst (cutP ((TL S).map pt) none (some 3)) (cutP ((TL S).map pt) (some (-2)) none) (by unfold line; omega)
  simp [evI, ev, evL, evO, Lt, s1, s2, bl]
/-! ### choices that do not tell, and what is none -/
theorem tell_word (ns ds : List Int) {S O : Sh} {x : PV} (h : f_pose_seen [.d (sv S), .d x, .d (sv O)] = .exc 2) (b2 b3 b4 b5 b6 b7 b9 b10 b11 b14 b15 b16 b17 b18 b19 b20 b21 b22 b23 b24 : Bx) :
    runs g_law b_law_6 (Lt ns ds S O b2 b3 b4 b5 b6 b7 (.sh (.d x)) b9 b10 b11 b14 b15 b16 b17 b18 b19 b20 b21 b22 b23 b24) = .nx (Lt ns ds S O b2 b3 b4 b5 b6 b7 (.sh (.d x)) b9 b10 b11 b14 b15 b16 b17 b18 b19 b20 b21 b22 b23 b24) := by
  have g11 : g_law.fns[11]? = some f__law_error := rfl
  have e : f__law_error [.d (.int 5), .d (sv S), .d x, .d (sv O)] = _ := err_of 5 2 (by decide) (by decide) (sv S) x (sv O) h
  simp [word] at e
  simp [b_law_6, Lt, runs, run, ev, evL, g11, e]
def odd5 (L : List Pt) : List PV := [.non, .lst (L.map pr), pt (L.reverse ++ [(0, 0)]), pt [(9, 9)], .tup [.tup [.bl true, .int 0]]]
theorem odd_seen {S O : Sh} (k6 : Ok6 S) (kO : Ok O) : ∀ x ∈ odd5 S.2.2, f_pose_seen [.d (sv S), .d x, .d (sv O)] = .exc 2 := by
  have k := k6.ok
  have hl := k6.len
  intro x hx
  simp only [odd5, List.mem_cons, List.not_mem_nil, or_false] at hx
  rcases hx with rfl | rfl | rfl | rfl | rfl
  · exact seen_no k kO (are_not _ _ _ rfl)
  · exact seen_no k kO (are_not _ _ _ rfl)
  · by_cases c : S.2.2 = []
    · rw [c]
      refine seen_out k kO [(0, 0)] (by decide) (fun x hx => ?_) (by decide) ⟨(0, 0), by simp, by rw [c]; simp⟩
      rw [List.mem_singleton] at hx
      subst hx
      have := k.h1; have := k.h2
      unfold InR
      simp; omega
    · refine seen_no k kO ?_
      have a := are_pts S.1 S.2.1 (S.2.2.reverse ++ [(0, 0)]) (by simp; omega)
      have no : ¬ ((∀ x ∈ S.2.2.reverse ++ [(0, 0)], InR S.1 S.2.1 x) ∧ SA (S.2.2.reverse ++ [(0, 0)])) := fun ⟨_, sa⟩ => by
        obtain ⟨y, hy⟩ := List.exists_mem_of_ne_nil _ c
        have l := (List.pairwise_append.mp sa).2.2 y (by simpa using hy) (0, 0) (by simp)
        have b := k.rg y hy
        unfold lt2 at l
        simp at l; omega
      rw [decide_eq_false no] at a
      exact a
  · refine seen_no k kO ?_
    have a := are_pts S.1 S.2.1 [(9, 9)] (by decide)
    have no : ¬ ((∀ x ∈ [((9, 9) : Pt)], InR S.1 S.2.1 x) ∧ SA [(9, 9)]) := fun ⟨h, _⟩ => by
      have := h (9, 9) (by simp)
      have := k6.h6
      unfold InR at *
      simp at *; omega
    rw [decide_eq_false no] at a
    exact a
  · refine seen_no k kO ?_
    have k1 : g__are_points.cons[0]? = some (.d (.int 10)) := rfl
    have g0 : g__are_points.fns[0]? = some f_is_whole := rfl
    have w := is_whole_bl true 0 (S.1 - 1)
    simp [f__are_points, c__are_points, fn, runs, run, ev, evL, evI, isaop, isaP, k1, g0, w, forR, Out.loop]
theorem notin_pt (P : List Pt) (W : List (List Pt)) : cmpop .notin (.d (pt P)) (.d (.lst (W.map pt))) = .ok (!decide (P ∈ W)) := by
  have key : ∀ (p : PV) (ys : List PV), sha p = true → cmpop .notin (.d p) (.d (.lst ys)) = .ok (!ys.any fun y => pyEq y p) := fun p ys h => by simp [cmpop, h]
  rw [key _ _ (shal_pt 58 P), List.any_map]
  congr 1
  congr 1
  rw [Bool.eq_iff_iff, List.any_eq_true, decide_eq_true_iff]
  constructor
  · rintro ⟨y, hy, e⟩
    have e : pyEqL (y.map pr) (P.map pr) = true := e
    rw [pyEqL_prs, decide_eq_true_iff] at e
    rw [← e]; exact hy
  · intro h
    refine ⟨P, h, ?_⟩
    show pyEqL (P.map pr) (P.map pr) = true
    rw [pyEqL_prs]; simp
def dullL (S : Sh) : List (List Pt) := (comb S.2.2).filter fun P => !decide (P ∈ TL S)
theorem dull_ev (ns ds : List Int) {S O : Sh} (k6 : Ok6 S) (kO : Ok O) (b2 b3 b4 b5 b6 b8 b9 b10 b11 b14 b15 b16 b17 b19 b20 b21 b22 b23 b24 : Bx) :
    ∃ c8, runs g_law ((c_law.drop 13).take 1) (Lt ns ds S O b2 b3 b4 b5 b6 (.sh (.d (.lst ((TL S).map pt)))) b8 b9 b10 b11 b14 b15 b16 b17 (.sh (.d (pt S.2.2))) b19 b20 b21 b22 b23 b24) = .nx (Lt ns ds S O b2 b3 b4 b5 b6 (.sh (.d (.lst ((TL S).map pt)))) c8 b9 b10 b11 b14 b15 b16 b17 (.sh (.d (pt S.2.2))) b19 b20 b21 b22 b23 b24) := by
  have k := k6.ok
  have g8 : g_law.fns[8]? = some f__law_sets := rfl
  have se := sets_ev k6.len k.sa
  have c1 := cut_le ((dullL S).map pt) none (some 20)
  have dl : (dullL S).length ≤ 256 := Nat.le_trans (List.length_filter_le _ _) (comb_len k.sa k6.len)
  rw [List.length_map] at c1
  obtain ⟨Γ', e, c8, rfl⟩ := forR_inv (f := fun x Γ => oout (bindT (.name 8) x Γ) fun Γ' => runs g_law b_law_6 Γ') (xs := cutP ((dullL S).map pt) none (some 20) ++ odd5 S.2.2) (Γ := Lt ns ds S O b2 b3 b4 b5 b6 (.sh (.d (.lst ((TL S).map pt)))) b8 b9 b10 b11 b14 b15 b16 b17 (.sh (.d (pt S.2.2))) b19 b20 b21 b22 b23 b24)
    (fun _ Γ => ∃ c8, Γ = Lt ns ds S O b2 b3 b4 b5 b6 (.sh (.d (.lst ((TL S).map pt)))) c8 b9 b10 b11 b14 b15 b16 b17 (.sh (.d (pt S.2.2))) b19 b20 b21 b22 b23 b24) ⟨_, rfl⟩ fun i x Γ hx ⟨c8, hΓ⟩ => by
      subst hΓ
      have sn : f_pose_seen [.d (sv S), .d x, .d (sv O)] = .exc 2 := by
        rcases List.mem_append.mp (List.mem_of_getElem? hx) with h | h
        · obtain ⟨P, hP, rfl⟩ := List.mem_map.mp (cut_mem h)
          obtain ⟨h1, h2⟩ := List.mem_filter.mp hP
          have kP := comb_ok k h1
          have sl := comb_mem.mp h1
          refine seen_dull k kO P kP.len kP.rg kP.sa (fun x hx => sl.subset hx) ?_
          cases t : tells S.1 S.2.1 P with
          | false => rfl
          | true =>
            have : P ∈ TL S := List.mem_filter.mpr ⟨h1, t⟩
            simp [this] at h2
        · exact odd_seen k6 kO x h
      rw [bindT_name, oout_some]
      exact ⟨_, .inl (tell_word ns ds sn b2 b3 b4 b5 b6 (.sh (.d (.lst ((TL S).map pt)))) b9 b10 b11 b14 b15 b16 b17 (.sh (.d (pt S.2.2))) b19 b20 b21 b22 b23 b24), _, rfl⟩
  refine ⟨c8, for_step ?_ e⟩
  have rv : revop (.d (pt S.2.2)) = .ok (.d (pt S.2.2.reverse)) := by
    show Res.ok (SV.d (.tup (S.2.2.map pr).reverse)) = _
    rw [← List.map_reverse]; rfl
  have ad : binop .add (.d (pt S.2.2.reverse)) (.d (.tup [.tup [.int 0, .int 0]])) = .ok (.d (pt (S.2.2.reverse ++ [(0, 0)]))) := by
    have := k6.len
    unfold pt
    rw [binop_tup _ _ (by simp; unfold line; omega), List.map_append]; rfl
  have ls : f1op .list (.d (pt S.2.2)) = .ok (.d (.lst (S.2.2.map pr))) := rfl
  simp [evI, ev, evL, evO, Lt, g8, se, rv, ad, ls]
  rw [mapR_comp, mapR_opt (g := fun P => if !decide (P ∈ TL S) then some (pt P) else none) (fun P hP => by
    simp [evC, ev, notin_pt])]
  have ff : (comb S.2.2).filterMap (fun P => if !decide (P ∈ TL S) then some (pt P) else none) = (dullL S).map pt := by
    unfold dullL
    generalize comb S.2.2 = W
    induction W with
    | nil => rfl
    | cons x xs ih =>
      rw [List.filterMap_cons, List.filter_cons, ih]
      cases (!decide (x ∈ TL S)) <;> simp
  rw [ff]
  have s1 : slop (.d (.lst ((dullL S).map pt))) none (some 20) = .ok (.d (.lst (cutP ((dullL S).map pt) none (some 20)))) := rfl
  simp only [Res.bind_ok, s1]
  rw [binop_lst _ _ (by show _ + 5 ≤ line; unfold line; omega)]
  rfl
end K87
end

section
set_option autoImplicit false
set_option linter.all false
set_option maxRecDepth 100000
namespace K87
open Bw
theorem sheet_err {x : PV} (h : f__check_sheet [.d x] = .exc 0) (y z : PV) : ∀ c : Nat, c = 0 ∨ c = 1 ∨ c = 2 ∨ c = 4 ∨ c = 5 → f__law_error [.d (.int (c : Int)), .d x, .d y, .d z] = .ok (.d (.str "sheet")) := by
  intro c hc
  rcases hc with rfl | rfl | rfl | rfl | rfl
  · exact err_of 0 0 (by decide) (by decide) x y z (posed_sheet h)
  · exact err_of 1 0 (by decide) (by decide) x y z (own_sheet h)
  · exact err_of 2 0 (by decide) (by decide) x y z (for_sheet h)
  · exact err_of 4 0 (by decide) (by decide) x y z (few_sheet h)
  · exact err_of 5 0 (by decide) (by decide) x y z (seen_sheet h)
theorem b7_ev (ns ds : List Int) {S O : Sh} (k : Ok S) {x : PV} (h : f__check_sheet [.d x] = .exc 0) (b2 b3 b4 b5 b6 b7 b8 b9 b11 b14 b15 b16 b17 b18 b19 b20 b21 b22 b23 b24 : Bx) :
    ∃ c19, runs g_law b_law_7 (Lt ns ds S O b2 b3 b4 b5 b6 b7 b8 b9 (.sh (.d x)) b11 b14 b15 b16 b17 b18 b19 b20 b21 b22 b23 b24) = .nx (Lt ns ds S O b2 b3 b4 b5 b6 b7 b8 b9 (.sh (.d x)) b11 b14 b15 b16 b17 b18 c19 b20 b21 b22 b23 b24) := by
  have g11 : g_law.fns[11]? = some f__law_error := rfl
  have e0 : f__law_error [.d (.int 0), .d x, .d (.int 0), .d .non] = _ := sheet_err h (.int 0) .non 0 (by simp)
  have e1 : f__law_error [.d (.int 1), .d x, .d .non, .d .non] = _ := sheet_err h .non .non 1 (by simp)
  have e4 : f__law_error [.d (.int 4), .d x, .d .non, .d .non] = _ := sheet_err h .non .non 4 (by simp)
  have e5 : f__law_error [.d (.int 5), .d x, .d (.tup []), .d (sv O)] = _ := sheet_err h (.tup []) (sv O) 5 (by simp)
  have e2 : f__law_error [.d (.int 2), .d x, .d (sv S), .d .non] = _ := sheet_err h (sv S) .non 2 (by simp)
  have e3 : f__law_error [.d (.int 3), .d x, .d (sv S), .d .non] = _ := err_of 3 0 (by decide) (by decide) x (sv S) .non (for_sheet2 k h)
  have e5b : f__law_error [.d (.int 5), .d (sv S), .d (.tup []), .d x] = _ := err_of 5 0 (by decide) (by decide) (sv S) (.tup []) x (seen_sheet2 k h)
  have m4 : binop .mul (.d (.lst [.str "sheet"])) (.d (.int 4)) = .ok (.d (.lst [.str "sheet", .str "sheet", .str "sheet", .str "sheet"])) := rfl
  have m2 : binop .mul (.d (.lst [.str "sheet"])) (.d (.int 2)) = .ok (.d (.lst [.str "sheet", .str "sheet"])) := rfl
  have n4 : cmpop .ne (.d (.lst [.str "sheet", .str "sheet", .str "sheet", .str "sheet"])) (.d (.lst [.str "sheet", .str "sheet", .str "sheet", .str "sheet"])) = .ok false := ne_same rfl
  have n2 : cmpop .ne (.d (.lst [.str "sheet", .str "sheet"])) (.d (.lst [.str "sheet", .str "sheet"])) = .ok false := ne_same rfl
  simp [word] at e3 e5b
  refine ⟨.sh (.d (.lst [.str "sheet", .str "sheet", .str "sheet", .str "sheet"])), ?_⟩
  simp [b_law_7, Lt, runs, run, ev, evL, evI, evC, g11, e0, e1, e4, e5, e5b, m4, n4, m2]
  simp [mapR, e2, e3, n2]
theorem wrong_ev (ns ds : List Int) {S O : Sh} (k : Ok S) (b2 b3 b4 b5 b6 b7 b8 b9 b10 b11 b14 b15 b16 b17 b18 b19 b20 b21 b22 b23 b24 : Bx) :
    ∃ c9 c10 c19, runs g_law ((c_law.drop 14).take 2) (Lt ns ds S O b2 b3 b4 b5 b6 b7 b8 b9 b10 b11 b14 b15 b16 b17 b18 b19 b20 b21 b22 b23 b24) = .nx (Lt ns ds S O b2 b3 b4 b5 b6 b7 b8 c9 c10 b11 b14 b15 b16 b17 b18 c19 b20 b21 b22 b23 b24) := by
  obtain ⟨Γ', e, c10, c19, rfl⟩ := forR_inv (f := fun x Γ => oout (bindT (.name 10) x Γ) fun Γ' => runs g_law b_law_7 Γ') (xs := wrongs ++ wrongs2) (Γ := Lt ns ds S O b2 b3 b4 b5 b6 b7 b8 (.sh (.d (.lst wrongs))) b10 b11 b14 b15 b16 b17 b18 b19 b20 b21 b22 b23 b24)
    (fun _ Γ => ∃ c10 c19, Γ = Lt ns ds S O b2 b3 b4 b5 b6 b7 b8 (.sh (.d (.lst wrongs))) c10 b11 b14 b15 b16 b17 b18 c19 b20 b21 b22 b23 b24) ⟨_, _, rfl⟩ fun i x Γ hx ⟨c10, c19, hΓ⟩ => by
      subst hΓ
      obtain ⟨d19, e⟩ := b7_ev ns ds (O := O) k (wrong_bad x (List.mem_of_getElem? hx)) b2 b3 b4 b5 b6 b7 b8 (.sh (.d (.lst wrongs))) b11 b14 b15 b16 b17 b18 c19 b20 b21 b22 b23 b24
      rw [bindT_name, oout_some]
      exact ⟨_, .inl e, _, _, rfl⟩
  refine ⟨.sh (.d (.lst wrongs)), c10, c19, ?_⟩
  have l1 : runs g_law ((c_law.drop 14).take 1) (Lt ns ds S O b2 b3 b4 b5 b6 b7 b8 b9 b10 b11 b14 b15 b16 b17 b18 b19 b20 b21 b22 b23 b24) = .nx (Lt ns ds S O b2 b3 b4 b5 b6 b7 b8 (.sh (.d (.lst wrongs))) b10 b11 b14 b15 b16 b17 b18 b19 b20 b21 b22 b23 b24) := by
    simp [c_law, Lt, runs, run, ev, evL, wrongs]
  have r11 : rng? 0 11 1 = .ok ((List.range 11).map fun (i : Nat) => PV.int (i : Int)) := by rw [rng_ok (by decide) (by decide) (by decide) (by decide)]; simp
  rw [show (c_law.drop 14).take 2 = (c_law.drop 14).take 1 ++ (c_law.drop 15).take 1 from rfl, runs_append, l1, Out.next_nx]
  refine for_step ?_ e
  simp [evI, ev, evL, evC, Lt, r11]
  rw [mapR_comp, mapR_map (g := fun i : Nat => PV.tup [.int 0, .int (i : Int)]) (fun i hi => by simp)]
  simp only [Res.bind_ok, f_tup, data_d, datas_cons, datas_nil]
  rw [binop_lst _ _ (by show 9 + 2 ≤ 16777216; omega)]
  rfl
theorem pose_ev (ns ds : List Int) {S O : Sh} (k : Ok S) (b2 b3 b4 b5 b6 b7 b8 b9 b10 b11 b14 b15 b16 b17 b18 b19 b20 b21 b22 b23 b24 : Bx) :
    (runs g_law (c_law.drop 16) (Lt ns ds S O b2 b3 b4 b5 b6 b7 b8 b9 b10 b11 b14 b15 b16 b17 b18 b19 b20 b21 b22 b23 b24)).fin = .ok (.d (.bl true)) := by
  have g11 : g_law.fns[11]? = some f__law_error := rfl
  have e0 : ∀ x ∈ badPose, f__law_error [.d (.int 0), .d (sv S), .d x, .d .non] = .ok (.d (.str "pose")) := fun x hx => err_of 0 1 (by decide) (by decide) (sv S) x .non (posed_pose k (check_pose_bad x hx))
  have e6 : ∀ x ∈ badPose, f__law_error [.d (.int 6), .d x, .d (.int 0), .d .non] = .ok (.d (.str "pose")) := fun x hx => err_of 6 1 (by decide) (by decide) x (.int 0) .non (beh_pose (check_pose_bad x hx))
  have e6b : ∀ x ∈ badPose, f__law_error [.d (.int 6), .d (.int 0), .d x, .d .non] = .ok (.d (.str "pose")) := fun x hx => err_of 6 1 (by decide) (by decide) (.int 0) x .non (beh_pose2 (check_pose_bad x hx))
  have e7 : ∀ x ∈ badPose, f__law_error [.d (.int 7), .d x, .d .non, .d .non] = .ok (.d (.str "pose")) := fun x hx => err_of 7 1 (by decide) (by decide) x .non .non (und_pose (check_pose_bad x hx))
  have l1 : runs g_law ((c_law.drop 16).take 1) (Lt ns ds S O b2 b3 b4 b5 b6 b7 b8 b9 b10 b11 b14 b15 b16 b17 b18 b19 b20 b21 b22 b23 b24) = .nx (Lt ns ds S O b2 b3 b4 b5 b6 b7 b8 b9 b10 (.sh (.d (.tup badPose))) b14 b15 b16 b17 b18 b19 b20 b21 b22 b23 b24) := rfl
  have fa := f_all (fun _ : PV => true) badPose
  have l2 : runs g_law ((c_law.drop 17).take 1) (Lt ns ds S O b2 b3 b4 b5 b6 b7 b8 b9 b10 (.sh (.d (.tup badPose))) b14 b15 b16 b17 b18 b19 b20 b21 b22 b23 b24) = .nx (Lt ns ds S O b2 b3 b4 b5 b6 b7 b8 b9 b10 (.sh (.d (.tup badPose))) b14 b15 b16 b17 b18 b19 b20 b21 b22 b23 b24) := by
    simp [c_law, Lt, runs, run, ev, evL, evI, evC, g11]
    rw [mapR_map (g := fun _ : PV => PV.bl true) (fun x hx => by simp [e0 x hx, e6 x hx, e6b x hx])]
    simp only [Res.bind_ok, fa]
    simp
  have mm : binop .mul (.d (.lst [.str "pose"])) (.d (.int 5)) = .ok (.d (.lst [.str "pose", .str "pose", .str "pose", .str "pose", .str "pose"])) := rfl
  have l3 : (runs g_law (c_law.drop 18) (Lt ns ds S O b2 b3 b4 b5 b6 b7 b8 b9 b10 (.sh (.d (.tup badPose))) b14 b15 b16 b17 b18 b19 b20 b21 b22 b23 b24)).fin = .ok (.d (.bl true)) := by
    simp [c_law, Lt, runs, run, ev, evL, evI, evC, g11, mm]
    rw [mapR_map (g := fun _ : PV => PV.str "pose") (fun x hx => by simp [e7 x hx])]
    rfl
  rw [show c_law.drop 16 = (c_law.drop 16).take 1 ++ ((c_law.drop 17).take 1 ++ c_law.drop 18) from rfl, runs_append, l1, Out.next_nx, runs_append, l2, Out.next_nx, l3]
theorem law_true : ∀ ns : List Int, ns.length ≤ 63 → f_law [.scr ns] = .ok (.d (.bl true)) := by
  intro ns h
  obtain ⟨ds, hl, hd, e⟩ := draws_ev ns h 50 (by decide)
  have e : f__law_draws [.scr ns, .d (.int 50)] = .ok (.d (li ds)) := e
  have g0 : g_law.fns[0]? = some f__law_draws := rfl
  have g1 : g_law.fns[1]? = some f__law_sheet := rfl
  obtain ⟨S, k6, eS⟩ := law_sheet_ev ds hd (by omega)
  obtain ⟨O, kO6, eO⟩ := law_sheet_ev (ds.drop 11) (fun x hx => hd x (List.mem_of_mem_drop hx)) (by rw [List.length_drop]; omega)
  have sl : slop (.d (li ds)) (some 11) none = .ok (.d (li (ds.drop 11))) := by
    rw [sl_li, show (some 11 : Option Int) = some ((11 : Nat) : Int) from rfl, cut_from]
  have k := k6.ok
  have kO := kO6.ok
  show (runs g_law c_law ([.sh (.scr ns)] ++ List.replicate 24 .no)).fin = _
  have l0 : runs g_law (c_law.take 2) ([.sh (.scr ns)] ++ List.replicate 24 .no) = .nx (Lt ns ds S O .no .no .no .no .no .no .no .no .no .no .no .no .no .no .no .no .no .no .no .no .no) := by
    simp [c_law, runs, run, ev, evL, evO, g0, g1, e, eS, eO, sl, List.replicate, Lt]
  have l1 := head_ev ns ds (O := O) k .no .no .no .no .no .no .no .no .no .no .no .no .no .no .no .no .no .no .no .no .no
  obtain ⟨c4, c14, c20, l2⟩ := group_ev ns ds (O := O) k .no .no .no .no .no .no .no .no .no .no .no .no .no .no .no .no .no .no .no
  have l3 := own_ev ns ds (O := O) k (.sh (.d (sv odS))) c4 .no .no .no .no .no .no .no c14 .no .no .no .no .no c20 .no .no .no .no
  obtain ⟨c6, c15, l4⟩ := there_ev ns ds k kO (.sh (.d (sv odS))) c4 .no .no .no .no .no .no c14 .no .no .no .no .no c20 .no .no .no .no
  have l5 := tell_ev ns ds (O := O) k k6.len (.sh (.d (fcs S))) (.sh (.d (sv odS))) c4 (.sh (.d (tn8 (due8 S S)))) c6 .no .no .no .no .no c14 c15 .no .no .no .no c20 .no .no .no .no
  obtain ⟨d4, d8, d15, l6⟩ := some_ev ns ds k kO k6.len (.sh (.d (fcs S))) (.sh (.d (sv odS))) c4 (.sh (.d (tn8 (due8 S S)))) c6 .no .no .no .no c14 c15 .no c20 .no .no .no .no
  obtain ⟨d8', l7⟩ := dull_ev ns ds k6 kO (.sh (.d (fcs S))) (.sh (.d (sv odS))) d4 (.sh (.d (tn8 (due8 S S)))) c6 d8 .no .no .no c14 d15 (.sh (.d (.int S.1))) (.sh (.d (.int S.2.1))) .no c20 .no .no .no .no
  obtain ⟨d9, d10, d19, l8⟩ := wrong_ev ns ds (O := O) k (.sh (.d (fcs S))) (.sh (.d (sv odS))) d4 (.sh (.d (tn8 (due8 S S)))) c6 (.sh (.d (.lst ((TL S).map pt)))) d8' .no .no .no c14 d15 (.sh (.d (.int S.1))) (.sh (.d (.int S.2.1))) (.sh (.d (pt S.2.2))) .no c20 .no .no .no .no
  rw [show c_law = c_law.take 2 ++ ((c_law.drop 2).take 3 ++ ([.for (.name 4) (.rng1 (.int 8)) b_law_2] ++ ((c_law.drop 6).take 2 ++ ([.for (.name 6) (.seq (.bin .add (.var 2) (.lst [.var 13]))) b_law_3] ++ ((c_law.drop 9).take 3 ++ ([.for (.name 8) (.seq (.bin .add (.sl (.var 7) none (some (.int 3))) (.sl (.var 7) (some (.neg (.int 2))) none))) b_law_5] ++ ((c_law.drop 13).take 1 ++ ((c_law.drop 14).take 2 ++ c_law.drop 16)))))))) from rfl]
  rw [runs_append, l0, Out.next_nx, runs_append, l1, Out.next_nx, runs_append, l2, Out.next_nx, runs_append, l3, Out.next_nx, runs_append, l4, Out.next_nx, runs_append, l5, Out.next_nx, runs_append, l6, Out.next_nx, runs_append, l7, Out.next_nx, runs_append, l8, Out.next_nx]
  exact pose_ev ns ds k _ _ _ _ _ _ _ _ _ _ _ _ _ _ _ _ _ _ _ _ _
end K87
end

section
set_option autoImplicit false
set_option linter.all false
set_option maxRecDepth 100000
namespace K87
open PySem L2 Bw
def top (i : Nat) : Stmt := PySem.Challenge.pw_boardwright_k87_whole_poses.main.body.getD i (.Pass ⟨0, 0, 0, 0⟩)
def i__law_draws : Inf := ⟨["script", "many", "draws", "seed", "cell", "k", "number"], [], [], ["BadSheet", "BadPose", "NotTelling"]⟩
abbrev s__law_draws : Stmt := top 28
theorem sc__law_draws : FnScope i__law_draws.N ["script", "many"] (defScope s__law_draws) := ⟨by decide +kernel, by decide +kernel, by decide +kernel, by decide +kernel, by decide +kernel, by decide +kernel, by decide +kernel⟩
theorem ok__law_draws : okSs i__law_draws (defScope s__law_draws) c__law_draws (defBody s__law_draws) = true := by decide +kernel
def i__law_sheet : Inf := ⟨["draws", "width", "k", "height", "points", "row", "column"], [], [], ["BadSheet", "BadPose", "NotTelling"]⟩
abbrev s__law_sheet : Stmt := top 30
theorem sc__law_sheet : FnScope i__law_sheet.N ["draws"] (defScope s__law_sheet) := ⟨by decide +kernel, by decide +kernel, by decide +kernel, by decide +kernel, by decide +kernel, by decide +kernel, by decide +kernel⟩
theorem ok__law_sheet : okSs i__law_sheet (defScope s__law_sheet) c__law_sheet (defBody s__law_sheet) = true := by decide +kernel
def i__law_posed : Inf := ⟨["sheet", "pose", "steps", "step", "height", "width", "points", "row", "column"], [], [], ["BadSheet", "BadPose", "NotTelling"]⟩
abbrev s__law_posed : Stmt := top 29
theorem sc__law_posed : FnScope i__law_posed.N ["sheet", "pose"] (defScope s__law_posed) := ⟨by decide +kernel, by decide +kernel, by decide +kernel, by decide +kernel, by decide +kernel, by decide +kernel, by decide +kernel⟩
theorem ok__law_posed : okSs i__law_posed (defScope s__law_posed) c__law_posed (defBody s__law_posed) = true := by decide +kernel
def i_is_whole : Inf := ⟨["value", "least", "most"], [], [], ["BadSheet", "BadPose", "NotTelling"]⟩
abbrev s_is_whole : Stmt := top 6
theorem sc_is_whole : FnScope i_is_whole.N ["value", "least", "most"] (defScope s_is_whole) := ⟨by decide +kernel, by decide +kernel, by decide +kernel, by decide +kernel, by decide +kernel, by decide +kernel, by decide +kernel⟩
theorem ok_is_whole : okSs i_is_whole (defScope s_is_whole) c_is_whole (defBody s_is_whole) = true := by decide +kernel
def i_ascends : Inf := ⟨["values", "one", "later"], [], [], ["BadSheet", "BadPose", "NotTelling"]⟩
abbrev s_ascends : Stmt := top 7
theorem sc_ascends : FnScope i_ascends.N ["values"] (defScope s_ascends) := ⟨by decide +kernel, by decide +kernel, by decide +kernel, by decide +kernel, by decide +kernel, by decide +kernel, by decide +kernel⟩
theorem ok_ascends : okSs i_ascends (defScope s_ascends) c_ascends (defBody s_ascends) = true := by decide +kernel
def i__are_points : Inf := ⟨["height", "width", "value", "point"], ["is_whole", "ascends"], ["MOST_POINTS"], ["BadSheet", "BadPose", "NotTelling"]⟩
abbrev s__are_points : Stmt := top 13
theorem sc__are_points : FnScope i__are_points.N ["height", "width", "value"] (defScope s__are_points) := ⟨by decide +kernel, by decide +kernel, by decide +kernel, by decide +kernel, by decide +kernel, by decide +kernel, by decide +kernel⟩
theorem ok__are_points : okSs i__are_points (defScope s__are_points) c__are_points (defBody s__are_points) = true := by decide +kernel
def i__check_sheet : Inf := ⟨["sheet"], ["is_whole", "_are_points"], ["MOST_SIDE"], ["BadSheet", "BadPose", "NotTelling"]⟩
abbrev s__check_sheet : Stmt := top 14
theorem sc__check_sheet : FnScope i__check_sheet.N ["sheet"] (defScope s__check_sheet) := ⟨by decide +kernel, by decide +kernel, by decide +kernel, by decide +kernel, by decide +kernel, by decide +kernel, by decide +kernel⟩
theorem ok__check_sheet : okSs i__check_sheet (defScope s__check_sheet) c__check_sheet (defBody s__check_sheet) = true := by decide +kernel
def i__check_pose : Inf := ⟨["pose"], ["is_whole"], ["POSES"], ["BadSheet", "BadPose", "NotTelling"]⟩
abbrev s__check_pose : Stmt := top 15
theorem sc__check_pose : FnScope i__check_pose.N ["pose"] (defScope s__check_pose) := ⟨by decide +kernel, by decide +kernel, by decide +kernel, by decide +kernel, by decide +kernel, by decide +kernel, by decide +kernel⟩
theorem ok__check_pose : okSs i__check_pose (defScope s__check_pose) c__check_pose (defBody s__check_pose) = true := by decide +kernel
def i__posed : Inf := ⟨["sheet", "pose", "_quarter", "height", "width", "points", "row", "column"], [], ["QUARTERS"], ["BadSheet", "BadPose", "NotTelling"]⟩
abbrev s__posed : Stmt := top 16
theorem sc__posed : FnScope i__posed.N ["sheet", "pose"] (defScope s__posed) := ⟨by decide +kernel, by decide +kernel, by decide +kernel, by decide +kernel, by decide +kernel, by decide +kernel, by decide +kernel⟩
theorem ok__posed : okSs i__posed (defScope s__posed) c__posed (defBody s__posed) = true := by decide +kernel
def i_posed : Inf := ⟨["sheet", "pose"], ["_check_sheet", "_check_pose", "_posed"], [], ["BadSheet", "BadPose", "NotTelling"]⟩
abbrev s_posed : Stmt := top 17
theorem sc_posed : FnScope i_posed.N ["sheet", "pose"] (defScope s_posed) := ⟨by decide +kernel, by decide +kernel, by decide +kernel, by decide +kernel, by decide +kernel, by decide +kernel, by decide +kernel⟩
theorem ok_posed : okSs i_posed (defScope s_posed) c_posed (defBody s_posed) = true := by decide +kernel
def i_undone : Inf := ⟨["pose"], ["_check_pose"], ["QUARTERS"], ["BadSheet", "BadPose", "NotTelling"]⟩
abbrev s_undone : Stmt := top 19
theorem sc_undone : FnScope i_undone.N ["pose"] (defScope s_undone) := ⟨by decide +kernel, by decide +kernel, by decide +kernel, by decide +kernel, by decide +kernel, by decide +kernel, by decide +kernel⟩
theorem ok_undone : okSs i_undone (defScope s_undone) c_undone (defBody s_undone) = true := by decide +kernel
def i_behind : Inf := ⟨["pose", "other", "left", "turned", "more"], ["_check_pose"], ["QUARTERS"], ["BadSheet", "BadPose", "NotTelling"]⟩
abbrev s_behind : Stmt := top 18
theorem sc_behind : FnScope i_behind.N ["pose", "other"] (defScope s_behind) := ⟨by decide +kernel, by decide +kernel, by decide +kernel, by decide +kernel, by decide +kernel, by decide +kernel, by decide +kernel⟩
theorem ok_behind : okSs i_behind (defScope s_behind) c_behind (defBody s_behind) = true := by decide +kernel
def i__poses_for : Inf := ⟨["sheet", "other", "pose"], ["_posed"], ["POSES"], ["BadSheet", "BadPose", "NotTelling"]⟩
abbrev s__poses_for : Stmt := top 20
theorem sc__poses_for : FnScope i__poses_for.N ["sheet", "other"] (defScope s__poses_for) := ⟨by decide +kernel, by decide +kernel, by decide +kernel, by decide +kernel, by decide +kernel, by decide +kernel, by decide +kernel⟩
theorem ok__poses_for : okSs i__poses_for (defScope s__poses_for) c__poses_for (defBody s__poses_for) = true := by decide +kernel
def i_own_poses : Inf := ⟨["sheet"], ["_check_sheet", "_poses_for"], [], ["BadSheet", "BadPose", "NotTelling"]⟩
abbrev s_own_poses : Stmt := top 21
theorem sc_own_poses : FnScope i_own_poses.N ["sheet"] (defScope s_own_poses) := ⟨by decide +kernel, by decide +kernel, by decide +kernel, by decide +kernel, by decide +kernel, by decide +kernel, by decide +kernel⟩
theorem ok_own_poses : okSs i_own_poses (defScope s_own_poses) c_own_poses (defBody s_own_poses) = true := by decide +kernel
def i_poses_for : Inf := ⟨["sheet", "other"], ["_check_sheet", "_poses_for"], [], ["BadSheet", "BadPose", "NotTelling"]⟩
abbrev s_poses_for : Stmt := top 22
theorem sc_poses_for : FnScope i_poses_for.N ["sheet", "other"] (defScope s_poses_for) := ⟨by decide +kernel, by decide +kernel, by decide +kernel, by decide +kernel, by decide +kernel, by decide +kernel, by decide +kernel⟩
theorem ok_poses_for : okSs i_poses_for (defScope s_poses_for) c_poses_for (defBody s_poses_for) = true := by decide +kernel
def i__law_sets : Inf := ⟨["points", "found", "point", "size", "one"], [], [], ["BadSheet", "BadPose", "NotTelling"]⟩
abbrev s__law_sets : Stmt := top 31
theorem sc__law_sets : FnScope i__law_sets.N ["points"] (defScope s__law_sets) := ⟨by decide +kernel, by decide +kernel, by decide +kernel, by decide +kernel, by decide +kernel, by decide +kernel, by decide +kernel⟩
theorem ok__law_sets : okSs i__law_sets (defScope s__law_sets) c__law_sets (defBody s__law_sets) = true := by decide +kernel
def i__chosen : Inf := ⟨["points", "begin", "many", "found", "place", "rest"], ["_chosen"], [], ["BadSheet", "BadPose", "NotTelling"]⟩
abbrev s__chosen : Stmt := top 24
theorem sc__chosen : FnScope i__chosen.N ["points", "begin", "many"] (defScope s__chosen) := ⟨by decide +kernel, by decide +kernel, by decide +kernel, by decide +kernel, by decide +kernel, by decide +kernel, by decide +kernel⟩
theorem ok__chosen : okSs i__chosen (defScope s__chosen) c__chosen (defBody s__chosen) = true := by decide +kernel
def i__tells : Inf := ⟨["sheet", "points", "alone"], ["_poses_for"], [], ["BadSheet", "BadPose", "NotTelling"]⟩
abbrev s__tells : Stmt := top 23
theorem sc__tells : FnScope i__tells.N ["sheet", "points"] (defScope s__tells) := ⟨by decide +kernel, by decide +kernel, by decide +kernel, by decide +kernel, by decide +kernel, by decide +kernel, by decide +kernel⟩
theorem ok__tells : okSs i__tells (defScope s__tells) c__tells (defBody s__tells) = true := by decide +kernel
def i_fewest_telling : Inf := ⟨["sheet", "many", "points"], ["_check_sheet", "_chosen", "_tells"], [], ["BadSheet", "BadPose", "NotTelling"]⟩
abbrev s_fewest_telling : Stmt := top 25
theorem sc_fewest_telling : FnScope i_fewest_telling.N ["sheet"] (defScope s_fewest_telling) := ⟨by decide +kernel, by decide +kernel, by decide +kernel, by decide +kernel, by decide +kernel, by decide +kernel, by decide +kernel⟩
theorem ok_fewest_telling : okSs i_fewest_telling (defScope s_fewest_telling) c_fewest_telling (defBody s_fewest_telling) = true := by decide +kernel
def i_pose_seen : Inf := ⟨["sheet", "points", "other", "found", "point"], ["_check_sheet", "_are_points", "_tells", "_poses_for"], [], ["BadSheet", "BadPose", "NotTelling"]⟩
abbrev s_pose_seen : Stmt := top 26
theorem sc_pose_seen : FnScope i_pose_seen.N ["sheet", "points", "other"] (defScope s_pose_seen) := ⟨by decide +kernel, by decide +kernel, by decide +kernel, by decide +kernel, by decide +kernel, by decide +kernel, by decide +kernel⟩
theorem ok_pose_seen : okSs i_pose_seen (defScope s_pose_seen) c_pose_seen (defBody s_pose_seen) = true := by decide +kernel
def i__law_error : Inf := ⟨["call", "one", "two", "three"], ["posed", "own_poses", "poses_for", "fewest_telling", "pose_seen", "behind", "undone"], [], ["BadSheet", "BadPose", "NotTelling"]⟩
abbrev s__law_error : Stmt := top 32
theorem sc__law_error : FnScope i__law_error.N ["call", "one", "two", "three"] (defScope s__law_error) := ⟨by decide +kernel, by decide +kernel, by decide +kernel, by decide +kernel, by decide +kernel, by decide +kernel, by decide +kernel⟩
theorem ok__law_error : okSs i__law_error (defScope s__law_error) c__law_error (defBody s__law_error) = true := by decide +kernel
def i_law : Inf := ⟨["script", "draws", "faces", "odd", "pose", "own", "there", "telling", "some", "wrongs", "wrong", "poses", "sheet", "other", "two", "due", "height", "width", "points", "told", "both", "one", "call", "three", "k"], ["_law_draws", "_law_sheet", "_law_posed", "posed", "undone", "behind", "own_poses", "poses_for", "_law_sets", "fewest_telling", "pose_seen", "_law_error"], [], ["BadSheet", "BadPose", "NotTelling"]⟩
abbrev s_law : Stmt := top 33
theorem sc_law : FnScope i_law.N ["script"] (defScope s_law) := ⟨by decide +kernel, by decide +kernel, by decide +kernel, by decide +kernel, by decide +kernel, by decide +kernel, by decide +kernel⟩
theorem ok_law : okSs i_law (defScope s_law) c_law (defBody s_law) = true := by decide +kernel
end K87
end

section
set_option autoImplicit false
set_option linter.all false
set_option maxRecDepth 100000
namespace K87
open PySem L2 Bw
theorem all_mk {l : PySem.W.OpenLaw} {w : World} {K : PySem.W.Frag} {h : Heap} {mg : Str → Option Value} {fa f1 f2 f3 f4 f5 f6 f7 f8 f9 f10 f11 f12 f13 f14 f15 f16 f17 f18 f19 f20 f21 f22 : Addr} (X : K.In h) (G : h.Ns mainGlobals mg) (hfa : mg "law" = some (.ref fa))
    {od1 an1 od2 an2 od3 an3 od4 an4 od5 an5 od6 an6 od7 an7 od8 an8 od9 an9 od10 an10 od11 an11 od12 an12 od13 an13 od14 an14 od15 an15 od16 an16 od17 an17 od18 an18 od19 an19 od20 an20 od21 an21 od22 an22 : Option Addr} {sl1 sl2 sl3 sl4 sl5 sl6 sl7 sl8 sl9 sl10 sl11 sl12 sl13 sl14 sl15 sl16 sl17 sl18 sl19 sl20 sl21 sl22 : Array (Option Value)} {oc1 kV1 dc1 pm1 cd1 ct1 oc2 kV2 dc2 pm2 cd2 ct2 oc3 kV3 dc3 pm3 cd3 ct3 oc4 kV4 dc4 pm4 cd4 ct4 oc5 kV5 dc5 pm5 cd5 ct5 oc6 kV6 dc6 pm6 cd6 ct6 oc7 kV7 dc7 pm7 cd7 ct7 oc8 kV8 dc8 pm8 cd8 ct8 oc9 kV9 dc9 pm9 cd9 ct9 oc10 kV10 dc10 pm10 cd10 ct10 oc11 kV11 dc11 pm11 cd11 ct11 oc12 kV12 dc12 pm12 cd12 ct12 oc13 kV13 dc13 pm13 cd13 ct13 oc14 kV14 dc14 pm14 cd14 ct14 oc15 kV15 dc15 pm15 cd15 ct15 oc16 kV16 dc16 pm16 cd16 ct16 oc17 kV17 dc17 pm17 cd17 ct17 oc18 kV18 dc18 pm18 cd18 ct18 oc19 kV19 dc19 pm19 cd19 ct19 oc20 kV20 dc20 pm20 cd20 ct20 oc21 kV21 dc21 pm21 cd21 ct21 oc22 kV22 dc22 pm22 cd22 ct22 : Value}
    {t_MOST_POINTS t_MOST_SIDE t_POSES t_QUARTERS : Tok}
    (a1 : PySem.W.nsIn K mainGlobals "_law_draws" = some (some (.ref f1))) (l1 : K.lookup f1 = some ⟨oc1, od1, .func (PySem.W.fnOf "_law_draws" "_law_draws" (defArgs s__law_draws) (defBody s__law_draws) (defScope s__law_draws) .none kV1 dc1 pm1 an1 cd1 ct1), sl1⟩) (c1 : PySem.W.codeIn K cd1 "_law_draws" = true) (k1 : PySem.W.keepIn K (.ref f1) = true)
    (a2 : PySem.W.nsIn K mainGlobals "_law_sheet" = some (some (.ref f2))) (l2 : K.lookup f2 = some ⟨oc2, od2, .func (PySem.W.fnOf "_law_sheet" "_law_sheet" (defArgs s__law_sheet) (defBody s__law_sheet) (defScope s__law_sheet) .none kV2 dc2 pm2 an2 cd2 ct2), sl2⟩) (c2 : PySem.W.codeIn K cd2 "_law_sheet" = true) (k2 : PySem.W.keepIn K (.ref f2) = true)
    (a3 : PySem.W.nsIn K mainGlobals "_law_posed" = some (some (.ref f3))) (l3 : K.lookup f3 = some ⟨oc3, od3, .func (PySem.W.fnOf "_law_posed" "_law_posed" (defArgs s__law_posed) (defBody s__law_posed) (defScope s__law_posed) .none kV3 dc3 pm3 an3 cd3 ct3), sl3⟩) (c3 : PySem.W.codeIn K cd3 "_law_posed" = true) (k3 : PySem.W.keepIn K (.ref f3) = true)
    (a4 : PySem.W.nsIn K mainGlobals "is_whole" = some (some (.ref f4))) (l4 : K.lookup f4 = some ⟨oc4, od4, .func (PySem.W.fnOf "is_whole" "is_whole" (defArgs s_is_whole) (defBody s_is_whole) (defScope s_is_whole) .none kV4 dc4 pm4 an4 cd4 ct4), sl4⟩) (c4 : PySem.W.codeIn K cd4 "is_whole" = true) (k4 : PySem.W.keepIn K (.ref f4) = true)
    (a5 : PySem.W.nsIn K mainGlobals "ascends" = some (some (.ref f5))) (l5 : K.lookup f5 = some ⟨oc5, od5, .func (PySem.W.fnOf "ascends" "ascends" (defArgs s_ascends) (defBody s_ascends) (defScope s_ascends) .none kV5 dc5 pm5 an5 cd5 ct5), sl5⟩) (c5 : PySem.W.codeIn K cd5 "ascends" = true) (k5 : PySem.W.keepIn K (.ref f5) = true)
    (a6 : PySem.W.nsIn K mainGlobals "_are_points" = some (some (.ref f6))) (l6 : K.lookup f6 = some ⟨oc6, od6, .func (PySem.W.fnOf "_are_points" "_are_points" (defArgs s__are_points) (defBody s__are_points) (defScope s__are_points) .none kV6 dc6 pm6 an6 cd6 ct6), sl6⟩) (c6 : PySem.W.codeIn K cd6 "_are_points" = true) (k6 : PySem.W.keepIn K (.ref f6) = true)
    (a7 : PySem.W.nsIn K mainGlobals "_check_sheet" = some (some (.ref f7))) (l7 : K.lookup f7 = some ⟨oc7, od7, .func (PySem.W.fnOf "_check_sheet" "_check_sheet" (defArgs s__check_sheet) (defBody s__check_sheet) (defScope s__check_sheet) .none kV7 dc7 pm7 an7 cd7 ct7), sl7⟩) (c7 : PySem.W.codeIn K cd7 "_check_sheet" = true) (k7 : PySem.W.keepIn K (.ref f7) = true)
    (a8 : PySem.W.nsIn K mainGlobals "_check_pose" = some (some (.ref f8))) (l8 : K.lookup f8 = some ⟨oc8, od8, .func (PySem.W.fnOf "_check_pose" "_check_pose" (defArgs s__check_pose) (defBody s__check_pose) (defScope s__check_pose) .none kV8 dc8 pm8 an8 cd8 ct8), sl8⟩) (c8 : PySem.W.codeIn K cd8 "_check_pose" = true) (k8 : PySem.W.keepIn K (.ref f8) = true)
    (a9 : PySem.W.nsIn K mainGlobals "_posed" = some (some (.ref f9))) (l9 : K.lookup f9 = some ⟨oc9, od9, .func (PySem.W.fnOf "_posed" "_posed" (defArgs s__posed) (defBody s__posed) (defScope s__posed) .none kV9 dc9 pm9 an9 cd9 ct9), sl9⟩) (c9 : PySem.W.codeIn K cd9 "_posed" = true) (k9 : PySem.W.keepIn K (.ref f9) = true)
    (a10 : PySem.W.nsIn K mainGlobals "posed" = some (some (.ref f10))) (l10 : K.lookup f10 = some ⟨oc10, od10, .func (PySem.W.fnOf "posed" "posed" (defArgs s_posed) (defBody s_posed) (defScope s_posed) .none kV10 dc10 pm10 an10 cd10 ct10), sl10⟩) (c10 : PySem.W.codeIn K cd10 "posed" = true) (k10 : PySem.W.keepIn K (.ref f10) = true)
    (a11 : PySem.W.nsIn K mainGlobals "undone" = some (some (.ref f11))) (l11 : K.lookup f11 = some ⟨oc11, od11, .func (PySem.W.fnOf "undone" "undone" (defArgs s_undone) (defBody s_undone) (defScope s_undone) .none kV11 dc11 pm11 an11 cd11 ct11), sl11⟩) (c11 : PySem.W.codeIn K cd11 "undone" = true) (k11 : PySem.W.keepIn K (.ref f11) = true)
    (a12 : PySem.W.nsIn K mainGlobals "behind" = some (some (.ref f12))) (l12 : K.lookup f12 = some ⟨oc12, od12, .func (PySem.W.fnOf "behind" "behind" (defArgs s_behind) (defBody s_behind) (defScope s_behind) .none kV12 dc12 pm12 an12 cd12 ct12), sl12⟩) (c12 : PySem.W.codeIn K cd12 "behind" = true) (k12 : PySem.W.keepIn K (.ref f12) = true)
    (a13 : PySem.W.nsIn K mainGlobals "_poses_for" = some (some (.ref f13))) (l13 : K.lookup f13 = some ⟨oc13, od13, .func (PySem.W.fnOf "_poses_for" "_poses_for" (defArgs s__poses_for) (defBody s__poses_for) (defScope s__poses_for) .none kV13 dc13 pm13 an13 cd13 ct13), sl13⟩) (c13 : PySem.W.codeIn K cd13 "_poses_for" = true) (k13 : PySem.W.keepIn K (.ref f13) = true)
    (a14 : PySem.W.nsIn K mainGlobals "own_poses" = some (some (.ref f14))) (l14 : K.lookup f14 = some ⟨oc14, od14, .func (PySem.W.fnOf "own_poses" "own_poses" (defArgs s_own_poses) (defBody s_own_poses) (defScope s_own_poses) .none kV14 dc14 pm14 an14 cd14 ct14), sl14⟩) (c14 : PySem.W.codeIn K cd14 "own_poses" = true) (k14 : PySem.W.keepIn K (.ref f14) = true)
    (a15 : PySem.W.nsIn K mainGlobals "poses_for" = some (some (.ref f15))) (l15 : K.lookup f15 = some ⟨oc15, od15, .func (PySem.W.fnOf "poses_for" "poses_for" (defArgs s_poses_for) (defBody s_poses_for) (defScope s_poses_for) .none kV15 dc15 pm15 an15 cd15 ct15), sl15⟩) (c15 : PySem.W.codeIn K cd15 "poses_for" = true) (k15 : PySem.W.keepIn K (.ref f15) = true)
    (a16 : PySem.W.nsIn K mainGlobals "_law_sets" = some (some (.ref f16))) (l16 : K.lookup f16 = some ⟨oc16, od16, .func (PySem.W.fnOf "_law_sets" "_law_sets" (defArgs s__law_sets) (defBody s__law_sets) (defScope s__law_sets) .none kV16 dc16 pm16 an16 cd16 ct16), sl16⟩) (c16 : PySem.W.codeIn K cd16 "_law_sets" = true) (k16 : PySem.W.keepIn K (.ref f16) = true)
    (a17 : PySem.W.nsIn K mainGlobals "_chosen" = some (some (.ref f17))) (l17 : K.lookup f17 = some ⟨oc17, od17, .func (PySem.W.fnOf "_chosen" "_chosen" (defArgs s__chosen) (defBody s__chosen) (defScope s__chosen) .none kV17 dc17 pm17 an17 cd17 ct17), sl17⟩) (c17 : PySem.W.codeIn K cd17 "_chosen" = true) (k17 : PySem.W.keepIn K (.ref f17) = true)
    (a18 : PySem.W.nsIn K mainGlobals "_tells" = some (some (.ref f18))) (l18 : K.lookup f18 = some ⟨oc18, od18, .func (PySem.W.fnOf "_tells" "_tells" (defArgs s__tells) (defBody s__tells) (defScope s__tells) .none kV18 dc18 pm18 an18 cd18 ct18), sl18⟩) (c18 : PySem.W.codeIn K cd18 "_tells" = true) (k18 : PySem.W.keepIn K (.ref f18) = true)
    (a19 : PySem.W.nsIn K mainGlobals "fewest_telling" = some (some (.ref f19))) (l19 : K.lookup f19 = some ⟨oc19, od19, .func (PySem.W.fnOf "fewest_telling" "fewest_telling" (defArgs s_fewest_telling) (defBody s_fewest_telling) (defScope s_fewest_telling) .none kV19 dc19 pm19 an19 cd19 ct19), sl19⟩) (c19 : PySem.W.codeIn K cd19 "fewest_telling" = true) (k19 : PySem.W.keepIn K (.ref f19) = true)
    (a20 : PySem.W.nsIn K mainGlobals "pose_seen" = some (some (.ref f20))) (l20 : K.lookup f20 = some ⟨oc20, od20, .func (PySem.W.fnOf "pose_seen" "pose_seen" (defArgs s_pose_seen) (defBody s_pose_seen) (defScope s_pose_seen) .none kV20 dc20 pm20 an20 cd20 ct20), sl20⟩) (c20 : PySem.W.codeIn K cd20 "pose_seen" = true) (k20 : PySem.W.keepIn K (.ref f20) = true)
    (a21 : PySem.W.nsIn K mainGlobals "_law_error" = some (some (.ref f21))) (l21 : K.lookup f21 = some ⟨oc21, od21, .func (PySem.W.fnOf "_law_error" "_law_error" (defArgs s__law_error) (defBody s__law_error) (defScope s__law_error) .none kV21 dc21 pm21 an21 cd21 ct21), sl21⟩) (c21 : PySem.W.codeIn K cd21 "_law_error" = true) (k21 : PySem.W.keepIn K (.ref f21) = true)
    (a22 : PySem.W.nsIn K mainGlobals "law" = some (some (.ref f22))) (l22 : K.lookup f22 = some ⟨oc22, od22, .func (PySem.W.fnOf "law" "law" (defArgs s_law) (defBody s_law) (defScope s_law) .none kV22 dc22 pm22 an22 cd22 ct22), sl22⟩) (c22 : PySem.W.codeIn K cd22 "law" = true) (k22 : PySem.W.keepIn K (.ref f22) = true)
    (ac_MOST_POINTS : PySem.W.nsIn K mainGlobals "MOST_POINTS" = some (some (Value.int (10) t_MOST_POINTS)))
    (ac_MOST_SIDE : PySem.W.nsIn K mainGlobals "MOST_SIDE" = some (some (Value.int (12) t_MOST_SIDE)))
    (ac_POSES : PySem.W.nsIn K mainGlobals "POSES" = some (some (Value.int (8) t_POSES)))
    (ac_QUARTERS : PySem.W.nsIn K mainGlobals "QUARTERS" = some (some (Value.int (4) t_QUARTERS)))
    {C_BadSheet : Addr} (gx_BadSheet : PySem.W.nsIn K mainGlobals "BadSheet" = some (some (.ref C_BadSheet))) (kx_BadSheet : PySem.W.keepIn K (.ref C_BadSheet) = true) (bx_BadSheet : PySem.W.subIn K (.ref C_BadSheet) (.type "BaseException") = some true) (tx_BadSheet : PySem.W.typeIn K (.ref C_BadSheet) = some (.type "type"))
    (xx_BadSheet : PySem.W.excIn K C_BadSheet [.type "ValueError", .type "Exception", .type "BaseException", .type "object"] "ValueError.__new__" = true)
    (ix_BadSheet : PySem.W.isClsIn K C_BadSheet = true)
    {C_BadPose : Addr} (gx_BadPose : PySem.W.nsIn K mainGlobals "BadPose" = some (some (.ref C_BadPose))) (kx_BadPose : PySem.W.keepIn K (.ref C_BadPose) = true) (bx_BadPose : PySem.W.subIn K (.ref C_BadPose) (.type "BaseException") = some true) (tx_BadPose : PySem.W.typeIn K (.ref C_BadPose) = some (.type "type"))
    (xx_BadPose : PySem.W.excIn K C_BadPose [.type "ValueError", .type "Exception", .type "BaseException", .type "object"] "ValueError.__new__" = true)
    (ix_BadPose : PySem.W.isClsIn K C_BadPose = true)
    {C_NotTelling : Addr} (gx_NotTelling : PySem.W.nsIn K mainGlobals "NotTelling" = some (some (.ref C_NotTelling))) (kx_NotTelling : PySem.W.keepIn K (.ref C_NotTelling) = true) (bx_NotTelling : PySem.W.subIn K (.ref C_NotTelling) (.type "BaseException") = some true) (tx_NotTelling : PySem.W.typeIn K (.ref C_NotTelling) = some (.type "type"))
    (xx_NotTelling : PySem.W.excIn K C_NotTelling [.type "ValueError", .type "Exception", .type "BaseException", .type "object"] "ValueError.__new__" = true)
    (ix_NotTelling : PySem.W.isClsIn K C_NotTelling = true)
    (sx_0_0 : PySem.W.subIn K (.ref C_BadSheet) (.ref C_BadSheet) = some true)
    (sx_0_1 : PySem.W.subIn K (.ref C_BadSheet) (.ref C_BadPose) = some false)
    (sx_0_2 : PySem.W.subIn K (.ref C_BadSheet) (.ref C_NotTelling) = some false)
    (sx_1_0 : PySem.W.subIn K (.ref C_BadPose) (.ref C_BadSheet) = some false)
    (sx_1_1 : PySem.W.subIn K (.ref C_BadPose) (.ref C_BadPose) = some true)
    (sx_1_2 : PySem.W.subIn K (.ref C_BadPose) (.ref C_NotTelling) = some false)
    (sx_2_0 : PySem.W.subIn K (.ref C_NotTelling) (.ref C_BadSheet) = some false)
    (sx_2_1 : PySem.W.subIn K (.ref C_NotTelling) (.ref C_BadPose) = some false)
    (sx_2_2 : PySem.W.subIn K (.ref C_NotTelling) (.ref C_NotTelling) = some true)
    (z_len : PySem.W.nsIn K mainGlobals "len" = some none)
    (z_abs : PySem.W.nsIn K mainGlobals "abs" = some none)
    (z_int : PySem.W.nsIn K mainGlobals "int" = some none)
    (z_sum : PySem.W.nsIn K mainGlobals "sum" = some none)
    (z_min : PySem.W.nsIn K mainGlobals "min" = some none)
    (z_max : PySem.W.nsIn K mainGlobals "max" = some none)
    (z_all : PySem.W.nsIn K mainGlobals "all" = some none)
    (z_any : PySem.W.nsIn K mainGlobals "any" = some none)
    (z_sorted : PySem.W.nsIn K mainGlobals "sorted" = some none)
    (z_tuple : PySem.W.nsIn K mainGlobals "tuple" = some none)
    (z_list : PySem.W.nsIn K mainGlobals "list" = some none)
    (z_isinstance : PySem.W.nsIn K mainGlobals "isinstance" = some none)
    (z_bool : PySem.W.nsIn K mainGlobals "bool" = some none)
    (z_str : PySem.W.nsIn K mainGlobals "str" = some none)
    (z_dict : PySem.W.nsIn K mainGlobals "dict" = some none)
    (z_range : PySem.W.nsIn K mainGlobals "range" = some none)
    (z_enumerate : PySem.W.nsIn K mainGlobals "enumerate" = some none)
    (z_zip : PySem.W.nsIn K mainGlobals "zip" = some none)
    (z_set : PySem.W.nsIn K mainGlobals "set" = some none)
    (hl : ∀ ns : List Int, ns.length ≤ 63 → f_law [.scr ns] = .ok (.d (.bl true))) :
    ∃ fd : FuncData, (∀ (s : Shared) (v : Value), BindsTo s fd ⟨[v], []⟩ [("script", v)]) ∧ ∀ base : Heap, K.In base → base.Ns mainGlobals mg → FnOk l.prog w K mg base CX0 65 fa fd ["script"] (spLaw K) := by
  have e := hfa.symm.trans (PySem.W.mg_of X G a22)
  cases e
  have F1 := fun_mk (st := s__law_draws) l1 c1 k1
  have b1 := F1.binds (ps := ["script", "many"]) fun _ _ _ _ _ _ us hl => match us, hl with | [_, _], _ => rfl
  have F2 := fun_mk (st := s__law_sheet) l2 c2 k2
  have b2 := F2.binds (ps := ["draws"]) fun _ _ _ _ _ _ us hl => match us, hl with | [_], _ => rfl
  have F3 := fun_mk (st := s__law_posed) l3 c3 k3
  have b3 := F3.binds (ps := ["sheet", "pose"]) fun _ _ _ _ _ _ us hl => match us, hl with | [_, _], _ => rfl
  have F4 := fun_mk (st := s_is_whole) l4 c4 k4
  have b4 := F4.binds (ps := ["value", "least", "most"]) fun _ _ _ _ _ _ us hl => match us, hl with | [_, _, _], _ => rfl
  have F5 := fun_mk (st := s_ascends) l5 c5 k5
  have b5 := F5.binds (ps := ["values"]) fun _ _ _ _ _ _ us hl => match us, hl with | [_], _ => rfl
  have F6 := fun_mk (st := s__are_points) l6 c6 k6
  have b6 := F6.binds (ps := ["height", "width", "value"]) fun _ _ _ _ _ _ us hl => match us, hl with | [_, _, _], _ => rfl
  have F7 := fun_mk (st := s__check_sheet) l7 c7 k7
  have b7 := F7.binds (ps := ["sheet"]) fun _ _ _ _ _ _ us hl => match us, hl with | [_], _ => rfl
  have F8 := fun_mk (st := s__check_pose) l8 c8 k8
  have b8 := F8.binds (ps := ["pose"]) fun _ _ _ _ _ _ us hl => match us, hl with | [_], _ => rfl
  have F9 := fun_mk (st := s__posed) l9 c9 k9
  have b9 := F9.binds (ps := ["sheet", "pose"]) fun _ _ _ _ _ _ us hl => match us, hl with | [_, _], _ => rfl
  have F10 := fun_mk (st := s_posed) l10 c10 k10
  have b10 := F10.binds (ps := ["sheet", "pose"]) fun _ _ _ _ _ _ us hl => match us, hl with | [_, _], _ => rfl
  have F11 := fun_mk (st := s_undone) l11 c11 k11
  have b11 := F11.binds (ps := ["pose"]) fun _ _ _ _ _ _ us hl => match us, hl with | [_], _ => rfl
  have F12 := fun_mk (st := s_behind) l12 c12 k12
  have b12 := F12.binds (ps := ["pose", "other"]) fun _ _ _ _ _ _ us hl => match us, hl with | [_, _], _ => rfl
  have F13 := fun_mk (st := s__poses_for) l13 c13 k13
  have b13 := F13.binds (ps := ["sheet", "other"]) fun _ _ _ _ _ _ us hl => match us, hl with | [_, _], _ => rfl
  have F14 := fun_mk (st := s_own_poses) l14 c14 k14
  have b14 := F14.binds (ps := ["sheet"]) fun _ _ _ _ _ _ us hl => match us, hl with | [_], _ => rfl
  have F15 := fun_mk (st := s_poses_for) l15 c15 k15
  have b15 := F15.binds (ps := ["sheet", "other"]) fun _ _ _ _ _ _ us hl => match us, hl with | [_, _], _ => rfl
  have F16 := fun_mk (st := s__law_sets) l16 c16 k16
  have b16 := F16.binds (ps := ["points"]) fun _ _ _ _ _ _ us hl => match us, hl with | [_], _ => rfl
  have F17 := fun_mk (st := s__chosen) l17 c17 k17
  have b17 := F17.binds (ps := ["points", "begin", "many"]) fun _ _ _ _ _ _ us hl => match us, hl with | [_, _, _], _ => rfl
  have F18 := fun_mk (st := s__tells) l18 c18 k18
  have b18 := F18.binds (ps := ["sheet", "points"]) fun _ _ _ _ _ _ us hl => match us, hl with | [_, _], _ => rfl
  have F19 := fun_mk (st := s_fewest_telling) l19 c19 k19
  have b19 := F19.binds (ps := ["sheet"]) fun _ _ _ _ _ _ us hl => match us, hl with | [_], _ => rfl
  have F20 := fun_mk (st := s_pose_seen) l20 c20 k20
  have b20 := F20.binds (ps := ["sheet", "points", "other"]) fun _ _ _ _ _ _ us hl => match us, hl with | [_, _, _], _ => rfl
  have F21 := fun_mk (st := s__law_error) l21 c21 k21
  have b21 := F21.binds (ps := ["call", "one", "two", "three"]) fun _ _ _ _ _ _ us hl => match us, hl with | [_, _, _, _], _ => rfl
  have F22 := fun_mk (st := s_law) l22 c22 k22
  have hb : ∀ x ∈ builtins, mg (Str.ofString x) = none := by
    intro x hx
    simp only [builtins, List.mem_cons, List.not_mem_nil, or_false] at hx
    rcases hx with rfl | rfl | rfl | rfl | rfl | rfl | rfl | rfl | rfl | rfl | rfl | rfl | rfl | rfl | rfl | rfl | rfl | rfl | rfl
    · exact PySem.W.mg_none_of X G z_len
    · exact PySem.W.mg_none_of X G z_abs
    · exact PySem.W.mg_none_of X G z_int
    · exact PySem.W.mg_none_of X G z_sum
    · exact PySem.W.mg_none_of X G z_min
    · exact PySem.W.mg_none_of X G z_max
    · exact PySem.W.mg_none_of X G z_all
    · exact PySem.W.mg_none_of X G z_any
    · exact PySem.W.mg_none_of X G z_sorted
    · exact PySem.W.mg_none_of X G z_tuple
    · exact PySem.W.mg_none_of X G z_list
    · exact PySem.W.mg_none_of X G z_isinstance
    · exact PySem.W.mg_none_of X G z_bool
    · exact PySem.W.mg_none_of X G z_str
    · exact PySem.W.mg_none_of X G z_dict
    · exact PySem.W.mg_none_of X G z_range
    · exact PySem.W.mg_none_of X G z_enumerate
    · exact PySem.W.mg_none_of X G z_zip
    · exact PySem.W.mg_none_of X G z_set
  refine ⟨PySem.W.fnOf "law" "law" (defArgs s_law) (defBody s_law) (defScope s_law) .none kV22 dc22 pm22 an22 cd22 ct22, fun s v => .of_eq rfl, fun base _ _ => ?_⟩
  have hc_MOST_POINTS : Con K mg "MOST_POINTS" (.d (.int (10))) := con_of X G ac_MOST_POINTS val_int
  have hc_MOST_SIDE : Con K mg "MOST_SIDE" (.d (.int (12))) := con_of X G ac_MOST_SIDE val_int
  have hc_POSES : Con K mg "POSES" (.d (.int (8))) := con_of X G ac_POSES val_int
  have hc_QUARTERS : Con K mg "QUARTERS" (.d (.int (4))) := con_of X G ac_QUARTERS val_int
  have hx : Excs K mg (fun k => [Value.ref C_BadSheet, Value.ref C_BadPose, Value.ref C_NotTelling].getD k Value.none) ["BadSheet", "BadPose", "NotTelling"] xsub := by
    refine ⟨fun k x h => ?_, fun j k b h => ?_⟩
    · match k, h with
      | 0, h => cases h; exact ⟨C_BadSheet, rfl, PySem.W.mg_of X G gx_BadSheet, kx_BadSheet, bx_BadSheet, tx_BadSheet, xx_BadSheet⟩
      | 1, h => cases h; exact ⟨C_BadPose, rfl, PySem.W.mg_of X G gx_BadPose, kx_BadPose, bx_BadPose, tx_BadPose, xx_BadPose⟩
      | 2, h => cases h; exact ⟨C_NotTelling, rfl, PySem.W.mg_of X G gx_NotTelling, kx_NotTelling, bx_NotTelling, tx_NotTelling, xx_NotTelling⟩
      | _ + 3, h => cases h
    · unfold xsub at h
      split at h <;> cases h
      · exact exm_mk bx_BadSheet ix_BadSheet tx_BadSheet sx_0_0
      · exact exm_mk bx_BadPose ix_BadPose tx_BadPose sx_0_1
      · exact exm_mk bx_NotTelling ix_NotTelling tx_NotTelling sx_0_2
      · exact exm_mk bx_BadSheet ix_BadSheet tx_BadSheet sx_1_0
      · exact exm_mk bx_BadPose ix_BadPose tx_BadPose sx_1_1
      · exact exm_mk bx_NotTelling ix_NotTelling tx_NotTelling sx_1_2
      · exact exm_mk bx_BadSheet ix_BadSheet tx_BadSheet sx_2_0
      · exact exm_mk bx_BadPose ix_BadPose tx_BadPose sx_2_1
      · exact exm_mk bx_NotTelling ix_NotTelling tx_NotTelling sx_2_2
  have C__law_draws : Cal l.prog w K mg base (fun k => [Value.ref C_BadSheet, Value.ref C_BadPose, Value.ref C_NotTelling].getD k Value.none) 1 "_law_draws" f__law_draws := cal_of (I := i__law_draws) (G := g__law_draws) (k := 0) F1 (PySem.W.mg_of X G a1) b1 sc__law_draws ok__law_draws hb trivial trivial hx
  have C__law_sheet : Cal l.prog w K mg base (fun k => [Value.ref C_BadSheet, Value.ref C_BadPose, Value.ref C_NotTelling].getD k Value.none) 1 "_law_sheet" f__law_sheet := cal_of (I := i__law_sheet) (G := g__law_sheet) (k := 0) F2 (PySem.W.mg_of X G a2) b2 sc__law_sheet ok__law_sheet hb trivial trivial hx
  have C__law_posed : Cal l.prog w K mg base (fun k => [Value.ref C_BadSheet, Value.ref C_BadPose, Value.ref C_NotTelling].getD k Value.none) 1 "_law_posed" f__law_posed := cal_of (I := i__law_posed) (G := g__law_posed) (k := 0) F3 (PySem.W.mg_of X G a3) b3 sc__law_posed ok__law_posed hb trivial trivial hx
  have C_is_whole : Cal l.prog w K mg base (fun k => [Value.ref C_BadSheet, Value.ref C_BadPose, Value.ref C_NotTelling].getD k Value.none) 1 "is_whole" f_is_whole := cal_of (I := i_is_whole) (G := g_is_whole) (k := 0) F4 (PySem.W.mg_of X G a4) b4 sc_is_whole ok_is_whole hb trivial trivial hx
  have C_ascends : Cal l.prog w K mg base (fun k => [Value.ref C_BadSheet, Value.ref C_BadPose, Value.ref C_NotTelling].getD k Value.none) 1 "ascends" f_ascends := cal_of (I := i_ascends) (G := g_ascends) (k := 0) F5 (PySem.W.mg_of X G a5) b5 sc_ascends ok_ascends hb trivial trivial hx
  have C__are_points : Cal l.prog w K mg base (fun k => [Value.ref C_BadSheet, Value.ref C_BadPose, Value.ref C_NotTelling].getD k Value.none) 2 "_are_points" f__are_points := cal_of (I := i__are_points) (G := g__are_points) (k := 1) F6 (PySem.W.mg_of X G a6) b6 sc__are_points ok__are_points hb ⟨_, _, rfl, hc_MOST_POINTS, trivial⟩ ⟨_, _, rfl, C_is_whole.mono (by decide), ⟨_, _, rfl, C_ascends.mono (by decide), trivial⟩⟩ hx
  have C__check_sheet : Cal l.prog w K mg base (fun k => [Value.ref C_BadSheet, Value.ref C_BadPose, Value.ref C_NotTelling].getD k Value.none) 3 "_check_sheet" f__check_sheet := cal_of (I := i__check_sheet) (G := g__check_sheet) (k := 2) F7 (PySem.W.mg_of X G a7) b7 sc__check_sheet ok__check_sheet hb ⟨_, _, rfl, hc_MOST_SIDE, trivial⟩ ⟨_, _, rfl, C_is_whole.mono (by decide), ⟨_, _, rfl, C__are_points.mono (by decide), trivial⟩⟩ hx
  have C__check_pose : Cal l.prog w K mg base (fun k => [Value.ref C_BadSheet, Value.ref C_BadPose, Value.ref C_NotTelling].getD k Value.none) 2 "_check_pose" f__check_pose := cal_of (I := i__check_pose) (G := g__check_pose) (k := 1) F8 (PySem.W.mg_of X G a8) b8 sc__check_pose ok__check_pose hb ⟨_, _, rfl, hc_POSES, trivial⟩ ⟨_, _, rfl, C_is_whole.mono (by decide), trivial⟩ hx
  have C__posed : Cal l.prog w K mg base (fun k => [Value.ref C_BadSheet, Value.ref C_BadPose, Value.ref C_NotTelling].getD k Value.none) 1 "_posed" f__posed := cal_of (I := i__posed) (G := g__posed) (k := 0) F9 (PySem.W.mg_of X G a9) b9 sc__posed ok__posed hb ⟨_, _, rfl, hc_QUARTERS, trivial⟩ trivial hx
  have C_posed : Cal l.prog w K mg base (fun k => [Value.ref C_BadSheet, Value.ref C_BadPose, Value.ref C_NotTelling].getD k Value.none) 4 "posed" f_posed := cal_of (I := i_posed) (G := g_posed) (k := 3) F10 (PySem.W.mg_of X G a10) b10 sc_posed ok_posed hb trivial ⟨_, _, rfl, C__check_sheet.mono (by decide), ⟨_, _, rfl, C__check_pose.mono (by decide), ⟨_, _, rfl, C__posed.mono (by decide), trivial⟩⟩⟩ hx
  have C_undone : Cal l.prog w K mg base (fun k => [Value.ref C_BadSheet, Value.ref C_BadPose, Value.ref C_NotTelling].getD k Value.none) 3 "undone" f_undone := cal_of (I := i_undone) (G := g_undone) (k := 2) F11 (PySem.W.mg_of X G a11) b11 sc_undone ok_undone hb ⟨_, _, rfl, hc_QUARTERS, trivial⟩ ⟨_, _, rfl, C__check_pose.mono (by decide), trivial⟩ hx
  have C_behind : Cal l.prog w K mg base (fun k => [Value.ref C_BadSheet, Value.ref C_BadPose, Value.ref C_NotTelling].getD k Value.none) 3 "behind" f_behind := cal_of (I := i_behind) (G := g_behind) (k := 2) F12 (PySem.W.mg_of X G a12) b12 sc_behind ok_behind hb ⟨_, _, rfl, hc_QUARTERS, trivial⟩ ⟨_, _, rfl, C__check_pose.mono (by decide), trivial⟩ hx
  have C__poses_for : Cal l.prog w K mg base (fun k => [Value.ref C_BadSheet, Value.ref C_BadPose, Value.ref C_NotTelling].getD k Value.none) 2 "_poses_for" f__poses_for := cal_of (I := i__poses_for) (G := g__poses_for) (k := 1) F13 (PySem.W.mg_of X G a13) b13 sc__poses_for ok__poses_for hb ⟨_, _, rfl, hc_POSES, trivial⟩ ⟨_, _, rfl, C__posed.mono (by decide), trivial⟩ hx
  have C_own_poses : Cal l.prog w K mg base (fun k => [Value.ref C_BadSheet, Value.ref C_BadPose, Value.ref C_NotTelling].getD k Value.none) 4 "own_poses" f_own_poses := cal_of (I := i_own_poses) (G := g_own_poses) (k := 3) F14 (PySem.W.mg_of X G a14) b14 sc_own_poses ok_own_poses hb trivial ⟨_, _, rfl, C__check_sheet.mono (by decide), ⟨_, _, rfl, C__poses_for.mono (by decide), trivial⟩⟩ hx
  have C_poses_for : Cal l.prog w K mg base (fun k => [Value.ref C_BadSheet, Value.ref C_BadPose, Value.ref C_NotTelling].getD k Value.none) 4 "poses_for" f_poses_for := cal_of (I := i_poses_for) (G := g_poses_for) (k := 3) F15 (PySem.W.mg_of X G a15) b15 sc_poses_for ok_poses_for hb trivial ⟨_, _, rfl, C__check_sheet.mono (by decide), ⟨_, _, rfl, C__poses_for.mono (by decide), trivial⟩⟩ hx
  have C__law_sets : Cal l.prog w K mg base (fun k => [Value.ref C_BadSheet, Value.ref C_BadPose, Value.ref C_NotTelling].getD k Value.none) 1 "_law_sets" f__law_sets := cal_of (I := i__law_sets) (G := g__law_sets) (k := 0) F16 (PySem.W.mg_of X G a16) b16 sc__law_sets ok__law_sets hb trivial trivial hx
  have D__chosen : ∀ d : Nat, Cal l.prog w K mg base (fun k => [Value.ref C_BadSheet, Value.ref C_BadPose, Value.ref C_NotTelling].getD k Value.none) (1 + d) "_chosen" (r__chosen d) := by
    intro d
    induction d with
    | zero => exact cal_bad (I := i__chosen) (k := 0) F17 (PySem.W.mg_of X G a17) b17 sc__chosen
    | succ d ih => exact cal_of (I := i__chosen) (G := ⟨[r__chosen d], [], xsub⟩) (k := 1 + d) F17 (PySem.W.mg_of X G a17) b17 sc__chosen ok__chosen hb trivial ⟨_, _, rfl, ih, trivial⟩ hx
  have C__chosen : Cal l.prog w K mg base (fun k => [Value.ref C_BadSheet, Value.ref C_BadPose, Value.ref C_NotTelling].getD k Value.none) 21 "_chosen" f__chosen := D__chosen 20
  have C__tells : Cal l.prog w K mg base (fun k => [Value.ref C_BadSheet, Value.ref C_BadPose, Value.ref C_NotTelling].getD k Value.none) 3 "_tells" f__tells := cal_of (I := i__tells) (G := g__tells) (k := 2) F18 (PySem.W.mg_of X G a18) b18 sc__tells ok__tells hb trivial ⟨_, _, rfl, C__poses_for.mono (by decide), trivial⟩ hx
  have C_fewest_telling : Cal l.prog w K mg base (fun k => [Value.ref C_BadSheet, Value.ref C_BadPose, Value.ref C_NotTelling].getD k Value.none) 22 "fewest_telling" f_fewest_telling := cal_of (I := i_fewest_telling) (G := g_fewest_telling) (k := 21) F19 (PySem.W.mg_of X G a19) b19 sc_fewest_telling ok_fewest_telling hb trivial ⟨_, _, rfl, C__check_sheet.mono (by decide), ⟨_, _, rfl, C__chosen.mono (by decide), ⟨_, _, rfl, C__tells.mono (by decide), trivial⟩⟩⟩ hx
  have C_pose_seen : Cal l.prog w K mg base (fun k => [Value.ref C_BadSheet, Value.ref C_BadPose, Value.ref C_NotTelling].getD k Value.none) 4 "pose_seen" f_pose_seen := cal_of (I := i_pose_seen) (G := g_pose_seen) (k := 3) F20 (PySem.W.mg_of X G a20) b20 sc_pose_seen ok_pose_seen hb trivial ⟨_, _, rfl, C__check_sheet.mono (by decide), ⟨_, _, rfl, C__are_points.mono (by decide), ⟨_, _, rfl, C__tells.mono (by decide), ⟨_, _, rfl, C__poses_for.mono (by decide), trivial⟩⟩⟩⟩ hx
  have C__law_error : Cal l.prog w K mg base (fun k => [Value.ref C_BadSheet, Value.ref C_BadPose, Value.ref C_NotTelling].getD k Value.none) 23 "_law_error" f__law_error := cal_of (I := i__law_error) (G := g__law_error) (k := 22) F21 (PySem.W.mg_of X G a21) b21 sc__law_error ok__law_error hb trivial ⟨_, _, rfl, C_posed.mono (by decide), ⟨_, _, rfl, C_own_poses.mono (by decide), ⟨_, _, rfl, C_poses_for.mono (by decide), ⟨_, _, rfl, C_fewest_telling.mono (by decide), ⟨_, _, rfl, C_pose_seen.mono (by decide), ⟨_, _, rfl, C_behind.mono (by decide), ⟨_, _, rfl, C_undone.mono (by decide), trivial⟩⟩⟩⟩⟩⟩⟩ hx
  exact (law_ok (I := i_law) (G := g_law) (cls := (fun k => [Value.ref C_BadSheet, Value.ref C_BadPose, Value.ref C_NotTelling].getD k Value.none)) (k := 23) F22 sc_law ok_law hb trivial ⟨_, _, rfl, C__law_draws.mono (by decide), ⟨_, _, rfl, C__law_sheet.mono (by decide), ⟨_, _, rfl, C__law_posed.mono (by decide), ⟨_, _, rfl, C_posed.mono (by decide), ⟨_, _, rfl, C_undone.mono (by decide), ⟨_, _, rfl, C_behind.mono (by decide), ⟨_, _, rfl, C_own_poses.mono (by decide), ⟨_, _, rfl, C_poses_for.mono (by decide), ⟨_, _, rfl, C__law_sets.mono (by decide), ⟨_, _, rfl, C_fewest_telling.mono (by decide), ⟨_, _, rfl, C_pose_seen.mono (by decide), ⟨_, _, rfl, C__law_error.mono (by decide), trivial⟩⟩⟩⟩⟩⟩⟩⟩⟩⟩⟩⟩ hx hl).mono (by decide)
theorem walk {l : PySem.W.OpenLaw} {q : Program} {loose : List Str} {XP : (Str → Option Value) → Heap → Prop} {YP : World → Heap → Prop} {d : DefRec} {K : Params → PySem.W.Frag} (hn : l.most = some 63) (hdf : d.params.defaults = [])
    (hY : ∀ (w : World) (h : Heap), YP w h → (K w.params).In h)
    (F : ∀ (w : World) (mg : Str → Option Value) (fa : Addr) (h : Heap), (K w.params).In h → h.Ns mainGlobals mg → mg d.name = some (.ref fa) →
      ∃ fd : FuncData, (∀ (s : Shared) (u : Value), BindsTo s fd ⟨[u], []⟩ [("script", u)]) ∧ ∀ base : Heap, (K w.params).In base → base.Ns mainGlobals mg → FnOk l.prog w (K w.params) mg base CX0 65 fa fd ["script"] (spLaw (K w.params))) :
    PySem.W.WalkO q loose XP YP l.row.toRowW d [] (fun f vs => PySem.call f vs) :=
  L2.walk_of (n := 63) (k := 65) (x := "script") (CX := fun _ => CX0) (sp := fun w => spLaw (K w.params)) hn (by decide) hdf ⟨rfl, by decide, by decide⟩ hY F (fun _ _ a ns hl _ hS => ⟨a, ns, rfl, hS, hl, fun _ => rfl⟩) fun _ _ _ _ _ z => z
end K87
open PySem PySem.W PyProof.Rows
set_option maxRecDepth 100000 in
set_option maxHeartbeats 0 in
theorem PySem.Challenge.cw_boardwright_k87_whole_poses_holds : PySem.Challenge.rw_boardwright_k87_whole_poses.Holds := by
  w_on; o_law; k_head; (case hw => w_witness2)
  k_fill
  refine K87.walk (l := PySem.Challenge.rw_boardwright_k87_whole_poses) rfl rfl (fun w h Y => PySem.W.kIn_of Y) ?F
  case F =>
    intro w mg fa h KX G hmg
    refine' K87.all_mk KX G hmg ?a1 ?l1 ?c1 ?k1 ?a2 ?l2 ?c2 ?k2 ?a3 ?l3 ?c3 ?k3 ?a4 ?l4 ?c4 ?k4 ?a5 ?l5 ?c5 ?k5 ?a6 ?l6 ?c6 ?k6 ?a7 ?l7 ?c7 ?k7 ?a8 ?l8 ?c8 ?k8 ?a9 ?l9 ?c9 ?k9 ?a10 ?l10 ?c10 ?k10 ?a11 ?l11 ?c11 ?k11 ?a12 ?l12 ?c12 ?k12 ?a13 ?l13 ?c13 ?k13 ?a14 ?l14 ?c14 ?k14 ?a15 ?l15 ?c15 ?k15 ?a16 ?l16 ?c16 ?k16 ?a17 ?l17 ?c17 ?k17 ?a18 ?l18 ?c18 ?k18 ?a19 ?l19 ?c19 ?k19 ?a20 ?l20 ?c20 ?k20 ?a21 ?l21 ?c21 ?k21 ?a22 ?l22 ?c22 ?k22 ?ac_MOST_POINTS ?ac_MOST_SIDE ?ac_POSES ?ac_QUARTERS ?gx_BadSheet ?kx_BadSheet ?bx_BadSheet ?tx_BadSheet ?xx_BadSheet ?ix_BadSheet ?gx_BadPose ?kx_BadPose ?bx_BadPose ?tx_BadPose ?xx_BadPose ?ix_BadPose ?gx_NotTelling ?kx_NotTelling ?bx_NotTelling ?tx_NotTelling ?xx_NotTelling ?ix_NotTelling ?sx_0_0 ?sx_0_1 ?sx_0_2 ?sx_1_0 ?sx_1_1 ?sx_1_2 ?sx_2_0 ?sx_2_1 ?sx_2_2 ?z_len ?z_abs ?z_int ?z_sum ?z_min ?z_max ?z_all ?z_any ?z_sorted ?z_tuple ?z_list ?z_isinstance ?z_bool ?z_str ?z_dict ?z_range ?z_enumerate ?z_zip ?z_set K87.law_true
    (case a1 => k_is)
    (case l1 => k_is)
    (case c1 => k_is)
    (case k1 => k_is)
    (case a2 => k_is)
    (case l2 => k_is)
    (case c2 => k_is)
    (case k2 => k_is)
    (case a3 => k_is)
    (case l3 => k_is)
    (case c3 => k_is)
    (case k3 => k_is)
    (case a4 => k_is)
    (case l4 => k_is)
    (case c4 => k_is)
    (case k4 => k_is)
    (case a5 => k_is)
    (case l5 => k_is)
    (case c5 => k_is)
    (case k5 => k_is)
    (case a6 => k_is)
    (case l6 => k_is)
    (case c6 => k_is)
    (case k6 => k_is)
    (case a7 => k_is)
    (case l7 => k_is)
    (case c7 => k_is)
    (case k7 => k_is)
    (case a8 => k_is)
    (case l8 => k_is)
    (case c8 => k_is)
    (case k8 => k_is)
    (case a9 => k_is)
    (case l9 => k_is)
    (case c9 => k_is)
    (case k9 => k_is)
    (case a10 => k_is)
    (case l10 => k_is)
    (case c10 => k_is)
    (case k10 => k_is)
    (case a11 => k_is)
    (case l11 => k_is)
    (case c11 => k_is)
    (case k11 => k_is)
    (case a12 => k_is)
    (case l12 => k_is)
    (case c12 => k_is)
    (case k12 => k_is)
    (case a13 => k_is)
    (case l13 => k_is)
    (case c13 => k_is)
    (case k13 => k_is)
    (case a14 => k_is)
    (case l14 => k_is)
    (case c14 => k_is)
    (case k14 => k_is)
    (case a15 => k_is)
    (case l15 => k_is)
    (case c15 => k_is)
    (case k15 => k_is)
    (case a16 => k_is)
    (case l16 => k_is)
    (case c16 => k_is)
    (case k16 => k_is)
    (case a17 => k_is)
    (case l17 => k_is)
    (case c17 => k_is)
    (case k17 => k_is)
    (case a18 => k_is)
    (case l18 => k_is)
    (case c18 => k_is)
    (case k18 => k_is)
    (case a19 => k_is)
    (case l19 => k_is)
    (case c19 => k_is)
    (case k19 => k_is)
    (case a20 => k_is)
    (case l20 => k_is)
    (case c20 => k_is)
    (case k20 => k_is)
    (case a21 => k_is)
    (case l21 => k_is)
    (case c21 => k_is)
    (case k21 => k_is)
    (case a22 => k_is)
    (case l22 => k_is)
    (case c22 => k_is)
    (case k22 => k_is)
    (case ac_MOST_POINTS => k_is)
    (case ac_MOST_SIDE => k_is)
    (case ac_POSES => k_is)
    (case ac_QUARTERS => k_is)
    (case gx_BadSheet => k_is)
    (case kx_BadSheet => k_is)
    (case bx_BadSheet => k_is)
    (case tx_BadSheet => k_is)
    (case xx_BadSheet => k_exc)
    (case ix_BadSheet => k_is)
    (case gx_BadPose => k_is)
    (case kx_BadPose => k_is)
    (case bx_BadPose => k_is)
    (case tx_BadPose => k_is)
    (case xx_BadPose => k_exc)
    (case ix_BadPose => k_is)
    (case gx_NotTelling => k_is)
    (case kx_NotTelling => k_is)
    (case bx_NotTelling => k_is)
    (case tx_NotTelling => k_is)
    (case xx_NotTelling => k_exc)
    (case ix_NotTelling => k_is)
    (case sx_0_0 => first | rfl | k_is)
    (case sx_0_1 => first | rfl | k_is)
    (case sx_0_2 => first | rfl | k_is)
    (case sx_1_0 => first | rfl | k_is)
    (case sx_1_1 => first | rfl | k_is)
    (case sx_1_2 => first | rfl | k_is)
    (case sx_2_0 => first | rfl | k_is)
    (case sx_2_1 => first | rfl | k_is)
    (case sx_2_2 => first | rfl | k_is)
    (case z_len => k_is)
    (case z_abs => k_is)
    (case z_int => k_is)
    (case z_sum => k_is)
    (case z_min => k_is)
    (case z_max => k_is)
    (case z_all => k_is)
    (case z_any => k_is)
    (case z_sorted => k_is)
    (case z_tuple => k_is)
    (case z_list => k_is)
    (case z_isinstance => k_is)
    (case z_bool => k_is)
    (case z_str => k_is)
    (case z_dict => k_is)
    (case z_range => k_is)
    (case z_enumerate => k_is)
    (case z_zip => k_is)
    (case z_set => k_is)
end
