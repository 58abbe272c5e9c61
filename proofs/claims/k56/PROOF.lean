import PyProof.Rows.All
import PySem.Str
import HandS.ForMost
import HandS.ForExc
import HandS.Zip
import HandS.IsInst
import HandS.TryMany
import HandS.TupLe
import HandS.SortRule
import KE.KDictKeyed
import HandS.TupLen
import HandS.TupMul
import HandS.TupAny
import HandS.WideBits
import KE.DataEq
import KE.SortData
import KE.DataMinMax
import KE.DataIsa
import HandS.Sort
import HandS.Conv
import HandS.More
import KE.KTupSum
import HandS.CallSlots
import HandS.Comp
import HandS.Style
import HandS.ExcIs
import KE.GoesEnum
import HandS.SetFor
import HandS.TupSets
import HandS.Strs
import HandS.DictComp
import PyProof.SeqIndex
import PyProof.Rows.TupDisplay
import HandS.WordsExc
import Wide.All
import OpenK.AllK
import Wide.FinOn
import PySem.Challenge.RW_boardwright_k56_wire_trees
set_option Elab.async false
section
set_option autoImplicit false
/-! Bw A: values as trees, the core language, its meaning. No program, no model but texts (Str). -/
namespace Bw
open PySem

/-- data: what has no identity -/
inductive PV where
  | non | bl (b : Bool) | int (i : Int) | str (s : Str)
  | tup (xs : List PV) | lst (xs : List PV)
  deriving Inhabited

/-- a key of a dict -/
abbrev Ky := Int ⊕ Str
/-- a value: data, a dict of data (keys: ints and texts), an instance -/
inductive SV where
  | d (p : PV)
  | dK (kvs : List (Ky × PV))
  | ins (c : Nat) (fs : List SV)
  /-- the law's script -/
  | scr (ns : List Int)
  /-- a dict with other keys: None, numbers; or tuples of such -/
  | dX (locked : Bool) (kvs : List (PV × PV))
  deriving Inhabited

inductive Res (α : Type) where
  | ok (a : α) | exc (c : Nat) | bad
  deriving Inhabited
namespace Res
variable {α β : Type}
def bind : Res α → (α → Res β) → Res β
  | ok a, f => f a
  | exc c, _ => exc c
  | bad, _ => bad
@[simp] theorem bind_ok (a : α) (f : α → Res β) : (ok a).bind f = f a := rfl
@[simp] theorem bind_exc (c : Nat) (f : α → Res β) : (exc c).bind f = exc c := rfl
@[simp] theorem bind_bad (f : α → Res β) : (bad : Res α).bind f = bad := rfl
/-- no exception may leave here -/
def tame : Res α → Res α
  | exc _ => bad
  | r => r
@[simp] theorem tame_ok (a : α) : (ok a).tame = ok a := rfl
@[simp] theorem tame_exc (c : Nat) : (exc c : Res α).tame = bad := rfl
@[simp] theorem tame_bad : (bad : Res α).tame = bad := rfl
end Res

/-! ### == and < -/
def b2i (b : Bool) : Int := if b then 1 else 0
mutual
def pyEq : PV → PV → Bool
  | .non, .non => true
  | .bl a, .bl b => a == b
  | .bl a, .int j => decide (b2i a = j)
  | .int i, .bl b => decide (i = b2i b)
  | .int i, .int j => decide (i = j)
  | .str a, .str b => decide (a = b)
  | .tup xs, .tup ys => pyEqL xs ys
  | .lst xs, .lst ys => pyEqL xs ys
  | _, _ => false
def pyEqL : List PV → List PV → Bool
  | [], [] => true
  | x :: xs, y :: ys => pyEq x y && pyEqL xs ys
  | _, _ => false
end
/-- the number that stands for it among numbers -/
def numOf : PV → Option Int
  | .bl b => some (b2i b)
  | .int i => some i
  | _ => none
mutual
/-- can be compared by < -/
def cmpb : PV → PV → Bool
  | .int _, .int _ => true
  | .str _, .str _ => true
  | .tup xs, .tup ys => cmpbL xs ys
  | _, _ => false
def cmpbL : List PV → List PV → Bool
  | x :: xs, y :: ys => (pyEq x y || cmpb x y) && cmpbL xs ys
  | _, _ => true
end
mutual
def ltT : PV → PV → Bool
  | .int i, .int j => decide (i < j)
  | .str a, .str b => decide (a.cps.toList < b.cps.toList)
  | .bl a, .bl b => decide (b2i a < b2i b)
  | .tup xs, .tup ys => ltTL xs ys
  | .lst xs, .lst ys => ltTL xs ys
  | _, _ => false
def ltTL : List PV → List PV → Bool
  | _, [] => false
  | [], _ :: _ => true
  | x :: xs, y :: ys => if pyEq x y then ltTL xs ys else ltT x y
end
mutual
/-- of one kind, place by place -/
def alk : PV → PV → Bool
  | .non, .non => true
  | .bl _, .bl _ => true
  | .int _, .int _ => true
  | .str _, .str _ => true
  | .tup xs, .tup ys => alkL xs ys
  | .lst xs, .lst ys => alkL xs ys
  | _, _ => false
def alkL : List PV → List PV → Bool
  | x :: xs, y :: ys => alk x y && alkL xs ys
  | _, _ => true
end
def isNon : PV → Bool
  | .non => true
  | _ => false
def isTup : PV → Bool
  | .tup _ => true
  | _ => false
def isTup1 : PV → Bool
  | .tup (_ :: _) => true
  | _ => false
def line : Nat := 16777216
mutual
/-- nested n deep at most -/
def shal : Nat → PV → Bool
  | 0, .tup _ => false
  | 0, .lst _ => false
  | n + 1, .tup xs => shalL n xs
  | n + 1, .lst xs => shalL n xs
  | _, _ => true
def shalL : Nat → List PV → Bool
  | _, [] => true
  | n, x :: xs => shal n x && shalL n xs
end
def sha (p : PV) : Bool := shal 60 p

/-! ### the core language -/
inductive BOp where | add | sub | mul | fdiv | mod | pow | shl | shr | band
  deriving DecidableEq
inductive COp where | eq | ne | lt | le | gt | ge | isin | notin | is | isnot
  deriving DecidableEq
inductive Ty where | int | bool | str | tuple | list | dict
  deriving DecidableEq
/-- built-in functions of one argument -/
inductive F1 where | len | abs | int | sum | min | max | all | any | sorted | tuple | list | sortedset | lenset
  deriving DecidableEq
inductive F2 where | min | max | index
  deriving DecidableEq
inductive CT where
  | name (i : Nat) | tup (ts : List CT)
  deriving Inhabited
mutual
inductive CE where
  | int (i : Int) | str (s : Str) | bl (b : Bool) | non
  | var (i : Nat) | own (i : Nat) | glob (k : Nat)
  /-- the value is no object -/
  | flat (e : CE)
  | tup (es : List CE) | lst (es : List CE)
  | bin (op : BOp) (a b : CE) | neg (a : CE) | not (a : CE)
  | and (a b : CE) | or (a b : CE)
  | cmp (op : COp) (a b : CE) | chain (op op' : COp) (a b c : CE)
  | ife (c a b : CE)
  | idx (a i : CE) | sl (a : CE) (lo hi : Option CE) | rev (a : CE)
  | call (k : Nat) (es : List CE)
  | f1 (f : F1) (a : CE) | f2 (f : F2) (a b : CE)
  | isa (a : CE) (t : Ty)
  | lc (t : CT) (it : CI) (cs : List CE) (e : CE)
  | lc2 (t : CT) (it : CI) (cs : List CE) (t' : CT) (it' : CI) (cs' : List CE) (e : CE)
  /-- a tuple, or a list, of what a source gives -/
  | col (b : Bool) (it : CI)
  /-- len(set(a)), or sorted(set(a)) -/
  | dst (b : Bool) (a : CE)
  /-- {k: e for t in it if ..} -/
  | dc (t : CT) (it : CI) (cs : List CE) (k e : CE)
  /-- {}, {k: e} -/
  | dnew | disp1 (k e : CE)
  /-- d.get(k), d.get(k, x) -/
  | dget1 (a k : CE) | dget2 (a k x : CE)
  /-- a.index(x), a a list -/
  | ind (a x : CE)
  /-- {k: e for t in it if ..}, {}, {k: e}, d.get(k, x): of a dict with other keys -/
  | dcx (t : CT) (it : CI) (cs : List CE) (k e : CE)
  | dnx | disx (k e : CE) | getx (a k x : CE)
inductive CI where
  | seq (e : CE) | rng1 (n : CE) | rng2 (lo hi : CE) | rng3 (lo hi : CE) (st : Int)
  | enum (e : CE) | zip (a b : CE) | enumzip (a b : CE)
  /-- a sequence, or the keys of a dict -/
  | keys (e : CE)
end
instance : Inhabited CE := ⟨.non⟩
/-- what an except clause does -/
inductive HB where
  | retc (e : CE) | cont
  /-- return isinstance(e, k), the error in the place i -/
  | risa (i k : Nat) | rife (i k : Nat) (a b : CE)
inductive CS where
  | expr (e : CE) | set (t : CT) (e : CE) | par (is : List Nat) (es : List CE)
  | own (i : Nat) (e : CE) | frz (i : Nat)
  /-- own[k] = e -/
  | sto (i : Nat) (k e : CE)
  /-- names from a display, some of them to be own -/
  | parO (is : List Nat) (os : List Bool) (es : List CE)
  | aug (i : Nat) (op : BOp) (e : CE)
  /-- own[k] op= e -/
  | augs (i : Nat) (op : BOp) (k e : CE)
  | app (i : Nat) (e : CE) | ext (i : Nat) (e : CE)
  /-- own.update(e) -/
  | upd (i : Nat) (e : CE)
  /-- t = own.pop(), or own.pop(0) -/
  | pop (f : Bool) (t : CT) (i : Nat)
  | ife (c : CE) (a b : List CS)
  | for (t : CT) (it : CI) (body : List CS)
  | while (c : CE) (body : List CS)
  | ret (e : CE) | retN | brk | cont | pass
  | raise (k : Nat) | never
  | try (body : List CS) (hs : List (Nat × HB))
instance : Inhabited CS := ⟨.pass⟩

/-! ### the state, built-in operations -/
inductive Bx where
  | no | sh (s : SV) | ow (s : SV)
  deriving Inhabited
abbrev Gm := List Bx
structure Ctx where
  fns : List (List SV → Res SV)
  cons : List SV
  /-- the class c is the class k or below it -/
  sub : Nat → Nat → Option Bool

def chk (xs : List PV) : Res (List PV) := if xs.length ≤ line then .ok xs else .bad
/-- a key -/
def keyP : PV → Option Ky
  | .int i => some (.inl i)
  | .str s => some (.inr s)
  | _ => none
def pK : Ky → PV
  | .inl i => .int i
  | .inr s => .str s
def valK (kvs : List (Ky × PV)) (k : Ky) : Option PV := (kvs.find? fun kv => decide (kv.1 = k)).map (·.2)
/-- in its place, or at the end -/
def putP (kvs : List (Ky × PV)) (k : Ky) (v : PV) : List (Ky × PV) :=
  if (kvs.any fun kv => decide (kv.1 = k)) = true then kvs.map (fun kv => if kv.1 = k then (kv.1, v) else kv) else kvs ++ [(k, v)]
def merP (kvs more : List (Ky × PV)) : List (Ky × PV) := more.foldl (fun acc kv => putP acc kv.1 kv.2) kvs
mutual
/-- may be a key; tuples n deep at most -/
def kyP : Nat → PV → Bool
  | _, .non => true
  | _, .bl _ => true
  | _, .int _ => true
  | n + 1, .tup xs => kyL n xs
  | _, _ => false
def kyL : Nat → List PV → Bool
  | _, [] => true
  | n, x :: xs => kyP n x && kyL n xs
end
def keyV : SV → Res PV
  | .d p => if kyP 8 p then .ok p else .bad
  | _ => .bad
/-- of the kind of the keys that are there -/
def kinX (kvs : List (PV × PV)) (k : PV) : Bool := kvs.all fun kv => isTup kv.1 == isTup k
def hasX (kvs : List (PV × PV)) (k : PV) : Bool := kvs.any fun kv => pyEq kv.1 k
def valX (kvs : List (PV × PV)) (k : PV) : Option PV := (kvs.find? fun kv => pyEq kv.1 k).map (·.2)
def keyX (kvs : List (PV × PV)) (s : SV) : Res PV := (keyV s).bind fun p => if kinX kvs p then .ok p else .bad
def putX (kvs : List (PV × PV)) (k v : PV) : List (PV × PV) := if hasX kvs k then kvs.map (fun kv => if pyEq kv.1 k then (kv.1, v) else kv) else kvs ++ [(k, v)]
def merX (kvs more : List (PV × PV)) : List (PV × PV) := more.foldl (fun acc kv => putX acc kv.1 kv.2) kvs
/-- all of one kind -/
def allX : List (PV × PV) → Bool
  | [] => true
  | kv :: r => kinX r kv.1 && allX r
def rep (n : Nat) (xs : List PV) : List PV := (List.replicate n xs).flatten
def binop : BOp → SV → SV → Res SV
  | .add, .d (.int i), .d (.int j) => .ok (.d (.int (i + j)))
  | .add, .d (.tup xs), .d (.tup ys) => (chk (xs ++ ys)).bind fun zs => .ok (.d (.tup zs))
  | .add, .d (.lst xs), .d (.lst ys) => (chk (xs ++ ys)).bind fun zs => .ok (.d (.lst zs))
  | .add, .d (.str a), .d (.str b) => if a.length + b.length ≤ line then .ok (.d (.str (a ++ b))) else .bad
  | .sub, .d (.int i), .d (.int j) => .ok (.d (.int (i - j)))
  | .mul, .d (.int i), .d (.int j) => if i.natAbs < 2 ^ 64 ∨ j.natAbs < 2 ^ 64 then .ok (.d (.int (i * j))) else .bad
  | .mul, .d (.lst xs), .d (.int n) => if n.natAbs < 2 ^ 62 ∧ xs.length * n.toNat ≤ line then .ok (.d (.lst (rep n.toNat xs))) else .bad
  | .mul, .d (.tup xs), .d (.int n) => if 1 ≤ n ∧ n ≤ 1000 ∧ xs.length ≤ 1000 ∧ xs.length ≠ 0 then .ok (.d (.tup (rep n.toNat xs))) else .bad
  | .fdiv, .d (.int i), .d (.int j) => if 0 < j ∧ j.natAbs < 1073741824 then .ok (.d (.int (i / j))) else .bad
  | .mod, .d (.int i), .d (.int j) => if 0 < j then .ok (.d (.int (i % j))) else .bad
  | .pow, .d (.int i), .d (.int j) => if 0 ≤ j ∧ j.natAbs ≤ 1000000 ∧ i.natAbs < 2 ^ 64 then .ok (.d (.int (i ^ j.toNat))) else .bad
  | .shl, .d (.int i), .d (.int j) => if 0 ≤ j ∧ j.natAbs ≤ 1000000 ∧ i.natAbs < 2 ^ 64 then .ok (.d (.int (i * 2 ^ j.toNat))) else .bad
  | .shr, .d (.int i), .d (.int j) => if 0 ≤ j then .ok (.d (.int (i / 2 ^ j.toNat))) else .bad
  | .band, .d (.int i), .d (.int j) => if 0 ≤ i ∧ j = 1 then .ok (.d (.int (i % 2))) else .bad
  | _, _, _ => .bad
def isInt? : SV → Res Int
  | .d (.int i) => .ok i
  | _ => .bad
def isBl? : SV → Res Bool
  | .d (.bl b) => .ok b
  | _ => .bad
def data? : SV → Res PV
  | .d p => .ok p
  | _ => .bad
def seq? : SV → Res (List PV)
  | .d (.tup xs) => .ok xs
  | .d (.lst xs) => .ok xs
  | _ => .bad
def key? : SV → Res Ky
  | .d (.int i) => .ok (.inl i)
  | .d (.str s) => .ok (.inr s)
  | _ => .bad
def cmpop : COp → SV → SV → Res Bool
  | .isin, s, .dK kvs => (key? s).bind fun k => .ok (valK kvs k).isSome
  | .notin, s, .dK kvs => (key? s).bind fun k => .ok (!(valK kvs k).isSome)
  | .eq, .d p, .d q => if sha p || sha q then .ok (pyEq p q) else .bad
  | .ne, .d p, .d q => if sha p || sha q then .ok (!pyEq p q) else .bad
  | .lt, .d p, .d q => if cmpb p q && (sha p || sha q) then .ok (ltT p q) else .bad
  | .gt, .d p, .d q => if cmpb q p && (sha p || sha q) then .ok (ltT q p) else .bad
  | .le, .d p, .d q => if cmpb p q && (sha p || sha q) then .ok (!ltT q p) else .bad
  | .ge, .d p, .d q => if cmpb p q && (sha p || sha q) then .ok (!ltT p q) else .bad
  | .isin, .d p, .d (.tup ys) => if sha p then .ok (ys.any fun y => pyEq y p) else .bad
  | .isin, .d p, .d (.lst ys) => if sha p then .ok (ys.any fun y => pyEq y p) else .bad
  | .notin, .d p, .d (.tup ys) => if sha p then .ok (!ys.any fun y => pyEq y p) else .bad
  | .notin, .d p, .d (.lst ys) => if sha p then .ok (!ys.any fun y => pyEq y p) else .bad
  | .is, .d p, .d .non => .ok (isNon p)
  | .isnot, .d p, .d .non => .ok (!isNon p)
  | .isin, s, .dX _ kvs => (keyX kvs s).bind fun k => .ok (hasX kvs k)
  | .notin, s, .dX _ kvs => (keyX kvs s).bind fun k => .ok (!hasX kvs k)
  | .is, .d (.bl a), .d (.bl b) => .ok (a == b)
  | .isnot, .d (.bl a), .d (.bl b) => .ok (!(a == b))
  | _, _, _ => .bad
def mapR {α β : Type} (f : α → Res (Option β)) : List α → Res (List β)
  | [] => .ok []
  | x :: xs => (f x).tame.bind fun y => (mapR f xs).bind fun ys => .ok (match y with | some z => z :: ys | none => ys)
/-- lists, one behind the other -/
def catR {α β : Type} (f : α → Res (List β)) : List α → Res (List β)
  | [] => .ok []
  | x :: xs => (f x).tame.bind fun ys => (catR f xs).bind fun zs => .ok (ys ++ zs)
def wipeG (Γ : Gm) : List Nat → Gm
  | [] => Γ
  | v :: vs => (wipeG Γ vs).set v .no
def datas? : List SV → Res (List PV)
  | [] => .ok []
  | s :: ss => (data? s).bind fun p => (datas? ss).bind fun ps => .ok (p :: ps)
mutual
def bindT : CT → PV → Gm → Option Gm
  | .name i, p, Γ => some (Γ.set i (.sh (.d p)))
  | .tup ts, .tup ps, Γ => bindTs ts ps Γ
  | _, _, _ => none
def bindTs : List CT → List PV → Gm → Option Gm
  | [], [], Γ => some Γ
  | t :: ts, p :: ps, Γ => (bindT t p Γ).bind fun Γ' => bindTs ts ps Γ'
  | _, _, _ => none
end
mutual
def CT.vars : CT → List Nat
  | .name i => [i]
  | .tup ts => CT.varsL ts
def CT.varsL : List CT → List Nat
  | [] => []
  | t :: ts => t.vars ++ CT.varsL ts
end
def ints? : List PV → Res (List Int)
  | [] => .ok []
  | .int i :: ps => (ints? ps).bind fun is => .ok (i :: is)
  | _ :: _ => .bad
def bools? : List PV → Res (List Bool)
  | [] => .ok []
  | .bl b :: ps => (bools? ps).bind fun bs => .ok (b :: bs)
  | _ :: _ => .bad
def minP (m : PV) (ps : List PV) : PV := ps.foldl (fun a y => if ltT y a then y else a) m
def maxP (m : PV) (ps : List PV) : PV := ps.foldl (fun a y => if ltT a y then y else a) m
/-- all of one kind, none of them None, none too deep -/
def allAlk (ps : List PV) : Bool := (ps.all fun x => ps.all fun y => alk x y) && (ps.all fun x => !isNon x && sha x)
/-- all are tuples with an item, or none is a tuple -/
def sortable (ps : List PV) : Bool := allAlk ps && ((ps.all fun x => isTup1 x) || (ps.all fun x => !isTup x) || decide (ps.length ≤ 1))
def sortP (ps : List PV) : List PV := ps.mergeSort fun x y => !ltT y x
/-- pairs of small whole numbers, by one number each -/
def code1 : PV → Option Int
  | .tup [.int x, .int y] => if 0 ≤ x ∧ x < 64 ∧ 0 ≤ y ∧ y < 64 then some (x * 64 + y) else none
  | _ => none
def codes? : List PV → Option (List Int)
  | [] => some []
  | p :: ps => (code1 p).bind fun c => (codes? ps).bind fun cs => some (c :: cs)
def deco (c : Int) : PV := .tup [.int (c / 64), .int (c % 64)]
def tupHd : List PV → Bool
  | .tup _ :: _ => true
  | _ => false
def isLs : SV → Bool
  | .d (.lst _) => true
  | _ => false
def insI (i : Int) : List Int → List Int
  | [] => [i]
  | x :: xs => if i < x then i :: x :: xs else if i = x then x :: xs else x :: insI i xs
/-- whole numbers in order, each once -/
def sortI : List Int → List Int
  | [] => []
  | i :: is => insI i (sortI is)
theorem mem_insI {k i : Int} : ∀ {l : List Int}, k ∈ insI i l ↔ k = i ∨ k ∈ l
  | [] => by simp [insI]
  | x :: xs => by
    have ih := @mem_insI k i xs
    unfold insI
    split
    · simp
    · split
      · rename_i h; subst h; simp
      · simp only [List.mem_cons, ih]; constructor <;> (intro h; rcases h with h | h | h <;> simp [h])
theorem mem_sortI {k : Int} : ∀ {l : List Int}, k ∈ sortI l ↔ k ∈ l
  | [] => by simp [sortI]
  | x :: xs => by rw [sortI, mem_insI, @mem_sortI k xs, List.mem_cons]
theorem insI_pw {i : Int} : ∀ {l : List Int}, l.Pairwise (· < ·) → (insI i l).Pairwise (· < ·)
  | [], _ => by simp [insI]
  | x :: xs, h => by
    have ih := @insI_pw i xs (List.pairwise_cons.mp h).2
    have hx := (List.pairwise_cons.mp h).1
    unfold insI
    split
    · rename_i q
      refine List.pairwise_cons.mpr ⟨fun y hy => ?_, h⟩
      rcases List.mem_cons.mp hy with rfl | hy
      · exact q
      · have := hx y hy; omega
    · split
      · exact h
      · refine List.pairwise_cons.mpr ⟨fun y hy => ?_, ih⟩
        rcases mem_insI.mp hy with rfl | hy
        · omega
        · exact hx y hy
theorem sortI_pw : ∀ {l : List Int}, (sortI l).Pairwise (· < ·)
  | [] => by simp [sortI]
  | x :: xs => insI_pw (@sortI_pw xs)
/-- two such lists with the same numbers are one -/
theorem pw_same : ∀ {l m : List Int}, l.Pairwise (· < ·) → m.Pairwise (· < ·) → (∀ k, k ∈ l ↔ k ∈ m) → l = m
  | [], [], _, _, _ => rfl
  | [], y :: ys, _, _, e => by have := (e y).mpr (by simp); simp at this
  | x :: xs, [], _, _, e => by have := (e x).mp (by simp); simp at this
  | x :: xs, y :: ys, h, g, e => by
    have hx := (List.pairwise_cons.mp h).1
    have gy := (List.pairwise_cons.mp g).1
    have exy : x = y := by
      have a := (e x).mp (by simp)
      have b := (e y).mpr (by simp)
      rcases List.mem_cons.mp a with a | a
      · exact a
      rcases List.mem_cons.mp b with b | b
      · exact b.symm
      have := gy x a
      have := hx y b
      omega
    subst exy
    have : xs = ys := pw_same (List.pairwise_cons.mp h).2 (List.pairwise_cons.mp g).2 fun k => by
      have ek := e k
      constructor
      · intro hk
        rcases List.mem_cons.mp (ek.mp (List.mem_cons_of_mem _ hk)) with q | q
        · have := hx k hk; omega
        · exact q
      · intro hk
        rcases List.mem_cons.mp (ek.mpr (List.mem_cons_of_mem _ hk)) with q | q
        · have := gy k hk; omega
        · exact q
    rw [this]
def dedupP : List PV → List PV
  | [] => []
  | p :: ps => if ps.any (fun q => pyEq q p) then dedupP ps else p :: dedupP ps
/-- the keys, all of them tuples -/
def keysT (kvs : List (PV × PV)) : Res (List PV) := if kvs.all fun kv => isTup kv.1 then .ok (kvs.map (·.1)) else .bad
def f1op : F1 → SV → Res SV
  | .len, .d (.tup xs) => .ok (.d (.int xs.length))
  | .len, .d (.lst xs) => .ok (.d (.int xs.length))
  | .len, .d (.str s) => .ok (.d (.int s.length))
  | .len, .dK kvs => .ok (.d (.int kvs.length))
  | .len, .dX _ kvs => .ok (.d (.int kvs.length))
  | .list, .dX _ kvs => (keysT kvs).bind fun ks => .ok (.d (.lst ks))
  | .sorted, .dX _ kvs => (keysT kvs).bind fun ks => if sortable ks then .ok (.d (.lst (sortP ks))) else .bad
  | .sorted, .dK kvs => (ints? (kvs.map fun kv => pK kv.1)).bind fun is => if is.length < 64 then .ok (.d (.lst ((is.mergeSort fun a b => decide (a ≤ b)).map PV.int))) else .bad
  | .list, .dK kvs => (ints? (kvs.map fun kv => pK kv.1)).bind fun is => .ok (.d (.lst (is.map PV.int)))
  | .abs, .d (.int i) => .ok (.d (.int (if i < 0 then -i else i)))
  | .int, .d (.int i) => .ok (.d (.int i))
  | .int, .d (.bl b) => .ok (.d (.int (if b then 1 else 0)))
  | .sum, .d (.lst ps) => (ints? ps).bind fun is => .ok (.d (.int is.sum))
  | .sum, .d (.tup ps) => (ints? ps).bind fun is => .ok (.d (.int is.sum))
  | .min, x => (seq? x).bind fun ps => match ps with
    | [] => .bad
    | p :: ps => if allAlk (p :: ps) then .ok (.d (minP p ps)) else .bad
  | .max, x => (seq? x).bind fun ps => match ps with
    | [] => .bad
    | p :: ps => if allAlk (p :: ps) then .ok (.d (maxP p ps)) else .bad
  | .all, .d (.lst ps) => (bools? ps).bind fun bs => .ok (.d (.bl (bs.all id)))
  | .any, .d (.lst ps) => (bools? ps).bind fun bs => .ok (.d (.bl (bs.any id)))
  | .sorted, x => (seq? x).bind fun ps => if sortable ps then .ok (.d (.lst (sortP ps))) else .bad
  | .tuple, x => (seq? x).bind fun ps => .ok (.d (.tup ps))
  | .list, x => (seq? x).bind fun ps => .ok (.d (.lst ps))
  | .sortedset, x => (seq? x).bind fun ps => if tupHd ps = true then (match codes? ps with
      | some cs => if cs.length < 64 then .ok (.d (.lst ((sortI cs).map deco))) else .bad
      | none => .bad)
    else (ints? ps).bind fun is => if is.length < 64 then .ok (.d (.lst ((sortI is).map PV.int))) else .bad
  | .lenset, x => (seq? x).bind fun ps => (ints? ps).bind fun is => if is.length < 64 then .ok (.d (.int (sortI is).length)) else .bad
  | _, _ => .bad
def flatP : PV → Bool
  | .tup _ => false
  | .lst _ => false
  | _ => true
def indexP (k : Nat) (p : PV) : List PV → Res SV
  | [] => .bad
  | q :: qs => if pyEq q p then .ok (.d (.int k)) else indexP (k + 1) p qs
def f2op : F2 → SV → SV → Res SV
  | .min, .d (.int x), .d (.int y) => .ok (.d (.int (if y < x then y else x)))
  | .max, .d (.int x), .d (.int y) => .ok (.d (.int (if y > x then y else x)))
  | _, _, _ => .bad
def isaP : PV → Ty → Bool
  | .bl _, .bool => true
  | .bl _, .int => true
  | .int _, .int => true
  | .str _, .str => true
  | .tup _, .tuple => true
  | .lst _, .list => true
  | _, _ => false
def isaop : SV → Ty → Res Bool
  | .d p, t => .ok (isaP p t)
  | _, _ => .bad
/-- a place from the front, or from the end -/
def ixP (n : Nat) (i : Int) : Option Nat := if 0 ≤ i then (if i < n then some i.toNat else none) else if -(n : Int) ≤ i then some (i + n).toNat else none
def atP {α : Type} (xs : List α) (i : Int) : Option α := (ixP xs.length i).bind fun j => xs[j]?
def optR : Option PV → Res SV
  | some p => .ok (.d p)
  | none => .bad
def getop (kvs : List (Ky × PV)) : SV → SV → Res SV
  | s, .d q => (key? s).bind fun k => .ok (.d ((valK kvs k).getD q))
  | _, _ => .bad
def dic? : SV → Res (List (Ky × PV))
  | .dK kvs => .ok kvs
  | _ => .bad
def dicX? : SV → Res (List (PV × PV))
  | .dX _ kvs => .ok kvs
  | _ => .bad
/-- what a loop walks: a sequence, or a dict's keys, where it is locked -/
def itr? : SV → Res (List PV)
  | .dX true kvs => keysT kvs
  | s => seq? s
@[simp] theorem itr?_tup (ps : List PV) : itr? (.d (.tup ps)) = .ok ps := rfl
@[simp] theorem itr?_lst (ps : List PV) : itr? (.d (.lst ps)) = .ok ps := rfl
@[simp] theorem itr?_dX (kvs : List (PV × PV)) : itr? (.dX true kvs) = keysT kvs := rfl
/-- what a place is when it is shared -/
def lockS : SV → SV
  | .dX _ kvs => .dX true kvs
  | s => s
@[simp] theorem lockS_d (p : PV) : lockS (.d p) = .d p := rfl
@[simp] theorem lockS_dK (p : List (Ky × PV)) : lockS (.dK p) = .dK p := rfl
@[simp] theorem lockS_dX (b : Bool) (p : List (PV × PV)) : lockS (.dX b p) = .dX true p := rfl
def getopX (kvs : List (PV × PV)) : SV → SV → Res SV
  | s, .d q => (keyX kvs s).bind fun k => .ok (.d ((valX kvs k).getD q))
  | _, _ => .bad
def row? : SV → Res (List PV)
  | .d (.lst ps) => .ok ps
  | _ => .bad
def indop (ps : List PV) : SV → Res SV
  | .d p => if sha p && ps.any (fun q => pyEq q p) then .ok (.d (.int (((ps.map fun q => pyEq q p).idxOf true : Nat) : Int))) else .bad
  | _ => .bad
def idxop : SV → SV → Res SV
  | .dK kvs, s => (key? s).bind fun k => optR (valK kvs k)
  | .dX _ kvs, s => (keyX kvs s).bind fun k => optR (valX kvs k)
  | .d (.tup xs), .d (.int i) => match atP xs i with
    | some p => .ok (.d p)
    | none => .bad
  | .d (.lst xs), .d (.int i) => match atP xs i with
    | some p => .ok (.d p)
    | none => .bad
  | .d (.str s), .d (.int i) => match atP s.cps.toList i with
    | some c => .ok (.d (.str ⟨#[c]⟩))
    | none => .bad
  | _, _ => .bad
/-- a slice's end -/
def sxP (n d : Nat) : Option Int → Nat
  | none => d
  | some i => if 0 ≤ i then min i.toNat n else (i + n).toNat
def cutP {α : Type} (xs : List α) (lo hi : Option Int) : List α := (xs.drop (sxP xs.length 0 lo)).take (sxP xs.length xs.length hi - sxP xs.length 0 lo)
def slop : SV → Option Int → Option Int → Res SV
  | .d (.tup xs), lo, hi => .ok (.d (.tup (cutP xs lo hi)))
  | .d (.lst xs), lo, hi => .ok (.d (.lst (cutP xs lo hi)))
  | .scr ns, lo, hi => .ok (.d (.lst (cutP (ns.map PV.int) lo hi)))
  | _, _, _ => .bad
def revop : SV → Res SV
  | .d (.lst xs) => .ok (.d (.lst xs.reverse))
  | .d (.tup xs) => .ok (.d (.tup xs.reverse))
  | _ => .bad
def enumP (k : Int) : List PV → List PV
  | [] => []
  | x :: xs => .tup [.int k, x] :: enumP (k + 1) xs
def zipP : List PV → List PV → List PV
  | x :: xs, y :: ys => .tup [x, y] :: zipP xs ys
  | _, _ => []
/-- two sequences of one kind -/
def seqs? : SV → SV → Res (List PV × List PV)
  | .d (.tup xs), .d (.tup ys) => .ok (xs, ys)
  | .d (.lst xs), .d (.lst ys) => .ok (xs, ys)
  | _, _ => .bad
def rangeP (lo st : Int) : Nat → List PV
  | 0 => []
  | n + 1 => .int lo :: rangeP (lo + st) st n
theorem rangeP_get (lo st : Int) : ∀ (n i : Nat), (rangeP lo st n)[i]? = if i < n then some (PV.int (lo + i * st)) else none
  | 0, i => by simp [rangeP]
  | n + 1, 0 => by simp [rangeP]
  | n + 1, i + 1 => by
    rw [rangeP, List.getElem?_cons_succ, rangeP_get (lo + st) st n i]
    by_cases h : i < n
    · rw [if_pos h, if_pos (by omega)]
      congr 2
      rw [show ((i + 1 : Nat) : Int) = (i : Int) + 1 by omega, Int.add_mul, Int.one_mul]
      omega
    · rw [if_neg h, if_neg (by omega)]
theorem enumP_get : ∀ (ps : List PV) (k : Int) (i : Nat), (enumP k ps)[i]? = (ps[i]?).map fun p => PV.tup [.int (k + i), p]
  | [], _, i => by simp [enumP]
  | p :: ps, k, 0 => by simp [enumP]
  | p :: ps, k, i + 1 => by
    rw [enumP, List.getElem?_cons_succ, List.getElem?_cons_succ, enumP_get ps (k + 1) i, show ((i + 1 : Nat) : Int) = (i : Int) + 1 by omega, show k + ((i : Int) + 1) = k + 1 + i by omega]
theorem zipP_get : ∀ (ps qs : List PV) (i : Nat), (zipP ps qs)[i]? = (ps[i]?).bind fun p => (qs[i]?).map fun q => PV.tup [p, q]
  | [], _, i => by simp [zipP]
  | p :: ps, [], i => by cases h : (p :: ps)[i]? <;> simp [zipP]
  | p :: ps, q :: qs, 0 => by simp [zipP]
  | p :: ps, q :: qs, i + 1 => by rw [zipP, List.getElem?_cons_succ, List.getElem?_cons_succ, List.getElem?_cons_succ, zipP_get ps qs i]
theorem rangeP_len (lo st : Int) : ∀ n, (rangeP lo st n).length = n
  | 0 => rfl
  | n + 1 => by rw [rangeP, List.length_cons, rangeP_len]
theorem enumP_len : ∀ (k : Int) (ps : List PV), (enumP k ps).length = ps.length
  | _, [] => rfl
  | k, p :: ps => by rw [enumP, List.length_cons, List.length_cons, enumP_len]
theorem zipP_len : ∀ (ps qs : List PV), (zipP ps qs).length ≤ ps.length
  | [], _ => by simp [zipP]
  | p :: ps, [] => by simp [zipP]
  | p :: ps, q :: qs => by rw [zipP, List.length_cons, List.length_cons]; exact Nat.succ_le_succ (zipP_len ps qs)
/-- how many turns a range has -/
def rangeN (lo hi st : Int) : Nat := if 0 < st then ((hi - lo + st - 1) / st).toNat else if st < 0 then ((lo - hi - st - 1) / (-st)).toNat else 0
def big (i : Int) : Bool := decide (i.natAbs < 2 ^ 62)
def rng? (lo hi st : Int) : Res (List PV) := if big lo && big hi && decide (st.natAbs < 1073741824) && decide (st ≠ 0) && decide (rangeN lo hi st ≤ line) then .ok (rangeP lo st (rangeN lo hi st)) else .bad

def flat? : SV → Res SV
  | .d .non => .ok (.d .non)
  | .d (.bl b) => .ok (.d (.bl b))
  | .d (.int i) => .ok (.d (.int i))
  | .d (.str s) => .ok (.d (.str s))
  | _ => .bad
def rdSh : Option Bx → Res SV
  | some (.sh s) => .ok s
  | _ => .bad
def rdOw : Option Bx → Res SV
  | some (.ow s) => .ok s
  | _ => .bad
def rdG : Option SV → Res SV
  | some s => .ok s
  | none => .bad
def callF : Option (List SV → Res SV) → List SV → Res SV
  | some f, ss => f ss
  | none, _ => .bad
def obind {α : Type} : Option Gm → (Gm → Res α) → Res α
  | none, _ => .bad
  | some Γ, k => k Γ
@[simp] theorem rdSh_sh (s : SV) : rdSh (some (.sh s)) = .ok s := rfl
@[simp] theorem rdOw_ow (s : SV) : rdOw (some (.ow s)) = .ok s := rfl
@[simp] theorem rdG_some (s : SV) : rdG (some s) = .ok s := rfl
@[simp] theorem callF_some (f : List SV → Res SV) (ss : List SV) : callF (some f) ss = f ss := rfl
@[simp] theorem obind_some {α : Type} (Γ : Gm) (k : Gm → Res α) : obind (some Γ) k = k Γ := rfl
/-! ### expressions -/
mutual
def ev (G : Ctx) : CE → Gm → Res SV
  | .int i, _ => .ok (.d (.int i))
  | .str s, _ => .ok (.d (.str s))
  | .bl b, _ => .ok (.d (.bl b))
  | .non, _ => .ok (.d .non)
  | .var i, Γ => rdSh Γ[i]?
  | .own i, Γ => rdOw Γ[i]?
  | .glob k, _ => rdG G.cons[k]?
  | .flat e, Γ => (ev G e Γ).bind flat?
  | .tup es, Γ => (evL G es Γ).bind fun ss => (datas? ss).bind fun ps => .ok (.d (.tup ps))
  | .lst es, Γ => (evL G es Γ).bind fun ss => (datas? ss).bind fun ps => .ok (.d (.lst ps))
  | .bin op a b, Γ => (ev G a Γ).bind fun x => (ev G b Γ).bind fun y => binop op x y
  | .neg a, Γ => (ev G a Γ).bind fun x => (isInt? x).bind fun i => .ok (.d (.int (-i)))
  | .not a, Γ => (ev G a Γ).bind fun x => (isBl? x).bind fun b => .ok (.d (.bl (!b)))
  | .and a b, Γ => (ev G a Γ).bind fun x => (isBl? x).bind fun c => if c then ev G b Γ else .ok (.d (.bl false))
  | .or a b, Γ => (ev G a Γ).bind fun x => (isBl? x).bind fun c => if c then .ok (.d (.bl true)) else ev G b Γ
  | .cmp op a b, Γ => (ev G a Γ).bind fun x => (ev G b Γ).bind fun y => (cmpop op x y).bind fun c => .ok (.d (.bl c))
  | .chain op op' a b c, Γ => (ev G a Γ).bind fun x => (ev G b Γ).bind fun y => (cmpop op x y).bind fun r =>
      if r then (ev G c Γ).bind fun z => (cmpop op' y z).bind fun r' => .ok (.d (.bl r')) else .ok (.d (.bl false))
  | .ife c a b, Γ => (ev G c Γ).bind fun x => (isBl? x).bind fun r => if r then ev G a Γ else ev G b Γ
  | .idx a i, Γ => (ev G a Γ).bind fun x => (ev G i Γ).bind fun y => idxop x y
  | .sl a lo hi, Γ => (ev G a Γ).bind fun x => (evO G lo Γ).bind fun l => (evO G hi Γ).bind fun h => slop x l h
  | .rev a, Γ => (ev G a Γ).bind fun x => revop x
  | .call k es, Γ => (evL G es Γ).bind fun ss => callF G.fns[k]? ss
  | .f1 f a, Γ => (ev G a Γ).bind fun x => f1op f x
  | .f2 f a b, Γ => (ev G a Γ).bind fun x => (ev G b Γ).bind fun y => f2op f x y
  | .isa a t, Γ => (ev G a Γ).bind fun x => (isaop x t).bind fun b => .ok (.d (.bl b))
  | .lc t it cs e, Γ => (evI G it Γ).bind fun xs =>
      (mapR (fun x => obind (bindT t x Γ) fun Γ' => (evC G cs Γ').bind fun c => if c then (ev G e Γ').bind fun y => (data? y).bind fun p => .ok (some p) else .ok none) xs).bind fun ys => .ok (.d (.lst ys))
  | .lc2 t it cs t' it' cs' e, Γ => (evI G it Γ).bind fun xs =>
      (catR (fun x => obind (bindT t x (wipeG Γ (t.vars ++ t'.vars))) fun Γ1 => (evC G cs Γ1).bind fun c => if c then (evI G it' Γ1).bind fun ys => mapR (fun y => obind (bindT t' y Γ1) fun Γ' => (evC G cs' Γ').bind fun c => if c then (ev G e Γ').bind fun y => (data? y).bind fun p => .ok (some p) else .ok none) ys
          else .ok []) xs).bind fun zs => (chk zs).bind fun zs => .ok (.d (.lst zs))
  | .dst b a, Γ => (ev G a Γ).bind fun x => f1op (if b then .lenset else .sortedset) x
  | .col b it, Γ => (evI G it Γ).bind fun xs => .ok (.d (if b then .tup xs else .lst xs))
  | .dc t it cs k e, Γ => (evI G it Γ).bind fun xs =>
      (mapR (fun x => obind (bindT t x Γ) fun Γ' => (evC G cs Γ').bind fun c => if c then (ev G k Γ').bind fun y => (key? y).bind fun k => (ev G e Γ').bind fun z => (data? z).bind fun p => .ok (some (k, p)) else .ok none) xs).bind fun ys => .ok (.dK (merP [] ys))
  | .dnew, _ => .ok (.dK [])
  | .disp1 k e, Γ => (ev G k Γ).bind fun y => (key? y).bind fun k => (ev G e Γ).bind fun z => (data? z).bind fun p => .ok (.dK [(k, p)])
  | .dget1 a k, Γ => (ev G a Γ).bind fun x => (dic? x).bind fun kvs => (ev G k Γ).bind fun y => getop kvs y (.d .non)
  | .dget2 a k d, Γ => (ev G a Γ).bind fun x => (dic? x).bind fun kvs => (ev G k Γ).bind fun y => (ev G d Γ).bind fun z => getop kvs y z
  | .ind a x, Γ => (ev G a Γ).bind fun s => (row? s).bind fun ps => (ev G x Γ).bind fun y => indop ps y
  | .dcx t it cs k e, Γ => (evI G it Γ).bind fun xs =>
      (mapR (fun x => obind (bindT t x Γ) fun Γ' => (evC G cs Γ').bind fun c => if c then (ev G k Γ').bind fun y => (keyV y).bind fun k => (ev G e Γ').bind fun z => (data? z).bind fun p => .ok (some (k, p)) else .ok none) xs).bind fun ys => if allX ys then .ok (.dX false (merX [] ys)) else .bad
  | .dnx, _ => .ok (.dX false [])
  | .disx k e, Γ => (ev G k Γ).bind fun y => (keyV y).bind fun k => (ev G e Γ).bind fun z => (data? z).bind fun p => .ok (.dX false [(k, p)])
  | .getx a k d, Γ => (ev G a Γ).bind fun x => (dicX? x).bind fun kvs => (ev G k Γ).bind fun y => (ev G d Γ).bind fun z => getopX kvs y z
def evL (G : Ctx) : List CE → Gm → Res (List SV)
  | [], _ => .ok []
  | e :: es, Γ => (ev G e Γ).bind fun x => (evL G es Γ).bind fun xs => .ok (x :: xs)
/-- a slice's end -/
def evO (G : Ctx) : Option CE → Gm → Res (Option Int)
  | none, _ => .ok none
  | some e, Γ => (ev G e Γ).bind fun x => (isInt? x).bind fun i => .ok (some i)
/-- a clause's tests: all hold -/
def evC (G : Ctx) : List CE → Gm → Res Bool
  | [], _ => .ok true
  | e :: es, Γ => (ev G e Γ).bind fun x => (isBl? x).bind fun c => if c then evC G es Γ else .ok false
def evI (G : Ctx) : CI → Gm → Res (List PV)
  | .seq e, Γ => (ev G e Γ).bind fun x => seq? x
  | .rng1 b, Γ => (ev G b Γ).bind fun y => (isInt? y).bind fun j => rng? 0 j 1
  | .rng2 a b, Γ => (ev G a Γ).bind fun x => (isInt? x).bind fun i => (ev G b Γ).bind fun y => (isInt? y).bind fun j => rng? i j 1
  | .rng3 a b st, Γ => (ev G a Γ).bind fun x => (isInt? x).bind fun i => (ev G b Γ).bind fun y => (isInt? y).bind fun j => rng? i j st
  | .enum e, Γ => (ev G e Γ).bind fun x => (seq? x).bind fun xs => .ok (enumP 0 xs)
  | .zip a b, Γ => (ev G a Γ).bind fun x => (ev G b Γ).bind fun y => (seqs? x y).bind fun z => .ok (zipP z.1 z.2)
  | .enumzip a b, Γ => (ev G a Γ).bind fun x => (ev G b Γ).bind fun y => (seqs? x y).bind fun z => .ok (enumP 0 (zipP z.1 z.2))
  | .keys e, Γ => (ev G e Γ).bind itr?
end

/-! ### statements -/
inductive Out where
  | nx (Γ : Gm) | ret (s : SV) | brk (Γ : Gm) | cont (Γ : Gm) | exc (c : Nat) (Γ : Gm) | bad
  deriving Inhabited
def Res.out {α : Type} (r : Res α) (Γ : Gm) (k : α → Out) : Out :=
  match r with
  | .ok a => k a
  | .exc c => .exc c Γ
  | .bad => .bad
@[simp] theorem Res.out_ok {α : Type} (a : α) (Γ : Gm) (k : α → Out) : (Res.ok a).out Γ k = k a := rfl
@[simp] theorem Res.out_exc {α : Type} (c : Nat) (Γ : Gm) (k : α → Out) : (Res.exc c : Res α).out Γ k = .exc c Γ := rfl
@[simp] theorem Res.out_bad {α : Type} (Γ : Gm) (k : α → Out) : (Res.bad : Res α).out Γ k = .bad := rfl
def Out.next (o : Out) (k : Gm → Out) : Out :=
  match o with
  | .nx Γ => k Γ
  | o => o
@[simp] theorem Out.next_nx (Γ : Gm) (k : Gm → Out) : (Out.nx Γ).next k = k Γ := rfl
@[simp] theorem Out.next_ret (s : SV) (k : Gm → Out) : (Out.ret s).next k = .ret s := rfl
@[simp] theorem Out.next_brk (Γ : Gm) (k : Gm → Out) : (Out.brk Γ).next k = .brk Γ := rfl
@[simp] theorem Out.next_cont (Γ : Gm) (k : Gm → Out) : (Out.cont Γ).next k = .cont Γ := rfl
@[simp] theorem Out.next_exc (c : Nat) (Γ : Gm) (k : Gm → Out) : (Out.exc c Γ).next k = .exc c Γ := rfl
@[simp] theorem Out.next_bad (k : Gm → Out) : Out.bad.next k = .bad := rfl
/-- a turn's end: go on, leave the loop, or leave the def -/
def Out.loop (o : Out) (k : Gm → Out) : Out :=
  match o with
  | .nx Γ => k Γ
  | .cont Γ => k Γ
  | .brk Γ => .nx Γ
  | o => o
@[simp] theorem Out.loop_nx (Γ : Gm) (k : Gm → Out) : (Out.nx Γ).loop k = k Γ := rfl
@[simp] theorem Out.loop_cont (Γ : Gm) (k : Gm → Out) : (Out.cont Γ).loop k = k Γ := rfl
@[simp] theorem Out.loop_brk (Γ : Gm) (k : Gm → Out) : (Out.brk Γ).loop k = .nx Γ := rfl
@[simp] theorem Out.loop_ret (s : SV) (k : Gm → Out) : (Out.ret s).loop k = .ret s := rfl
@[simp] theorem Out.loop_exc (c : Nat) (Γ : Gm) (k : Gm → Out) : (Out.exc c Γ).loop k = .exc c Γ := rfl
@[simp] theorem Out.loop_bad (k : Gm → Out) : Out.bad.loop k = .bad := rfl
def forR (f : PV → Gm → Out) : List PV → Gm → Out
  | [], Γ => .nx Γ
  | x :: xs, Γ => (f x Γ).loop fun Γ' => forR f xs Γ'
/-- n turns at most -/
def wit (c : Gm → Res Bool) (f : Gm → Out) : Nat → Gm → Out
  | 0, _ => .bad
  | n + 1, Γ => (c Γ).out Γ fun b => if b then (f Γ).loop fun Γ' => wit c f n Γ' else .nx Γ
open Classical in
noncomputable def whileR (c : Gm → Res Bool) (f : Gm → Out) (Γ : Gm) : Out :=
  if h : ∃ n, wit c f n Γ ≠ .bad then wit c f h.choose Γ else .bad
theorem wit_more {c : Gm → Res Bool} {f : Gm → Out} : ∀ {n : Nat} {Γ : Gm}, wit c f n Γ ≠ .bad → wit c f (n + 1) Γ = wit c f n Γ
  | 0, _, h => absurd rfl h
  | n + 1, Γ, h => by
    have ih := fun Γ' => @wit_more c f n Γ'
    show (c Γ).out Γ _ = (c Γ).out Γ _
    rw [show wit c f (n + 1) Γ = (c Γ).out Γ fun b => if b then (f Γ).loop fun Γ' => wit c f n Γ' else .nx Γ from rfl] at h
    cases hc : c Γ with
    | bad => rfl
    | exc k => rfl
    | ok b =>
      cases b with
      | false => rfl
      | true =>
        rw [hc] at h
        simp only [Res.out_ok, if_true] at h ⊢
        cases hf : f Γ with
        | nx Γ' => rw [hf] at h; exact ih Γ' h
        | cont Γ' => rw [hf] at h; exact ih Γ' h
        | _ => rfl
theorem wit_le {c : Gm → Res Bool} {f : Gm → Out} {n m : Nat} {Γ : Gm} (l : n ≤ m) (h : wit c f n Γ ≠ .bad) : wit c f m Γ = wit c f n Γ := by
  induction m with
  | zero => rw [Nat.le_zero.mp l]
  | succ m ih =>
    rcases Nat.lt_or_ge m n with l' | l'
    · rw [show n = m + 1 by omega]
    · have e := ih l'
      rw [← e]; exact wit_more (by rw [e]; exact h)
theorem while_of {c : Gm → Res Bool} {f : Gm → Out} {n : Nat} {Γ : Gm} (h : wit c f n Γ ≠ .bad) : whileR c f Γ = wit c f n Γ := by
  unfold whileR
  have e : ∃ n, wit c f n Γ ≠ .bad := ⟨n, h⟩
  rw [dif_pos e]
  rcases Nat.le_total n e.choose with l | l
  · exact wit_le l h
  · exact (wit_le l e.choose_spec).symm
theorem while_eq (c : Gm → Res Bool) (f : Gm → Out) (Γ : Gm) : whileR c f Γ = (c Γ).out Γ fun b => if b then (f Γ).loop fun Γ' => whileR c f Γ' else .nx Γ := by
  by_cases h : ∃ n, wit c f n Γ ≠ .bad
  · obtain ⟨n, h⟩ := h
    rw [while_of h]
    cases n with
    | zero => exact absurd rfl h
    | succ n =>
      show (c Γ).out Γ _ = (c Γ).out Γ _
      rw [show wit c f (n + 1) Γ = (c Γ).out Γ fun b => if b then (f Γ).loop fun Γ' => wit c f n Γ' else .nx Γ from rfl] at h
      cases hc : c Γ with
      | bad => rfl
      | exc k => rfl
      | ok b =>
        cases b with
        | false => rfl
        | true =>
          rw [hc] at h
          simp only [Res.out_ok, if_true] at h ⊢
          cases hf : f Γ with
          | nx Γ' => rw [hf] at h; exact (while_of h).symm
          | cont Γ' => rw [hf] at h; exact (while_of h).symm
          | _ => rfl
  · have no : ∀ n, wit c f n Γ = .bad := fun n => Classical.byContradiction fun q => h ⟨n, q⟩
    have e : whileR c f Γ = .bad := by unfold whileR; rw [dif_neg h]
    rw [e]
    have n1 := no 1
    cases hc : c Γ with
    | bad => rfl
    | exc k => simp [wit, hc] at n1
    | ok b =>
      cases b with
      | false => simp [wit, hc] at n1
      | true =>
        simp only [Res.out_ok, if_true]
        cases hf : f Γ with
        | nx Γ' =>
          have z : ∀ n, wit c f n Γ' = .bad := fun n => by have q := no (n + 1); simpa [wit, hc, hf] using q
          have : whileR c f Γ' = .bad := by unfold whileR; rw [dif_neg (fun ⟨n, q⟩ => q (z n))]
          simp [this]
        | cont Γ' =>
          have z : ∀ n, wit c f n Γ' = .bad := fun n => by have q := no (n + 1); simpa [wit, hc, hf] using q
          have : whileR c f Γ' = .bad := by unfold whileR; rw [dif_neg (fun ⟨n, q⟩ => q (z n))]
          simp [this]
        | bad => rfl
        | ret s => simp [wit, hc, hf] at n1
        | brk s => simp [wit, hc, hf] at n1
        | exc k s => simp [wit, hc, hf] at n1
def sets : List Nat → List SV → Gm → Gm
  | i :: is, s :: ss, Γ => sets is ss (Γ.set i (.sh s))
  | _, _, Γ => Γ
def setsO : List Nat → List Bool → List SV → Gm → Gm
  | i :: is, o :: os, s :: ss, Γ => setsO is os ss (Γ.set i (if o then .ow s else .sh s))
  | _, _, _, Γ => Γ
def augop : BOp → SV → SV → Res SV
  | .add, .d (.int i), .d (.int j) => .ok (.d (.int (i + j)))
  | .sub, .d (.int i), .d (.int j) => .ok (.d (.int (i - j)))
  | _, _, _ => .bad
def lst? : SV → Res (List PV)
  | .d (.lst ps) => .ok ps
  | _ => .bad
def oout : Option Gm → (Gm → Out) → Out
  | none, _ => .bad
  | some Γ, k => k Γ
def setR (Γ : Gm) : CT → SV → Out
  | .name i, s => .nx (Γ.set i (.sh s))
  | t, .d p => oout (bindT t p Γ) fun Γ' => .nx Γ'
  | _, _ => .bad
def owO : Option Bx → (SV → Out) → Out
  | some (.ow s), k => k s
  | _, _ => .bad
def shO : Option Bx → (SV → Out) → Out
  | some (.sh s), k => k s
  | _, _ => .bad
def owL : Option Bx → (List PV → Out) → Out
  | some (.ow (.d (.lst xs))), k => k xs
  | _, _ => .bad
def owK : Option Bx → (List (Ky × PV) → Out) → Out
  | some (.ow (.dK kvs)), k => k kvs
  | _, _ => .bad
@[simp] theorem owK_ow (xs : List (Ky × PV)) (k : List (Ky × PV) → Out) : owK (some (.ow (.dK xs))) k = k xs := rfl
def popP {α : Type} : Bool → List α → Option (α × List α)
  | true, p :: r => some (p, r)
  | false, p :: r => some ((p :: r).getLast (by simp), (p :: r).dropLast)
  | _, _ => none
def stoR (Γ : Gm) (i : Nat) (xs : List PV) : SV → SV → Out
  | .d (.int j), .d p => match ixP xs.length j with
    | some m => .nx (Γ.set i (.ow (.d (.lst (xs.set m p)))))
    | none => .bad
  | _, _ => .bad
/-- own[k], k a number -/
def atR (xs : List PV) (z : SV) (k : PV → Out) : Out := match z with
  | .d (.int j) => (match (ixP xs.length j).bind fun m => xs[m]? with
    | some o => k o
    | none => .bad)
  | _ => .bad
/-- own[k] = e -/
def stoX (Γ : Gm) (i : Nat) : SV → SV → SV → Out
  | .d (.lst xs), z, s => stoR Γ i xs z s
  | .dK kvs, z, .d p => (key? z).out Γ fun k => if kvs.length < line then .nx (Γ.set i (.ow (.dK (putP kvs k p)))) else .bad
  | .dX false kvs, z, .d p => (keyX kvs z).out Γ fun k => if kvs.length < line then .nx (Γ.set i (.ow (.dX false (putX kvs k p)))) else .bad
  | _, _, _ => .bad
@[simp] theorem stoX_lst (Γ : Gm) (i : Nat) (xs : List PV) (z s : SV) : stoX Γ i (.d (.lst xs)) z s = stoR Γ i xs z s := by cases s <;> rfl
def appR (Γ : Gm) (i : Nat) (xs : List PV) : SV → Out
  | .d p => if xs.length < line then .nx (Γ.set i (.ow (.d (.lst (xs ++ [p]))))) else .bad
  | _ => .bad
@[simp] theorem oout_some (Γ : Gm) (k : Gm → Out) : oout (some Γ) k = k Γ := rfl
@[simp] theorem owO_ow (s : SV) (k : SV → Out) : owO (some (.ow s)) k = k s := rfl
@[simp] theorem shO_sh (s : SV) (k : SV → Out) : shO (some (.sh s)) k = k s := rfl
@[simp] theorem owL_ow (xs : List PV) (k : List PV → Out) : owL (some (.ow (.d (.lst xs)))) k = k xs := rfl
@[simp] theorem setR_name (Γ : Gm) (i : Nat) (s : SV) : setR Γ (.name i) s = .nx (Γ.set i (.sh s)) := rfl
@[simp] theorem setR_tup (Γ : Gm) (ts : List CT) (p : PV) : setR Γ (.tup ts) (.d p) = oout (bindT (.tup ts) p Γ) fun Γ' => .nx Γ' := rfl
/-- the clause that takes an error of the class c -/
def caught (G : Ctx) (c : Nat) (Γ : Gm) : List (Nat × HB) → Out
  | [] => .exc c Γ
  | (k, h) :: hs => match G.sub c k with
    | some true => (match h with
      | .retc e => (ev G e Γ).out Γ fun s => .ret s
      | .cont => .cont Γ
      | .risa i k' => if i < Γ.length then (match G.sub c k' with
        | some b => .ret (.d (.bl b))
        | none => .bad) else .bad
      | .rife i k' a b => if i < Γ.length then (match G.sub c k' with
        | some true => (ev G a Γ).out Γ fun s => .ret s
        | some false => (ev G b Γ).out Γ fun s => .ret s
        | none => .bad) else .bad)
    | some false => caught G c Γ hs
    | none => .bad
mutual
noncomputable def run (G : Ctx) : CS → Gm → Out
  | .expr e, Γ => (ev G e Γ).out Γ fun _ => .nx Γ
  | .set t e, Γ => (ev G e Γ).out Γ fun s => setR Γ t s
  | .par is es, Γ => (evL G es Γ).out Γ fun ss => .nx (sets is ss Γ)
  | .own i e, Γ => (ev G e Γ).out Γ fun s => .nx (Γ.set i (.ow s))
  | .parO is os es, Γ => (evL G es Γ).out Γ fun ss => .nx (setsO is os ss Γ)
  | .frz i, Γ => owO Γ[i]? fun s => .nx (Γ.set i (.sh (lockS s)))
  | .aug i op e, Γ => shO Γ[i]? fun x => (ev G e Γ).out Γ fun y => (augop op x y).out Γ fun z => .nx (Γ.set i (.sh z))
  | .augs i op k e, Γ => owL Γ[i]? fun xs => (ev G k Γ).out Γ fun z => atR xs z fun o => (ev G e Γ).out Γ fun y => (augop op (.d o) y).out Γ fun w => stoR Γ i xs z w
  | .app i e, Γ => owL Γ[i]? fun xs => (ev G e Γ).out Γ fun s => appR Γ i xs s
  | .sto i k e, Γ => (ev G e Γ).out Γ fun s => owO Γ[i]? fun o => (ev G k Γ).out Γ fun z => stoX Γ i o z s
  | .ext i e, Γ => owL Γ[i]? fun xs => (ev G e Γ).out Γ fun s => (lst? s).out Γ fun ps => if xs.length + ps.length ≤ line then .nx (Γ.set i (.ow (.d (.lst (xs ++ ps))))) else .bad
  | .upd i e, Γ => owK Γ[i]? fun kvs => (ev G e Γ).out Γ fun s => (dic? s).out Γ fun more => if kvs.length + more.length ≤ line then .nx (Γ.set i (.ow (.dK (merP kvs more)))) else .bad
  | .pop f t i, Γ => owL Γ[i]? fun xs => match popP f xs with
    | some (p, r) => setR (Γ.set i (.ow (.d (.lst r)))) t (.d p)
    | none => .bad
  | .ife c a b, Γ => (ev G c Γ).out Γ fun x => (isBl? x).out Γ fun r => if r then runs G a Γ else runs G b Γ
  | .for t it body, Γ => (evI G it Γ).out Γ fun xs => forR (fun x Γ => oout (bindT t x Γ) fun Γ' => runs G body Γ') xs Γ
  | .while c body, Γ => whileR (fun Γ => (ev G c Γ).bind isBl?) (fun Γ => runs G body Γ) Γ
  | .ret e, Γ => (ev G e Γ).out Γ fun s => .ret s
  | .retN, _ => .ret (.d .non)
  | .brk, Γ => .brk Γ
  | .cont, Γ => .cont Γ
  | .pass, Γ => .nx Γ
  | .raise k, Γ => .exc k Γ
  | .never, _ => .bad
  | .try body hs, Γ => match runs G body Γ with
    | .exc c Γ' => caught G c Γ' hs
    | o => o
noncomputable def runs (G : Ctx) : List CS → Gm → Out
  | [], Γ => .nx Γ
  | s :: ss, Γ => (run G s Γ).next fun Γ' => runs G ss Γ'
end
/-- a def's end -/
def Out.fin : Out → Res SV
  | .ret s => .ok s
  | .nx _ => .ok (.d .non)
  | .exc c _ => .exc c
  | _ => .bad
/-- a def: p parameters, n names in all -/
noncomputable def fn (G : Ctx) (p n : Nat) (body : List CS) (args : List SV) : Res SV :=
  if args.length = p then (runs G body (args.map Bx.sh ++ List.replicate (n - p) Bx.no)).fin else .bad
end Bw
end

section
set_option autoImplicit false
set_option linter.all false
/-! Bw B: how a tree lies in the abstract heap; the shared region; readings by trees. -/
namespace Bw
open PySem L2
abbrev Fr' := PySem.W.Frag

/-- of a heap R ⊑ H: what may be read -/
def Sub (R H : Hp) : Prop := ∀ a o, R a = some o → H a = some o
theorem Sub.refl {R : Hp} : Sub R R := fun _ _ h => h
theorem Sub.trans {A B C : Hp} (h : Sub A B) (g : Sub B C) : Sub A C := fun a o e => g a o (h a o e)

theorem Sub.rd {R H : Hp} (h : Sub R H) {a : Addr} {u : HO} (r : Rd R a u) : Rd H a u := by
  rcases r with r | ⟨o, r⟩
  · exact .inl (h _ _ r)
  · exact .inr ⟨o, h _ _ r⟩
theorem Sub.seqL {K : Fr'} {R H : Hp} (h : Sub R H) {a : Addr} {xs : List V} (r : SqL K R a xs) : SqL K H a xs := by
  rcases r with r | r
  · exact .inl (h.rd r)
  · exact .inr r
theorem Sub.seqT {K : Fr'} {R H : Hp} (h : Sub R H) {a : Addr} {xs : List V} (r : SqT K R a xs) : SqT K H a xs := by
  rcases r with r | r
  · exact .inl (h.rd r)
  · exact .inr r

mutual
def RpD (K : Fr') (R : Hp) : PV → V → Prop
  | .non, v => v = .non
  | .bl b, v => v = .bl b
  | .int i, v => v = .int i
  | .str s, v => v = .str s ∧ s.length ≤ line
  | .tup xs, v => ∃ a vs, v = .ref a ∧ SqT K R a vs ∧ xs.length ≤ line ∧ RpL K R xs vs
  | .lst xs, v => ∃ a vs, v = .ref a ∧ R a = some (.lst vs) ∧ xs.length ≤ line ∧ RpL K R xs vs
def RpL (K : Fr') (R : Hp) : List PV → List V → Prop
  | [], vs => vs = []
  | x :: xs, vs => ∃ v ws, vs = v :: ws ∧ RpD K R x v ∧ RpL K R xs ws
end
/-! ### dicts with other keys -/
mutual
/-- a key as the model knows it -/
def nkP : PV → NestedKey
  | .bl b => .num (b2i b)
  | .int i => .num i
  | .tup xs => .tup (nkL xs)
  | _ => .none
def nkL : List PV → List NestedKey
  | [] => []
  | x :: xs => nkP x :: nkL xs
end
mutual
/-- the hash of a key without texts -/
def hashN : NestedKey → Int
  | .none => reduceHash 0xFCA86420
  | .num i => hashInt i
  | .text _ => 0
  | .tup ks => reduceHash (Builtin.Tuple.tupleHashOf (hashNs ks))
def hashNs : List NestedKey → List Int
  | [] => []
  | k :: ks => hashN k :: hashNs ks
end
/-- an entry: its key, the key's place where it is a tuple, its value -/
abbrev En := NestedKey × Option Addr × V
def EnR (e : En) (d : DictEntry) : Prop := d.hash = hashN e.1 ∧ RelV e.2.2 d.val ∧ match e.2.1 with
  | some b => d.key = .ref b
  | none => ∃ l : Leaf, l.key = e.1 ∧ Leaf.isOf l d.key = true
def DXo (a : Addr) (es : List En) (h : Heap) : Prop :=
  (a == sysModules) = false ∧ es.length ≤ sizeLine ∧ (es.map (·.1)).Nodup ∧ ∃ o en ep, h.get? a = some o ∧ o.ExactDict ∧ o.data = .dict en ep ∧ Paired EnR es en.toList
def DX (a : Addr) (es : List En) : HO := .ext (DXo a es)
/-- the dict is there; locked -/
def LkR (R : Hp) (a : Addr) (es : List En) : Bool → Prop
  | true => ∃ o, R a = some (.frz o (DX a es))
  | false => Rd R a (DX a es)
theorem LkR.rd {R : Hp} {a : Addr} {es : List En} : ∀ {b : Bool}, LkR R a es b → Rd R a (DX a es)
  | true, h => .inr h
  | false, h => h
theorem LkR.mono {R R' : Hp} (h : Sub R R') {a : Addr} {es : List En} : ∀ {b : Bool}, LkR R a es b → LkR R' a es b
  | true, ⟨o, e⟩ => ⟨o, h _ _ e⟩
  | false, e => h.rd e
/-- an entry's key lies so -/
def RpQ (K : Fr') (R : Hp) (p : PV) (e : Option Addr) : Prop := kyP 8 p = true ∧ ((isTup p = true ∧ ∃ b, e = some b ∧ RpD K R p (.ref b)) ∨ (isTup p = false ∧ e = none))
def RpX (K : Fr') (R : Hp) : List (PV × PV) → List En → Prop
  | [], es => es = []
  | kv :: r, es => ∃ b v es', es = (nkP kv.1, b, v) :: es' ∧ RpQ K R kv.1 b ∧ RpD K R kv.2 v ∧ RpX K R r es'
/-- the entries of a dict -/
def RpK (K : Fr') (R : Hp) : List (Ky × PV) → List (Key × V) → Prop
  | [], ws => ws = []
  | kp :: r, ws => ∃ v ws', ws = (kp.1, v) :: ws' ∧ RpD K R kp.2 v ∧ RpK K R r ws'
def RpS (K : Fr') (R : Hp) : SV → V → Prop
  | .d p, v => RpD K R p v
  | .dK kvs, v => ∃ a ws, v = .ref a ∧ R a = some (.dK ws) ∧ kvs.length ≤ line ∧ RpK K R kvs ws
  | .scr ns, v => ∃ a, v = .ref a ∧ SqL K R a (ns.map V.int) ∧ ns.length ≤ line
  | .dX lk kvs, v => ∃ a es, v = .ref a ∧ LkR R a es lk ∧ kvs.length ≤ line ∧ allX kvs = true ∧ RpX K R kvs es
  | _, _ => False
def RpSs (K : Fr') (R : Hp) : List SV → List V → Prop
  | [], vs => vs = []
  | x :: xs, vs => ∃ v ws, vs = v :: ws ∧ RpS K R x v ∧ RpSs K R xs ws

mutual
theorem RpD.mono {K : Fr'} {R R' : Hp} (h : Sub R R') : ∀ {p : PV} {v : V}, RpD K R p v → RpD K R' p v
  | .non, _, r => r
  | .bl _, _, r => r
  | .int _, _, r => r
  | .str _, _, r => r
  | .tup _, _, ⟨a, vs, e, s, z, r⟩ => ⟨a, vs, e, h.seqT s, z, RpL.mono h r⟩
  | .lst _, _, ⟨a, vs, e, s, z, r⟩ => ⟨a, vs, e, h _ _ s, z, RpL.mono h r⟩
theorem RpL.mono {K : Fr'} {R R' : Hp} (h : Sub R R') : ∀ {p : List PV} {v : List V}, RpL K R p v → RpL K R' p v
  | [], _, r => r
  | _ :: _, _, ⟨v, ws, e, r, rs⟩ => ⟨v, ws, e, RpD.mono h r, RpL.mono h rs⟩
end
theorem RpK.mono {K : Fr'} {R R' : Hp} (h : Sub R R') : ∀ {p : List (Ky × PV)} {v : List (Key × V)}, RpK K R p v → RpK K R' p v
  | [], _, r => r
  | _ :: _, _, ⟨v, ws, e, r, rs⟩ => ⟨v, ws, e, RpD.mono h r, RpK.mono h rs⟩
theorem RpK.len {K : Fr'} {R : Hp} : ∀ {p : List (Ky × PV)} {v : List (Key × V)}, RpK K R p v → v.length = p.length
  | [], _, r => by rw [show _ = [] from r]; rfl
  | _ :: _, _, ⟨v, ws, e, _, rs⟩ => by rw [e]; simp [RpK.len rs]
theorem RpQ.mono {K : Fr'} {R R' : Hp} (h : Sub R R') {p : PV} {b : Option Addr} (r : RpQ K R p b) : RpQ K R' p b :=
  ⟨r.1, r.2.imp (fun ⟨t, c, e, q⟩ => ⟨t, c, e, q.mono h⟩) id⟩
theorem RpX.mono {K : Fr'} {R R' : Hp} (h : Sub R R') : ∀ {p : List (PV × PV)} {v : List En}, RpX K R p v → RpX K R' p v
  | [], _, r => r
  | _ :: _, _, ⟨b, v, ws, e, q, r, rs⟩ => ⟨b, v, ws, e, q.mono h, r.mono h, rs.mono h⟩
theorem RpX.len {K : Fr'} {R : Hp} : ∀ {p : List (PV × PV)} {v : List En}, RpX K R p v → v.length = p.length
  | [], _, r => by rw [show _ = [] from r]; rfl
  | _ :: _, _, ⟨b, v, ws, e, _, _, rs⟩ => by rw [e]; simp [RpX.len rs]
theorem RpS.mono {K : Fr'} {R R' : Hp} (h : Sub R R') {s : SV} {v : V} (r : RpS K R s v) : RpS K R' s v := by
  cases s with
  | d p => exact RpD.mono h r
  | scr _ => obtain ⟨a, e, q, z⟩ := r; exact ⟨a, e, h.seqL q, z⟩
  | dK _ => obtain ⟨a, ws, e, q, z, rs⟩ := r; exact ⟨a, ws, e, h _ _ q, z, rs.mono h⟩
  | dX _ _ => obtain ⟨a, ws, e, q, z, y, rs⟩ := r; exact ⟨a, ws, e, q.mono h, z, y, rs.mono h⟩
  | ins _ _ => exact r
theorem RpSs.mono {K : Fr'} {R R' : Hp} (h : Sub R R') : ∀ {s : List SV} {v : List V}, RpSs K R s v → RpSs K R' s v
  | [], _, r => r
  | _ :: _, _, ⟨v, ws, e, r, rs⟩ => ⟨v, ws, e, r.mono h, RpSs.mono h rs⟩

theorem RpL.len {K : Fr'} {R : Hp} : ∀ {ps : List PV} {vs : List V}, RpL K R ps vs → vs.length = ps.length
  | [], _, r => by rw [show _ = [] from r]; rfl
  | _ :: _, _, ⟨v, ws, e, _, rs⟩ => by rw [e]; simp [RpL.len rs]
theorem RpL.get {K : Fr'} {R : Hp} : ∀ {ps : List PV} {vs : List V} {i : Nat} {v : V}, RpL K R ps vs → vs[i]? = some v → ∃ p, ps[i]? = some p ∧ RpD K R p v
  | [], _, _, _, r, e => by rw [show _ = [] from r] at e; simp at e
  | p :: _, _, 0, _, ⟨v, ws, e1, r, rs⟩, e => by subst e1; simp at e; subst e; exact ⟨p, rfl, r⟩
  | _ :: _, _, i + 1, _, ⟨v, ws, e1, r, rs⟩, e => by
    subst e1
    obtain ⟨p, h1, h2⟩ := RpL.get (i := i) rs (by simpa using e)
    exact ⟨p, by simpa using h1, h2⟩
theorem RpL.get' {K : Fr'} {R : Hp} : ∀ {ps : List PV} {vs : List V} {i : Nat} {p : PV}, RpL K R ps vs → ps[i]? = some p → ∃ v, vs[i]? = some v ∧ RpD K R p v
  | [], _, _, _, _, e => by simp at e
  | p :: _, _, 0, _, ⟨v, ws, e1, r, rs⟩, e => by subst e1; simp at e; subst e; exact ⟨v, rfl, r⟩
  | _ :: _, _, i + 1, _, ⟨v, ws, e1, r, rs⟩, e => by
    subst e1
    obtain ⟨v, h1, h2⟩ := RpL.get' (i := i) rs (by simpa using e)
    exact ⟨v, by simpa using h1, h2⟩
theorem RpL.append {K : Fr'} {R : Hp} : ∀ {ps qs : List PV} {vs ws : List V}, RpL K R ps vs → RpL K R qs ws → RpL K R (ps ++ qs) (vs ++ ws)
  | [], _, _, _, r, s => by rw [show _ = [] from r]; exact s
  | _ :: _, _, _, _, ⟨v, ws, e, r, rs⟩, s => by subst e; exact ⟨v, _, rfl, r, RpL.append rs s⟩
theorem RpL.take {K : Fr'} {R : Hp} : ∀ {ps : List PV} {vs : List V} (n : Nat), RpL K R ps vs → RpL K R (ps.take n) (vs.take n)
  | _, _, 0, _ => by simp [RpL]
  | [], _, n + 1, r => by rw [show _ = [] from r]; simp [RpL]
  | _ :: _, _, n + 1, ⟨v, ws, e, r, rs⟩ => by subst e; exact ⟨v, _, rfl, r, RpL.take n rs⟩
theorem RpL.drop {K : Fr'} {R : Hp} : ∀ {ps : List PV} {vs : List V} (n : Nat), RpL K R ps vs → RpL K R (ps.drop n) (vs.drop n)
  | _, _, 0, r => r
  | [], _, n + 1, r => by rw [show _ = [] from r]; simp [RpL]
  | _ :: _, _, n + 1, ⟨v, ws, e, r, rs⟩ => by subst e; exact RpL.drop n rs
theorem RpL.one {K : Fr'} {R : Hp} {p : PV} {v : V} (r : RpD K R p v) : RpL K R [p] [v] := ⟨v, [], rfl, r, rfl⟩
theorem RpL.rev {K : Fr'} {R : Hp} : ∀ {ps : List PV} {vs : List V}, RpL K R ps vs → RpL K R ps.reverse vs.reverse
  | [], _, r => by rw [show _ = [] from r]; exact rfl
  | _ :: _, _, ⟨v, ws, e, r, rs⟩ => by
    subst e
    rw [List.reverse_cons, List.reverse_cons]
    exact (RpL.rev rs).append (.one r)

/-! ### regions that grow -/
structure Grow (H R H' R' : Hp) : Prop where
  same : Sub H H'
  reg : Sub R R'
  sub : Sub R' H'
  old : ∀ a, H a ≠ none → R' a = R a
theorem Grow.refl {H R : Hp} (h : Sub R H) : Grow H R H R := ⟨.refl, .refl, h, fun _ _ => rfl⟩
theorem Grow.trans {H R H1 R1 H2 R2 : Hp} (g : Grow H R H1 R1) (g' : Grow H1 R1 H2 R2) : Grow H R H2 R2 :=
  ⟨g.same.trans g'.same, g.reg.trans g'.reg, g'.sub, fun a n => by
    rw [g'.old a ?_, g.old a n]
    cases e : H a with
    | none => exact absurd e n
    | some o => rw [g.same a o e]; simp⟩
/-- a new shared object -/
theorem Grow.new {H R : Hp} (h : Sub R H) {p : Addr} (hp : H p = none) (o : HO) : Grow H R (upd H p o) (upd R p o) := by
  refine ⟨fun a u e => ?_, fun a u e => ?_, fun a u e => ?_, fun a n => ?_⟩
  · rw [upd_ne (ne_of_none e hp)]; exact e
  · rw [upd_ne (ne_of_none (h _ _ e) hp)]; exact e
  · by_cases c : a = p
    · subst c; rw [upd_same] at e ⊢; exact e
    · rw [upd_ne c] at e ⊢; exact h _ _ e
  · by_cases c : a = p
    · subst c; exact absurd hp n
    · rw [upd_ne c]
/-- a new object that is hidden -/
theorem Grow.hid {H R : Hp} (h : Sub R H) {p : Addr} (hp : H p = none) (o : HO) : Grow H R (upd H p o) R := by
  refine ⟨fun a u e => ?_, .refl, fun a u e => ?_, fun a n => rfl⟩
  · rw [upd_ne (ne_of_none e hp)]; exact e
  · rw [upd_ne (ne_of_none (h _ _ e) hp)]; exact h _ _ e

/-- what stands at the place of a list, of a dict -/
def TopAt (K : Fr') (R H : Hp) (a : Addr) : SV → Prop
  | .d (.lst ps) => ∃ vs, H a = some (.lst vs) ∧ RpL K R ps vs ∧ ps.length ≤ line
  | .dK kvs => ∃ ws, H a = some (.dK ws) ∧ RpK K R kvs ws ∧ kvs.length ≤ line
  | .dX false kvs => ∃ es, H a = some (DX a es) ∧ RpX K R kvs es ∧ kvs.length ≤ line ∧ allX kvs = true
  | _ => False
theorem TopAt.mono {K : Fr'} {R R' H H' : Hp} {a : Addr} (hR : Sub R R') (hH : ∀ o, H a = some o → H' a = some o) : ∀ {s : SV}, TopAt K R H a s → TopAt K R' H' a s
  | .d (.lst _), ⟨vs, h, r, z⟩ => ⟨vs, hH _ h, r.mono hR, z⟩
  | .dK _, ⟨ws, h, r, z⟩ => ⟨ws, hH _ h, r.mono hR, z⟩
  | .dX false _, ⟨ws, h, r, z⟩ => ⟨ws, hH _ h, r.mono hR, z⟩
/-- the object; where it is known, the value is -/
theorem TopAt.obj {K : Fr'} {R H : Hp} {a : Addr} : ∀ {s : SV}, TopAt K R H a s → ∃ o, H a = some o ∧ ∀ R', Sub R R' → R' a = some o → RpS K R' s (.ref a)
  | .d (.lst _), ⟨vs, h, r, z⟩ => ⟨_, h, fun R' s e => ⟨a, vs, rfl, e, z, r.mono s⟩⟩
  | .dK _, ⟨ws, h, r, z⟩ => ⟨_, h, fun R' s e => ⟨a, ws, rfl, e, z, r.mono s⟩⟩
  | .dX false _, ⟨ws, h, r, z, y⟩ => ⟨_, h, fun R' s e => ⟨a, ws, rfl, .inl e, z, y, r.mono s⟩⟩
/-! ### the state of a def -/

/-- everything made since the entry, and what is shared -/
def Rall (H0 R H : Hp) : Hp := fun a => match H0 a with
  | none => H a
  | some _ => R a
theorem Rall.sub {H0 R H : Hp} (h : Sub R H) : Sub (Rall H0 R H) H := fun a o e => by
  unfold Rall at e
  cases q : H0 a with
  | none => rw [q] at e; exact e
  | some _ => rw [q] at e; exact h _ _ e
theorem Rall.of {H0 R H : Hp} (h : Sub R H) : Sub R (Rall H0 R H) := fun a o e => by
  unfold Rall
  cases q : H0 a with
  | none => exact h _ _ e
  | some _ => exact e

structure RelR (K : Fr') (H0 R0 R : Hp) (Γ : Gm) (σ : St) (H : Hp) : Prop where
  same : Sub H0 H
  sub : Sub R H
  sub0 : Sub R0 R
  old : ∀ a, H0 a ≠ none → R a = R0 a
  slot : ∀ (i : Nat) (s : SV), Γ[i]? = some (.sh s) → ∃ v, σ[i]? = some (some v) ∧ RpS K R s v
  own : ∀ (i : Nat) (s : SV), Γ[i]? = some (.ow s) → ∃ a : Addr, σ[i]? = some (some (.ref a)) ∧ TopAt K R H a s ∧ R a = none ∧ H0 a = none
  apart : ∀ (i j : Nat) (s t : SV) (a : Addr), i ≠ j → Γ[i]? = some (.ow s) → Γ[j]? = some (.ow t) → σ[i]? = some (some (.ref a)) → σ[j]? = some (some (.ref a)) → False
  len : Γ.length = σ.length
theorem RelR.grow {K : Fr'} {H0 R0 R R' : Hp} {Γ : Gm} {σ : St} {H H' : Hp} (r : RelR K H0 R0 R Γ σ H) (g : Grow H R H' R') : RelR K H0 R0 R' Γ σ H' := by
  refine ⟨r.same.trans g.same, g.sub, r.sub0.trans g.reg, fun a n => ?_, fun i s e => ?_, fun i s e => ?_, r.apart, r.len⟩
  · rw [g.old a, r.old a n]
    cases e : H0 a with
    | none => exact absurd e n
    | some o => rw [r.same a o e]; simp
  · obtain ⟨v, h1, h2⟩ := r.slot i s e
    exact ⟨v, h1, h2.mono g.reg⟩
  · obtain ⟨a, h2, h3, h6, h7⟩ := r.own i s e
    obtain ⟨o, ho, _⟩ := h3.obj
    refine ⟨a, h2, h3.mono g.reg fun o e => g.same _ _ e, ?_, h7⟩
    rw [g.old a (by rw [ho]; simp)]; exact h6
theorem RelR.ownL {K : Fr'} {H0 R0 R : Hp} {Γ : Gm} {σ : St} {H : Hp} (r : RelR K H0 R0 R Γ σ H) {i : Nat} {ps : List PV} (e : Γ[i]? = some (.ow (.d (.lst ps)))) : ∃ (a : Addr) (vs : List V), σ[i]? = some (some (.ref a)) ∧ H a = some (.lst vs) ∧ RpL K R ps vs ∧ ps.length ≤ line ∧ R a = none ∧ H0 a = none := by
  obtain ⟨a, h1, ⟨vs, h2, h3, h4⟩, h5, h6⟩ := r.own i _ e
  exact ⟨a, vs, h1, h2, h3, h4, h5, h6⟩
theorem RelR.ownK {K : Fr'} {H0 R0 R : Hp} {Γ : Gm} {σ : St} {H : Hp} (r : RelR K H0 R0 R Γ σ H) {i : Nat} {ps : List (Ky × PV)} (e : Γ[i]? = some (.ow (.dK ps))) : ∃ (a : Addr) (vs : List (Key × V)), σ[i]? = some (some (.ref a)) ∧ H a = some (.dK vs) ∧ RpK K R ps vs ∧ ps.length ≤ line ∧ R a = none ∧ H0 a = none := by
  obtain ⟨a, h1, ⟨vs, h2, h3, h4⟩, h5, h6⟩ := r.own i _ e
  exact ⟨a, vs, h1, h2, h3, h4, h5, h6⟩
/-- an own place is known -/
theorem RelR.ownH {K : Fr'} {H0 R0 R : Hp} {Γ : Gm} {σ : St} {H : Hp} (r : RelR K H0 R0 R Γ σ H) {i : Nat} {s : SV} (e : Γ[i]? = some (.ow s)) {a : Addr} (h : σ[i]? = some (some (.ref a))) : H a ≠ none := by
  obtain ⟨b, h1, h2, _⟩ := r.own i _ e
  rw [h] at h1; cases h1
  obtain ⟨o, ho, _⟩ := h2.obj
  rw [ho]; simp

/-! ### readings -/
/-- what stays fixed through a body: the written part, the entry's heap and region, the classes of errors, the wish of errors -/
structure Fr where
  K : Fr'
  H0 : Hp
  R0 : Hp
  cls : Nat → Value
  W : WX
/-- how a value is told: shared; shared but for its own top; anything made here -/
inductive Md where | e | t | f
  deriving DecidableEq
def Rm (F : Fr) (R H : Hp) : Md → SV → V → Prop
  | .e, s, v => RpS F.K R s v
  | .t, s, v => RpS F.K R s v ∨ ∃ a : Addr, v = .ref a ∧ TopAt F.K R H a s ∧ F.H0 a = none
  | .f, s, v => RpS F.K (Rall F.H0 R H) s v
def Md.le : Md → Md → Bool
  | .e, _ => true
  | .t, .t => true
  | .t, .f => true
  | .f, .f => true
  | _, _ => false
theorem Rm.le {F : Fr} {R H : Hp} (h : Sub R H) {m m' : Md} (l : m.le m' = true) {s : SV} {v : V} (r : Rm F R H m s v) : Rm F R H m' s v := by
  cases m <;> cases m' <;> try (cases l; done)
  · exact r
  · exact .inl r
  · exact RpS.mono (Rall.of h) r
  · exact r
  · rcases r with r | ⟨a, e2, h1, h4⟩
    · exact RpS.mono (Rall.of h) r
    · subst e2
      obtain ⟨o, ho, k⟩ := h1.obj
      refine k _ (Rall.of h) ?_
      unfold Rall; rw [h4]; exact ho
  · exact r
theorem Rm.grow {F : Fr} {R H R' H' : Hp} (g : Grow H R H' R') {m : Md} {s : SV} {v : V} (r : Rm F R H m s v) : Rm F R' H' m s v := by
  cases m with
  | e => exact RpS.mono g.reg r
  | t =>
    rcases r with r | ⟨a, e2, h1, h4⟩
    · exact .inl (RpS.mono g.reg r)
    · exact .inr ⟨a, e2, h1.mono g.reg fun o e => g.same _ _ e, h4⟩
  | f =>
    refine RpS.mono (fun a o e => ?_) r
    unfold Rall at e ⊢
    cases q : F.H0 a with
    | none => rw [q] at e; exact g.same _ _ e
    | some _ => rw [q] at e; exact g.reg _ _ e

/-- what is wanted behind a reckoning -/
def Post (F : Fr) (m : Md) (R : Hp) (σ : St) (H : Hp) (r : Res SV) (Q : VK) : Prop :=
  match r with
  | .ok s => ∀ v H' R', Grow H R H' R' → Rm F R' H' m s v → Q v H'
  | .exc c => ∀ H' R', Grow H R H' R' → F.W (F.cls c) none σ H'
  | .bad => False
theorem Post.grow {F : Fr} {m : Md} {R R1 H H1 : Hp} {σ : St} {r : Res SV} {Q : VK} (h : Post F m R σ H r Q) (g : Grow H R H1 R1) : Post F m R1 σ H1 r Q := by
  cases r with
  | ok s => exact fun v H' R' g' rv => h v H' R' (g.trans g') rv
  | exc c => exact fun H' R' g' => h H' R' (g.trans g')
  | bad => exact h
theorem Post.mono {F : Fr} {m : Md} {R H : Hp} {σ : St} {r : Res SV} {Q Q' : VK} (h : Post F m R σ H r Q) (k : ∀ v H', Q v H' → Q' v H') : Post F m R σ H r Q' := by
  cases r with
  | ok s => exact fun v H' R' g' rv => k _ _ (h v H' R' g' rv)
  | exc c => exact h
  | bad => exact h
theorem Post.bind {F : Fr} {m m' : Md} {R H : Hp} {σ : St} {r : Res SV} {f : SV → Res SV} {Q : VK} (hs : Sub R H) (h : Post F m' R σ H (r.bind f) Q) :
    Post F m R σ H r (fun x H1 => ∃ s R1, r = .ok s ∧ Grow H R H1 R1 ∧ Rm F R1 H1 m s x ∧ Post F m' R1 σ H1 (f s) Q) := by
  cases r with
  | ok s => exact fun v H1 R1 g rv => ⟨s, R1, rfl, g, rv, Post.grow (r := f s) h g⟩
  | exc c => exact h
  | bad => exact h
/-- the value as it stands -/
theorem Post.now {F : Fr} {m : Md} {R H : Hp} {σ : St} {s : SV} {Q : VK} {v : V} (hs : Sub R H) (h : Post F m R σ H (.ok s) Q) (r : Rm F R H m s v) : Q v H := h v H R (.refl hs) r
theorem Post.new {F : Fr} {m : Md} {R H : Hp} {σ : St} {s : SV} {Q : VK} {p : Addr} {o : HO} (hs : Sub R H) (h : Post F m R σ H (.ok s) Q) (hp : H p = none) (r : RpS F.K (upd R p o) s (.ref p)) : Q (.ref p) (upd H p o) :=
  h _ _ _ (.new hs hp o) (Rm.le (m := .e) (Grow.new hs hp o).sub rfl r)

/-- the reading of an expression by a tree -/
def Rd' (F : Fr) (m : Md) (g : Gm → Res SV) : TE := fun σ H Q => ∃ Γ R, RelR F.K F.H0 F.R0 R Γ σ H ∧ Post F m R σ H (g Γ) Q
/-- .. of a list of them -/
def Rms (F : Fr) (R H : Hp) (m : Md) : List SV → List V → Prop
  | [], vs => vs = []
  | x :: xs, vs => ∃ v ws, vs = v :: ws ∧ Rm F R H m x v ∧ Rms F R H m xs ws
theorem Rms.grow {F : Fr} {R H R' H' : Hp} (g : Grow H R H' R') {m : Md} : ∀ {s : List SV} {v : List V}, Rms F R H m s v → Rms F R' H' m s v
  | [], _, r => r
  | _ :: _, _, ⟨v, ws, e, r, rs⟩ => ⟨v, ws, e, r.grow g, Rms.grow g rs⟩
def PostL (F : Fr) (m : Md) (R : Hp) (σ : St) (H : Hp) (r : Res (List SV)) (Q : List V → Hp → Prop) : Prop :=
  match r with
  | .ok s => ∀ v H' R', Grow H R H' R' → Rms F R' H' m s v → Q v H'
  | .exc c => ∀ H' R', Grow H R H' R' → F.W (F.cls c) none σ H'
  | .bad => False
theorem PostL.grow {F : Fr} {m : Md} {R R1 H H1 : Hp} {σ : St} {r : Res (List SV)} {Q : List V → Hp → Prop} (h : PostL F m R σ H r Q) (g : Grow H R H1 R1) : PostL F m R1 σ H1 r Q := by
  cases r with
  | ok s => exact fun v H' R' g' rv => h v H' R' (g.trans g') rv
  | exc c => exact fun H' R' g' => h H' R' (g.trans g')
  | bad => exact h
def RdL (F : Fr) (m : Md) (g : Gm → Res (List SV)) : TA := fun σ H Q => ∃ Γ R, RelR F.K F.H0 F.R0 R Γ σ H ∧ PostL F m R σ H (g Γ) Q
/-- .. of a test -/
def PostB (F : Fr) (R : Hp) (σ : St) (H : Hp) (r : Res Bool) (Q : Bool → Hp → Prop) : Prop :=
  match r with
  | .ok b => ∀ H' R', Grow H R H' R' → Q b H'
  | .exc c => ∀ H' R', Grow H R H' R' → F.W (F.cls c) none σ H'
  | .bad => False
def RdB (F : Fr) (g : Gm → Res Bool) : TT := fun σ H Q => ∃ Γ R, RelR F.K F.H0 F.R0 R Γ σ H ∧ PostB F R σ H (g Γ) Q
theorem PostB.grow {F : Fr} {R R1 H H1 : Hp} {σ : St} {r : Res Bool} {Q : Bool → Hp → Prop} (h : PostB F R σ H r Q) (g : Grow H R H1 R1) : PostB F R1 σ H1 r Q := by
  cases r with
  | ok s => exact fun H' R' g' => h H' R' (g.trans g')
  | exc c => exact fun H' R' g' => h H' R' (g.trans g')
  | bad => exact h

theorem peImp {X : Cx} {e : Expr} {t t' : TE} (h : PE X e t) (k : ∀ σ H Q, t' σ H Q → t σ H Q) : PE X e t' := ⟨fun pins s σ H Q I q => h.run pins s σ H Q I (k σ H Q q)⟩
theorem ptImp {X : Cx} {e : Expr} {t t' : TT} (h : PT X e t) (k : ∀ σ H Q, t' σ H Q → t σ H Q) : PT X e t' := ⟨fun pins s σ H Q I q => h.run pins s σ H Q I (k σ H Q q)⟩
theorem paImp {X : Cx} {e : List Expr} {t t' : TA} (h : PA X e t) (k : ∀ σ H Q, t' σ H Q → t σ H Q) : PA X e t' := ⟨fun pos pins s σ H Q I q => h.run pos pins s σ H Q I (k σ H Q q)⟩
end Bw
namespace Bw
open PySem L2
theorem RpK.val {K : Fr'} {R : Hp} (k : Ky) : ∀ {p : List (Ky × PV)} {v : List (Key × V)}, RpK K R p v → (∀ q, valK p k = some q → ∃ x, valV v k = some x ∧ RpD K R q x) ∧ (valK p k = none → valV v k = none)
  | [], _, r => by
    rw [show _ = [] from r]
    exact ⟨fun q h => by simp [valK] at h, fun _ => rfl⟩
  | kp :: ps, _, ⟨x, ws, e, r, rs⟩ => by
    subst e
    obtain ⟨i1, i2⟩ := RpK.val k rs
    by_cases c : kp.1 = k
    · have e1 : valK (kp :: ps) k = some kp.2 := by simp [valK, List.find?_cons, c]
      rw [e1, valV_pos (p := (kp.1, x)) c]
      refine ⟨fun q h => ⟨x, rfl, ?_⟩, fun h => by cases h⟩
      cases h; exact r
    · have e1 : valK (kp :: ps) k = valK ps k := by simp [valK, List.find?_cons, c]
      rw [e1, valV_neg (p := (kp.1, x)) c]
      exact ⟨i1, i2⟩
theorem RpK.isSome {K : Fr'} {R : Hp} {k : Ky} {p : List (Ky × PV)} {v : List (Key × V)} (r : RpK K R p v) : (valV v k).isSome = (valK p k).isSome := by
  obtain ⟨i1, i2⟩ := r.val k
  cases e : valK p k with
  | none => rw [i2 e]; rfl
  | some q => obtain ⟨x, h, _⟩ := i1 q e; rw [h]; rfl
theorem RpK.any {K : Fr'} {R : Hp} (k : Ky) : ∀ {p : List (Ky × PV)} {v : List (Key × V)}, RpK K R p v → (v.any fun kv => decide (kv.1 = k)) = (p.any fun kv => decide (kv.1 = k))
  | [], _, r => by rw [show _ = [] from r]; rfl
  | kp :: ps, _, ⟨x, ws, e, r, rs⟩ => by subst e; rw [List.any_cons, List.any_cons, RpK.any k rs]
theorem RpK.map {K : Fr'} {R : Hp} (k : Ky) {q : PV} {y : V} (rq : RpD K R q y) : ∀ {p : List (Ky × PV)} {v : List (Key × V)}, RpK K R p v → RpK K R (p.map fun kv => if kv.1 = k then (kv.1, q) else kv) (v.map fun kv => if kv.1 = k then (kv.1, y) else kv)
  | [], _, r => by rw [show _ = [] from r]; exact rfl
  | kp :: ps, _, ⟨x, ws, e, r, rs⟩ => by
    subst e
    rw [List.map_cons, List.map_cons]
    by_cases c : kp.1 = k
    · rw [if_pos c, if_pos (show (kp.1, x).1 = k from c)]
      exact ⟨y, _, rfl, rq, RpK.map k rq rs⟩
    · rw [if_neg c, if_neg (show ¬ (kp.1, x).1 = k from c)]
      exact ⟨x, _, rfl, r, RpK.map k rq rs⟩
theorem RpK.append {K : Fr'} {R : Hp} : ∀ {p q : List (Ky × PV)} {v w : List (Key × V)}, RpK K R p v → RpK K R q w → RpK K R (p ++ q) (v ++ w)
  | [], _, _, _, r, s => by rw [show _ = [] from r]; exact s
  | _ :: _, _, _, _, ⟨x, ws, e, r, rs⟩, s => by subst e; exact ⟨x, _, rfl, r, RpK.append rs s⟩
theorem RpK.put {K : Fr'} {R : Hp} {p : List (Ky × PV)} {v : List (Key × V)} (r : RpK K R p v) (k : Ky) {q : PV} {y : V} (rq : RpD K R q y) : RpK K R (putP p k q) (putK v k y) := by
  unfold putP putK
  rw [r.any k]
  split
  · exact r.map k rq
  · exact r.append ⟨y, [], rfl, rq, rfl⟩
theorem putP_len (p : List (Ky × PV)) (k : Ky) (q : PV) : (putP p k q).length ≤ p.length + 1 := by
  unfold putP
  split
  · rw [List.length_map]; omega
  · rw [List.length_append]; simp
end Bw
end

section
set_option autoImplicit false
set_option linter.all false
/-! Bw C: trees in the machine's own heap; == and < of them. -/
namespace Bw
open PySem L2 PySem.SeqAt Ob
mutual
def CpD (h : Heap) : PV → Value → Prop
  | .non, u => u = .none
  | .bl b, u => u = .bool b
  | .int i, u => ∃ t, u = .int i t
  | .str s, u => ∃ t, u = .str s t
  | .tup xs, u => ∃ a us, u = .ref a ∧ h.IsTuple a us.toArray ∧ CpL h xs us
  | .lst xs, u => ∃ a us, u = .ref a ∧ h.IsList a us.toArray ∧ CpL h xs us
def CpL (h : Heap) : List PV → List Value → Prop
  | [], us => us = []
  | x :: xs, us => ∃ u ws, us = u :: ws ∧ CpD h x u ∧ CpL h xs ws
end
section
variable {X : Cx} {pins : List (Addr × Obj)} {σ : L2.St} {H : Hp} {s : Shared}
mutual
theorem cp_of (I : Inv X pins σ H s) {R : Hp} (hs : Sub R H) : ∀ {p : PV} {x : V} {u : Value}, RpD X.K R p x → RelV x u → CpD s.heap p u
  | .non, _, _, e, r => by subst e; exact r
  | .bl _, _, _, e, r => by subst e; exact r
  | .int _, _, _, e, r => by subst e; exact r
  | .str _, _, _, e, r => by obtain ⟨e, _⟩ := e; subst e; exact r
  | .tup _, _, _, ⟨a, vs, e, sq, _, rs⟩, r => by
    subst e
    obtain ⟨its, rv, ht, _⟩ := I.tuple (hs.seqT sq)
    exact ⟨a, its, r, ht, cpl_of I hs rs rv⟩
  | .lst _, _, _, ⟨a, vs, e, sq, _, rs⟩, r => by
    subst e
    obtain ⟨its, rv, ht, _⟩ := I.list (SqL.of (hs _ _ sq))
    exact ⟨a, its, r, ht.isList, cpl_of I hs rs rv⟩
theorem cpl_of (I : Inv X pins σ H s) {R : Hp} (hs : Sub R H) : ∀ {ps : List PV} {xs : List V} {us : List Value}, RpL X.K R ps xs → Vals xs us → CpL s.heap ps us
  | [], _, _, e, r => by rw [show _ = [] from e] at r; cases r; rfl
  | _ :: _, _, _, ⟨v, ws, e, r1, rs⟩, r => by
    subst e
    cases r with
    | cons r2 rr => exact ⟨_, _, rfl, cp_of I hs r1 r2, cpl_of I hs rs rr⟩
end
end
theorem CpL.len {h : Heap} : ∀ {ps : List PV} {us : List Value}, CpL h ps us → us.length = ps.length
  | [], _, r => by rw [show _ = [] from r]; rfl
  | _ :: _, _, ⟨v, ws, e, _, rs⟩ => by rw [e]; simp [CpL.len rs]
theorem CpL.at {h : Heap} : ∀ {ps : List PV} {us : List Value} {j : Nat} (h1 : j < ps.length) (h2 : j < us.length), CpL h ps us → CpD h ps[j] us[j]
  | [], _, _, h1, _, r => absurd h1 (by simp)
  | p :: ps, _, 0, h1, h2, ⟨v, ws, e, r, rs⟩ => by subst e; exact r
  | p :: ps, _, j + 1, h1, h2, ⟨v, ws, e, r, rs⟩ => by
    subst e
    exact CpL.at (ps := ps) (by simpa using h1) (by simpa using h2) rs
theorem CpL.mem {h : Heap} : ∀ {ps : List PV} {us : List Value} {u : Value}, CpL h ps us → u ∈ us → ∃ p ∈ ps, CpD h p u
  | [], _, _, r, hm => by rw [show _ = [] from r] at hm; simp at hm
  | p :: ps, _, u, ⟨v, ws, e, r, rs⟩, hm => by
    subst e
    rcases List.mem_cons.mp hm with rfl | hm
    · exact ⟨p, List.mem_cons_self, r⟩
    · obtain ⟨q, h1, h2⟩ := CpL.mem rs hm
      exact ⟨q, List.mem_cons_of_mem _ h1, h2⟩
theorem tup_obj {h : Heap} {a : Addr} {us ws : List Value} (x : h.IsTuple a us.toArray) (y : h.IsTuple a ws.toArray) : us = ws := by
  obtain ⟨o, e, _, n, d⟩ := x
  obtain ⟨o', e', _, n', d'⟩ := y
  rw [e] at e'; cases e'
  rw [d] at d'
  injection d' with d1 _
  simpa using congrArg Array.toList d1
theorem lst_obj {h : Heap} {a : Addr} {us ws : List Value} (x : h.IsList a us.toArray) (y : h.IsList a ws.toArray) : us = ws := by
  obtain ⟨o, e, _, n, d⟩ := x
  obtain ⟨o', e', _, n', d'⟩ := y
  rw [e] at e'; cases e'
  rw [d] at d'
  injection d' with d1 _
  simpa using congrArg Array.toList d1
theorem not_both {h : Heap} {a : Addr} {us ws : List Value} (x : h.IsTuple a us.toArray) (y : h.IsList a ws.toArray) : False := by
  obtain ⟨o, e, c, _⟩ := x
  obtain ⟨o', e', c', _⟩ := y
  rw [e] at e'; cases e'
  rw [c] at c'
  exact absurd c' (by decide)
mutual
/-- what lies there is one tree -/
theorem CpD.inj {h : Heap} : ∀ {p q : PV} {u : Value}, CpD h p u → CpD h q u → p = q
  | .non, q, u, e, r => by subst e; cases q <;> first | rfl | (cases r; done) | (obtain ⟨_, r⟩ := r; cases r; done) | (obtain ⟨_, _, r, _⟩ := r; cases r; done)
  | .bl b, q, u, e, r => by
    subst e
    cases q <;> first | (cases r; rfl) | (cases r; done) | (obtain ⟨_, r⟩ := r; cases r; done) | (obtain ⟨_, _, r, _⟩ := r; cases r; done)
  | .int b, q, u, ⟨t, e⟩, r => by
    subst e
    cases q <;> first | (cases r; done) | (obtain ⟨_, r⟩ := r; cases r; first | rfl | done) | (obtain ⟨_, _, r, _⟩ := r; cases r; done)
  | .str b, q, u, ⟨t, e⟩, r => by
    subst e
    cases q <;> first | (cases r; done) | (obtain ⟨_, r⟩ := r; cases r; first | rfl | done) | (obtain ⟨_, _, r, _⟩ := r; cases r; done)
  | .tup xs, q, u, ⟨a, us, e, t, rs⟩, r => by
    subst e
    cases q with
    | tup ys =>
      obtain ⟨b, ws, e2, t2, rs2⟩ := r
      cases e2
      have := tup_obj t t2
      subst this
      rw [CpL.inj rs rs2]
    | lst ys =>
      obtain ⟨b, ws, e2, t2, rs2⟩ := r
      cases e2
      exact (not_both t t2).elim
    | non => cases r
    | bl _ => cases r
    | int _ => obtain ⟨_, r⟩ := r; cases r
    | str _ => obtain ⟨_, r⟩ := r; cases r
  | .lst xs, q, u, ⟨a, us, e, t, rs⟩, r => by
    subst e
    cases q with
    | lst ys =>
      obtain ⟨b, ws, e2, t2, rs2⟩ := r
      cases e2
      have := lst_obj t t2
      subst this
      rw [CpL.inj rs rs2]
    | tup ys =>
      obtain ⟨b, ws, e2, t2, rs2⟩ := r
      cases e2
      exact (not_both t2 t).elim
    | non => cases r
    | bl _ => cases r
    | int _ => obtain ⟨_, r⟩ := r; cases r
    | str _ => obtain ⟨_, r⟩ := r; cases r
theorem CpL.inj {h : Heap} : ∀ {p q : List PV} {u : List Value}, CpL h p u → CpL h q u → p = q
  | [], q, u, e, r => by
    have e : u = [] := e
    subst e
    cases q with
    | nil => rfl
    | cons _ _ => obtain ⟨_, _, e, _⟩ := r; cases e
  | x :: xs, q, u, ⟨v, ws, e, r1, rs⟩, r => by
    subst e
    cases q with
    | nil => cases (show _ = [] from r)
    | cons _ _ =>
      obtain ⟨_, _, e, r2, rs2⟩ := r
      cases e
      rw [CpD.inj r1 r2, CpL.inj rs rs2]
end
mutual
theorem pyEq_refl : ∀ p : PV, pyEq p p = true
  | .non => rfl
  | .bl b => by simp [pyEq]
  | .int b => by simp [pyEq]
  | .str b => by simp [pyEq]
  | .tup xs => pyEqL_refl xs
  | .lst xs => pyEqL_refl xs
theorem pyEqL_refl : ∀ p : List PV, pyEqL p p = true
  | [] => rfl
  | x :: xs => by simp [pyEqL, pyEq_refl x, pyEqL_refl xs]
end
/-- .. as a look at the places -/
theorem pyEqL_range : ∀ (ps qs : List PV) (f : Nat → Bool), (∀ j (h1 : j < ps.length) (h2 : j < qs.length), f j = pyEq ps[j] qs[j]) →
    pyEqL ps qs = ((List.range (min ps.length qs.length)).all f && decide (ps.length = qs.length))
  | [], [], f, h => by simp [pyEqL]
  | [], q :: qs, f, h => by simp [pyEqL]
  | p :: ps, [], f, h => by simp [pyEqL]
  | p :: ps, q :: qs, f, h => by
    have ih := pyEqL_range ps qs (fun j => f (j + 1)) fun j h1 h2 => by
      have := h (j + 1) (by simpa using h1) (by simpa using h2)
      simpa using this
    have h0 := h 0 (by simp) (by simp)
    have hm : min (p :: ps).length (q :: qs).length = min ps.length qs.length + 1 := by simp only [List.length_cons]; omega
    rw [hm, List.range_succ_eq_map, List.all_cons, List.all_map, h0]
    show (pyEq p q && pyEqL ps qs) = _
    rw [ih]
    have hd : decide ((p :: ps).length = (q :: qs).length) = decide (ps.length = qs.length) := by simp
    rw [hd, Bool.and_assoc]
    rfl
/-- is it deep -/
theorem shalL_at {n : Nat} : ∀ {ps : List PV} {j : Nat} (h : j < ps.length), shalL n ps = true → shal n ps[j] = true
  | [], _, h, _ => absurd h (by simp)
  | p :: ps, 0, _, e => by simp [shalL] at e; exact e.1
  | p :: ps, j + 1, h, e => by simp [shalL] at e; exact shalL_at (ps := ps) (by simpa using h) e.2
section
variable {A : Around} {s : Shared}
theorem shal_sub {n : Nat} {xs ys : List PV} {j : Nat} (h1 : j < xs.length) (h2 : j < ys.length) (h : shalL n xs = true ∨ shalL n ys = true) : shal n xs[j] = true ∨ shal n ys[j] = true :=
  h.imp (shalL_at h1) (shalL_at h2)
/-- two lists, two tuples -/
def twin : PV → PV → Bool
  | .tup _, .tup _ => true
  | .lst _, .lst _ => true
  | _, _ => false
theorem eq_flat {p q : PV} {u w : Value} (hp : CpD s.heap p u) (hq : CpD s.heap q w) (hu : A.units < cLine) (hn : twin p q = false) : EqAt A s u w (pyEq p q) ∧ RcAt A s u w (pyEq p q) := by
  cases p with
  | non =>
    obtain rfl : u = _ := hp
    cases q with
    | non => obtain rfl : w = _ := hq; exact ⟨.same _, .none_none⟩
    | bl b => obtain rfl : w = _ := hq; exact ⟨.none_bool b, .none_bool b⟩
    | int j => obtain ⟨t, rfl⟩ := hq; exact ⟨.none_int j t, .none_int j t⟩
    | str z => obtain ⟨t, rfl⟩ := hq; exact ⟨.none_str z t, .none_str z t⟩
    | tup ys => obtain ⟨a, us, rfl, ht, _⟩ := hq; exact ⟨.none_tuple ht hu, .none_tuple ht hu⟩
    | lst ys => obtain ⟨a, us, rfl, ht, _⟩ := hq; exact ⟨.none_list ht hu, .none_list ht hu⟩
  | bl a =>
    obtain rfl : u = _ := hp
    cases q with
    | non => obtain rfl : w = _ := hq; exact ⟨.bool_none a, .bool_none a⟩
    | bl b => obtain rfl : w = _ := hq; exact ⟨.bool_bool a b, .bool_bool a b⟩
    | int j => obtain ⟨t, rfl⟩ := hq; exact ⟨.bool_int a j t, .bool_int a j t⟩
    | str z => obtain ⟨t, rfl⟩ := hq; exact ⟨.bool_str a z t, .bool_str a z t⟩
    | tup ys => obtain ⟨b, us, rfl, ht, _⟩ := hq; exact ⟨.bool_tuple a ht hu, .bool_tuple a ht hu⟩
    | lst ys => obtain ⟨b, us, rfl, ht, _⟩ := hq; exact ⟨.bool_list a ht hu, .bool_list a ht hu⟩
  | int a =>
    obtain ⟨t', rfl⟩ := hp
    cases q with
    | non => obtain rfl : w = _ := hq; exact ⟨.int_none a t', .int_none a t'⟩
    | bl b => obtain rfl : w = _ := hq; exact ⟨.int_bool a t' b, .int_bool a t' b⟩
    | int j => obtain ⟨t, rfl⟩ := hq; exact ⟨.int_int a t' j t, .int_int a t' j t⟩
    | str z => obtain ⟨t, rfl⟩ := hq; exact ⟨.int_str a t' z t, .int_str a t' z t⟩
    | tup ys => obtain ⟨b, us, rfl, ht, _⟩ := hq; exact ⟨.int_tuple a t' ht hu, .int_tuple a t' ht hu⟩
    | lst ys => obtain ⟨b, us, rfl, ht, _⟩ := hq; exact ⟨.int_list a t' ht hu, .int_list a t' ht hu⟩
  | str a =>
    obtain ⟨t', rfl⟩ := hp
    cases q with
    | non => obtain rfl : w = _ := hq; exact ⟨.str_none a t', .str_none a t'⟩
    | bl b => obtain rfl : w = _ := hq; exact ⟨.str_bool a t' b, .str_bool a t' b⟩
    | int j => obtain ⟨t, rfl⟩ := hq; exact ⟨.str_int a t' j t, .str_int a t' j t⟩
    | str z => obtain ⟨t, rfl⟩ := hq; exact ⟨by simpa [pyEq, Bool.beq_eq_decide_eq] using EqAt.str_str a t' z t, by simpa [pyEq, Bool.beq_eq_decide_eq] using RcAt.str_str a t' z t⟩
    | tup ys => obtain ⟨b, us, rfl, ht, _⟩ := hq; exact ⟨.str_tuple a t' ht hu, .str_tuple a t' ht hu⟩
    | lst ys => obtain ⟨b, us, rfl, ht, _⟩ := hq; exact ⟨.str_list a t' ht hu, .str_list a t' ht hu⟩
  | tup xs =>
    obtain ⟨a, us, rfl, ht, rs⟩ := hp
    cases q with
    | non => obtain rfl : w = _ := hq; exact ⟨.tuple_none ht hu, .tuple_none ht hu⟩
    | bl b => obtain rfl : w = _ := hq; exact ⟨.tuple_bool b ht hu, .tuple_bool b ht hu⟩
    | int j => obtain ⟨t, rfl⟩ := hq; exact ⟨.tuple_int j t ht hu, .tuple_int j t ht hu⟩
    | str z => obtain ⟨t, rfl⟩ := hq; exact ⟨.tuple_str z t ht hu, .tuple_str z t ht hu⟩
    | tup ys => cases hn
    | lst ys => obtain ⟨b, ws, rfl, ht2, _⟩ := hq; exact ⟨.tuple_list ht ht2 hu, .tuple_list ht ht2 hu⟩
  | lst xs =>
    obtain ⟨a, us, rfl, ht, rs⟩ := hp
    cases q with
    | non => obtain rfl : w = _ := hq; exact ⟨.list_none ht hu, .list_none ht hu⟩
    | bl b => obtain rfl : w = _ := hq; exact ⟨.list_bool b ht hu, .list_bool b ht hu⟩
    | int j => obtain ⟨t, rfl⟩ := hq; exact ⟨.list_int j t ht hu, .list_int j t ht hu⟩
    | str z => obtain ⟨t, rfl⟩ := hq; exact ⟨.list_str z t ht hu, .list_str z t ht hu⟩
    | tup ys => obtain ⟨b, ws, rfl, ht2, _⟩ := hq; exact ⟨.list_tuple ht ht2 hu, .list_tuple ht ht2 hu⟩
    | lst ys => cases hn
/-- u == w of two trees -/
theorem eq_cp : ∀ (n : Nat) {A : Around} {p q : PV} {u w : Value}, CpD s.heap p u → CpD s.heap q w → A.units + n < cLine → (shal n p = true ∨ shal n q = true) → EqAt A s u w (pyEq p q) ∧ RcAt A s u w (pyEq p q) := by
  intro n
  induction n with
  | zero =>
    intro A p q u w hp hq hu hs
    have hu : A.units < cLine := by omega
    refine eq_flat hp hq hu ?_
    cases p <;> cases q <;> first | rfl | (simp [shal] at hs)
  | succ n ih =>
    intro A p q u w hp hq hu hs
    have hu0 : A.units < cLine := by omega
    have hu1 : A.in1.units + n < cLine := by show A.units + 1 + n < _; omega
    by_cases ht : twin p q = false
    · exact eq_flat hp hq hu0 ht
    cases p <;> cases q <;> first | exact absurd rfl ht | skip
    · rename_i xs ys
      have hs : shalL n xs = true ∨ shalL n ys = true := hs
      obtain ⟨a, us, rfl, ha, ra⟩ := hp
      obtain ⟨b, ws, rfl, hb, rb⟩ := hq
      have la := ra.len
      have lb := rb.len
      have e := pyEqL_range xs ys (fun j => pyEq (xs.getD j .non) (ys.getD j .non)) fun j h1 h2 => by simp [h1, h2]
      have rc : RcAt A s (.ref a) (.ref b) (pyEq (.tup xs) (.tup ys)) := by
        have q := RcAt.tuples (A := A) (s := s) (e := fun j => pyEq (xs.getD j .non) (ys.getD j .non)) ha hb hu0 fun j h1 h2 => by
          have k1 : j < us.length := by simpa using h1
          have k2 : j < ws.length := by simpa using h2
          have z := (ih (A := A.in1) (ra.at (by omega) k1) (rb.at (by omega) k2) hu1 (shal_sub _ _ hs)).1
          have e1 : xs.getD j .non = xs[j]'(by omega) := by simp [show j < xs.length by omega]
          have e2 : ys.getD j .non = ys[j]'(by omega) := by simp [show j < ys.length by omega]
          rw [e1, e2]
          simpa using z
        have e3 : (us.toArray.size == ws.toArray.size) = decide (xs.length = ys.length) := by simp [la, lb, Bool.beq_eq_decide_eq]
        rw [e3] at q
        have e4 : min us.toArray.size ws.toArray.size = min xs.length ys.length := by simp [la, lb]
        rw [e4, ← e] at q
        exact q
      refine ⟨?_, rc⟩
      by_cases hab : a = b
      · subst hab
        have := tup_obj ha hb
        subst this
        have := CpL.inj ra rb
        subst this
        rw [pyEq_refl]
        exact .same _
      · exact .of_refs hab rc
    · rename_i xs ys
      have hs : shalL n xs = true ∨ shalL n ys = true := hs
      obtain ⟨a, us, rfl, ha, ra⟩ := hp
      obtain ⟨b, ws, rfl, hb, rb⟩ := hq
      have la := ra.len
      have lb := rb.len
      have e := pyEqL_range xs ys (fun j => pyEq (xs.getD j .non) (ys.getD j .non)) fun j h1 h2 => by simp [h1, h2]
      have rc : RcAt A s (.ref a) (.ref b) (pyEq (.lst xs) (.lst ys)) := by
        show RcAt A s (.ref a) (.ref b) (pyEqL xs ys)
        by_cases hl : xs.length = ys.length
        · have q := RcAt.lists (A := A) (s := s) (e := fun j => pyEq (xs.getD j .non) (ys.getD j .non)) ha hb (by simp [la, lb, hl]) hu0 fun j h1 h2 => by
            have k1 : j < us.length := by simpa using h1
            have k2 : j < ws.length := by simpa using h2
            have z := (ih (A := A.in1) (ra.at (by omega) k1) (rb.at (by omega) k2) hu1 (shal_sub _ _ hs)).1
            have e1 : xs.getD j .non = xs[j]'(by omega) := by simp [show j < xs.length by omega]
            have e2 : ys.getD j .non = ys[j]'(by omega) := by simp [show j < ys.length by omega]
            rw [e1, e2]
            simpa using z
          have e4 : us.toArray.size = min xs.length ys.length := by simp [la, hl]
          rw [e4] at q
          rw [e, decide_eq_true hl, Bool.and_true]
          exact q
        · rw [e, decide_eq_false hl, Bool.and_false]
          exact RcAt.lists_lengths ha hb (by simp [la, lb, hl]) hu0
      refine ⟨?_, rc⟩
      by_cases hab : a = b
      · subst hab
        have := lst_obj ha hb
        subst this
        have := CpL.inj ra rb
        subst this
        rw [pyEq_refl]
        exact .same _
      · exact .of_refs hab rc
end
end Bw
end

section
set_option autoImplicit false
set_option linter.all false
/-! Bw CX: dicts with other keys: None and numbers, tuples of such. -/
namespace Bw
open PySem L2
/-! ### keys -/
mutual
theorem nk_is {h : Heap} : ∀ (n : Nat) {p : PV} {u : Value}, CpD h p u → kyP n p = true → NestedIs h (nkP p) u ∧ (nkP p).depth ≤ n
  | _, .non, _, r, _ => by rw [show _ = Value.none from r]; exact ⟨.none, Nat.zero_le _⟩
  | _, .bl b, _, r, _ => by rw [show _ = Value.bool b from r]; exact ⟨.bool rfl, Nat.zero_le _⟩
  | _, .int i, _, ⟨t, r⟩, _ => by rw [r]; exact ⟨.int i t, Nat.zero_le _⟩
  | n + 1, .tup xs, _, ⟨a, us, e, ⟨o, h1, h2, m, h3⟩, rs⟩, k => by
    obtain ⟨i1, i2⟩ := nk_are n rs (show kyL n xs = true from k)
    rw [e]
    exact ⟨.tup h1 h2 h3 i1, Nat.succ_le_succ i2⟩
  | 0, .tup _, _, _, k => by cases k
  | 0, .str _, _, _, k => by cases k
  | 0, .lst _, _, _, k => by cases k
  | _ + 1, .str _, _, _, k => by cases k
  | _ + 1, .lst _, _, _, k => by cases k
theorem nk_are {h : Heap} : ∀ (n : Nat) {ps : List PV} {us : List Value}, CpL h ps us → kyL n ps = true → NestedAll h (nkL ps) us ∧ NestedKey.depthAll (nkL ps) ≤ n
  | _, [], _, r, _ => by rw [show _ = [] from r]; exact ⟨.nil, Nat.zero_le _⟩
  | n, p :: ps, _, ⟨u, ws, e, r, rs⟩, k => by
    have k : (kyP n p && kyL n ps) = true := k
    rw [Bool.and_eq_true] at k
    obtain ⟨a1, a2⟩ := nk_is n r k.1
    obtain ⟨b1, b2⟩ := nk_are n rs k.2
    rw [e]
    exact ⟨.cons a1 b1, Nat.max_le.mpr ⟨a2, b2⟩⟩
end
mutual
theorem hash_nk (w : World) : ∀ (n : Nat) {p : PV}, kyP n p = true → (nkP p).hash w = hashN (nkP p)
  | _, .non, _ => rfl
  | _, .bl _, _ => rfl
  | _, .int _, _ => rfl
  | n + 1, .tup xs, k => by
    show reduceHash (Builtin.Tuple.tupleHashOf (NestedKey.hashes w (nkL xs))) = reduceHash (Builtin.Tuple.tupleHashOf (hashNs (nkL xs)))
    rw [hash_nks w n (show kyL n xs = true from k)]
  | 0, .tup _, k => by cases k
  | 0, .str _, k => by cases k
  | 0, .lst _, k => by cases k
  | _ + 1, .str _, k => by cases k
  | _ + 1, .lst _, k => by cases k
theorem hash_nks (w : World) : ∀ (n : Nat) {ps : List PV}, kyL n ps = true → NestedKey.hashes w (nkL ps) = hashNs (nkL ps)
  | _, [], _ => rfl
  | n, p :: ps, k => by
    have k : (kyP n p && kyL n ps) = true := k
    rw [Bool.and_eq_true] at k
    show (nkP p).hash w :: _ = hashN (nkP p) :: _
    rw [hash_nk w n k.1, hash_nks w n k.2]
end
mutual
theorem nk_eq : ∀ (n m : Nat) {p q : PV}, kyP n p = true → kyP m q = true → NestedKey.beq (nkP p) (nkP q) = pyEq p q
  | _, _, .non, .non, _, _ => rfl
  | _, _, .non, .bl _, _, _ => rfl
  | _, _, .non, .int _, _, _ => rfl
  | _, _, .non, .tup _, _, _ => rfl
  | _, _, .bl _, .non, _, _ => rfl
  | _, _, .bl a, .bl b, _, _ => by cases a <;> cases b <;> rfl
  | _, _, .bl _, .int _, _, _ => rfl
  | _, _, .bl _, .tup _, _, _ => rfl
  | _, _, .int _, .non, _, _ => rfl
  | _, _, .int _, .bl _, _, _ => rfl
  | _, _, .int _, .int _, _, _ => rfl
  | _, _, .int _, .tup _, _, _ => rfl
  | _, _, .tup _, .non, _, _ => rfl
  | _, _, .tup _, .bl _, _, _ => rfl
  | _, _, .tup _, .int _, _, _ => rfl
  | n + 1, m + 1, .tup xs, .tup ys, k, l => by
    show NestedKey.beqAll (nkL xs) (nkL ys) = pyEqL xs ys
    exact nk_eqs n m (show kyL n xs = true from k) (show kyL m ys = true from l)
  | 0, _, .tup _, .tup _, k, _ => by cases k
  | _, 0, .tup _, .tup _, _, l => by cases l
  | 0, _, .str _, _, k, _ => by cases k
  | 0, _, .lst _, _, k, _ => by cases k
  | _ + 1, _, .str _, _, k, _ => by cases k
  | _ + 1, _, .lst _, _, k, _ => by cases k
  | _, 0, _, .str _, _, k => by cases k
  | _, 0, _, .lst _, _, k => by cases k
  | _, _ + 1, _, .str _, _, k => by cases k
  | _, _ + 1, _, .lst _, _, k => by cases k
theorem nk_eqs : ∀ (n m : Nat) {ps qs : List PV}, kyL n ps = true → kyL m qs = true → NestedKey.beqAll (nkL ps) (nkL qs) = pyEqL ps qs
  | _, _, [], [], _, _ => rfl
  | _, _, [], _ :: _, _, _ => rfl
  | _, _, _ :: _, [], _, _ => rfl
  | n, m, p :: ps, q :: qs, k, l => by
    have k : (kyP n p && kyL n ps) = true := k
    have l : (kyP m q && kyL m qs) = true := l
    rw [Bool.and_eq_true] at k l
    show (NestedKey.beq (nkP p) (nkP q) && NestedKey.beqAll (nkL ps) (nkL qs)) = (pyEq p q && pyEqL ps qs)
    rw [nk_eq n m k.1 l.1, nk_eqs n m k.2 l.2]
end
theorem nk_dec {n m : Nat} {p q : PV} (k : kyP n p = true) (l : kyP m q = true) : decide (nkP p = nkP q) = pyEq p q := by rw [NestedKey.decide_eq]; exact nk_eq n m k l
/-- a key that is no tuple, by value -/
def lfP : PV → Leaf
  | .bl b => .num (b2i b)
  | .int i => .num i
  | _ => .none
theorem lf_key {n : Nat} : ∀ {p : PV}, kyP n p = true → isTup p = false → (lfP p).key = nkP p
  | .non, _, _ => rfl
  | .bl _, _, _ => rfl
  | .int _, _, _ => rfl
  | .tup _, _, t => by cases t
  | .str _, k, _ => by cases n <;> cases k
  | .lst _, k, _ => by cases n <;> cases k
theorem lf_is {h : Heap} {n : Nat} : ∀ {p : PV} {u : Value}, CpD h p u → kyP n p = true → isTup p = false → Leaf.isOf (lfP p) u = true
  | .non, _, r, _, _ => by rw [show _ = Value.none from r]; rfl
  | .bl b, _, r, _, _ => by rw [show _ = Value.bool b from r]; exact decide_eq_true rfl
  | .int i, _, ⟨t, r⟩, _, _ => by rw [r]; exact decide_eq_true rfl
  | .tup _, _, _, _, t => by cases t
  | .str _, _, _, k, _ => by cases n <;> cases k
  | .lst _, _, _, k, _ => by cases n <;> cases k
/-! ### entries -/
def getE (es : List En) (k : NestedKey) : Option V := (es.find? fun e => decide (e.1 = k)).map (·.2.2)
def hasE (es : List En) (k : NestedKey) : Bool := es.any fun e => decide (e.1 = k)
def putE (es : List En) (k : NestedKey) (b : Option Addr) (v : V) : List En := if hasE es k = true then es.map (fun e => if e.1 = k then (e.1, e.2.1, v) else e) else es ++ [(k, b, v)]
theorem putE_len (es : List En) (k : NestedKey) (b : Option Addr) (v : V) : (putE es k b v).length ≤ es.length + 1 := by
  unfold putE; split
  · rw [List.length_map]; omega
  · rw [List.length_append]; simp
theorem hasE_get (es : List En) (k : NestedKey) : (getE es k).isSome = hasE es k := by
  induction es with
  | nil => rfl
  | cons e es ih =>
    unfold getE hasE at ih ⊢
    by_cases c : e.1 = k
    · simp [List.find?_cons, c]
    · simp only [List.find?_cons, List.any_cons, decide_eq_false c, Bool.false_or]; exact ih
section
variable {K : Fr'} {R : Hp}
theorem rx_ok : ∀ {kvs : List (PV × PV)} {es : List En}, RpX K R kvs es → ∀ e ∈ es, ∃ kv ∈ kvs, e.1 = nkP kv.1 ∧ RpQ K R kv.1 e.2.1
  | [], _, r, e, he => by rw [show _ = [] from r] at he; cases he
  | kv :: kvs, _, ⟨b, v, ws, e1, q, r, rs⟩, e, he => by
    rw [e1] at he
    rcases List.mem_cons.mp he with rfl | he
    · exact ⟨kv, List.mem_cons_self, rfl, q⟩
    · obtain ⟨kv', h1, h2⟩ := rx_ok rs e he
      exact ⟨kv', List.mem_cons_of_mem _ h1, h2⟩
theorem rx_val {p : PV} (hp : kyP 8 p = true) : ∀ {kvs : List (PV × PV)} {es : List En}, RpX K R kvs es → (∀ q, valX kvs p = some q → ∃ v, getE es (nkP p) = some v ∧ RpD K R q v) ∧ (valX kvs p = none → getE es (nkP p) = none) ∧ hasE es (nkP p) = hasX kvs p
  | [], _, r => by
    rw [show _ = [] from r]
    exact ⟨fun q h => (by cases h), fun _ => rfl, rfl⟩
  | kv :: kvs, _, ⟨b, v, ws, e, q, r, rs⟩ => by
    obtain ⟨i1, i2, i3⟩ := rx_val hp rs
    have d : decide (nkP kv.1 = nkP p) = pyEq kv.1 p := nk_dec q.1 hp
    rw [e]
    unfold valX getE at i1 i2 ⊢
    unfold hasX hasE at i3 ⊢
    rw [List.find?_cons, List.find?_cons, List.any_cons, List.any_cons]
    show (∀ q, _ = _ → _) ∧ _ ∧ (decide (nkP kv.1 = nkP p) || _) = _
    rw [show decide ((nkP kv.1, b, v).1 = nkP p) = pyEq kv.1 p from d, i3]
    cases pyEq kv.1 p with
    | true => exact ⟨fun q h => ⟨v, rfl, by cases h; exact r⟩, fun h => (by cases h), rfl⟩
    | false => exact ⟨i1, i2, rfl⟩
theorem rx_app : ∀ {kvs : List (PV × PV)} {es : List En}, RpX K R kvs es → ∀ {kv : PV × PV} {b : Option Addr} {v : V}, RpQ K R kv.1 b → RpD K R kv.2 v → RpX K R (kvs ++ [kv]) (es ++ [(nkP kv.1, b, v)])
  | [], _, r, kv, b, v, hq, hv => by rw [show _ = [] from r]; exact ⟨b, v, [], rfl, hq, hv, rfl⟩
  | kv0 :: kvs, _, ⟨b0, v0, ws, e, q, r, rs⟩, kv, b, v, hq, hv => by rw [e]; exact ⟨b0, v0, _, rfl, q, r, rx_app rs hq hv⟩
theorem rx_map {p q : PV} {v : V} (hp : kyP 8 p = true) (hv : RpD K R q v) : ∀ {kvs : List (PV × PV)} {es : List En}, RpX K R kvs es → RpX K R (kvs.map fun kv => if pyEq kv.1 p then (kv.1, q) else kv) (es.map fun e => if e.1 = nkP p then (e.1, e.2.1, v) else e)
  | [], _, r => by rw [show _ = [] from r]; exact rfl
  | kv :: kvs, _, ⟨b, v0, ws, e, hq, r, rs⟩ => by
    have d : decide (nkP kv.1 = nkP p) = pyEq kv.1 p := nk_dec hq.1 hp
    have ih := rx_map hp hv rs
    rw [e, List.map_cons, List.map_cons]
    by_cases c : nkP kv.1 = nkP p
    · rw [decide_eq_true c] at d
      rw [← d, if_pos rfl, if_pos (show (nkP kv.1, b, v0).1 = nkP p from c)]
      exact ⟨b, v, _, rfl, hq, hv, ih⟩
    · rw [decide_eq_false c] at d
      rw [← d, if_neg (by simp), if_neg (show ¬ (nkP kv.1, b, v0).1 = nkP p from c)]
      exact ⟨b, v0, _, rfl, hq, r, ih⟩
theorem rx_put {p q : PV} {b : Option Addr} {v : V} {kvs : List (PV × PV)} {es : List En} (r : RpX K R kvs es) (hb : RpQ K R p b) (hv : RpD K R q v) : RpX K R (putX kvs p q) (putE es (nkP p) b v) := by
  unfold putX putE
  rw [(rx_val hb.1 r).2.2]
  cases hasX kvs p with
  | true => rw [if_pos rfl, if_pos rfl]; exact rx_map hb.1 hv r
  | false => rw [if_neg (by simp), if_neg (by simp)]; exact rx_app r hb hv
end
theorem kin_all : ∀ {kvs : List (PV × PV)}, allX kvs = true → ∀ kv ∈ kvs, kinX kvs kv.1 = true
  | [], _, kv, h => by cases h
  | kv0 :: kvs, a, kv, h => by
    have a : (kinX kvs kv0.1 && allX kvs) = true := a
    rw [Bool.and_eq_true] at a
    show ((isTup kv0.1 == isTup kv.1) && kinX kvs kv.1) = true
    rcases List.mem_cons.mp h with rfl | h
    · rw [a.1]; simp
    · rw [kin_all a.2 kv h]
      have k : ∀ x ∈ kvs, (isTup x.1 == isTup kv0.1) = true := List.all_eq_true.mp a.1
      have := eq_of_beq (k kv h)
      rw [this]; simp
theorem kin_put {kvs : List (PV × PV)} {p q : PV} (k : kinX kvs p = true) (a : allX kvs = true) : allX (putX kvs p q) = true := by
  have ap : ∀ {kvs : List (PV × PV)}, kinX kvs p = true → allX kvs = true → allX (kvs ++ [(p, q)]) = true := by
    intro kvs
    induction kvs with
    | nil => intro _ _; rfl
    | cons kv kvs ih =>
      intro k a
      have a : (kinX kvs kv.1 && allX kvs) = true := a
      have k : ((isTup kv.1 == isTup p) && kinX kvs p) = true := k
      rw [Bool.and_eq_true] at a k
      show (kinX (kvs ++ [(p, q)]) kv.1 && allX (kvs ++ [(p, q)])) = true
      rw [ih k.2 a.2]
      unfold kinX at a ⊢
      rw [List.all_append, a.1]
      have := eq_of_beq k.1
      simp [this]
  have mp : ∀ {kvs : List (PV × PV)} (t : PV), kinX (kvs.map fun kv => if pyEq kv.1 p then (kv.1, q) else kv) t = kinX kvs t := by
    intro kvs t
    unfold kinX
    rw [List.all_map]
    congr 1
    funext kv
    show (isTup (if pyEq kv.1 p = true then (kv.1, q) else kv).1 == isTup t) = _
    split <;> rfl
  have ma : ∀ {kvs : List (PV × PV)}, allX (kvs.map fun kv => if pyEq kv.1 p then (kv.1, q) else kv) = allX kvs := by
    intro kvs
    induction kvs with
    | nil => rfl
    | cons kv kvs ih =>
      show (kinX (kvs.map _) _ && allX (kvs.map _)) = (kinX kvs kv.1 && allX kvs)
      rw [ih, mp]
      have : (if pyEq kv.1 p = true then (kv.1, q) else kv).1 = kv.1 := by split <;> rfl
      rw [this]
  unfold putX
  cases hasX kvs p with
  | true => rw [if_pos rfl, ma]; exact a
  | false => rw [if_neg (by simp)]; exact ap k a
theorem putX_len (kvs : List (PV × PV)) (p q : PV) : (putX kvs p q).length ≤ kvs.length + 1 := by
  unfold putX; split
  · rw [List.length_map]; omega
  · rw [List.length_append]; simp
theorem nodup_of {ls : List Leaf} (h : (ls.map Leaf.key).Nodup) : ls.Nodup := by
  induction ls with
  | nil => exact List.nodup_nil
  | cons l ls ih =>
    rw [List.map_cons, List.nodup_cons] at h
    exact List.nodup_cons.mpr ⟨fun m => h.1 (List.mem_map.mpr ⟨l, m, rfl⟩), ih h.2⟩
theorem nodup_to {ls : List Leaf} (h : ls.Nodup) : (ls.map Leaf.key).Nodup := by
  induction ls with
  | nil => exact List.nodup_nil
  | cons l ls ih =>
    rw [List.nodup_cons] at h
    rw [List.map_cons, List.nodup_cons]
    refine ⟨fun m => ?_, ih h.2⟩
    obtain ⟨x, m, e⟩ := List.mem_map.mp m
    rw [← Leaf.key_inj e] at h
    exact h.1 m
/-! ### in the machine's heap: by value -/
def LvE (es : List En) (ls : List (Leaf × Value)) : Prop := Paired (fun (e : En) (l : Leaf × Value) => l.1.key = e.1 ∧ e.2.1 = none ∧ RelV e.2.2 l.2) es ls
def XvE (es : List En) (xs : List (NestedKey × Addr × Value)) : Prop := Paired (fun (e : En) (x : NestedKey × Addr × Value) => x.1 = e.1 ∧ e.2.1 = some x.2.1 ∧ RelV e.2.2 x.2.2) es xs
theorem leaf_dec (l : Leaf) (k : Leaf) : decide (l = k) = decide (l.key = k.key) := by
  by_cases c : l = k
  · rw [c]; simp
  · rw [decide_eq_false c, decide_eq_false fun h => c (Leaf.key_inj h)]
theorem LvE.val {k : Leaf} : ∀ {es : List En} {ls : List (Leaf × Value)}, LvE es ls → (∀ v, getE es k.key = some v → ∃ u, valueAt ls k = some u ∧ RelV v u) ∧ (getE es k.key = none → valueAt ls k = none) ∧ (ls.any fun l => decide (l.1 = k)) = hasE es k.key
  | [], _, .nil => ⟨fun v h => (by cases h), fun _ => rfl, rfl⟩
  | e :: es, _, .cons (b := l) (l₂ := ls) r t => by
    obtain ⟨i1, i2, i3⟩ := LvE.val (k := k) t
    have d : decide (l.1 = k) = decide (e.1 = k.key) := by rw [leaf_dec, r.1]
    unfold valueAt getE at i1 i2 ⊢
    unfold hasE at i3 ⊢
    rw [List.find?_cons, List.find?_cons, List.any_cons, List.any_cons, i3, d]
    cases decide (e.1 = k.key) with
    | true => exact ⟨fun v h => ⟨l.2, rfl, by cases h; exact r.2.2⟩, fun h => (by cases h), rfl⟩
    | false => exact ⟨i1, i2, rfl⟩
theorem XvE.val {k : NestedKey} : ∀ {es : List En} {xs : List (NestedKey × Addr × Value)}, XvE es xs → (∀ v, getE es k = some v → ∃ p, atKey xs k = some p ∧ RelV v p.2) ∧ (getE es k = none → atKey xs k = none) ∧ (atKey xs k).isSome = hasE es k
  | [], _, .nil => ⟨fun v h => (by cases h), fun _ => rfl, rfl⟩
  | e :: es, _, .cons (b := x) (l₂ := xs) r t => by
    obtain ⟨i1, i2, i3⟩ := XvE.val (k := k) t
    have d : decide (x.1 = k) = decide (e.1 = k) := by rw [r.1]
    unfold atKey getE at i1 i2 ⊢
    unfold atKey hasE at i3
    unfold hasE
    rw [List.find?_cons, List.find?_cons, List.any_cons, d]
    cases decide (e.1 = k) with
    | true => exact ⟨fun v h => ⟨x.2, rfl, by cases h; exact r.2.2⟩, fun h => (by cases h), rfl⟩
    | false => exact ⟨i1, i2, i3⟩
theorem paired_snoc {α β : Type} {F : α → β → Prop} {a : α} {b : β} (h : F a b) : ∀ {l : List α} {m : List β}, Paired F l m → Paired F (l ++ [a]) (m ++ [b])
  | _, _, .nil => .cons h .nil
  | _, _, .cons r t => .cons r (paired_snoc h t)
theorem paired_map {α β : Type} {F : α → β → Prop} {f : α → α} {g : β → β} (k : ∀ a b, F a b → F (f a) (g b)) : ∀ {l : List α} {m : List β}, Paired F l m → Paired F (l.map f) (m.map g)
  | _, _, .nil => .nil
  | _, _, .cons r t => .cons (k _ _ r) (paired_map k t)
theorem LvE.put {es : List En} {ls : List (Leaf × Value)} (r : LvE es ls) (k : Leaf) {v : V} {u : Value} (hv : RelV v u) : LvE (putE es k.key none v) (stored ls k u) := by
  unfold putE stored
  have e := (LvE.val (k := k) r).2.2
  rw [show (ls.any fun kv => decide (kv.1 = k)) = hasE es k.key from e]
  cases hasE es k.key with
  | true =>
    rw [if_pos rfl, if_pos rfl]
    refine paired_map (fun a b h => ?_) r
    by_cases c : b.1 = k
    · rw [if_pos c, if_pos (by rw [← h.1, c])]; exact ⟨h.1, h.2.1, hv⟩
    · rw [if_neg c, if_neg (fun z => c (Leaf.key_inj (by rw [h.1, z])))]; exact h
  | false => rw [if_neg (by simp), if_neg (by simp)]; exact paired_snoc ⟨rfl, rfl, hv⟩ r
theorem XvE.put {es : List En} {xs : List (NestedKey × Addr × Value)} (r : XvE es xs) (k : NestedKey) (b : Addr) {v : V} {u : Value} (hv : RelV v u) : XvE (putE es k (some b) v) (storedH xs k b u) := by
  unfold putE storedH
  rw [(XvE.val (k := k) r).2.2]
  cases hasE es k with
  | true =>
    rw [if_pos rfl, if_pos rfl]
    refine paired_map (fun a b h => ?_) r
    unfold putAt
    by_cases c : b.1 = k
    · rw [if_pos c, if_pos (by rw [← h.1, c])]; exact ⟨h.1, h.2.1, hv⟩
    · rw [if_neg c, if_neg (fun z => c (by rw [h.1, z]))]; exact h
  | false => rw [if_neg (by simp), if_neg (by simp)]; exact paired_snoc ⟨rfl, rfl, hv⟩ r
section
variable {P : Program} {w : World} {h : Heap} {a : Addr}
theorem lv_of : ∀ {es : List En} {ds : List DictEntry}, Paired EnR es ds → (∀ e ∈ es, e.2.1 = none ∧ e.1.hash w = hashN e.1) → ∃ ls, LvE es ls ∧ Pairs (leafKind P w) ds ls ∧ ∀ d ∈ ds, ∃ k, (leafKind P w).is k d.key = true ∧ d.hash = (leafKind P w).hash k
  | _, _, .nil, _ => ⟨[], .nil, .nil, fun d h => by cases h⟩
  | e :: es, d :: ds, .cons r t, k => by
    obtain ⟨ls, h1, h2, h3⟩ := lv_of t fun e' he => k e' (List.mem_cons_of_mem _ he)
    obtain ⟨n, hh⟩ := k e List.mem_cons_self
    obtain ⟨r1, r2, r3⟩ := r
    rw [n] at r3
    obtain ⟨l, e1, e2⟩ := r3
    refine ⟨(l, d.val) :: ls, .cons ⟨e1, n, r2⟩ h1, .cons e2 rfl h2, fun d' hd => ?_⟩
    rcases List.mem_cons.mp hd with rfl | hd
    · exact ⟨l, e2, by rw [r1, ← hh, ← e1]; rfl⟩
    · exact h3 d' hd
theorem LvE.keys : ∀ {es : List En} {ls : List (Leaf × Value)}, LvE es ls → es.map (·.1) = ls.map fun l => l.1.key
  | _, _, .nil => rfl
  | _, _, .cons r t => by rw [List.map_cons, List.map_cons, LvE.keys t, r.1]
theorem leaf_of {es : List En} (x : DXo a es h) (k : ∀ e ∈ es, e.2.1 = none ∧ e.1.hash w = hashN e.1) : ∃ ls, h.DictOf (leafKind P w) a ls ∧ LvE es ls := by
  obtain ⟨_, _, nd, o, en, ep, h1, h2, h3, pr⟩ := x
  obtain ⟨ls, k1, k2, k3⟩ := lv_of (P := P) pr k
  refine ⟨ls, ⟨o, en, ep, h1, h2, h3, fun e he => k3 e (by simpa using he), k2, ?_⟩, k1⟩
  rw [LvE.keys k1] at nd
  have : (ls.map fun l => l.1.key) = (ls.map (·.1)).map Leaf.key := by rw [List.map_map]; rfl
  rw [this] at nd
  exact nodup_of nd
theorem lv_back : ∀ {es : List En} {ls : List (Leaf × Value)} {ds : List DictEntry}, LvE es ls → Pairs (leafKind P w) ds ls → (∀ d ∈ ds, ∃ k, (leafKind P w).is k d.key = true ∧ d.hash = (leafKind P w).hash k) → (∀ e ∈ es, e.1.hash w = hashN e.1) → Paired EnR es ds
  | _, _, _, .nil, .nil, _, _ => .nil
  | e :: es, l :: ls, d :: ds, .cons r t, .cons p1 p2 p3, k, hh => by
    refine .cons ⟨?_, ?_, ?_⟩ (lv_back t p3 (fun d' hd => k d' (List.mem_cons_of_mem _ hd)) fun e' he => hh e' (List.mem_cons_of_mem _ he))
    · obtain ⟨k', a1, a2⟩ := k d List.mem_cons_self
      have : k' = l.1 := (leafKind P w).inj _ _ _ a1 p1
      rw [a2, this, ← hh e List.mem_cons_self, ← r.1]; rfl
    · rw [p2]; exact r.2.2
    · rw [r.2.1]; exact ⟨l.1, r.1, p1⟩
theorem leaf_back {es : List En} {ls : List (Leaf × Value)} (ha : (a == sysModules) = false) (hl : es.length ≤ sizeLine) (x : h.DictOf (leafKind P w) a ls) (r : LvE es ls) (hh : ∀ e ∈ es, e.1.hash w = hashN e.1) : DXo a es h := by
  obtain ⟨o, en, ep, h1, h2, h3, h4, h5, h6⟩ := x
  refine ⟨ha, hl, ?_, o, en, ep, h1, h2, h3, lv_back r h5 (fun d hd => h4 d (by simpa using hd)) hh⟩
  rw [LvE.keys r]
  have : (ls.map fun l => l.1.key) = (ls.map (·.1)).map Leaf.key := by rw [List.map_map]; rfl
  rw [this]
  exact nodup_to h6
theorem xv_of : ∀ {es : List En} {ds : List DictEntry}, Paired EnR es ds → (∀ e ∈ es, ∃ b, e.2.1 = some b ∧ (nestedKind P w).is h e.1 b ∧ e.1.hash w = hashN e.1) → ∃ xs, XvE es xs ∧ ds = xs.map (entryOfKey (nestedKind P w)) ∧ ∀ x ∈ xs, (nestedKind P w).is h x.1 x.2.1
  | _, _, .nil, _ => ⟨[], .nil, rfl, fun d h => by cases h⟩
  | e :: es, d :: ds, .cons r t, k => by
    obtain ⟨xs, h1, h2, h3⟩ := xv_of t fun e' he => k e' (List.mem_cons_of_mem _ he)
    obtain ⟨b, n, ni, hh⟩ := k e List.mem_cons_self
    obtain ⟨r1, r2, r3⟩ := r
    rw [n] at r3
    refine ⟨(e.1, b, d.val) :: xs, .cons ⟨rfl, n, r2⟩ h1, ?_, fun x hx => ?_⟩
    · rw [List.map_cons, ← h2]
      congr 1
      show d = ⟨e.1.hash w, .ref b, d.val⟩
      rw [hh, ← r1, ← r3]
    · rcases List.mem_cons.mp hx with rfl | hx
      · exact ni
      · exact h3 x hx
theorem XvE.keys : ∀ {es : List En} {xs : List (NestedKey × Addr × Value)}, XvE es xs → es.map (·.1) = xs.map (·.1)
  | _, _, .nil => rfl
  | _, _, .cons r t => by rw [List.map_cons, List.map_cons, XvE.keys t, r.1]
theorem tup_of {es : List En} (x : DXo a es h) (k : ∀ e ∈ es, ∃ b, e.2.1 = some b ∧ (nestedKind P w).is h e.1 b ∧ e.1.hash w = hashN e.1) : ∃ xs, h.DictOfH (nestedKind P w) a xs ∧ XvE es xs := by
  obtain ⟨_, _, nd, o, en, ep, h1, h2, h3, pr⟩ := x
  obtain ⟨xs, k1, k2, k3⟩ := xv_of (P := P) pr k
  exact ⟨xs, ⟨o, en, ep, h1, h2, h3, k2, k3, by rw [← XvE.keys k1]; exact nd⟩, k1⟩
theorem xv_back : ∀ {es : List En} {xs : List (NestedKey × Addr × Value)}, XvE es xs → (∀ e ∈ es, e.1.hash w = hashN e.1) → Paired EnR es (xs.map (entryOfKey (nestedKind P w)))
  | _, _, .nil, _ => .nil
  | e :: es, x :: xs, .cons r t, hh => by
    refine .cons ⟨?_, r.2.2, ?_⟩ (xv_back t fun e' he => hh e' (List.mem_cons_of_mem _ he))
    · show x.1.hash w = _
      rw [r.1, hh e List.mem_cons_self]
    · rw [r.2.1]; rfl
theorem tup_back {es : List En} {xs : List (NestedKey × Addr × Value)} (ha : (a == sysModules) = false) (hl : es.length ≤ sizeLine) (x : h.DictOfH (nestedKind P w) a xs) (r : XvE es xs) (hh : ∀ e ∈ es, e.1.hash w = hashN e.1) : DXo a es h := by
  obtain ⟨o, en, ep, h1, h2, h3, h4, _, h6⟩ := x
  exact ⟨ha, hl, by rw [XvE.keys r]; exact h6, o, en, ep, h1, h2, h3, by rw [h4]; exact xv_back r hh⟩
end
end Bw
end

section
set_option autoImplicit false
set_option linter.all false
/-! Bw CY: what is done with a dict with other keys. -/
namespace Bw
open PySem L2
def adr : V → Option Addr
  | .ref b => some b
  | _ => none
section
variable {K : Fr'} {R : Hp}
theorem rpq_of {p : PV} {y : V} (r : RpD K R p y) (k : kyP 8 p = true) : RpQ K R p (adr y) := by
  refine ⟨k, ?_⟩
  cases p with
  | non => rw [show y = .non from r]; exact .inr ⟨rfl, rfl⟩
  | bl b => rw [show y = .bl b from r]; exact .inr ⟨rfl, rfl⟩
  | int i => rw [show y = .int i from r]; exact .inr ⟨rfl, rfl⟩
  | str _ => cases k
  | lst _ => cases k
  | tup xs =>
    obtain ⟨a, vs, e, q⟩ := id r
    rw [e] at r ⊢
    exact .inl ⟨rfl, a, rfl, r⟩
end
section
variable {X : Cx} {pins : List (Addr × Obj)} {σ : L2.St} {H R : Hp} {s : Shared} {a : Addr} {kvs : List (PV × PV)} {es : List En} {A : Around} {E : Value → Shared → Prop} {p : PV} {u : Value}
theorem dx_ok (I : Inv X pins σ H s) (e : Rd H a (DX a es)) : DXo a es s.heap := (e.ok I.hok).1
theorem rx_hash (rx : RpX X.K R kvs es) (w : World) : ∀ e ∈ es, e.1.hash w = hashN e.1 := fun e he => by
  obtain ⟨kv, _, h2, h3⟩ := rx_ok rx e he
  rw [h2]; exact hash_nk w 8 h3.1
theorem put_hash {w : World} {k : NestedKey} {b : Option Addr} {v : V} (h : ∀ e ∈ es, e.1.hash w = hashN e.1) (hk : k.hash w = hashN k) : ∀ e ∈ putE es k b v, e.1.hash w = hashN e.1 := fun e he => by
  unfold putE at he
  split at he
  · obtain ⟨x, hx, e1⟩ := List.mem_map.mp he
    split at e1 <;> (subst e1; exact h x hx)
  · rcases List.mem_append.mp he with he | he
    · exact h _ he
    · rw [List.mem_singleton] at he; rw [he]; exact hk
theorem rx_leaf (rx : RpX X.K R kvs es) (hk : kinX kvs p = true) (t : isTup p = false) (w : World) : ∀ e ∈ es, e.2.1 = none ∧ e.1.hash w = hashN e.1 := fun e he => by
  obtain ⟨kv, h1, h2, h3⟩ := rx_ok rx e he
  have := eq_of_beq (List.all_eq_true.mp hk kv h1)
  refine ⟨?_, rx_hash rx w e he⟩
  rcases h3.2 with ⟨c, _⟩ | ⟨_, c⟩
  · rw [this, t] at c; cases c
  · exact c
theorem rx_tup (I : Inv X pins σ H s) (hs : Sub R H) (rx : RpX X.K R kvs es) (hk : kinX kvs p = true) (t : isTup p = true) : ∀ e ∈ es, ∃ b, e.2.1 = some b ∧ (nestedKind X.prog X.w).is s.heap e.1 b ∧ e.1.hash X.w = hashN e.1 := fun e he => by
  obtain ⟨kv, h1, h2, h3⟩ := rx_ok rx e he
  have := eq_of_beq (List.all_eq_true.mp hk kv h1)
  rcases h3.2 with ⟨_, b, c, r⟩ | ⟨c, _⟩
  · refine ⟨b, c, ?_, rx_hash rx X.w e he⟩
    rw [h2]
    exact nk_is 8 (cp_of I hs r (u := .ref b) rfl) h3.1
  · rw [this, t] at c; cases c
/-- by one of the two roads -/
theorem dx_way (I : Inv X pins σ H s) (hs : Sub R H) (e : Rd H a (DX a es)) (rx : RpX X.K R kvs es) (hp : kyP 8 p = true) (hk : kinX kvs p = true) (rp : CpD s.heap p u) :
    (isTup p = false ∧ Leaf.isOf (lfP p) u = true ∧ (lfP p).key = nkP p ∧ ∃ ls, s.heap.DictOf (leafKind X.prog X.w) a ls ∧ LvE es ls) ∨
    (isTup p = true ∧ ∃ b xs, u = .ref b ∧ (nestedKind X.prog X.w).is s.heap (nkP p) b ∧ s.heap.DictOfH (nestedKind X.prog X.w) a xs ∧ XvE es xs) := by
  cases t : isTup p with
  | false =>
    exact .inl ⟨rfl, lf_is rp hp t, lf_key hp t, leaf_of (dx_ok I e) (rx_leaf rx hk t X.w)⟩
  | true =>
    obtain ⟨xs, h1, h2⟩ := tup_of (dx_ok I e) (rx_tup I hs rx hk t)
    cases p <;> try (cases t; done)
    obtain ⟨b, us, e1, _⟩ := id rp
    rw [e1] at rp ⊢
    exact .inr ⟨rfl, b, xs, rfl, nk_is 8 rp hp, h1, h2⟩
theorem room8 (hu : A.units + 100 < cLine) : (nestedKind X.prog X.w).room A.in1 := by show A.units + 1 + 8 < cLine; omega
theorem dx_in {Q : Value → Shared → Prop} (hu : A.units + 100 < cLine) (I : Inv X pins σ H s) (hs : Sub R H) (e : Rd H a (DX a es)) (rx : RpX X.K R kvs es) (hp : kyP 8 p = true) (hk : kinX kvs p = true) (rp : CpD s.heap p u)
    (h : ∀ s', Inv X pins σ H s' → Q (.bool (hasX kvs p)) s') : wpAny (model X.prog X.w) A (compareOp .In u (.ref a)) Q E s := by
  have hd := (dx_ok I e).1
  have hh := (rx_val hp rx).2.2
  rcases dx_way I hs e rx hp hk rp with ⟨_, h1, h2, ls, h3, h4⟩ | ⟨_, b, xs, rfl, h1, h2, h3⟩
  · refine wpAny_in_of (knd := leafKind X.prog X.w) (k := lfP p) h1 hd h3.mapOf ?_
    obtain ⟨v1, v2, _⟩ := LvE.val (k := lfP p) h4
    have : (valueAt ls (lfP p)).isSome = hasX kvs p := by
      rw [← hh, ← hasE_get, ← h2]
      cases q : getE es (lfP p).key with
      | none => rw [v2 q]; rfl
      | some v => obtain ⟨u', q', _⟩ := v1 v q; rw [q']; rfl
    rw [this]
    exact h _ (I.tok _)
  · refine wpAny_in_heap (room8 hu) h1 hd h2 ?_
    rw [(XvE.val (k := nkP p) h3).2.2, hh]
    exact h _ (I.tok _)
theorem dx_notin {Q : Value → Shared → Prop} (hu : A.units + 100 < cLine) (I : Inv X pins σ H s) (hs : Sub R H) (e : Rd H a (DX a es)) (rx : RpX X.K R kvs es) (hp : kyP 8 p = true) (hk : kinX kvs p = true) (rp : CpD s.heap p u)
    (h : ∀ s', Inv X pins σ H s' → Q (.bool (!hasX kvs p)) s') : wpAny (model X.prog X.w) A (compareOp .NotIn u (.ref a)) Q E s := by
  have hd := (dx_ok I e).1
  have hh := (rx_val hp rx).2.2
  rcases dx_way I hs e rx hp hk rp with ⟨_, h1, h2, ls, h3, h4⟩ | ⟨_, b, xs, rfl, h1, h2, h3⟩
  · refine wpAny_notIn_of (knd := leafKind X.prog X.w) (k := lfP p) h1 hd h3.mapOf ?_
    obtain ⟨v1, v2, _⟩ := LvE.val (k := lfP p) h4
    have : (valueAt ls (lfP p)).isSome = hasX kvs p := by
      rw [← hh, ← hasE_get, ← h2]
      cases q : getE es (lfP p).key with
      | none => rw [v2 q]; rfl
      | some v => obtain ⟨u', q', _⟩ := v1 v q; rw [q']; rfl
    rw [this]
    exact h _ (I.tok _)
  · refine PyProof.Rows.wpAny_notIn_heap (room8 hu) h1 hd h2 ?_
    rw [(XvE.val (k := nkP p) h3).2.2, hh]
    exact h _ (I.tok _)
theorem dx_getItem {q : PV} {Q : Value → Shared → Prop} (hu : A.units + 100 < cLine) (I : Inv X pins σ H s) (hs : Sub R H) (e : Rd H a (DX a es)) (rx : RpX X.K R kvs es) (hp : kyP 8 p = true) (hk : kinX kvs p = true) (rp : CpD s.heap p u)
    (hq : valX kvs p = some q) (h : ∀ v w' s', RpD X.K R q v → RelV v w' → Inv X pins σ H s' → Q w' s') : wpAny (model X.prog X.w) A (getItem (.ref a) u) Q E s := by
  obtain ⟨v, hv, rv⟩ := (rx_val hp rx).1 q hq
  rcases dx_way I hs e rx hp hk rp with ⟨_, h1, h2, ls, h3, h4⟩ | ⟨_, b, xs, rfl, h1, h2, h3⟩
  · obtain ⟨u', q', r'⟩ := (LvE.val (k := lfP p) h4).1 v (by rw [h2]; exact hv)
    exact wpAny_getItem_of (knd := leafKind X.prog X.w) h1 h3.mapOf q' (h v u' _ rv r' (I.tok _))
  · obtain ⟨pr, q', r'⟩ := (XvE.val (k := nkP p) h3).1 v hv
    exact wpAny_getItem_heap (room8 hu) h1 h2 q' (h v pr.2 _ rv r' (I.tok _))
/-- d.get(k, x) -/
theorem dx_get2 {d : V} {r : Value} {Q : Value → Shared → Prop} (hu : A.units + 100 < cLine) (I : Inv X pins σ H s) (hs : Sub R H) (e : Rd H a (DX a es)) (rx : RpX X.K R kvs es) (hp : kyP 8 p = true) (hk : kinX kvs p = true) (rp : CpD s.heap p u) {q : PV}
    (rq : RpD X.K R q d) (rr : RelV d r) (h : ∀ v w' s', RpD X.K R ((valX kvs p).getD q) v → RelV v w' → Inv X pins σ H s' → Q w' s') : wpAny (model X.prog X.w) A (call (.builtin "dict.get") [.ref a, u, r]) Q E s := by
  have hd := (dx_ok I e).1
  obtain ⟨g1, g2, _⟩ := rx_val hp rx
  rcases dx_way I hs e rx hp hk rp with ⟨_, h1, h2, ls, h3, h4⟩ | ⟨_, b, xs, rfl, h1, h2, h3⟩
  · obtain ⟨v1, v2, _⟩ := LvE.val (k := lfP p) h4
    refine call_meetsIn PySem.F.slot_dict_get h3.typeIs PySem.F.entry_dict_get (PySem.F.args_dict_get_3 _ _ _) (meets_dict_get_default (leafKind X.prog X.w) a h1 hd r) ⟨_, h3.mapOf, ?_⟩
    rw [h2] at v1 v2
    cases c : valX kvs p with
    | none =>
      rw [v2 (g2 c)]
      rw [c] at h
      exact h d r _ rq rr (I.tok _)
    | some q0 =>
      obtain ⟨v, c1, c2⟩ := g1 q0 c
      obtain ⟨u', c3, c4⟩ := v1 v c1
      rw [c3]
      rw [c] at h
      exact h v u' _ c2 c4 (I.tok _)
  · obtain ⟨v1, v2, _⟩ := XvE.val (k := nkP p) h3
    refine call_meetsIn PySem.F.slot_dict_get h2.typeIs PySem.F.entry_dict_get (PySem.F.args_dict_get_3 _ _ _) (meetsH_dict_get_default (nestedKind X.prog X.w) a b hd r) ⟨room8 hu, _, xs, h1, h2, ?_⟩
    cases c : valX kvs p with
    | none =>
      rw [v2 (g2 c)]
      rw [c] at h
      exact h d r _ rq rr (I.tok _)
    | some q0 =>
      obtain ⟨v, c1, c2⟩ := g1 q0 c
      obtain ⟨u', c3, c4⟩ := v1 v c1
      rw [c3]
      rw [c] at h
      exact h v u'.2 _ c2 c4 (I.tok _)
theorem dx_len {Q : Value → Shared → Prop} (I : Inv X pins σ H s) (hs : Sub R H) (e : Rd H a (DX a es)) (rx : RpX X.K R kvs es) (ha : allX kvs = true) (h : ∀ t s', Inv X pins σ H s' → Q (.int kvs.length t) s') : wpAny (model X.prog X.w) A (call (.builtin "len") [.ref a]) Q E s := by
  have x := dx_ok I e
  have hd := x.1
  have hl := x.2.1
  rw [sizeLine_eq] at hl
  have le := rx.len
  have way : (∃ ls, s.heap.DictOf (leafKind X.prog X.w) a ls ∧ LvE es ls) ∨ (∃ xs, s.heap.DictOfH (nestedKind X.prog X.w) a xs ∧ XvE es xs) := by
    cases kvs with
    | nil => exact .inl (leaf_of x fun e he => by rw [show es = [] from rx] at he; cases he)
    | cons kv kvs =>
      have hk := kin_all ha kv List.mem_cons_self
      cases t : isTup kv.1 with
      | false => exact .inl (leaf_of x (rx_leaf rx hk t X.w))
      | true => exact .inr (tup_of x (rx_tup I hs rx hk t))
  rcases way with ⟨ls, h1, h2⟩ | ⟨xs, h1, h2⟩
  · have l2 : es.length = ls.length := Paired.length h2
    refine call_len_dict hd h1 (by omega) ?_
    rw [← l2, le]
    exact h _ _ (I.tok _)
  · have l2 : es.length = xs.length := Paired.length h2
    refine call_len_dictH hd h1 (by omega) ?_
    rw [← l2, le]
    exact h _ _ (I.tok _)
theorem dx_type (I : Inv X pins σ H s) (e : Rd H a (DX a es)) : s.TypeIs (.ref a) "dict" ∧ (∀ b, Value.ref a = .ref b → ∃ ob, s.heap.get? b = some ob ∧ ob.dict = none) ∧ (a == sysModules) = false := by
  obtain ⟨hd, _, _, o, en, ep, h1, h2, h3, _⟩ := dx_ok I e
  exact ⟨⟨o, h1, h2.1⟩, fun b q => by cases q; exact ⟨o, h1, h2.2.1⟩, hd⟩
/-- the new description -/
theorem dx_new {h' : Heap} {es' : List En} {H' : Hp} (x : DXo a es' h') : ObjOk X.prog X.w H' h' a (DX a es') := by
  obtain ⟨_, _, _, o, en, ep, h1, _⟩ := id x
  refine ⟨x, ⟨o, h1⟩, fun h1 h2 ⟨a1, a2, a3, o, en, ep, b1, b2⟩ k => ⟨a1, a2, a3, o, en, ep, k _ b1, b2⟩⟩
/-- an entry is written: dictSet, setItem -/
theorem dx_put {y v : V} {r : Value} {Q : Unit → Shared → Prop} {m : Sem Unit} (I : Inv X pins σ H s) (hs : Sub R H) (e : H a = some (DX a es)) (rx : RpX X.K R kvs es) (hp : kyP 8 p = true) (hk : kinX kvs p = true)
    (ry : RelV y u) (rp : RpD X.K R p y) (rv : RelV v r) (hz : kvs.length < line)
    (hm1 : ∀ (ls : List (Leaf × Value)), Leaf.isOf (lfP p) u = true → s.heap.DictOf (leafKind X.prog X.w) a ls → ls.length ≤ sizeLine → (∀ h' t', h'.DictOf (leafKind X.prog X.w) a (stored ls (lfP p) r) → Heap.SameBut a s.heap h' → Q () { s with heap := h', toks := t' }) → wpAny (model X.prog X.w) A m Q E s)
    (hm2 : ∀ (b : Addr) (xs : List (NestedKey × Addr × Value)), u = .ref b → (nestedKind X.prog X.w).is s.heap (nkP p) b → s.heap.DictOfH (nestedKind X.prog X.w) a xs → xs.length ≤ sizeLine → (∀ h' t', h'.DictOfH (nestedKind X.prog X.w) a (storedH xs (nkP p) b r) → Heap.SameBut a s.heap h' → Q () { s with heap := h', toks := t' }) → wpAny (model X.prog X.w) A m Q E s)
    (h : ∀ s', Inv X pins σ (upd H a (DX a (putE es (nkP p) (adr y) v))) s' → Q () s') : wpAny (model X.prog X.w) A m Q E s := by
  have x := dx_ok I (.inl e)
  have rp' := cp_of I hs rp ry
  have hl : (putE es (nkP p) (adr y) v).length ≤ sizeLine := by
    have := putE_len es (nkP p) (adr y) v
    have := rx.len
    rw [sizeLine_eq]
    unfold line at hz
    omega
  have hh := put_hash (b := adr y) (v := v) (rx_hash rx X.w) (hash_nk X.w 8 hp)
  have fin : ∀ h' t', DXo a (putE es (nkP p) (adr y) v) h' → Heap.SameBut a s.heap h' → Q () { s with heap := h', toks := t' } := fun h' t' x' sb => h _ (by
    obtain ⟨_, _, _, o, _, _, h1, _⟩ := id x'
    exact d_write I (by rw [e]; exact True.intro) sb ⟨o, h1⟩ (dx_new x'))
  have rq := rpq_of rp hp
  rcases dx_way I hs (.inl e) rx hp hk rp' with ⟨t, h1, h2, ls, h3, h4⟩ | ⟨t, b, xs, rfl, h1, h2, h3⟩
  · have an : adr y = none := by
      rcases rq.2 with ⟨c, _⟩ | ⟨_, c⟩
      · rw [t] at c; cases c
      · exact c
    have l2 : es.length = ls.length := Paired.length h4
    have l3 := x.2.1
    refine hm1 ls h1 h3 (by omega) fun h' t' d sb => fin h' t' ?_ sb
    rw [an] at hl hh ⊢
    have pu := h4.put (lfP p) rv
    rw [h2] at pu
    exact leaf_back x.1 hl d pu hh
  · have an : adr y = some b := by
      rcases rq.2 with ⟨_, c, d, r'⟩ | ⟨c, _⟩
      · rw [d]
        cases y <;> try (cases d; done)
        cases d
        have z : Value.ref b = Value.ref c := ry
        injection z with z
        rw [z]
      · rw [t] at c; cases c
    have l2 : es.length = xs.length := Paired.length h3
    have l3 := x.2.1
    refine hm2 b xs rfl h1 h2 (by omega) fun h' t' d sb => fin h' t' ?_ sb
    rw [an] at hl hh ⊢
    exact tup_back x.1 hl d (h3.put (nkP p) b rv) hh
theorem dx_dictSet {y v : V} {r : Value} {Q : Unit → Shared → Prop} (hu : A.units + 100 < cLine) (I : Inv X pins σ H s) (hs : Sub R H) (e : H a = some (DX a es)) (rx : RpX X.K R kvs es) (hp : kyP 8 p = true) (hk : kinX kvs p = true)
    (ry : RelV y u) (rp : RpD X.K R p y) (rv : RelV v r) (hz : kvs.length < line) (h : ∀ s', Inv X pins σ (upd H a (DX a (putE es (nkP p) (adr y) v))) s' → Q () s') : wpAny (model X.prog X.w) A (dictSet a u r) Q E s :=
  dx_put I hs e rx hp hk ry rp rv hz (fun ls h1 h2 h3 h4 => wpAny_dictSet_pairs (hsz := h3) h1 h2 fun h' d sb => h4 h' _ d sb)
    (fun b xs h0 h1 h2 h3 h4 => by rw [h0]; exact wpAny_dictSet_heap (hsz := h3) (by show A.units + 8 < cLine; omega) h1 h2 fun h' d sb => h4 h' _ d sb) h
theorem dx_setItem {y v : V} {r : Value} {Q : Unit → Shared → Prop} (hu : A.units + 100 < cLine) (I : Inv X pins σ H s) (hs : Sub R H) (e : H a = some (DX a es)) (rx : RpX X.K R kvs es) (hp : kyP 8 p = true) (hk : kinX kvs p = true)
    (ry : RelV y u) (rp : RpD X.K R p y) (rv : RelV v r) (hz : kvs.length < line) (h : ∀ s', Inv X pins σ (upd H a (DX a (putE es (nkP p) (adr y) v))) s' → Q () s') : wpAny (model X.prog X.w) A (setItem (.ref a) u r) Q E s :=
  dx_put I hs e rx hp hk ry rp rv hz (fun ls h1 h2 h3 h4 => wpAny_setItem_pairs (hsz := h3) h1 h2 fun h' d sb => h4 h' _ d sb)
    (fun b xs h0 h1 h2 h3 h4 => by rw [h0]; exact wpAny_setItem_heap (hsz := h3) (room8 hu) h1 h2 fun h' d sb => h4 h' _ d sb) h
/-- a new one -/
theorem dx_empty {P : Program} {w : World} {H' : Hp} (h : Heap) (hb : sysModules < h.objs.size) : DXo h.objs.size [] (h.push { cls := .type "dict", data := .dict #[] }) :=
  ⟨beq_eq_false_iff_ne.mpr (Ne.symm (Nat.ne_of_lt hb)), Nat.zero_le _, List.nodup_nil, _, #[], 0, Heap.get?_push_size _ rfl, ⟨rfl, rfl, rfl⟩, rfl, .nil⟩
end
end Bw
end

section
set_option autoImplicit false
set_option linter.all false
/-! Bw D: the order of trees. -/
namespace Bw
open PySem L2 PySem.SeqAt Ob
mutual
theorem pyEq_comm : ∀ p q : PV, pyEq p q = pyEq q p
  | .non, q => by cases q <;> rfl
  | .bl a, q => by cases q <;> first | rfl | (simp only [pyEq]; exact Bool.beq_comm) | (simp only [pyEq, eq_comm])
  | .int a, q => by cases q <;> first | rfl | (simp only [pyEq, eq_comm])
  | .str a, q => by cases q <;> first | rfl | (simp only [pyEq, eq_comm])
  | .tup xs, q => by cases q <;> first | rfl | exact pyEqL_comm _ _
  | .lst xs, q => by cases q <;> first | rfl | exact pyEqL_comm _ _
theorem pyEqL_comm : ∀ p q : List PV, pyEqL p q = pyEqL q p
  | [], [] => rfl
  | [], _ :: _ => rfl
  | _ :: _, [] => rfl
  | x :: xs, y :: ys => by simp only [pyEqL]; rw [pyEq_comm x y, pyEqL_comm xs ys]
end
mutual
theorem cmpb_comm : ∀ p q : PV, cmpb p q = cmpb q p
  | .non, q => by cases q <;> rfl
  | .bl a, q => by cases q <;> rfl
  | .int a, q => by cases q <;> rfl
  | .str a, q => by cases q <;> rfl
  | .tup xs, q => by cases q <;> first | rfl | exact cmpbL_comm _ _
  | .lst xs, q => by cases q <;> rfl
theorem cmpbL_comm : ∀ p q : List PV, cmpbL p q = cmpbL q p
  | [], [] => rfl
  | [], _ :: _ => rfl
  | _ :: _, [] => rfl
  | x :: xs, y :: ys => by simp only [cmpbL]; rw [pyEq_comm x y, cmpbL_comm xs ys, cmpb_comm x y]
end
/-- lexicographic: F at the first unlike pair, z by the lengths -/
def lexG (F : PV → PV → Bool) (z : Nat → Nat → Bool) : List PV → List PV → Bool
  | x :: xs, y :: ys => if pyEq x y then lexG F z xs ys else F x y
  | xs, ys => z xs.length ys.length
theorem lexG_at {F : PV → PV → Bool} {z : Nat → Nat → Bool} (hz : ∀ a b, z (a + 1) (b + 1) = z a b) : ∀ (xs ys : List PV) (e r : Nat → Bool) (i n m : Nat),
    n = xs.length → m = ys.length →
    (∀ j (h1 : j < xs.length) (h2 : j < ys.length), e (i + j) = pyEq xs[j] ys[j]) → (∀ j (h1 : j < xs.length) (h2 : j < ys.length), r (i + j) = F xs[j] ys[j]) →
    lexAt e r (z (xs.length) (ys.length)) i (min n m) = lexG F z xs ys
  | [], ys, e, r, i, n, m, hn, hm, _, _ => by
    have : min n m = 0 := by simp [hn]
    rw [this]; simp [lexAt, lexG]
  | x :: xs, [], e, r, i, n, m, hn, hm, _, _ => by
    have : min n m = 0 := by simp [hm]
    rw [this]; simp [lexAt, lexG]
  | x :: xs, y :: ys, e, r, i, n, m, hn, hm, he, hr => by
    have q : min n m = min xs.length ys.length + 1 := by simp only [hn, hm, List.length_cons]; omega
    rw [q, lexAt_succ]
    have e0 := he 0 (by simp) (by simp)
    have r0 := hr 0 (by simp) (by simp)
    simp only [Nat.add_zero, List.getElem_cons_zero] at e0 r0
    rw [e0, r0]
    show _ = if pyEq x y then lexG F z xs ys else F x y
    by_cases c : pyEq x y = true
    · rw [if_pos c, if_pos c]
      have ih := lexG_at hz xs ys e r (i + 1) _ _ rfl rfl (fun j h1 h2 => by
        have := he (j + 1) (by simpa using h1) (by simpa using h2)
        rw [show i + 1 + j = i + (j + 1) by omega]
        simpa using this) (fun j h1 h2 => by
        have := hr (j + 1) (by simpa using h1) (by simpa using h2)
        rw [show i + 1 + j = i + (j + 1) by omega]
        simpa using this)
      rw [← ih]
      congr 1
      exact hz _ _
    · rw [if_neg c, if_neg c]
theorem ltTL_lex : ∀ xs ys : List PV, ltTL xs ys = lexG ltT (fun a b => decide (a < b)) xs ys
  | [], [] => rfl
  | [], _ :: _ => by simp [ltTL, lexG]
  | _ :: _, [] => by simp [ltTL, lexG]
  | x :: xs, y :: ys => by simp only [ltTL, lexG]; rw [ltTL_lex xs ys]
theorem gtTL_lex : ∀ xs ys : List PV, ltTL ys xs = lexG (fun x y => ltT y x) (fun a b => decide (a > b)) xs ys
  | [], [] => rfl
  | [], _ :: _ => by simp [ltTL, lexG]
  | _ :: _, [] => by simp [ltTL, lexG]
  | x :: xs, y :: ys => by simp only [ltTL, lexG]; rw [gtTL_lex xs ys, pyEq_comm y x]
theorem leTL_lex : ∀ xs ys : List PV, (!ltTL ys xs) = lexG (fun x y => !ltT y x) (fun a b => decide (a ≤ b)) xs ys
  | [], [] => rfl
  | [], _ :: _ => by simp [ltTL, lexG]
  | _ :: _, [] => by simp [ltTL, lexG]
  | x :: xs, y :: ys => by
    simp only [ltTL, lexG]; rw [← leTL_lex xs ys, pyEq_comm y x]
    split <;> rfl
theorem geTL_lex : ∀ xs ys : List PV, (!ltTL xs ys) = lexG (fun x y => !ltT x y) (fun a b => decide (a ≥ b)) xs ys
  | [], [] => rfl
  | [], _ :: _ => by simp [ltTL, lexG]
  | _ :: _, [] => by simp [ltTL, lexG]
  | x :: xs, y :: ys => by
    simp only [ltTL, lexG]; rw [← geTL_lex xs ys]
    split <;> rfl
theorem cmpbL_at : ∀ {xs ys : List PV}, cmpbL xs ys = true → ∀ j (h1 : j < xs.length) (h2 : j < ys.length), pyEq xs[j] ys[j] = false → cmpb xs[j] ys[j] = true
  | [], _, _, _, h1, _, _ => absurd h1 (by simp)
  | _ :: _, [], _, _, _, h2, _ => absurd h2 (by simp)
  | x :: xs, y :: ys, h, 0, _, _, hn => by
    simp only [cmpbL, Bool.and_eq_true, Bool.or_eq_true] at h
    simp only [List.getElem_cons_zero] at hn ⊢
    exact h.1.resolve_left (by rw [hn]; simp)
  | x :: xs, y :: ys, h, j + 1, h1, h2, hn => by
    simp only [cmpbL, Bool.and_eq_true, Bool.or_eq_true] at h
    simp only [List.getElem_cons_succ] at hn ⊢
    exact cmpbL_at h.2 j _ _ hn
section
variable {s : Shared}
/-- the four orders of two trees -/
theorem lt_cp : ∀ (n : Nat) {A : Around} {p q : PV} {u w : Value}, CpD s.heap p u → CpD s.heap q w → A.units + n < cLine → (shal n p = true ∨ shal n q = true) → cmpb p q = true →
    Ob.RcOp .Lt A s u w (ltT p q) ∧ Ob.RcOp .Gt A s u w (ltT q p) ∧ Ob.RcOp .LtE A s u w (!ltT q p) ∧ Ob.RcOp .GtE A s u w (!ltT p q) := by
  intro n
  induction n with
  | zero =>
    intro A p q u w hp hq hu hs hc
    cases p <;> cases q <;> first | (cases hc; done) | (simp [shal] at hs; done) | skip
    · rename_i i j
      obtain ⟨t, rfl⟩ := hp
      obtain ⟨t', rfl⟩ := hq
      have e1 : decide (i ≤ j) = (!decide (j < i)) := by rw [← decide_not]; exact decide_eq_decide.mpr (by omega)
      have e2 : decide (j ≤ i) = (!decide (i < j)) := by rw [← decide_not]; exact decide_eq_decide.mpr (by omega)
      exact ⟨.lt_int i j t t', .gt_int i j t t', e1 ▸ .le_int i j t t', e2 ▸ .ge_int i j t t'⟩
    · obtain ⟨t, rfl⟩ := hp
      obtain ⟨t', rfl⟩ := hq
      exact ⟨fun _ _ _ _ h => PyProof.Rows.lt_str h, fun _ _ _ _ h => PySem.P.gt_str h, fun _ _ _ _ h => PySem.P.le_str h, fun _ _ _ _ h => PySem.P.ge_str h⟩
  | succ n ih =>
    intro A p q u w hp hq hu hs hc
    have hu0 : A.units < cLine := by omega
    have hu1 : A.in1.units + n < cLine := by show A.units + 1 + n < _; omega
    cases p <;> cases q <;> first | (cases hc; done) | skip
    · rename_i i j
      obtain ⟨t, rfl⟩ := hp
      obtain ⟨t', rfl⟩ := hq
      have e1 : decide (i ≤ j) = (!decide (j < i)) := by rw [← decide_not]; exact decide_eq_decide.mpr (by omega)
      have e2 : decide (j ≤ i) = (!decide (i < j)) := by rw [← decide_not]; exact decide_eq_decide.mpr (by omega)
      exact ⟨.lt_int i j t t', .gt_int i j t t', e1 ▸ .le_int i j t t', e2 ▸ .ge_int i j t t'⟩
    · obtain ⟨t, rfl⟩ := hp
      obtain ⟨t', rfl⟩ := hq
      exact ⟨fun _ _ _ _ h => PyProof.Rows.lt_str h, fun _ _ _ _ h => PySem.P.gt_str h, fun _ _ _ _ h => PySem.P.le_str h, fun _ _ _ _ h => PySem.P.ge_str h⟩
    · rename_i xs ys
      have hs : shalL n xs = true ∨ shalL n ys = true := hs
      have hc : cmpbL xs ys = true := hc
      obtain ⟨a, us, rfl, ha, ra⟩ := hp
      obtain ⟨b, ws, rfl, hb, rb⟩ := hq
      have la := ra.len
      have lb := rb.len
      have g1 : ∀ j, j < xs.length → xs.getD j .non = xs.getD j .non := fun _ _ => rfl
      have ex : ∀ j (h : j < xs.length), xs.getD j .non = xs[j] := fun j h => by simp [h]
      have ey : ∀ j (h : j < ys.length), ys.getD j .non = ys[j] := fun j h => by simp [h]
      have he : ∀ j (h1 : j < us.toArray.size) (h2 : j < ws.toArray.size), EqAt A.in1 s us.toArray[j] ws.toArray[j] (pyEq (xs.getD j .non) (ys.getD j .non)) := fun j h1 h2 => by
        have k1 : j < us.length := by simpa using h1
        have k2 : j < ws.length := by simpa using h2
        rw [ex j (by omega), ey j (by omega)]
        simpa using (eq_cp n (A := A.in1) (ra.at (by omega) k1) (rb.at (by omega) k2) hu1 (shal_sub _ _ hs)).1
      have hr : ∀ j (h1 : j < us.toArray.size) (h2 : j < ws.toArray.size), pyEq (xs.getD j .non) (ys.getD j .non) = false →
          Ob.RcOp .Lt A.in1 s us.toArray[j] ws.toArray[j] (ltT (xs.getD j .non) (ys.getD j .non)) ∧ Ob.RcOp .Gt A.in1 s us.toArray[j] ws.toArray[j] (ltT (ys.getD j .non) (xs.getD j .non)) ∧
          Ob.RcOp .LtE A.in1 s us.toArray[j] ws.toArray[j] (!ltT (ys.getD j .non) (xs.getD j .non)) ∧ Ob.RcOp .GtE A.in1 s us.toArray[j] ws.toArray[j] (!ltT (xs.getD j .non) (ys.getD j .non)) := fun j h1 h2 hn => by
        have k1 : j < us.length := by simpa using h1
        have k2 : j < ws.length := by simpa using h2
        have z := ih (A := A.in1) (ra.at (by omega) k1) (rb.at (by omega) k2) hu1 (shal_sub (by omega) (by omega) hs) (cmpbL_at hc j (by omega) (by omega) (by rw [ex j (by omega), ey j (by omega)] at hn; exact hn))
        rw [← ex j (by omega), ← ey j (by omega)] at z
        simpa using z
      have s1 : us.toArray.size = xs.length := by simp [la]
      have s2 : ws.toArray.size = ys.length := by simp [lb]
      refine ⟨?_, ?_, ?_, ?_⟩
      · have q := Ob.RcOp.tuples_lt (r := fun j => ltT (xs.getD j .non) (ys.getD j .non)) ha hb hu0 he fun j h1 h2 hn => (hr j h1 h2 hn).1
        rw [s1, s2, lexG_at (F := ltT) (z := fun a b => decide (a < b)) (fun a b => by simp) xs ys _ _ 0 _ _ rfl rfl (fun j h1 h2 => by simp [h1, h2]) (fun j h1 h2 => by simp [h1, h2]), ← ltTL_lex] at q
        exact q
      · have q := Ob.RcOp.tuples_gt (r := fun j => ltT (ys.getD j .non) (xs.getD j .non)) ha hb hu0 he fun j h1 h2 hn => (hr j h1 h2 hn).2.1
        rw [s1, s2, lexG_at (F := fun x y => ltT y x) (z := fun a b => decide (a > b)) (fun a b => by simp) xs ys _ _ 0 _ _ rfl rfl (fun j h1 h2 => by simp [h1, h2]) (fun j h1 h2 => by simp [h1, h2]), ← gtTL_lex] at q
        exact q
      · have q := Ob.RcOp.tuples_le (r := fun j => !ltT (ys.getD j .non) (xs.getD j .non)) ha hb hu0 he fun j h1 h2 hn => (hr j h1 h2 hn).2.2.1
        rw [s1, s2, lexG_at (F := fun x y => !ltT y x) (z := fun a b => decide (a ≤ b)) (fun a b => by simp) xs ys _ _ 0 _ _ rfl rfl (fun j h1 h2 => by simp [h1, h2]) (fun j h1 h2 => by simp [h1, h2]), ← leTL_lex] at q
        exact q
      · have q := Ob.RcOp.tuples_ge (r := fun j => !ltT (xs.getD j .non) (ys.getD j .non)) ha hb hu0 he fun j h1 h2 hn => (hr j h1 h2 hn).2.2.2
        rw [s1, s2, lexG_at (F := fun x y => !ltT x y) (z := fun a b => decide (a ≥ b)) (fun a b => by simp) xs ys _ _ 0 _ _ rfl rfl (fun j h1 h2 => by simp [h1, h2]) (fun j h1 h2 => by simp [h1, h2]), ← geTL_lex] at q
        exact q
end
end Bw
end

section
set_option autoImplicit false
set_option linter.all false
set_option maxRecDepth 100000
set_option maxHeartbeats 4000000
/-! Bw E0: t * 1 is t. -/
namespace Bw
open PySem L2 PySem.Spec PyProof.Rows
theorem tuple_one (l : Addr) (items : Array Value) (n : Nat) (dd : Option Addr) (sl : Array (Option Value)) (u : Tok) :
    Meets (Builtin.«tuple.__mul__» ⟨[.ref l, .int 1 u], []⟩) (fun _ R s => s.heap.get? l = some { cls := .type "tuple", dict := dd, data := .seq items n, slots := sl } ∧ R (.ok (.ret (Value.ref l))) s) :=
  .of_wp fun prog w A R s h => by
    obtain ⟨hp, g, d, tk, os⟩ := s
    obtain ⟨hl, h⟩ := h
    have f1 := AutoSeq1.idx_int
    have c0 : ¬ (decide ((1 : Int) < -(2 ^ 63)) || decide ((1 : Int) ≥ 2 ^ 63)) = true := by decide
    have c1 : (items.isEmpty || (1 : Int) == 1) = true := by simp
    wp_walk using wpAny_loadPart' hl
    repeat (first
      | (refine wpAny_ite_false (decide_eq_false c0) ?_; wp_walk using wpAny_loadPart' hl)
      | (refine wpAny_ite_true (decide_eq_true c1) ?_; wp_walk using wpAny_loadPart' hl))
    exact ⟨_, rfl, h⟩
def rOne (K : PySem.W.Frag) : R2 := fun x y H Q => ∃ l xs, x = .ref l ∧ y = .int 1 ∧ SqT K H l xs ∧ Q (.ref l) H
theorem op_one {X : Cx} : OpR X (binaryOp .Mult) (rOne X.K) := by
  intro pins st σ H x y v u Q J ra rb h
  obtain ⟨l, xs, rfl, rfl, hT, q⟩ := h
  cases ra
  obtain ⟨tk, rfl⟩ := rb
  obtain ⟨its, r, ⟨⟨cl, dd, dt, sl⟩, ho, hc, n, hd⟩, hs⟩ := J.tuple hT
  simp only at hc hd
  subst hc hd
  have fin : EP X pins σ Q (.ref l) st := ⟨.ref l, H, J, rfl, q⟩
  exact wpAny_binaryOp_repeat_ref (T := "tuple") (U := "int") (by decide) ⟨_, ho, rfl⟩ (fun z => typeIs_int z 1 tk) noFill_tuple_mul F.fills_int_mul F.slot_int_rmul repeat_tuple F.slot_int_index.lookup
    (call_meets F.slot_int_rmul (typeIs_int st 1 tk) F.entry_int_rmul (F.args_int_rmul_2 _ _) (int_rmul_tuple 1 tk l its.toArray n dd sl) ⟨ho, rfl, ⟨_, ho, rfl⟩, call_meets F.slot_tuple_mul ⟨_, ho, rfl⟩ F.entry_tuple_mul (F.args_tuple_mul_2 _ _) (tuple_one l its.toArray n dd sl tk) ⟨ho, fin⟩⟩)
end Bw
end

section
set_option autoImplicit false
set_option linter.all false
/-! Bw E: the operations, by values. -/
namespace Bw
open PySem L2 PySem.SeqAt Ob
theorem line_eq : line = sizeLine := by rw [sizeLine_eq]; rfl
/-- two operands that may be read, and what is wanted of g of them -/
def rB (F : Fr) (m : Md) (g : SV → SV → Res SV) : R2 := fun x y H Q => ∃ s t R σ, Sub R H ∧ Rm F R H .t s x ∧ Rm F R H .t t y ∧ Post F m R σ H (g s t) Q
section
variable {X : Cx} {F : Fr} {pins : List (Addr × Obj)} {σ : L2.St} {H R : Hp} {s : Shared} {x : V}
theorem Rm.non (r : Rm F R H .t (.d .non) x) : x = .non := by
  rcases r with r | ⟨_, _, e, _⟩
  · exact r
  · exact e.elim
theorem Rm.bl {b : Bool} (r : Rm F R H .t (.d (.bl b)) x) : x = .bl b := by
  rcases r with r | ⟨_, _, e, _⟩
  · exact r
  · exact e.elim
theorem Rm.int {i : Int} (r : Rm F R H .t (.d (.int i)) x) : x = .int i := by
  rcases r with r | ⟨_, _, e, _⟩
  · exact r
  · exact e.elim
theorem Rm.str {z : Str} (r : Rm F R H .t (.d (.str z)) x) : x = .str z ∧ z.length ≤ sizeLine := by
  rcases r with r | ⟨_, _, e, _⟩
  · rw [← line_eq]; exact r
  · exact e.elim
theorem Rm.tup {ps : List PV} (r : Rm F R H .t (.d (.tup ps)) x) : ∃ a vs, x = .ref a ∧ SqT F.K R a vs ∧ RpL F.K R ps vs ∧ ps.length ≤ line := by
  rcases r with r | ⟨_, _, e, _⟩
  · obtain ⟨a, vs, e, h, z, q⟩ := r
    exact ⟨a, vs, e, h, q, z⟩
  · exact e.elim
theorem Rm.lst {ps : List PV} (hs : Sub R H) (r : Rm F R H .t (.d (.lst ps)) x) : ∃ a vs, x = .ref a ∧ H a = some (.lst vs) ∧ RpL F.K R ps vs ∧ ps.length ≤ line := by
  rcases r with r | ⟨a, e2, ⟨vs, h, q, z⟩, _⟩
  · obtain ⟨a, vs, e, h, z, q⟩ := r
    exact ⟨a, vs, e, hs _ _ h, q, z⟩
  · exact ⟨a, vs, e2, h, q, z⟩
theorem Rm.dK {ks : List (Ky × PV)} (hs : Sub R H) (r : Rm F R H .t (.dK ks) x) : ∃ a ws, x = .ref a ∧ H a = some (.dK ws) ∧ RpK F.K R ks ws ∧ ks.length ≤ line := by
  rcases r with r | ⟨a, e2, ⟨vs, h, q, z⟩, _⟩
  · obtain ⟨a, vs, e, h, z, q⟩ := r
    exact ⟨a, vs, e, hs _ _ h, q, z⟩
  · exact ⟨a, vs, e2, h, q, z⟩
theorem Rm.dX {b : Bool} {ks : List (PV × PV)} (hs : Sub R H) (r : Rm F R H .t (.dX b ks) x) : ∃ a es, x = .ref a ∧ Rd H a (DX a es) ∧ RpX F.K R ks es ∧ ks.length ≤ line ∧ allX ks = true := by
  rcases r with r | ⟨a, e2, t, _⟩
  · obtain ⟨a, es, e, h, z, y, q⟩ := r
    exact ⟨a, es, e, hs.rd h.rd, q, z, y⟩
  · cases b with
    | true => exact t.elim
    | false => obtain ⟨es, h, q, z, y⟩ := t; exact ⟨a, es, e2, .inl h, q, z, y⟩
theorem Rm.scr {ns : List Int} (r : Rm F R H .t (.scr ns) x) : ∃ a, x = .ref a ∧ SqL F.K R a (ns.map V.int) ∧ ns.length ≤ line := by
  rcases r with r | ⟨_, _, e, _⟩
  · exact r
  · exact e.elim
theorem Rm.ins {c : Nat} {ks : List SV} (r : Rm F R H .t (.ins c ks) x) : False := by
  rcases r with r | ⟨_, _, e, _⟩
  · exact r
  · exact e.elim
/-- the tree in the machine's heap -/
theorem Inv.cpT (I : Inv X pins σ H s) (hK : F.K = X.K) (hs : Sub R H) {p : PV} {u : Value} (r : Rm F R H .t (.d p) x) (ru : RelV x u) : CpD s.heap p u := by
  rcases r with r | ⟨a, e2, t, _⟩
  · exact cp_of I hs (by rw [← hK]; exact r) ru
  · cases p <;> first | exact t.elim | skip
    obtain ⟨vs, h, q, z⟩ := t
    subst e2
    obtain ⟨its, rv, ht, _⟩ := I.list (SqL.of h)
    exact ⟨a, its, ru, ht.isList, cpl_of I hs (by rw [← hK]; exact q) rv⟩
/-- a new tuple, a new list -/
theorem RpS.newT {p : Addr} {ps : List PV} {vs : List V} {R : Hp} (hp : R p = none) (r : RpL F.K R ps vs) (z : ps.length ≤ line) : RpS F.K (upd R p (.tup vs)) (.d (.tup ps)) (.ref p) :=
  ⟨p, vs, rfl, .of upd_same, z, r.mono fun a o e => by rw [upd_ne (ne_of_none e hp)]; exact e⟩
theorem RpS.newL {p : Addr} {ps : List PV} {vs : List V} {R : Hp} (hp : R p = none) (r : RpL F.K R ps vs) (z : ps.length ≤ line) : RpS F.K (upd R p (.lst vs)) (.d (.lst ps)) (.ref p) :=
  ⟨p, vs, rfl, upd_same, z, r.mono fun a o e => by rw [upd_ne (ne_of_none e hp)]; exact e⟩
theorem Sub.none (hs : Sub R H) {p : Addr} (h : H p = none) : R p = none := by
  cases e : R p with
  | none => rfl
  | some o => rw [hs _ _ e] at h; cases h
theorem Post.newT {Q : VK} {ps : List PV} {vs : List V} (hs : Sub R H) (h : Post F .e R σ H (.ok (.d (.tup ps))) Q) {p : Addr} (hp : H p = none) (r : RpL F.K R ps vs) (z : ps.length ≤ line) : Q (.ref p) (upd H p (.tup vs)) :=
  h _ _ _ (.new hs hp _) (RpS.newT (F := F) (hs.none hp) r z)
theorem Post.newL {Q : VK} {ps : List PV} {vs : List V} (hs : Sub R H) (h : Post F .e R σ H (.ok (.d (.lst ps))) Q) {p : Addr} (hp : H p = none) (r : RpL F.K R ps vs) (z : ps.length ≤ line) : Q (.ref p) (upd H p (.lst vs)) :=
  h _ _ _ (.new hs hp _) (RpS.newL (F := F) (hs.none hp) r z)
def opOf : BOp → Operator
  | .add => .Add | .sub => .Sub | .mul => .Mult | .fdiv => .FloorDiv | .mod => .Mod | .pow => .Pow | .shl => .LShift | .shr => .RShift | .band => .BitAnd
theorem op_bin (hK : F.K = X.K) (op : BOp) : OpR X (binaryOp (opOf op)) (rB F .e (binop op)) := by
  intro pins s σ H x y v u Q I rx ry ⟨a, b, R, σ', hs, ra, rb, h⟩
  have bad : ∀ {α : Prop}, Post F .e R σ' H .bad Q → α := fun h => h.elim
  cases a with
  | dK _ => cases op <;> exact bad h
  | dX _ _ => cases op <;> exact bad h
  | ins _ _ => exact ra.ins.elim
  | scr _ => cases op <;> exact bad h
  | d p =>
  cases b with
  | dK _ => cases op <;> cases p <;> exact bad h
  | dX _ _ => cases op <;> cases p <;> exact bad h
  | ins _ _ => exact rb.ins.elim
  | scr _ => cases op <;> cases p <;> exact bad h
  | d q =>
  cases op
  case add =>
    cases p <;> cases q <;> first | exact bad h | skip
    · obtain rfl := ra.int; obtain rfl := rb.int
      exact op_add pins s σ H _ _ v u Q I rx ry ⟨_, _, rfl, rfl, Post.now hs h rfl⟩
    · obtain ⟨rfl, z1⟩ := ra.str; obtain ⟨rfl, z2⟩ := rb.str
      rename_i i j
      have h : Post F .e R σ' H (if i.length + j.length ≤ line then Res.ok (.d (.str (i ++ j))) else .bad) Q := h
      by_cases c : i.length + j.length ≤ line
      · rw [if_pos c] at h
        refine op_add_str pins s σ H _ _ v u Q I rx ry ⟨_, _, rfl, rfl, line_eq ▸ c, Post.now hs h ⟨rfl, ?_⟩⟩
        show (i.cps ++ j.cps).size ≤ line
        rw [Array.size_append]; exact c
      · rw [if_neg c] at h; exact h.elim
    · obtain ⟨a1, vs1, rfl, s1, r1, z1⟩ := ra.tup
      obtain ⟨a2, vs2, rfl, s2, r2, z2⟩ := rb.tup
      rename_i xs ys
      have h : Post F .e R σ' H ((chk (xs ++ ys)).bind fun zs => .ok (.d (.tup zs))) Q := h
      unfold chk at h
      by_cases c : (xs ++ ys).length ≤ line
      · rw [if_pos c] at h
        simp only [Res.bind_ok] at h
        have l1 := r1.len
        have l2 := r2.len
        have c' : xs.length + ys.length ≤ line := by simpa using c
        rw [hK] at s1 s2
        refine op_catA pins s σ H _ _ v u Q I rx ry ⟨a1, a2, vs1, vs2, rfl, rfl, hs.seqT s1, hs.seqT s2, by rw [← line_eq]; omega, fun e => ?_, fun _ e => ?_, fun _ _ p hp => ?_⟩
        · have : xs = [] := List.length_eq_zero_iff.mp (by rw [← l1, e]; rfl)
          subst this
          exact Post.now hs h ⟨a2, vs2, rfl, hK ▸ s2, c, r2⟩
        · have : ys = [] := List.length_eq_zero_iff.mp (by rw [← l2, e]; rfl)
          subst this
          exact Post.now hs h ⟨a1, vs1, rfl, hK ▸ s1, c, by rw [List.append_nil]; exact r1⟩
        · exact Post.newT hs h hp (r1.append r2) c
      · rw [if_neg c] at h; exact h.elim
    · obtain ⟨a1, vs1, rfl, s1, r1, z1⟩ := ra.lst hs
      obtain ⟨a2, vs2, rfl, s2, r2, z2⟩ := rb.lst hs
      rename_i xs ys
      have h : Post F .e R σ' H ((chk (xs ++ ys)).bind fun zs => .ok (.d (.lst zs))) Q := h
      unfold chk at h
      by_cases c : (xs ++ ys).length ≤ line
      · rw [if_pos c] at h
        simp only [Res.bind_ok] at h
        have l1 := r1.len
        have l2 := r2.len
        have c' : xs.length + ys.length ≤ line := by simpa using c
        exact op_cat pins s σ H _ _ v u Q I rx ry ⟨a1, a2, vs1, vs2, rfl, rfl, s1, s2, by rw [← line_eq]; omega, fun p hp => Post.newL hs h hp (r1.append r2) c⟩
      · rw [if_neg c] at h; exact h.elim
  case sub =>
    cases p <;> cases q <;> first | exact bad h | skip
    obtain rfl := ra.int; obtain rfl := rb.int
    exact op_sub pins s σ H _ _ v u Q I rx ry ⟨_, _, rfl, rfl, Post.now hs h rfl⟩
  case mul =>
    cases p <;> cases q <;> first | exact bad h | skip
    · rename_i i j
      obtain rfl := ra.int; obtain rfl := rb.int
      have h : Post F .e R σ' H (if i.natAbs < 2 ^ 64 ∨ j.natAbs < 2 ^ 64 then Res.ok (.d (.int (i * j))) else .bad) Q := h
      by_cases c : i.natAbs < 2 ^ 64 ∨ j.natAbs < 2 ^ 64
      · rw [if_pos c] at h
        exact op_mul pins s σ H _ _ v u Q I rx ry ⟨_, _, rfl, rfl, (show (-(2 ^ 64) < i ∧ i < 2 ^ 64) ∨ (-(2 ^ 64) < j ∧ j < 2 ^ 64) by omega), Post.now hs h rfl⟩
      · rw [if_neg c] at h; exact h.elim
    · rename_i xs n
      obtain rfl := rb.int
      obtain ⟨a1, vs1, rfl, s1, r1, z1⟩ := ra.tup
      have h : Post F .e R σ' H (if 1 ≤ n ∧ n ≤ 1000 ∧ xs.length ≤ 1000 ∧ xs.length ≠ 0 then Res.ok (.d (.tup (rep n.toNat xs))) else .bad) Q := h
      by_cases c : 1 ≤ n ∧ n ≤ 1000 ∧ xs.length ≤ 1000 ∧ xs.length ≠ 0
      · rw [if_pos c] at h
        have l1 := r1.len
        rw [hK] at s1
        have hr : ∀ m : Nat, RpL F.K R (List.replicate m xs).flatten (List.replicate m vs1).flatten := fun m => by
          induction m with
          | zero => exact rfl
          | succ m ih => rw [List.replicate_succ, List.replicate_succ, List.flatten_cons, List.flatten_cons]; exact r1.append ih
        by_cases one : n = 1
        · subst one
          refine op_one pins s σ H _ _ v u Q I rx ry ⟨a1, vs1, rfl, rfl, hs.seqT s1, Post.now hs h ?_⟩
          have e : rep (1 : Int).toNat xs = xs := by simp [rep]
          rw [e]
          exact ⟨a1, vs1, rfl, by rw [hK]; exact s1, z1, r1⟩
        refine op_repT pins s σ H _ _ v u Q I rx ry ⟨a1, n, vs1, rfl, rfl, hs.seqT s1, fun e => c.2.2.2 (by rw [← l1, e]; rfl), by omega, c.2.1, by omega, fun p hp => Post.newT hs h hp (hr _) ?_⟩
        show (List.replicate n.toNat xs).flatten.length ≤ line
        rw [List.length_flatten, List.map_replicate, List.sum_replicate_nat]
        have : n.toNat ≤ 1000 := by omega
        exact Nat.le_trans (Nat.mul_le_mul this c.2.2.1) (by decide)
      · rw [if_neg c] at h; exact h.elim
    · rename_i xs n
      obtain rfl := rb.int
      obtain ⟨a1, vs1, rfl, s1, r1, z1⟩ := ra.lst hs
      have h : Post F .e R σ' H (if n.natAbs < 2 ^ 62 ∧ xs.length * n.toNat ≤ line then Res.ok (.d (.lst (rep n.toNat xs))) else .bad) Q := h
      by_cases c : n.natAbs < 2 ^ 62 ∧ xs.length * n.toNat ≤ line
      · rw [if_pos c] at h
        have l1 := r1.len
        have hr : ∀ m : Nat, RpL F.K R (List.replicate m xs).flatten (List.replicate m vs1).flatten := fun m => by
          induction m with
          | zero => exact rfl
          | succ m ih => rw [List.replicate_succ, List.replicate_succ, List.flatten_cons, List.flatten_cons]; exact r1.append ih
        refine op_rep pins s σ H _ _ v u Q I rx ry ⟨a1, n, vs1, rfl, rfl, s1, by omega, by omega, by rw [l1, ← line_eq]; exact c.2, fun p hp => Post.newL hs h hp (hr _) ?_⟩
        show (List.replicate n.toNat xs).flatten.length ≤ line
        rw [List.length_flatten, List.map_replicate, List.sum_replicate_nat, Nat.mul_comm]
        exact c.2
      · rw [if_neg c] at h; exact h.elim
  case fdiv =>
    cases p <;> cases q <;> first | exact bad h | skip
    rename_i i j
    obtain rfl := ra.int; obtain rfl := rb.int
    have h : Post F .e R σ' H (if 0 < j ∧ j.natAbs < 1073741824 then Res.ok (.d (.int (i / j))) else .bad) Q := h
    by_cases c : 0 < j ∧ j.natAbs < 1073741824
    · rw [if_pos c] at h
      exact op_fdiv pins s σ H _ _ v u Q I rx ry ⟨_, _, rfl, rfl, (show 0 < j ∧ j < 1073741824 by omega), Post.now hs h rfl⟩
    · rw [if_neg c] at h; exact h.elim
  case mod =>
    cases p <;> cases q <;> first | exact bad h | skip
    rename_i i j
    obtain rfl := ra.int; obtain rfl := rb.int
    have h : Post F .e R σ' H (if 0 < j then Res.ok (.d (.int (i % j))) else .bad) Q := h
    by_cases c : 0 < j
    · rw [if_pos c] at h
      exact op_mod pins s σ H _ _ v u Q I rx ry ⟨_, _, rfl, rfl, c, Post.now hs h rfl⟩
    · rw [if_neg c] at h; exact h.elim
  case pow =>
    cases p <;> cases q <;> first | exact bad h | skip
    rename_i i j
    obtain rfl := ra.int; obtain rfl := rb.int
    have h : Post F .e R σ' H (if 0 ≤ j ∧ j.natAbs ≤ 1000000 ∧ i.natAbs < 2 ^ 64 then Res.ok (.d (.int (i ^ j.toNat))) else .bad) Q := h
    by_cases c : 0 ≤ j ∧ j.natAbs ≤ 1000000 ∧ i.natAbs < 2 ^ 64
    · rw [if_pos c] at h
      exact op_pow pins s σ H _ _ v u Q I rx ry ⟨_, _, rfl, rfl, (show 0 ≤ j ∧ j ≤ 1000000 ∧ i.natAbs < 2 ^ 64 by omega), Post.now hs h rfl⟩
    · rw [if_neg c] at h; exact h.elim
  case shl =>
    cases p <;> cases q <;> first | exact bad h | skip
    rename_i i j
    obtain rfl := ra.int; obtain rfl := rb.int
    have h : Post F .e R σ' H (if 0 ≤ j ∧ j.natAbs ≤ 1000000 ∧ i.natAbs < 2 ^ 64 then Res.ok (.d (.int (i * 2 ^ j.toNat))) else .bad) Q := h
    by_cases c : 0 ≤ j ∧ j.natAbs ≤ 1000000 ∧ i.natAbs < 2 ^ 64
    · rw [if_pos c] at h
      exact op_shl pins s σ H _ _ v u Q I rx ry ⟨_, _, rfl, rfl, (show 0 ≤ j ∧ j ≤ 1000000 ∧ i.natAbs < 2 ^ 64 by omega), Post.now hs h rfl⟩
    · rw [if_neg c] at h; exact h.elim
  case shr =>
    cases p <;> cases q <;> first | exact bad h | skip
    rename_i i j
    obtain rfl := ra.int; obtain rfl := rb.int
    have h : Post F .e R σ' H (if 0 ≤ j then Res.ok (.d (.int (i / 2 ^ j.toNat))) else .bad) Q := h
    by_cases c : 0 ≤ j
    · rw [if_pos c] at h
      exact op_shr pins s σ H _ _ v u Q I rx ry ⟨_, _, rfl, rfl, c, Post.now hs h rfl⟩
    · rw [if_neg c] at h; exact h.elim
  case band =>
    cases p <;> cases q <;> first | exact bad h | skip
    rename_i i j
    obtain rfl := ra.int; obtain rfl := rb.int
    have h : Post F .e R σ' H (if 0 ≤ i ∧ j = 1 then Res.ok (.d (.int (i % 2))) else .bad) Q := h
    by_cases c : 0 ≤ i ∧ j = 1
    · rw [if_pos c] at h
      have e : i = ((i.toNat : Nat) : Int) := by omega
      refine op_odd pins s σ H _ _ v u Q I rx ry ⟨i.toNat, by rw [← e], by rw [c.2], Post.now hs h ?_⟩
      show (_ : V) = _
      rw [show ((i.toNat % 2 : Nat) : Int) = i % 2 by omega]
    · rw [if_neg c] at h; exact h.elim
end
end Bw
end

section
set_option autoImplicit false
set_option linter.all false
/-! Bw F: trees as the library's data. -/
namespace Bw
open PySem L2 PySem.SeqAt PySem.W
mutual
def toD : PV → PyData
  | .non => .none
  | .bl b => .bool b
  | .int i => .int i
  | .str s => .str s
  | .tup xs => .tuple (toDL xs)
  | .lst xs => .list (toDL xs)
def toDL : List PV → List PyData
  | [] => []
  | x :: xs => toD x :: toDL xs
end
theorem toDL_map : ∀ xs : List PV, toDL xs = xs.map toD
  | [] => rfl
  | x :: xs => by rw [toDL, toDL_map xs]; rfl
mutual
theorem reads_of {h : Heap} : ∀ {p : PV} {u : Value}, CpD h p u → ∃ as, Reads h u (toD p) as
  | .non, u, e => by obtain rfl : u = _ := e; exact ⟨_, .none⟩
  | .bl b, u, e => by obtain rfl : u = _ := e; exact ⟨_, .bool b⟩
  | .int i, _, ⟨t, e⟩ => by subst e; exact ⟨_, .int i t⟩
  | .str i, _, ⟨t, e⟩ => by subst e; exact ⟨_, .str i t⟩
  | .tup xs, _, ⟨a, us, e, ⟨o, h1, h2, n, h3⟩, rs⟩ => by
    obtain ⟨as, r⟩ := readsL_of rs
    subst e; exact ⟨as, .tuple h1 h2 h3 (by simpa using r)⟩
  | .lst xs, _, ⟨a, us, e, ⟨o, h1, h2, n, h3⟩, rs⟩ => by
    obtain ⟨as, r⟩ := readsL_of rs
    subst e; exact ⟨a :: as, .list h1 h2 h3 (by simpa using r)⟩
theorem readsL_of {h : Heap} : ∀ {p : List PV} {u : List Value}, CpL h p u → ∃ as, ReadsAll h u (toDL p) as
  | [], u, e => by obtain rfl : u = _ := e; exact ⟨_, .nil⟩
  | x :: xs, _, ⟨u, ws, e, r, rs⟩ => by
    obtain ⟨as, h1⟩ := reads_of r
    obtain ⟨bs, h2⟩ := readsL_of rs
    subst e; exact ⟨_, .cons h1 h2⟩
end
mutual
theorem plain_toD : ∀ p : PV, (toD p).plain = true
  | .non => rfl
  | .bl b => rfl
  | .int i => rfl
  | .str i => rfl
  | .tup xs => plainL_toD xs
  | .lst xs => plainL_toD xs
theorem plainL_toD : ∀ p : List PV, PyData.plainAll (toDL p) = true
  | [] => rfl
  | x :: xs => by rw [toDL, PyData.plainAll, plain_toD x, plainL_toD xs]; rfl
end
mutual
theorem depth_toD : ∀ (p : PV) (n : Nat), shal n p = true ↔ (toD p).depth ≤ n
  | .non, n => by cases n <;> simp [shal, toD, PyData.depth]
  | .bl b, n => by cases n <;> simp [shal, toD, PyData.depth]
  | .int i, n => by cases n <;> simp [shal, toD, PyData.depth]
  | .str i, n => by cases n <;> simp [shal, toD, PyData.depth]
  | .tup xs, 0 => by simp [shal, toD, PyData.depth]
  | .tup xs, n + 1 => by simp only [shal, toD, PyData.depth]; rw [depthL_toD xs n]; omega
  | .lst xs, 0 => by simp [shal, toD, PyData.depth]
  | .lst xs, n + 1 => by simp only [shal, toD, PyData.depth]; rw [depthL_toD xs n]; omega
theorem depthL_toD : ∀ (p : List PV) (n : Nat), shalL n p = true ↔ PyData.depthAll (toDL p) ≤ n
  | [], n => by simp [shalL, toDL, PyData.depthAll]
  | x :: xs, n => by
    simp only [shalL, toDL, PyData.depthAll, Bool.and_eq_true]
    rw [depth_toD x n, depthL_toD xs n]; omega
end
mutual
theorem eqv_toD : ∀ p q : PV, PyData.eqv (toD p) (toD q) = pyEq p q
  | .non, q => by cases q <;> simp [toD, PyData.eqv, pyEq]
  | .bl b, q => by cases q <;> first | (simp [toD, PyData.eqv, pyEq, Bw.b2i, Bool.beq_eq_decide_eq]; done) | (simp only [toD, PyData.eqv, pyEq, Bw.b2i, Bool.beq_eq_decide_eq]; exact decide_eq_decide.mpr Iff.rfl)
  | .int i, q => by cases q <;> first | (simp [toD, PyData.eqv, pyEq, Bw.b2i, Bool.beq_eq_decide_eq]; done) | (simp only [toD, PyData.eqv, pyEq, Bw.b2i, Bool.beq_eq_decide_eq]; exact decide_eq_decide.mpr Iff.rfl)
  | .str i, q => by cases q <;> simp [toD, PyData.eqv, pyEq, Bool.beq_eq_decide_eq]
  | .tup xs, q => by cases q <;> first | (simp [toD, PyData.eqv, pyEq]; done) | (simp only [toD, PyData.eqv, pyEq]; exact eqvL_toD _ _)
  | .lst xs, q => by cases q <;> first | (simp [toD, PyData.eqv, pyEq]; done) | (simp only [toD, PyData.eqv, pyEq]; exact eqvL_toD _ _)
theorem eqvL_toD : ∀ p q : List PV, PyData.eqvAll (toDL p) (toDL q) = pyEqL p q
  | [], [] => by simp [toDL, PyData.eqvAll, pyEqL]
  | [], _ :: _ => by simp [toDL, PyData.eqvAll, pyEqL]
  | _ :: _, [] => by simp [toDL, PyData.eqvAll, pyEqL]
  | x :: xs, y :: ys => by simp only [toDL, PyData.eqvAll, pyEqL]; rw [eqv_toD x y, eqvL_toD xs ys]
end
mutual
theorem alk_toD : ∀ p q : PV, alike (toD p) (toD q) = alk p q
  | .non, q => by cases q <;> simp [toD, alike, alk]
  | .bl b, q => by cases q <;> simp [toD, alike, alk]
  | .int i, q => by cases q <;> simp [toD, alike, alk]
  | .str i, q => by cases q <;> simp [toD, alike, alk]
  | .tup xs, q => by cases q <;> first | (simp [toD, alike, alk]; done) | (simp only [toD, alike, alk]; exact alkL_toD _ _)
  | .lst xs, q => by cases q <;> first | (simp [toD, alike, alk]; done) | (simp only [toD, alike, alk]; exact alkL_toD _ _)
theorem alkL_toD : ∀ p q : List PV, alikeAll (toDL p) (toDL q) = alkL p q
  | [], [] => by simp [toDL, alikeAll, alkL]
  | [], _ :: _ => by simp [toDL, alikeAll, alkL]
  | _ :: _, [] => by simp [toDL, alikeAll, alkL]
  | x :: xs, y :: ys => by simp only [toDL, alikeAll, alkL]; rw [alk_toD x y, alkL_toD xs ys]
end
mutual
theorem lt_toD : ∀ p q : PV, alk p q = true → dataLt (toD p) (toD q) = ltT p q
  | .non, q, h => by cases q <;> first | (cases h; done) | (simp [toD, ltT, dataLt, keyToks]; done) | rfl
  | .bl b, q, h => by cases q <;> first | (cases h; done) | (simp only [toD, ltT]; exact dataLt_bool _ _)
  | .int i, q, h => by cases q <;> first | (cases h; done) | (simp only [toD, ltT]; exact dataLt_int _ _)
  | .str i, q, h => by cases q <;> first | (cases h; done) | (simp only [toD, ltT]; exact dataLt_str _ _)
  | .tup xs, q, h => by cases q <;> first | (cases h; done) | (simp only [toD, ltT, dataLt_tuple]; exact ltL_toD _ _ h)
  | .lst xs, q, h => by cases q <;> first | (cases h; done) | (simp only [toD, ltT, dataLt_list]; exact ltL_toD _ _ h)
theorem ltL_toD : ∀ p q : List PV, alkL p q = true → PyProof.Rows.lexLt PyProof.Rows.itemOrd (keyToksAll (toDL p)) (keyToksAll (toDL q)) = ltTL p q
  | [], [], h => by simp [toDL, ltTL]; rfl
  | [], _ :: _, h => by simp [toDL, ltTL]; rfl
  | _ :: _, [], h => by simp [toDL, ltTL]; rfl
  | x :: xs, y :: ys, h => by
    simp only [alkL, Bool.and_eq_true] at h
    simp only [toDL, ltTL]
    rw [dataLt_cons (by rw [alk_toD]; exact h.1), eqv_toD, ltL_toD xs ys h.2, lt_toD x y h.1]
end
end Bw
end

section
set_option autoImplicit false
set_option linter.all false
/-! Bw G: comparisons, built-in functions, items and slices. -/
namespace Bw
open PySem L2 PySem.SeqAt
section
variable {X : Cx} {F : Fr} {pins : List (Addr × Obj)} {σ : L2.St} {H R : Hp} {s : Shared} {x : V}
def copOf : COp → CmpOp
  | .eq => .Eq | .ne => .NotEq | .lt => .Lt | .le => .LtE | .gt => .Gt | .ge => .GtE | .isin => .In | .notin => .NotIn | .is => .Is | .isnot => .IsNot
def rC (F : Fr) (op : COp) : R2 := rB F .e fun s t => (cmpop op s t).bind fun c => .ok (.d (.bl c))
theorem fin_b {Q : VK} {b : Bool} {σ' : L2.St} (I : Inv X pins σ H s) (hs : Sub R H) (h : Post F .e R σ' H (.ok (.d (.bl b))) Q) : EP X pins σ Q (.bool b) s := ⟨.bl b, H, I, rfl, Post.now hs h rfl⟩
theorem post_if {c : Bool} {r : SV} {Q : VK} {m : Md} {σ' : L2.St} (h : Post F m R σ' H ((if c = true then Res.ok r else .bad : Res SV)) Q) : c = true ∧ Post F m R σ' H (.ok r) Q := by
  cases c with
  | true => exact ⟨rfl, h⟩
  | false => exact h.elim
theorem post_ifb {c r : Bool} {Q : VK} {m : Md} {σ' : L2.St} (h : Post F m R σ' H ((if c = true then Res.ok r else .bad : Res Bool).bind fun c => .ok (.d (.bl c))) Q) : c = true ∧ Post F m R σ' H (.ok (.d (.bl r))) Q := by
  cases c with
  | true => exact ⟨rfl, h⟩
  | false => exact h.elim
theorem any_cp {h : Heap} {ps : List PV} {us : List Value} {e : PV → Bool} {f : Value → Bool} (r : CpL h ps us) (k : ∀ p u, CpD h p u → f u = e p) : us.any f = ps.any e := by
  induction ps generalizing us with
  | nil => rw [show us = [] from r]; rfl
  | cons p ps ih =>
    obtain ⟨u, ws, e1, r1, rs⟩ := r
    rw [e1, List.any_cons, List.any_cons, k _ _ r1, ih rs]
open Classical in
/-- the tree at a value -/
noncomputable def treeAt (h : Heap) (u : Value) : PV := if q : ∃ p, CpD h p u then q.choose else .non
theorem treeAt_eq {h : Heap} {p : PV} {u : Value} (r : CpD h p u) : treeAt h u = p := by
  have q : ∃ p, CpD h p u := ⟨p, r⟩
  unfold treeAt
  rw [dif_pos q]
  exact q.choose_spec.inj r
theorem ne_run {p q : PV} {u w : Value} {A : Around} {P : Program} {wd : World} {E Q : Value → Shared → Prop} (r1 : CpD s.heap p u) (r2 : CpD s.heap q w) (hu : A.units + 60 < cLine) (hs : (sha p || sha q) = true) (h : Q (.bool (!pyEq p q)) s) :
    wpAny (model P wd) A (compareOp .NotEq u w) Q E s := by
  obtain ⟨as, ra⟩ := reads_of r1
  obtain ⟨bs, rb⟩ := reads_of r2
  refine ne_plain ra rb (plain_toD p) (plain_toD q) ?_ (by rw [eqv_toD]; exact h)
  rcases Bool.or_eq_true_iff.mp hs with k | k
  · have := (depth_toD p 60).mp k; omega
  · have := (depth_toD q 60).mp k; omega
theorem keyX_d (kvs : List (PV × PV)) (p : PV) : (kyP 8 p = true ∧ kinX kvs p = true ∧ keyX kvs (.d p) = .ok p) ∨ keyX kvs (.d p) = .bad := by
  show (kyP 8 p = true ∧ kinX kvs p = true ∧ ((if kyP 8 p = true then Res.ok p else .bad : Res PV).bind fun p => if kinX kvs p then .ok p else .bad) = .ok p) ∨ ((if kyP 8 p = true then Res.ok p else .bad : Res PV).bind fun p => if kinX kvs p then .ok p else .bad) = .bad
  by_cases c : kyP 8 p = true
  · rw [if_pos c, Res.bind_ok]
    by_cases d : kinX kvs p = true
    · rw [if_pos d]; exact .inl ⟨c, d, rfl⟩
    · rw [if_neg d]; exact .inr rfl
  · rw [if_neg c]; exact .inr rfl
theorem op_cmp (hK : F.K = X.K) (hu : X.A.units + 100 < cLine) (op : COp) : OpR X (compareOp (copOf op)) (rC F op) := by
  intro pins s σ H x y v u Q I rx ry ⟨a, b, R, σ', hs, ra, rb, h⟩
  have bad : ∀ {α : Prop}, Post F .e R σ' H .bad Q → α := fun h => h.elim
  cases a with
  | dK _ => cases op <;> cases b <;> first | exact bad h | (rename_i p; cases p <;> exact bad h)
  | dX _ _ => cases op <;> cases b <;> first | exact bad h | (rename_i p; cases p <;> exact bad h)
  | ins _ _ => exact ra.ins.elim
  | scr _ => cases op <;> cases b <;> first | exact bad h | (rename_i p; cases p <;> exact bad h)
  | d p =>
  cases b with
  | dX lk kvs =>
    obtain ⟨a, es, rfl, hH, rx', _, _⟩ := rb.dX hs
    obtain rfl : u = Value.ref a := ry
    rw [hK] at rx'
    have cp := Inv.cpT I hK hs ra rx
    cases op <;> first | exact bad h | (cases p <;> exact bad h) | skip
    case isin =>
      have h : Post F .e R σ' H (((keyX kvs (.d p)).bind fun k => Res.ok (hasX kvs k)).bind fun c => .ok (.d (.bl c))) Q := h
      rcases keyX_d kvs p with ⟨e1, e2, e3⟩ | e3
      · rw [e3] at h
        have h : Post F .e R σ' H (.ok (.d (.bl (hasX kvs p)))) Q := h
        exact dx_in hu I hs hH rx' e1 e2 cp fun s' I' => ⟨.bl _, H, I', rfl, Post.now hs h rfl⟩
      · rw [e3] at h; exact bad h
    case notin =>
      have h : Post F .e R σ' H (((keyX kvs (.d p)).bind fun k => Res.ok (!hasX kvs k)).bind fun c => .ok (.d (.bl c))) Q := h
      rcases keyX_d kvs p with ⟨e1, e2, e3⟩ | e3
      · rw [e3] at h
        have h : Post F .e R σ' H (.ok (.d (.bl (!hasX kvs p)))) Q := h
        exact dx_notin hu I hs hH rx' e1 e2 cp fun s' I' => ⟨.bl _, H, I', rfl, Post.now hs h rfl⟩
      · rw [e3] at h; exact bad h
  | dK kvs =>
    obtain ⟨a, ws, rfl, hH, rk, _⟩ := rb.dK hs
    obtain rfl : u = Value.ref a := ry
    have key : (∃ k, key? (.d p) = .ok k ∧ x = kV k) ∨ key? (.d p) = .bad := by
      cases p <;> first | exact .inr rfl | skip
      · obtain rfl := ra.int; exact .inl ⟨_, rfl, rfl⟩
      · obtain ⟨rfl, _⟩ := ra.str; exact .inl ⟨_, rfl, rfl⟩
    cases op <;> first | exact bad h | skip
    case isin =>
      have h : Post F .e R σ' H (((key? (.d p)).bind fun k => Res.ok (valK kvs k).isSome).bind fun c => .ok (.d (.bl c))) Q := h
      rcases key with ⟨k, e1, rfl⟩ | e1
      · rw [e1] at h
        have h : Post F .e R σ' H (.ok (.d (.bl (valK kvs k).isSome))) Q := h
        refine d_in (by omega) I (DGet.k hH) rx fun s' I' => ?_
        rw [rk.isSome]
        exact ⟨.bl _, H, I', rfl, Post.now hs h rfl⟩
      · rw [e1] at h; exact bad h
    case notin =>
      have h : Post F .e R σ' H (((key? (.d p)).bind fun k => Res.ok (!(valK kvs k).isSome)).bind fun c => .ok (.d (.bl c))) Q := h
      rcases key with ⟨k, e1, rfl⟩ | e1
      · rw [e1] at h
        have h : Post F .e R σ' H (.ok (.d (.bl (!(valK kvs k).isSome)))) Q := h
        refine d_notIn (by omega) I (DGet.k hH) rx fun s' I' => ?_
        rw [rk.isSome]
        exact ⟨.bl _, H, I', rfl, Post.now hs h rfl⟩
      · rw [e1] at h; exact bad h
    all_goals (cases p <;> exact bad h)
  | ins _ _ => exact rb.ins.elim
  | scr _ => cases op <;> exact bad h
  | d q =>
  have cp := Inv.cpT I hK hs ra rx
  have cq := Inv.cpT I hK hs rb ry
  have dp : (sha p || sha q) = true → shal 60 p = true ∨ shal 60 q = true := fun k => Bool.or_eq_true_iff.mp k
  cases op
  case eq =>
    obtain ⟨c, h⟩ := post_ifb (c := sha p || sha q) (r := pyEq p q) h
    exact (eq_cp 60 cp cq (by omega) (dp c)).2 _ _ _ _ (fin_b I hs h)
  case ne =>
    obtain ⟨c, h⟩ := post_ifb (c := sha p || sha q) (r := !pyEq p q) h
    exact ne_run cp cq (by omega) c (fin_b I hs h)
  case lt =>
    obtain ⟨c, h⟩ := post_ifb (c := cmpb p q && (sha p || sha q)) (r := ltT p q) h
    simp only [Bool.and_eq_true] at c
    exact (lt_cp 60 cp cq (by omega) (dp c.2) c.1).1 _ _ _ _ (fin_b I hs h)
  case gt =>
    obtain ⟨c, h⟩ := post_ifb (c := cmpb q p && (sha p || sha q)) (r := ltT q p) h
    simp only [Bool.and_eq_true] at c
    exact (lt_cp 60 cp cq (by omega) (dp c.2) (by rw [cmpb_comm]; exact c.1)).2.1 _ _ _ _ (fin_b I hs h)
  case le =>
    obtain ⟨c, h⟩ := post_ifb (c := cmpb p q && (sha p || sha q)) (r := !ltT q p) h
    simp only [Bool.and_eq_true] at c
    exact (lt_cp 60 cp cq (by omega) (dp c.2) c.1).2.2.1 _ _ _ _ (fin_b I hs h)
  case ge =>
    obtain ⟨c, h⟩ := post_ifb (c := cmpb p q && (sha p || sha q)) (r := !ltT p q) h
    simp only [Bool.and_eq_true] at c
    exact (lt_cp 60 cp cq (by omega) (dp c.2) c.1).2.2.2 _ _ _ _ (fin_b I hs h)
  case isin =>
    cases q <;> first | exact bad h | skip
    · rename_i ys
      obtain ⟨c, h⟩ := post_ifb (c := sha p) (r := ys.any fun y => pyEq y p) h
      obtain ⟨l, us, rfl, hl, rs⟩ := cq
      refine in_tupleAt (fun w => pyEq (treeAt s.heap w) p) hl (fun w hm => ?_) ?_
      · obtain ⟨t, _, ht⟩ := rs.mem (show w ∈ us by simpa using hm)
        rw [treeAt_eq ht]
        exact (eq_cp 60 (A := X.A.in1) ht cp (by show X.A.units + 1 + 60 < _; omega) (.inr c)).1
      · have e : (us.toArray.any fun w => pyEq (treeAt s.heap w) p) = ys.any fun y => pyEq y p := by
          rw [List.any_toArray]
          exact any_cp rs fun t w ht => by rw [treeAt_eq ht]
        rw [e]
        exact fin_b I hs h
    · rename_i ys
      obtain ⟨c, h⟩ := post_ifb (c := sha p) (r := ys.any fun y => pyEq y p) h
      obtain ⟨l, us, rfl, hl, rs⟩ := cq
      refine in_listAt (fun w => pyEq (treeAt s.heap w) p) hl (fun w hm => ?_) ?_
      · obtain ⟨t, _, ht⟩ := rs.mem (show w ∈ us by simpa using hm)
        rw [treeAt_eq ht]
        exact (eq_cp 60 (A := X.A.in1) ht cp (by show X.A.units + 1 + 60 < _; omega) (.inr c)).1
      · have e : (us.toArray.any fun w => pyEq (treeAt s.heap w) p) = ys.any fun y => pyEq y p := by
          rw [List.any_toArray]
          exact any_cp rs fun t w ht => by rw [treeAt_eq ht]
        rw [e]
        exact fin_b I hs h
  case notin =>
    cases q <;> first | exact bad h | skip
    · rename_i ys
      obtain ⟨c, h⟩ := post_ifb (c := sha p) (r := !ys.any fun y => pyEq y p) h
      obtain ⟨l, us, rfl, hl, rs⟩ := cq
      refine notIn_tupleAt (fun w => pyEq (treeAt s.heap w) p) hl (fun w hm => ?_) ?_
      · obtain ⟨t, _, ht⟩ := rs.mem (show w ∈ us by simpa using hm)
        rw [treeAt_eq ht]
        exact (eq_cp 60 (A := X.A.in1) ht cp (by show X.A.units + 1 + 60 < _; omega) (.inr c)).1
      · have e : (us.toArray.any fun w => pyEq (treeAt s.heap w) p) = ys.any fun y => pyEq y p := by
          rw [List.any_toArray]
          exact any_cp rs fun t w ht => by rw [treeAt_eq ht]
        rw [e]
        exact fin_b I hs h
    · rename_i ys
      obtain ⟨c, h⟩ := post_ifb (c := sha p) (r := !ys.any fun y => pyEq y p) h
      obtain ⟨l, us, rfl, hl, rs⟩ := cq
      refine notIn_listAt (fun w => pyEq (treeAt s.heap w) p) hl (fun w hm => ?_) ?_
      · obtain ⟨t, _, ht⟩ := rs.mem (show w ∈ us by simpa using hm)
        rw [treeAt_eq ht]
        exact (eq_cp 60 (A := X.A.in1) ht cp (by show X.A.units + 1 + 60 < _; omega) (.inr c)).1
      · have e : (us.toArray.any fun w => pyEq (treeAt s.heap w) p) = ys.any fun y => pyEq y p := by
          rw [List.any_toArray]
          exact any_cp rs fun t w ht => by rw [treeAt_eq ht]
        rw [e]
        exact fin_b I hs h
  case is =>
    cases q with
    | non =>
      obtain rfl := rb.non
      refine op_isN pins s σ H _ _ v u Q I rx ry ⟨rfl, ?_⟩
      have e : decide (x = .non) = isNon p := by
        cases p with
        | non => rw [ra.non]; rfl
        | bl b => rw [ra.bl]; rfl
        | int b => rw [ra.int]; rfl
        | str b => rw [ra.str.1]; rfl
        | tup b => obtain ⟨_, _, e, _⟩ := ra.tup; rw [e]; rfl
        | lst b => obtain ⟨_, _, e, _⟩ := ra.lst hs; rw [e]; rfl
      rw [e]
      exact Post.now hs h rfl
    | bl b =>
      cases p <;> first | exact bad h | skip
      obtain rfl := ra.bl; obtain rfl := rb.bl
      refine op_is_bl pins s σ H _ _ v u Q I rx ry ⟨_, _, rfl, rfl, ?_⟩
      refine Post.now hs h ?_
      show V.bl _ = V.bl _
      rw [Bool.beq_eq_decide_eq]
    | int _ => cases p <;> exact bad h
    | str _ => cases p <;> exact bad h
    | tup _ => cases p <;> exact bad h
    | lst _ => cases p <;> exact bad h
  case isnot =>
    cases q with
    | non =>
      obtain rfl := rb.non
      refine op_notN pins s σ H _ _ v u Q I rx ry ⟨rfl, ?_⟩
      have e : decide (x = .non) = isNon p := by
        cases p with
        | non => rw [ra.non]; rfl
        | bl b => rw [ra.bl]; rfl
        | int b => rw [ra.int]; rfl
        | str b => rw [ra.str.1]; rfl
        | tup b => obtain ⟨_, _, e, _⟩ := ra.tup; rw [e]; rfl
        | lst b => obtain ⟨_, _, e, _⟩ := ra.lst hs; rw [e]; rfl
      rw [e]
      exact Post.now hs h rfl
    | bl b =>
      cases p <;> first | exact bad h | skip
      obtain rfl := ra.bl; obtain rfl := rb.bl
      refine op_isnot_bl pins s σ H _ _ v u Q I rx ry ⟨_, _, rfl, rfl, ?_⟩
      refine Post.now hs h ?_
      show V.bl _ = V.bl _
      rw [Bool.beq_eq_decide_eq]
    | int _ => cases p <;> exact bad h
    | str _ => cases p <;> exact bad h
    | tup _ => cases p <;> exact bad h
    | lst _ => cases p <;> exact bad h
end
end Bw
end

section
set_option autoImplicit false
set_option linter.all false
/-! Bw H: built-in functions of one argument. -/
namespace Bw
open PySem L2 PySem.SeqAt PySem.W PyProof.Rows
section
variable {X : Cx} {F : Fr} {pins : List (Addr × Obj)} {σ : L2.St} {H R : Hp} {s : Shared} {x : V}
/-- one operand that may be read, and what is wanted of g of it -/
def rF (F : Fr) (g : SV → Res SV) : List V → Hp → VK → Prop := fun xs H Q => ∃ x s R σ, xs = [x] ∧ Sub R H ∧ Rm F R H .t s x ∧ Post F .e R σ H (g s) Q
/-- a row that is read: list or tuple -/
theorem Rm.seq {s : SV} {ps : List PV} (hs : Sub R H) (r : Rm F R H .t s x) (e : seq? s = .ok ps) : ∃ a vs, x = .ref a ∧ (SqL F.K H a vs ∨ SqT F.K H a vs) ∧ RpL F.K R ps vs ∧ ps.length ≤ line := by
  cases s with
  | dK _ => cases e
  | dX _ _ => cases e
  | ins _ _ => exact r.ins.elim
  | scr _ => cases e
  | d p =>
    cases p <;> first | (cases e; done) | skip
    · cases e
      obtain ⟨a, vs, e1, h, q, z⟩ := r.tup
      exact ⟨a, vs, e1, .inr (hs.seqT h), q, z⟩
    · cases e
      obtain ⟨a, vs, e1, h, q, z⟩ := r.lst hs
      exact ⟨a, vs, e1, .inl (.of h), q, z⟩
theorem seqR {s : SV} : (∃ ps, seq? s = .ok ps) ∨ seq? s = .bad := by
  cases s with
  | d p => cases p <;> first | exact .inr rfl | exact .inl ⟨_, rfl⟩
  | _ => exact .inr rfl
theorem alk_dest {ps : List PV} (h : allAlk ps = true) : (∀ p ∈ ps, ∀ q ∈ ps, alk p q = true) ∧ (∀ p ∈ ps, isNon p = false ∧ sha p = true) := by
  unfold allAlk at h
  simp only [Bool.and_eq_true, List.all_eq_true, Bool.not_eq_true'] at h
  exact ⟨h.1, h.2⟩
theorem alkAll {ps : List PV} (h : allAlk ps = true) : AllAlike (ps.map toD) := fun d hd d' hd' => by
  obtain ⟨p, hp, rfl⟩ := List.mem_map.mp hd
  obtain ⟨q, hq, rfl⟩ := List.mem_map.mp hd'
  rw [alk_toD]; exact (alk_dest h).1 p hp q hq
theorem noNone {p : PV} (h : isNon p = false) : toD p ≠ .none := by cases p <;> first | (cases h; done) | (intro e; cases e)
theorem sortable_to {ps : List PV} (h : sortable ps = true) : allAlk ps = true ∧ (Sortable (ps.map toD) ∨ ps.length ≤ 1) := by
  unfold sortable at h
  simp only [Bool.and_eq_true, Bool.or_eq_true, List.all_eq_true, Bool.not_eq_true', decide_eq_true_eq] at h
  refine ⟨h.1, ?_⟩
  rcases h.2 with (k | k) | k
  · refine .inl (.inl fun d hd => ?_)
    obtain ⟨p, hp, rfl⟩ := List.mem_map.mp hd
    have := k p hp
    cases p with
    | tup xs =>
      cases xs with
      | nil => cases this
      | cons y ys => exact ⟨_, _, rfl⟩
    | _ => cases this
  · refine .inl (.inr fun d hd => ?_)
    obtain ⟨p, hp, rfl⟩ := List.mem_map.mp hd
    refine ⟨noNone ((alk_dest h.1).2 p hp).1, fun xs e => ?_⟩
    have := k p hp
    cases p with
    | tup _ => cases this
    | _ => cases e
  · exact .inr k
theorem sortP_eq {ps : List PV} (h : allAlk ps = true) : ps.mergeSort (dataLe false toD) = sortP ps := by
  unfold sortP
  refine sort_congr fun a ha b hb => ?_
  show (!dataLt (toD b) (toD a)) = _
  rw [lt_toD b a ((alk_dest h).1 b hb a ha)]
theorem each_of {h : Heap} {ps : List PV} {xs : List V} {us : List Value} {K : Fr'} {R : Hp} (rp : RpL K R ps xs) (rv : Vals xs us) (rc : CpL h ps us) :
    EachIs (fun u p => ∃ x, RelV x u ∧ RpD K R p x) us ps ∧ EachIs (fun u p => ∃ as, Reads h u (toD p) as) us ps := by
  induction ps generalizing xs us with
  | nil =>
    obtain rfl : us = [] := rc
    exact ⟨.nil, .nil⟩
  | cons p ps ih =>
    obtain ⟨x, ws, rfl, r1, rs⟩ := rp
    obtain ⟨u, us', rfl, c1, cs⟩ := rc
    cases rv with
    | cons v1 vs1 =>
      obtain ⟨e1, e2⟩ := ih rs vs1 cs
      exact ⟨.cons ⟨x, v1, r1⟩ e1, .cons (reads_of c1) e2⟩
theorem each_back {K : Fr'} {R : Hp} : ∀ {ps : List PV} {us : List Value}, EachIs (fun u p => ∃ x, RelV x u ∧ RpD K R p x) us ps → ∃ xs, Vals xs us ∧ RpL K R ps xs
  | [], [], _ => ⟨[], .nil, rfl⟩
  | p :: ps, u :: us, h => by
    cases h with
    | cons a b =>
      obtain ⟨x, v, r⟩ := a
      obtain ⟨xs, vs, rs⟩ := each_back b
      exact ⟨x :: xs, .cons v vs, x, xs, rfl, r, rs⟩
theorem sort_len (ps : List PV) : (sortP ps).length = ps.length := List.length_mergeSort _
end
end Bw
end

section
set_option autoImplicit false
set_option linter.all false
/-! Bw I: sorted, min, max of rows. -/
namespace Bw
open PySem L2 PySem.SeqAt PySem.W PyProof.Rows
section
variable {prog : Program} {w : World} {A : Around} {E : Value → Shared → Prop} {s : Shared}
/-- the items of a tuple, in a new list -/
theorem gather_tup {t : Addr} {vs : List Value} {Q : List Value → Shared → Prop} (ht : s.heap.IsTuple t vs.toArray) (hz : vs.length ≤ sizeLine)
    (hq : Q vs { s with heap := (s.heap.push (seqObj "list" #[] 0)).update s.heap.objs.size (Obj.mapSeq (· ++ vs.toArray)) }) : wpAny (model prog w) A (collect (.ref t)) Q E s := by
  obtain ⟨ob, hob, hcl, k, hda⟩ := id ht
  have hob2 : (s.heap.push (seqObj "list" #[] 0)).get? t = some ob := Heap.get?_push_of_some _ hob
  have hnew : (s.heap.push (seqObj "list" #[] 0)).get? s.heap.objs.size = some (seqObj "list" #[] 0) := Heap.get?_push_size _ rfl
  have same : (#[] ++ vs.toArray : Array Value).toList = vs := by simp
  unfold collect
  refine wpAny_bind (wpAny_runValue (codeAny_builtin entry_proto_collect' (?_ : wpAny _ _ (do again (.builtin "list.__iadd__" ⟨[← newList [], .ref t], []⟩)) _ _ s)))
  refine wpAny_bind (wpAny_newList (wpAny_pure ⟨Code.quiet_builtin _ (by decide +kernel), codeAny_builtin entry_list_iadd' (?_ : wpAny _ _ (Builtin.List.listExtendWith (.ref s.heap.objs.size) (.ref t) (.ref s.heap.objs.size)) _ _ { s with heap := s.heap.push (seqObj "list" #[] 0) })⟩))
  unfold Builtin.List.listExtendWith
  refine wpAny_bind (wpAny_typeOf (T := "tuple") ⟨ob, hob2, hcl⟩ ?_)
  have h2 : (Value.type "tuple" == Value.type "tuple") = true := rfl
  rw [if_pos (by rw [h2, Bool.or_true])]
  refine wpAny_bind (listItems_at hob2 hda (wpAny_bind (listItems_at (xs := #[]) (n := 0) hnew rfl ?_)))
  rw [if_neg (by simp)]
  refine wpAny_bind (listUpdate_at (xs := #[]) (n := 0) hnew rfl (wpAny_pure ?_) (Nat.zero_le _) (by show (#[] ++ vs.toArray).size ≤ sizeLine + 1; rw [Array.size_append]; simp; omega))
  show wpAny (model prog w) A (do
      let got ← load s.heap.objs.size
      match got.data with
      | .seq xs _ => pure xs.toList
      | _ => unsupported "internal:collect") Q E { s with heap := (s.heap.push (seqObj "list" #[] 0)).update s.heap.objs.size (Obj.mapSeq (· ++ vs.toArray)) }
  refine wpAny_bind (wpAny_load (get?_update_seq hnew _) (?_ : wpAny _ _ (pure ((#[] : Array Value) ++ vs.toArray).toList) Q E _))
  rw [same]
  exact wpAny_pure hq
set_option maxHeartbeats 4000000 in
/-- sorted of a list or a tuple -/
theorem sorted_row {l : Addr} {vs : List Value} {ps : List PV} {R : Value → PV → Prop} {Q : Value → Shared → Prop} (hl : s.heap.IsList l vs.toArray ∨ s.heap.IsTuple l vs.toArray) (e : EachIs R vs ps)
    (er : EachIs (fun v p => ∃ as, Reads s.heap v (toD p) as) vs ps) (hs : sortable ps = true) (hz : ps.length ≤ sizeLine) (hu : A.units + 70 < cLine)
    (hq : ∀ out : List Value, EachIs R out (sortP ps) → Q (.ref (s.heap.objs.size + 1)) { s with heap := sortedAll s.heap vs (List.toArray out) }) :
    wpAny (model prog w) A (call (.builtin "sorted") [.ref l]) Q E s := by
  obtain ⟨ha, hk⟩ := sortable_to hs
  have hal := alkAll ha
  have hd : ∀ p, p ∈ ps → A.units + 2 + (toD p).depth < cLine := fun p hp => by
    have := (depth_toD p 60).mp ((alk_dest ha).2 p hp).2
    omega
  have hlen := e.length
  have fin : ∀ out : List Value, out.length = ps.length → EachIs R out (ps.mergeSort (dataLe false toD)) → Q (.ref (s.heap.objs.size + 1)) { s with heap := sortedAll s.heap vs (List.toArray out) } := fun out _ eo => hq out (by rw [← sortP_eq ha]; exact eo)
  have hvz : vs.length ≤ sizeLine := by rw [hlen]; exact hz
  have one : ps.length ≤ 1 → ∀ out : List Value, out.Perm vs → Q (.ref (s.heap.objs.size + 1)) { s with heap := sortedAll s.heap vs (List.toArray out) } := fun h1 out hp => by
    have eo : out = vs := by
      match vs, hlen, hp with
      | [], _, hp => exact hp.eq_nil
      | [x], _, hp => exact List.perm_singleton.mp hp
      | _ :: _ :: _, hlen, _ => simp at hlen; omega
    have ep : sortP ps = ps := by
      match ps, h1 with
      | [], _ => simp [sortP]
      | [x], _ => simp [sortP]
    exact hq out (by rw [eo, ep]; exact e)
  rcases hl with hl | hl
  · rcases hk with hk | h1
    · exact sorted_data hl e er hal hk hz hd fin
    · exact sorted_of_sort hl hvz (args_sorted1 _) (fun _ => args_list_sort _) fun _ => Srt.list_sort_any (s := { s with heap := copyHeap s.heap vs }) (copyHeap_at s.heap vs) hvz (fun h2 => by omega) fun out hp => ⟨rfl, one h1 out hp⟩
  · refine Calls.call_function_entry kind_sorted plain_sorted entry_sorted (args_sorted1 _) ?_
    have sz : ((s.heap.push (seqObj "list" #[] 0)).update s.heap.objs.size (Obj.mapSeq (· ++ vs.toArray))).objs.size = s.heap.objs.size + 1 := by rw [Heap.size_update, size_push']
    unfold Builtin.«sorted»
    refine wpAny_bind (m := checkCount "sorted" 1 1 _) (wpAny_pure (wpAny_bind (gather_tup hl hvz (wpAny_bind (wpAny_newList ?_ hvz)))))
    show wpAny _ _ _ _ _ { s with heap := copyHeap s.heap vs }
    rw [sz]
    have er' : EachIs (fun v p => ∃ as, Reads (sortingHeap (copyHeap s.heap vs) (s.heap.objs.size + 1) vs) v (toD p) as) vs ps := er.mono fun _ _ ⟨as, r⟩ => ⟨as, PyProof.Rows.Reads.keeps (fun _ _ => sorting_copy_old) r⟩
    rcases hk with hk | h1
    case inr =>
      refine wpAny_bind (wpAny_holding (wpAny_call_entry slot_list_sort ⟨_, copyHeap_at s.heap vs, rfl⟩ entry_list_sort (Srt.list_sort_any (s := { s with heap := copyHeap s.heap vs }) (copyHeap_at s.heap vs) hvz (fun h2 => by omega) fun out hp => ?_) (args_list_sort _)))
      exact ⟨_, rfl, wpAny_pure ⟨_, rfl, one h1 out hp⟩⟩
    have S := SortsAt.data (prog := prog) (w := w) (A := A.in1.in1) (s := { s with heap := sortingHeap (copyHeap s.heap vs) (s.heap.objs.size + 1) vs }) (each_map (R := fun v d => ∃ as, Reads (sortingHeap (copyHeap s.heap vs) (s.heap.objs.size + 1) vs) v d as) toD er') hal hk (bound_map (A := A.in1.in1) hd)
    refine wpAny_bind (wpAny_holding (wpAny_call_entry slot_list_sort ⟨_, copyHeap_at s.heap vs, rfl⟩ entry_list_sort (list_sort_vals (s := { s with heap := copyHeap s.heap vs }) (copyHeap_at s.heap vs) S hvz ?_) (args_list_sort _)))
    refine ⟨_, rfl, wpAny_pure ⟨_, rfl, ?_⟩⟩
    exact fin _ (by rw [sortVals_length false rfl]; exact hlen) (sortVals_data false e er' hal)
end
end Bw
end

section
set_option autoImplicit false
set_option linter.all false
/-! Bw J: the built-in functions of one argument by trees. -/
namespace Bw
open PySem L2 PySem.SeqAt PySem.W PyProof.Rows
mutual
theorem toD_inj : ∀ {p q : PV}, toD p = toD q → p = q
  | .non, q, h => by cases q <;> first | rfl | cases h
  | .bl _, q, h => by cases q <;> first | (cases h; rfl) | cases h
  | .int _, q, h => by cases q <;> first | (cases h; rfl) | cases h
  | .str _, q, h => by cases q <;> first | (cases h; rfl) | cases h
  | .tup xs, q, h => by
    cases q with
    | tup ys =>
      simp only [toD, PyData.tuple.injEq] at h
      rw [toDL_inj h]
    | _ => cases h
  | .lst xs, q, h => by
    cases q with
    | lst ys =>
      simp only [toD, PyData.list.injEq] at h
      rw [toDL_inj h]
    | _ => cases h
theorem toDL_inj : ∀ {p q : List PV}, toDL p = toDL q → p = q
  | [], [], _ => rfl
  | [], _ :: _, h => by cases h
  | _ :: _, [], h => by cases h
  | x :: xs, y :: ys, h => by
    simp only [toDL, List.cons.injEq] at h
    rw [toD_inj h.1, toDL_inj h.2]
end
theorem foldl_mem {f : PV → PV → PV} (hf : ∀ a y, f a y = a ∨ f a y = y) : ∀ (ps : List PV) (p : PV), ps.foldl f p ∈ p :: ps
  | [], p => List.mem_cons_self
  | q :: ps, p => by
    have ih := foldl_mem hf ps (f p q)
    rw [List.foldl_cons]
    rcases List.mem_cons.mp ih with e | e
    · rw [e]
      rcases hf p q with e | e <;> rw [e] <;> simp
    · exact List.mem_cons_of_mem _ (List.mem_cons_of_mem _ e)
theorem minP_mem (p : PV) (ps : List PV) : minP p ps ∈ p :: ps := foldl_mem (fun a y => by split <;> simp) ps p
theorem maxP_mem (p : PV) (ps : List PV) : maxP p ps ∈ p :: ps := foldl_mem (fun a y => by split <;> simp) ps p
theorem minD_toD : ∀ (ps : List PV) (p : PV), (∀ a ∈ p :: ps, ∀ b ∈ p :: ps, alk a b = true) → minD (toD p) (ps.map toD) = toD (minP p ps)
  | [], p, _ => rfl
  | q :: ps, p, h => by
    show minD (if dataLt (toD q) (toD p) then toD q else toD p) (ps.map toD) = toD (minP (if ltT q p then q else p) ps)
    rw [lt_toD q p (h q (by simp) p (by simp))]
    by_cases c : ltT q p = true
    · rw [if_pos c, if_pos c]
      exact minD_toD ps q fun a ha b hb => h a (List.mem_cons_of_mem _ ha) b (List.mem_cons_of_mem _ hb)
    · rw [if_neg c, if_neg c]
      exact minD_toD ps p fun a ha b hb => h a (by rcases List.mem_cons.mp ha with rfl | ha <;> simp [*]) b (by rcases List.mem_cons.mp hb with rfl | hb <;> simp [*])
theorem maxD_toD : ∀ (ps : List PV) (p : PV), (∀ a ∈ p :: ps, ∀ b ∈ p :: ps, alk a b = true) → maxD (toD p) (ps.map toD) = toD (maxP p ps)
  | [], p, _ => rfl
  | q :: ps, p, h => by
    show maxD (if dataLt (toD p) (toD q) then toD q else toD p) (ps.map toD) = toD (maxP (if ltT p q then q else p) ps)
    rw [lt_toD p q (h p (by simp) q (by simp))]
    by_cases c : ltT p q = true
    · rw [if_pos c, if_pos c]
      exact maxD_toD ps q fun a ha b hb => h a (List.mem_cons_of_mem _ ha) b (List.mem_cons_of_mem _ hb)
    · rw [if_neg c, if_neg c]
      exact maxD_toD ps p fun a ha b hb => h a (by rcases List.mem_cons.mp ha with rfl | ha <;> simp [*]) b (by rcases List.mem_cons.mp hb with rfl | hb <;> simp [*])
theorem depthAll_le {n : Nat} : ∀ {ps : List PV}, (∀ p ∈ ps, (toD p).depth ≤ n) → PyData.depthAll (ps.map toD) ≤ n
  | [], _ => Nat.zero_le _
  | p :: ps, h => by
    rw [List.map_cons, PyData.depthAll]
    have h1 := h p List.mem_cons_self
    have h2 := depthAll_le (ps := ps) fun q hq => h q (List.mem_cons_of_mem _ hq)
    omega
section
variable {X : Cx} {F : Fr} {pins : List (Addr × Obj)} {σ : L2.St} {H R : Hp} {s : Shared} {x : V}
theorem RpL.mem {K : Fr'} {R : Hp} {ps : List PV} {vs : List V} {i : Nat} {v : V} (r : RpL K R ps vs) (e : vs[i]? = some v) : ∃ p, ps[i]? = some p ∧ RpD K R p v := r.get e
/-- min, max of a row: f the fold by trees, fd the library's -/
theorem best_row {nm : String} {fP : PV → List PV → PV} {fD : PyData → List PyData → PyData} (hfd : ∀ (ps : List PV) (p : PV), (∀ a ∈ p :: ps, ∀ b ∈ p :: ps, alk a b = true) → fD (toD p) (ps.map toD) = toD (fP p ps))
    (hm : ∀ p ps, fP p ps ∈ p :: ps)
    (rl : ∀ {l : Addr} {vs : Array Value} {x : PyData} {xs : List PyData} {as : List Addr} {Q : Value → Shared → Prop}, s.heap.IsList l vs → ReadsAll s.heap vs.toList (x :: xs) as → AlikeAll (x :: xs) → X.A.units + 1 + PyData.depthAll (x :: xs) < cLine →
      (∀ (i : Nat) v h' tk bs, vs[i]? = some v → Reads h' v (fD x xs) bs → (∀ b o, s.heap.get? b = some o → h'.get? b = some o) → Q v { s with heap := h', toks := tk }) → wpAny (model X.prog X.w) X.A (call (.builtin nm) [.ref l]) Q X.xe s)
    (rt : ∀ {l : Addr} {vs : Array Value} {x : PyData} {xs : List PyData} {as : List Addr} {Q : Value → Shared → Prop}, s.heap.IsTuple l vs → ReadsAll s.heap vs.toList (x :: xs) as → AlikeAll (x :: xs) → X.A.units + 1 + PyData.depthAll (x :: xs) < cLine →
      (∀ (i : Nat) v h' tk bs, vs[i]? = some v → Reads h' v (fD x xs) bs → (∀ b o, s.heap.get? b = some o → h'.get? b = some o) → Q v { s with heap := h', toks := tk }) → wpAny (model X.prog X.w) X.A (call (.builtin nm) [.ref l]) Q X.xe s)
    (I : Inv X pins σ H s) (hu : X.A.units + 100 < cLine) {a : Addr} {vs : List V} {p : PV} {ps : List PV} (hs : Sub R H) (sq : SqL X.K H a vs ∨ SqT X.K H a vs) (r : RpL X.K R (p :: ps) vs) (ha : allAlk (p :: ps) = true) {Q : VK}
    (hq : ∀ v, RpD X.K R (fP p ps) v → Q v H) : wpAny (model X.prog X.w) X.A (call (.builtin nm) [.ref a]) (EP X pins σ Q) X.xe s := by
  obtain ⟨d1, d2⟩ := alk_dest ha
  have hA : AlikeAll (toD p :: ps.map toD) := by
    refine ⟨fun x hx y hy => ?_, fun x hx => ?_⟩
    · exact alkAll ha x hx y hy
    · obtain ⟨q, hq, rfl⟩ := List.mem_map.mp (show x ∈ (p :: ps).map toD from hx)
      exact noNone (d2 q hq).1
  have hd : X.A.units + 1 + PyData.depthAll (toD p :: ps.map toD) < cLine := by
    have : PyData.depthAll ((p :: ps).map toD) ≤ 60 := depthAll_le fun q hq => (depth_toD q 60).mp (d2 q hq).2
    have e : (p :: ps).map toD = toD p :: ps.map toD := rfl
    rw [e] at this
    omega
  have key : ∀ {its : List Value}, Vals vs its → CpL s.heap (p :: ps) its → ∀ (i : Nat) v h' tk bs, its.toArray[i]? = some v → Reads h' v (fD (toD p) (ps.map toD)) bs → (∀ b o, s.heap.get? b = some o → h'.get? b = some o) → EP X pins σ Q v { s with heap := h', toks := tk } := fun {its} rv rc i v h' tk bs hv hr hk => by
    have hv : its[i]? = some v := by simpa using hv
    obtain ⟨y, hy, ry⟩ : ∃ y, vs[i]? = some y ∧ RelV y v := by
      cases e : vs[i]? with
      | none => have := rv.none_of e; rw [hv] at this; cases this
      | some y =>
        obtain ⟨u, h1, h2⟩ := rv.get e
        rw [hv] at h1; cases h1
        exact ⟨y, rfl, h2⟩
    obtain ⟨q, hq1, hq2⟩ := r.get hy
    have hi : i < its.length := (List.getElem?_eq_some_iff.mp hv).1
    have hi2 : i < (p :: ps).length := (List.getElem?_eq_some_iff.mp hq1).1
    have cq := rc.at hi2 hi
    have e1 : (p :: ps)[i] = q := (List.getElem?_eq_some_iff.mp hq1).2
    have e2 : its[i] = v := (List.getElem?_eq_some_iff.mp hv).2
    rw [e1, e2] at cq
    obtain ⟨as, rq⟩ := reads_of cq
    have rq' := PyProof.Rows.Reads.keeps hk rq
    rw [hfd ps p d1] at hr
    have e3 := alike_unique _ _ _ _ _ (by rw [alk_toD]; exact d1 q (List.mem_of_getElem? hq1) _ (hm p ps)) rq' hr
    have e4 := toD_inj e3
    subst e4
    exact ⟨y, H, I.kept (t' := tk) hk, ry, hq _ hq2⟩
  rcases sq with sq | sq
  · obtain ⟨its, rv, hl, hz⟩ := I.list sq
    have rc := cpl_of I hs r rv
    obtain ⟨as, ra⟩ := readsL_of rc
    exact rl (vs := its.toArray) hl.isList (by rw [toDL_map] at ra; simpa using ra) hA hd (key rv rc)
  · obtain ⟨its, rv, hl, hz⟩ := I.tuple sq
    have rc := cpl_of I hs r rv
    obtain ⟨as, ra⟩ := readsL_of rc
    exact rt (vs := its.toArray) hl (by rw [toDL_map] at ra; simpa using ra) hA hd (key rv rc)
end
end Bw
end

section
set_option autoImplicit false
set_option linter.all false
/-! Bw KX: the keys of a dict, in a list, in order. -/
namespace Bw
open PySem L2 PySem.SeqAt PySem.W PyProof.Rows
section
variable {prog : Program} {w : World} {A : Around} {E : Value → Shared → Prop} {s : Shared}
set_option maxHeartbeats 4000000 in
/-- sorted of what a dict or the like gives -/
theorem sorted_src {T : String} {r d : Addr} {n : Nat} {P : Nat → Value → Prop} {OK : Heap → Prop} {ps : List PV} {R : Value → PV → Prop} {Q : Value → Shared → Prop} (K : KdlSrc prog w T r d n P OK) (hh : A.handled = none) (hok : OK s.heap) (hn : n ≤ sizeLine)
    (e : ∀ vs : List Value, vs.length = n → (∀ j v, vs[j]? = some v → P j v) → EachIs R vs ps ∧ EachIs (fun v p => ∃ as, Reads s.heap v (toD p) as) vs ps) (hs : sortable ps = true) (hz : ps.length ≤ sizeLine) (hu : A.units + 70 < cLine)
    (hq : ∀ (h1 h' : Heap) (t' : Nat) (c : Nat) (out : List Value), (∀ b o, s.heap.get? b = some o → h1.get? b = some o) → (∀ b o, h1.get? b = some o → h'.get? b = some o) → h'.get? h1.objs.size = some (seqObj "list" out.toArray c) → EachIs R out (sortP ps) → Q (.ref h1.objs.size) { s with heap := h', toks := t' }) :
    wpAny (model prog w) A (call (.builtin "sorted") [.ref r]) Q E s := by
  obtain ⟨ha, hk⟩ := sortable_to hs
  have hal := alkAll ha
  have hd : ∀ p, p ∈ ps → A.units + 2 + (toD p).depth < cLine := fun p hp => by
    have := (depth_toD p 60).mp ((alk_dest ha).2 p hp).2
    omega
  refine Calls.call_function_entry kind_sorted plain_sorted entry_sorted (args_sorted1 _) ?_
  unfold Builtin.«sorted»
  refine wpAny_bind (m := checkCount "sorted" 1 1 _) (wpAny_pure (wpAny_bind (kdu_collect (A := A.in1) K hh hok hn fun h1 tk acc keep items => ?_)))
  obtain ⟨vs, ev⟩ : ∃ vs, vs = acc.toList := ⟨_, rfl⟩
  rw [← ev]
  have lv : vs.length = n := by rw [ev, Array.length_toList]; exact items.1
  obtain ⟨er, ed⟩ := e vs lv fun j v q => items.2 j v (by rw [← Array.getElem?_toList, ← ev]; exact q)
  have hlen := er.length
  have hvz : vs.length ≤ sizeLine := by rw [hlen]; exact hz
  refine wpAny_bind (wpAny_newList ?_ hvz)
  have ho : (h1.push (seqObj "list" vs.toArray 0)).get? h1.objs.size = some (seqObj "list" vs.toArray 0) := Heap.get?_push_size _ rfl
  have old1 : ∀ b o, h1.get? b = some o → (h1.push (seqObj "list" vs.toArray 0)).get? b = some o ∧ b ≠ h1.objs.size := fun b o q1 => ⟨Heap.get?_push_of_some _ q1, Nat.ne_of_lt (Heap.lt_size q1)⟩
  have old : ∀ b o, s.heap.get? b = some o → (h1.push (seqObj "list" vs.toArray 0)).get? b = some o ∧ b ≠ h1.objs.size := fun b o q => old1 b o (keep b o q)
  have gone : ∀ (out : List Value), EachIs R out (sortP ps) → Q (.ref h1.objs.size) { s with heap := sortedHeap (h1.push (seqObj "list" vs.toArray 0)) h1.objs.size vs out.toArray, toks := tk } := fun out eo => by
    obtain ⟨c, hc⟩ := sortedHeap_at (vs := vs) (out := out.toArray) ho
    refine hq h1 _ tk c out keep (fun b o q => ?_) hc eo
    obtain ⟨q1, q2⟩ := old1 b o q
    rw [sortedHeap_old q2 (Heap.lt_size q1)]; exact q1
  show wpAny _ _ _ _ _ { s with heap := h1.push (seqObj "list" vs.toArray 0), toks := tk }
  rcases hk with hk | h1'
  case inr =>
    refine wpAny_bind (wpAny_holding (wpAny_call_entry slot_list_sort ⟨_, ho, rfl⟩ entry_list_sort (Srt.list_sort_any (s := { s with heap := h1.push (seqObj "list" vs.toArray 0), toks := tk }) ho hvz (fun h2 => by omega) fun out hp => ?_) (args_list_sort _)))
    refine ⟨_, rfl, wpAny_pure ⟨_, rfl, gone out ?_⟩⟩
    have eo : out = vs := by
      match vs, hlen, hp with
      | [], _, hp => exact hp.eq_nil
      | [x], _, hp => exact List.perm_singleton.mp hp
      | _ :: _ :: _, hlen, _ => simp at hlen; omega
    have ep : sortP ps = ps := by
      match ps, h1' with
      | [], _ => simp [sortP]
      | [x], _ => simp [sortP]
    rw [eo, ep]; exact er
  have ed' : EachIs (fun v p => ∃ as, Reads (sortingHeap (h1.push (seqObj "list" vs.toArray 0)) h1.objs.size vs) v (toD p) as) vs ps := ed.mono fun _ _ ⟨as, r⟩ => ⟨as, PyProof.Rows.Reads.keeps (fun b o q => sortingHeap_old (old b o q).2 (old b o q).1) r⟩
  have S := SortsAt.data (prog := prog) (w := w) (A := A.in1.in1) (s := { s with heap := sortingHeap (h1.push (seqObj "list" vs.toArray 0)) h1.objs.size vs, toks := tk }) (each_map (R := fun v d => ∃ as, Reads (sortingHeap (h1.push (seqObj "list" vs.toArray 0)) h1.objs.size vs) v d as) toD ed') hal hk (bound_map (A := A.in1.in1) hd)
  refine wpAny_bind (wpAny_holding (wpAny_call_entry slot_list_sort ⟨_, ho, rfl⟩ entry_list_sort (list_sort_vals (s := { s with heap := h1.push (seqObj "list" vs.toArray 0), toks := tk }) ho S hvz ?_) (args_list_sort _)))
  refine ⟨_, rfl, wpAny_pure ⟨_, rfl, ?_⟩⟩
  refine gone _ ?_
  have := sortVals_data false er ed' hal
  rw [← sortP_eq ha]; exact this
end
end Bw
end

section
set_option autoImplicit false
set_option linter.all false
/-! Bw K: the calls of built-in functions, items, slices, isinstance. -/
namespace Bw
open PySem L2 PySem.SeqAt PySem.W PyProof.Rows
section
variable {X : Cx} {F : Fr} {pins : List (Addr × Obj)} {σ : L2.St} {H R : Hp} {s : Shared} {x : V}
def f1val : F1 → Value
  | .len => .builtin "len" | .abs => .builtin "abs" | .int => .type "int" | .sum => .builtin "sum" | .min => .builtin "min" | .max => .builtin "max"
  | .all => .builtin "all" | .any => .builtin "any" | .sorted => .builtin "sorted" | .tuple => .type "tuple" | .list => .type "list" | .sortedset => .none | .lenset => .none
theorem post_seq {s : SV} {g : List PV → Res SV} {Q : VK} {m : Md} {σ' : L2.St} (h : Post F m R σ' H ((seq? s).bind g) Q) : ∃ ps, seq? s = .ok ps ∧ Post F m R σ' H (g ps) Q := by
  rcases seqR (s := s) with ⟨ps, e⟩ | e
  · rw [e] at h; exact ⟨ps, e, h⟩
  · rw [e] at h; exact h.elim
theorem ints_all : ∀ {ps : List PV} {is : List Int}, ints? ps = .ok is → ps = is.map PV.int
  | [], is, h => by cases h; rfl
  | p :: ps, is, h => by
    cases p <;> first | (cases h; done) | skip
    rename_i i
    have h : (ints? ps).bind (fun is => Res.ok (i :: is)) = .ok is := h
    cases e : ints? ps with
    | ok js => rw [e] at h; cases h; rw [ints_all e]; rfl
    | exc c => rw [e] at h; cases h
    | bad => rw [e] at h; cases h
theorem bools_all : ∀ {ps : List PV} {is : List Bool}, bools? ps = .ok is → ps = is.map PV.bl
  | [], is, h => by cases h; rfl
  | p :: ps, is, h => by
    cases p <;> first | (cases h; done) | skip
    rename_i i
    have h : (bools? ps).bind (fun is => Res.ok (i :: is)) = .ok is := h
    cases e : bools? ps with
    | ok js => rw [e] at h; cases h; rw [bools_all e]; rfl
    | exc c => rw [e] at h; cases h
    | bad => rw [e] at h; cases h
theorem ints_exc (ps : List PV) : (∃ is, ints? ps = .ok is) ∨ ints? ps = .bad := by
  induction ps with
  | nil => exact .inl ⟨_, rfl⟩
  | cons p ps ih =>
    cases p <;> first | exact .inr rfl | skip
    rename_i i
    show (∃ is, (ints? ps).bind (fun is => Res.ok (i :: is)) = .ok is) ∨ (ints? ps).bind (fun is => Res.ok (i :: is)) = .bad
    rcases ih with ⟨is, e⟩ | e
    · exact .inl ⟨_, by rw [e]; rfl⟩
    · exact .inr (by rw [e]; rfl)
theorem bools_exc (ps : List PV) : (∃ is, bools? ps = .ok is) ∨ bools? ps = .bad := by
  induction ps with
  | nil => exact .inl ⟨_, rfl⟩
  | cons p ps ih =>
    cases p <;> first | exact .inr rfl | skip
    rename_i i
    show (∃ is, (bools? ps).bind (fun is => Res.ok (i :: is)) = .ok is) ∨ (bools? ps).bind (fun is => Res.ok (i :: is)) = .bad
    rcases ih with ⟨is, e⟩ | e
    · exact .inl ⟨_, by rw [e]; rfl⟩
    · exact .inr (by rw [e]; rfl)
theorem vals_int {K : Fr'} {R : Hp} : ∀ {is : List Int} {vs : List V}, RpL K R (is.map PV.int) vs → vs = is.map V.int
  | [], _, r => r
  | i :: is, _, ⟨v, ws, e, r, rs⟩ => by rw [e, show v = _ from r, vals_int rs]; rfl
theorem vals_bl {K : Fr'} {R : Hp} : ∀ {is : List Bool} {vs : List V}, RpL K R (is.map PV.bl) vs → vs = is.map V.bl
  | [], _, r => r
  | i :: is, _, ⟨v, ws, e, r, rs⟩ => by rw [e, show v = _ from r, vals_bl rs]; rfl
/-- the keys of a dict -/
theorem rk_keys {K : Fr'} {R : Hp} : ∀ {kvs : List (Ky × PV)} {ws : List (Key × V)}, RpK K R kvs ws → ws.map (·.1) = kvs.map (·.1)
  | [], _, r => by rw [show _ = [] from r]; rfl
  | _ :: _, _, ⟨v, ws, e, _, rs⟩ => by rw [e, List.map_cons, List.map_cons, rk_keys rs]
theorem kV_keys {K : Fr'} {R : Hp} {kvs : List (Ky × PV)} {ws : List (Key × V)} (r : RpK K R kvs ws) : (ws.map fun kv => kV kv.1) = kvs.map fun kv => kV kv.1 := by
  have := congrArg (List.map kV) (rk_keys r)
  rw [List.map_map, List.map_map] at this
  exact this
theorem rp_keys {K : Fr'} {R : Hp} : ∀ {kvs : List (Ky × PV)}, (∀ kv ∈ kvs, ∀ s, kv.1 = Sum.inr s → s.length ≤ line) → RpL K R (kvs.map fun kv => pK kv.1) (kvs.map fun kv => kV kv.1)
  | [], _ => rfl
  | kv :: kvs, h => ⟨_, _, rfl, by
      have h0 := h kv (List.mem_cons_self ..)
      obtain ⟨k, p⟩ := kv
      cases k with
      | inl i => exact rfl
      | inr s => exact ⟨rfl, h0 s rfl⟩, rp_keys fun kv hkv => h kv (List.mem_cons_of_mem _ hkv)⟩
theorem int_keys : ∀ {kvs : List (Ky × PV)} {is : List Int}, ints? (kvs.map fun kv => pK kv.1) = .ok is → kvs.map (·.1) = is.map Sum.inl
  | [], is, h => by cases h; rfl
  | (k, p) :: kvs, is, h => by
    cases k with
    | inr s => cases h
    | inl i =>
      have h : ((ints? (kvs.map fun kv => pK kv.1)).bind fun is => .ok (i :: is)) = .ok is := h
      cases e : ints? (kvs.map fun kv => pK kv.1) with
      | ok js => rw [e] at h; cases h; rw [List.map_cons, List.map_cons, int_keys e]
      | exc c => rw [e] at h; cases h
      | bad => rw [e] at h; cases h
theorem sort_one {ys is : List Int} (hp : ys.Perm is) (hs : ys.Pairwise (· ≤ ·)) : ys = is.mergeSort fun a b => decide (a ≤ b) := by
  refine List.Perm.eq_of_pairwise (le := (· ≤ ·)) (fun a b _ _ h1 h2 => by omega) hs ?_ (hp.trans (List.mergeSort_perm _ _).symm)
  have := List.pairwise_mergeSort (le := fun a b : Int => decide (a ≤ b)) (fun a b c h1 h2 => by simp only [decide_eq_true_eq] at *; omega) (fun a b => by by_cases h : a ≤ b <;> simp [h]; omega) is
  exact this.imp fun h => by simpa using h
theorem rp_ints {K : Fr'} {R : Hp} : ∀ (is : List Int), RpL K R (is.map PV.int) (is.map V.int)
  | [] => rfl
  | i :: is => ⟨_, _, rfl, rfl, rp_ints is⟩
theorem sum_tup {prog : Program} {w : World} {A : Around} {E : Value → Shared → Prop} {s : Shared} {l : Addr} {its : List Value} {ns : List Int} {Q : Value → Shared → Prop} (hh : A.handled = none) (hl : s.heap.IsTuple l its.toArray) (hi : IntsAre its ns)
    (h : ∀ h' tk t', (∀ b o, s.heap.get? b = some o → h'.get? b = some o) → Q (.int ns.sum t') { s with heap := h', toks := tk }) : wpAny (model prog w) A (call (.builtin "sum") [.ref l]) Q E s := by
  obtain ⟨xs, e⟩ := hi.allInts.items
  have hn : numsOf (intItems xs).toList = ns := by rw [← e]; exact hi.numsOf
  rw [nums_intItems] at hn
  rw [e] at hl
  refine PySem.W.ktm_sumG hh hl fun h' tk t' hk => ?_
  have := h h' tk t' hk
  rw [preSum_eq, List.take_of_length_le (by simp), hn]; exact this
def kyV (e : En) : V := match e.2.1 with
  | some b => .ref b
  | none => .non
theorem rx_keys {K : Fr'} {R : Hp} : ∀ {kvs : List (PV × PV)} {es : List En}, RpX K R kvs es → (kvs.all fun kv => isTup kv.1) = true → RpL K R (kvs.map (·.1)) (es.map kyV) ∧ ∀ e ∈ es, ∃ b, e.2.1 = some b
  | [], _, r, _ => by rw [show _ = [] from r]; exact ⟨rfl, fun e h => by cases h⟩
  | kv :: kvs, _, ⟨b, v, ws, e, q, r, rs⟩, h => by
    rw [List.all_cons, Bool.and_eq_true] at h
    obtain ⟨i1, i2⟩ := rx_keys rs h.2
    rw [e]
    rcases q.2 with ⟨_, c, e1, r1⟩ | ⟨t, _⟩
    · rw [e1]
      refine ⟨⟨.ref c, _, rfl, r1, i1⟩, fun x hx => ?_⟩
      rcases List.mem_cons.mp hx with rfl | hx
      · exact ⟨c, rfl⟩
      · exact i2 x hx
    · rw [h.1] at t; cases t
theorem en_vals : ∀ {es : List En} {ds : List DictEntry}, Paired EnR es ds → (∀ e ∈ es, ∃ b, e.2.1 = some b) → ∀ vs : List Value, vs.length = ds.length → (∀ (j : Nat) (v : Value), vs[j]? = some v → ∃ en : DictEntry, ds[j]? = some en ∧ v = en.key) → Vals (es.map kyV) vs
  | _, _, .nil, _, vs, hl, _ => by rw [List.length_eq_zero_iff.mp hl]; exact .nil
  | e :: es, d :: ds, .cons r t, hb, vs, hl, h => by
    cases vs with
    | nil => cases hl
    | cons v vs =>
      obtain ⟨b, eb⟩ := hb e List.mem_cons_self
      obtain ⟨_, _, r3⟩ := r
      rw [eb] at r3
      obtain ⟨en, e1, e2⟩ := h 0 v rfl
      cases e1
      refine .cons ?_ (en_vals t (fun e he => hb e (List.mem_cons_of_mem _ he)) vs (by simpa using hl) fun j v q => h (j + 1) v (by simpa using q))
      unfold kyV
      rw [eb, e2, r3]; rfl
theorem keysT_ok {kvs : List (PV × PV)} : (keysT kvs = .ok (kvs.map (·.1)) ∧ (kvs.all fun kv => isTup kv.1) = true) ∨ keysT kvs = .bad := by
  unfold keysT
  by_cases c : (kvs.all fun kv => isTup kv.1) = true
  · rw [if_pos c]; exact .inl ⟨rfl, c⟩
  · rw [if_neg c]; exact .inr rfl
/-- a list of a dict's keys -/
theorem dx_list (hc : X.calm = true) {a : Addr} {kvs : List (PV × PV)} {es : List En} {Q : VK} (I : Inv X pins σ H s) (hd : Rd H a (DX a es)) (rx : RpX X.K R kvs es) (ht : (kvs.all fun kv => isTup kv.1) = true)
    (h : ∀ p vs, H p = none → RpL X.K R (kvs.map (·.1)) vs → Q (.ref p) (upd H p (.lst vs))) : wpAny (model X.prog X.w) X.A (call (.type "list") [.ref a]) (EP X pins σ Q) X.xe s := by
  obtain ⟨hsm, hz, _, o, en, ep, h1, h2, h3, pr⟩ := dx_ok I hd
  obtain ⟨k1, k2⟩ := rx_keys rx ht
  have l1 : es.length = en.size := by rw [Paired.length pr, Array.length_toList]
  refine kdl_call (kdl_raw hsm h2 h3) (I.ok.hd hc) h1 (by omega) fun h' tk acc c kp e it => ?_
  have rv : Vals (es.map kyV) acc.toList := en_vals pr k2 _ (by rw [Array.length_toList, Array.length_toList]; exact it.1) fun j v q => by
    obtain ⟨x, q1, q2⟩ := it.2 j v (by rw [← Array.getElem?_toList]; exact q)
    exact ⟨x, by rw [Array.getElem?_toList]; exact q1, q2⟩
  refine ⟨.ref s.heap.objs.size, _, I.laid (t' := tk) (o := .lst (es.map kyV)) kp (Nat.le_refl _) ?_, rfl, h _ _ (I.hok.fresh (Nat.le_refl _)) k1⟩
  exact ⟨by rw [List.length_map]; exact hz, acc.toList, c, rv, by rw [Array.toArray_toList]; exact e⟩
/-- .. in order -/
theorem dx_sorted (hc : X.calm = true) (hu : X.A.units + 100 < cLine) {a : Addr} {kvs : List (PV × PV)} {es : List En} {Q : VK} (I : Inv X pins σ H s) (hs : Sub R H) (hd : Rd H a (DX a es)) (rx : RpX X.K R kvs es) (ht : (kvs.all fun kv => isTup kv.1) = true) (so : sortable (kvs.map (·.1)) = true)
    (h : ∀ p vs, H p = none → RpL X.K R (sortP (kvs.map (·.1))) vs → Q (.ref p) (upd H p (.lst vs))) : wpAny (model X.prog X.w) X.A (call (.builtin "sorted") [.ref a]) (EP X pins σ Q) X.xe s := by
  obtain ⟨hsm, hz, _, o, en, ep, h1, h2, h3, pr⟩ := dx_ok I hd
  obtain ⟨k1, k2⟩ := rx_keys rx ht
  have l1 : es.length = en.size := by rw [Paired.length pr, Array.length_toList]
  have l2 := rx.len
  refine sorted_src (R := fun u p => ∃ v, RelV v u ∧ RpD X.K R p v) (kdl_raw hsm h2 h3) (I.ok.hd hc) h1 (by omega) (fun vs lv hv => ?_) so (by rw [List.length_map, ← l2]; exact hz) (by omega) fun h1' h' tk c out kp kp' e eo => ?_
  · have rv : Vals (es.map kyV) vs := en_vals pr k2 _ (by rw [Array.length_toList]; exact lv) fun j v q => by
      obtain ⟨x, q1, q2⟩ := hv j v q
      exact ⟨x, by rw [Array.getElem?_toList]; exact q1, q2⟩
    exact each_of k1 rv (cpl_of I hs k1 rv)
  · obtain ⟨ws, vw, rw'⟩ := each_back eo
    have l3 := rw'.len
    rw [sort_len, List.length_map] at l3
    have I1 : Inv X pins σ H { s with heap := h1', toks := tk } := I.kept kp
    exact ⟨.ref _, upd H h1'.objs.size (.lst ws), I1.laid (t' := tk) kp' (Nat.le_refl _) ⟨by rw [l3, ← l2]; exact hz, out, c, vw, e⟩, rfl, h _ _ (I1.hok.fresh (Nat.le_refl _)) rw'⟩
theorem cr_f1 (hK : F.K = X.K) (hc : X.calm = true) (hu : X.A.units + 100 < cLine) (f : F1) (hf : f ≠ .sortedset ∧ f ≠ .lenset) : CallR X (f1val f) (rF F (f1op f)) := by
  intro pins s σ H xs us Q I rxs ⟨x, sv, R, σ', ex, hs, r, h⟩
  subst ex
  have bad : ∀ {α : Prop}, Post F .e R σ' H .bad Q → α := fun h => h.elim
  have hh : X.A.handled = none := I.ok.hd hc
  cases f
  case len =>
    cases sv with
    | dK kvs =>
      obtain ⟨a, ws, rfl, hH, rk, z⟩ := r.dK hs
      rw [Vals.ref1 rxs]
      refine d_len I (.inl hH) fun t s' I' => ?_
      rw [rk.len]
      exact ⟨.int _, H, I', ⟨t, rfl⟩, Post.now hs h rfl⟩
    | dX lk kvs =>
      obtain ⟨a, es, rfl, hH, rx', z, al⟩ := r.dX hs
      rw [hK] at rx'
      rw [Vals.ref1 rxs]
      exact dx_len I hs hH rx' al fun t s' I' => ⟨.int _, H, I', ⟨t, rfl⟩, Post.now hs h rfl⟩
    | ins _ _ => exact r.ins.elim
    | scr _ => exact bad h
    | d p =>
      cases p <;> first | exact bad h | skip
      · obtain ⟨rfl, z⟩ := r.str
        exact call_len_str pins s σ H _ us Q I rxs ⟨_, rfl, z, Post.now hs h rfl⟩
      · obtain ⟨a, vs, rfl, sq, q, z⟩ := r.tup
        rw [hK] at sq
        exact call_len_seq pins s σ H _ us Q I rxs ⟨_, _, rfl, .inr (hs.seqT sq), Post.now hs h (by rw [q.len]; rfl)⟩
      · obtain ⟨a, vs, rfl, sq, q, z⟩ := r.lst hs
        exact call_len_seq pins s σ H _ us Q I rxs ⟨_, _, rfl, .inl (.of sq), Post.now hs h (by rw [q.len]; rfl)⟩
  case abs =>
    cases sv with
    | d p =>
      cases p <;> first | exact bad h | skip
      obtain rfl := r.int
      exact call_abs pins s σ H _ us Q I rxs ⟨_, rfl, Post.now hs h rfl⟩
    | _ => exact bad h
  case int =>
    cases sv with
    | d p =>
      cases p <;> first | exact bad h | skip
      · obtain rfl := r.bl
        exact call_int1 pins s σ H _ us Q I rxs (.inr ⟨_, rfl, Post.now hs h rfl⟩)
      · obtain rfl := r.int
        exact call_int1 pins s σ H _ us Q I rxs (.inl ⟨_, rfl, Post.now hs h rfl⟩)
    | _ => exact bad h
  case sum =>
    cases sv with
    | d p =>
      cases p <;> first | exact bad h | skip
      · rename_i ps
        obtain ⟨a, vs, rfl, sq, q, z⟩ := r.tup
        have h2 : Post F .e R σ' H ((ints? ps).bind fun is => .ok (.d (.int is.sum))) Q := h
        clear h
        rcases ints_exc ps with ⟨is, e⟩ | e
        · rw [e] at h2
          have e2 := ints_all e
          subst e2
          have e3 := vals_int q
          subst e3
          rw [hK] at sq
          obtain ⟨its, rv, ht, _⟩ := I.tuple (hs.seqT sq)
          rw [Vals.ref1 rxs]
          exact sum_tup hh ht rv.ints fun h' tk t' hk => ⟨.int _, H, I.kept hk, ⟨_, rfl⟩, Post.now hs h2 rfl⟩
        · rw [e] at h2; exact bad h2
      rename_i ps
      obtain ⟨a, vs, rfl, sq, q, z⟩ := r.lst hs
      have h2 : Post F .e R σ' H ((ints? ps).bind fun is => .ok (.d (.int is.sum))) Q := h
      clear h
      rcases ints_exc ps with ⟨is, e⟩ | e
      · rw [e] at h2
        have e2 := ints_all e
        subst e2
        have e3 := vals_int q
        subst e3
        exact cr_sum hc pins s σ H _ us Q I rxs ⟨_, _, rfl, .of sq, Post.now hs h2 rfl⟩
      · rw [e] at h2; exact bad h2
    | _ => exact bad h
  case all =>
    cases sv with
    | d p =>
      cases p <;> first | exact bad h | skip
      rename_i ps
      obtain ⟨a, vs, rfl, sq, q, z⟩ := r.lst hs
      have h2 : Post F .e R σ' H ((bools? ps).bind fun is => .ok (.d (.bl (is.all id)))) Q := h
      clear h
      rcases bools_exc ps with ⟨is, e⟩ | e
      · rw [e] at h2
        have e2 := bools_all e
        subst e2
        have e3 := vals_bl q
        subst e3
        exact cr_all hc pins s σ H _ us Q I rxs ⟨_, _, rfl, .of sq, Post.now hs h2 rfl⟩
      · rw [e] at h2; exact bad h2
    | _ => exact bad h
  case any =>
    cases sv with
    | d p =>
      cases p <;> first | exact bad h | skip
      rename_i ps
      obtain ⟨a, vs, rfl, sq, q, z⟩ := r.lst hs
      have h2 : Post F .e R σ' H ((bools? ps).bind fun is => .ok (.d (.bl (is.any id)))) Q := h
      clear h
      rcases bools_exc ps with ⟨is, e⟩ | e
      · rw [e] at h2
        have e2 := bools_all e
        subst e2
        have e3 := vals_bl q
        subst e3
        exact cr_any hc pins s σ H _ us Q I rxs ⟨_, _, rfl, .of sq, Post.now hs h2 rfl⟩
      · rw [e] at h2; exact bad h2
    | _ => exact bad h
  case min =>
    obtain ⟨ps, e, h⟩ := post_seq (s := sv) h
    obtain ⟨a, vs, rfl, sq, q, z⟩ := r.seq hs e
    cases ps with
    | nil => exact bad h
    | cons p ps =>
      obtain ⟨c, h⟩ := post_if (c := allAlk (p :: ps)) (r := .d (minP p ps)) h
      rw [hK] at sq q
      rw [Vals.ref1 rxs]
      exact best_row minD_toD minP_mem (fun hl hr ha hu hq => min_list_data hh hl hr ha hu hq) (fun hl hr ha hu hq => min_tuple_data hh hl hr ha hu hq) I hu hs sq q c fun v rv => Post.now hs h (show RpD F.K R _ v by rw [hK]; exact rv)
  case max =>
    obtain ⟨ps, e, h⟩ := post_seq (s := sv) h
    obtain ⟨a, vs, rfl, sq, q, z⟩ := r.seq hs e
    cases ps with
    | nil => exact bad h
    | cons p ps =>
      obtain ⟨c, h⟩ := post_if (c := allAlk (p :: ps)) (r := .d (maxP p ps)) h
      rw [hK] at sq q
      rw [Vals.ref1 rxs]
      exact best_row maxD_toD maxP_mem (fun hl hr ha hu hq => max_list_data hh hl hr ha hu hq) (fun hl hr ha hu hq => max_tuple_data hh hl hr ha hu hq) I hu hs sq q c fun v rv => Post.now hs h (show RpD F.K R _ v by rw [hK]; exact rv)
  case sorted =>
    by_cases dx : ∃ b kvs, sv = .dX b kvs
    · obtain ⟨lk, kvs, rfl⟩ := dx
      obtain ⟨a, es, rfl, hH, rx', z, al⟩ := r.dX hs
      rw [hK] at rx'
      have h : Post F .e R σ' H ((keysT kvs).bind fun ks => if sortable ks then .ok (.d (.lst (sortP ks))) else .bad) Q := h
      rcases keysT_ok (kvs := kvs) with ⟨e, ht⟩ | e
      · rw [e] at h
        obtain ⟨so, h⟩ := post_if (c := sortable (kvs.map (·.1))) (r := .d (.lst (sortP (kvs.map (·.1))))) h
        rw [Vals.ref1 rxs]
        exact dx_sorted hc hu I hs hH rx' ht so fun p vs hp rp => Post.newL hs h hp (by rw [hK]; exact rp) (by rw [sort_len, List.length_map]; exact z)
      · rw [e] at h; exact bad h
    by_cases dk : ∃ kvs, sv = .dK kvs
    · obtain ⟨kvs, rfl⟩ := dk
      obtain ⟨a, ws, rfl, hH, rk, z⟩ := r.dK hs
      have h : Post F .e R σ' H ((ints? (kvs.map fun kv => pK kv.1)).bind fun is => if is.length < 64 then .ok (.d (.lst ((is.mergeSort fun a b => decide (a ≤ b)).map PV.int))) else .bad) Q := h
      rcases ints_exc (kvs.map fun kv => pK kv.1) with ⟨is, e⟩ | e
      · rw [e] at h
        have h : Post F .e R σ' H (if is.length < 64 then .ok (.d (.lst ((is.mergeSort fun a b => decide (a ≤ b)).map PV.int))) else .bad) Q := h
        by_cases c : is.length < 64
        · rw [if_pos c] at h
          refine call_sortedDI hc pins s σ H _ us Q I rxs ⟨a, ws, is, rfl, .inl hH, by rw [rk_keys rk, int_keys e], c, fun ys p hp hsd hq => ?_⟩
          rw [sort_one hp hsd]
          exact Post.newL hs h hq (rp_ints _) (by rw [List.length_map, List.length_mergeSort]; unfold line; omega)
        · rw [if_neg c] at h; exact bad h
      · rw [e] at h; exact bad h
    have h : Post F .e R σ' H ((seq? sv).bind fun ps => if sortable ps then .ok (.d (.lst (sortP ps))) else .bad) Q := by
      cases sv <;> first | exact h | exact absurd ⟨_, rfl⟩ dk | exact absurd ⟨_, _, rfl⟩ dx
    obtain ⟨ps, e, h⟩ := post_seq (s := sv) h
    obtain ⟨a, vs, rfl, sq, q, z⟩ := r.seq hs e
    obtain ⟨c, h⟩ := post_if (c := sortable ps) (r := .d (.lst (sortP ps))) h
    rw [hK] at sq
    rw [Vals.ref1 rxs]
    have go : ∀ {its : List Value}, Vals vs its → (s.heap.IsList a its.toArray ∨ s.heap.IsTuple a its.toArray) → wpAny (model X.prog X.w) X.A (call (f1val .sorted) [.ref a]) (EP X pins σ Q) X.xe s := fun {its} rv hl => by
      have q' := q
      rw [hK] at q'
      obtain ⟨e1, e2⟩ := each_of q rv (cpl_of I hs q' rv)
      refine sorted_row hl e1 e2 c (by rw [← line_eq]; exact z) (by omega) fun out eo => ?_
      obtain ⟨ws, vw, rw'⟩ := each_back eo
      obtain ⟨ep, he'⟩ := sortedAll_at s.heap its out.toArray
      have l1 := rw'.len
      rw [sort_len] at l1
      have hlen : ws.length ≤ sizeLine := by rw [l1, ← line_eq]; exact z
      exact ⟨.ref _, upd H (s.heap.objs.size + 1) (.lst ws), I.laid (t' := s.toks) (fun _ _ => sortedAll_old) (Nat.le_succ _) ⟨hlen, out, ep, vw, he'⟩, rfl, Post.newL hs h (I.hok.fresh (Nat.le_succ _)) rw' (by rw [sort_len]; exact z)⟩
    rcases sq with sq | sq
    · obtain ⟨its, rv, hl, hz⟩ := I.list sq
      exact go rv (.inl hl.isList)
    · obtain ⟨its, rv, hl, hz⟩ := I.tuple sq
      exact go rv (.inr hl)
  case tuple =>
    obtain ⟨ps, e, h⟩ := post_seq (s := sv) h
    cases sv with
    | d p =>
      cases p <;> first | (cases e; done) | skip
      · cases e
        obtain ⟨a, vs, rfl, sq, q, z⟩ := r.tup
        rw [hK] at sq
        exact call_tuple_of pins s σ H _ us Q I rxs ⟨a, vs, rfl, .inr ⟨hs.seqT sq, Post.now hs h ⟨a, vs, rfl, hK ▸ sq, z, q⟩⟩⟩
      · cases e
        obtain ⟨a, vs, rfl, sq, q, z⟩ := r.lst hs
        exact call_tuple_of pins s σ H _ us Q I rxs ⟨a, vs, rfl, .inl ⟨.of sq, fun l hl => Post.newT hs h hl q z⟩⟩
    | _ => cases e
  case list =>
    by_cases dx : ∃ b kvs, sv = .dX b kvs
    · obtain ⟨lk, kvs, rfl⟩ := dx
      obtain ⟨a, es, rfl, hH, rx', z, al⟩ := r.dX hs
      rw [hK] at rx'
      have h : Post F .e R σ' H ((keysT kvs).bind fun ks => .ok (.d (.lst ks))) Q := h
      rcases keysT_ok (kvs := kvs) with ⟨e, ht⟩ | e
      · rw [e] at h
        have h : Post F .e R σ' H (.ok (.d (.lst (kvs.map (·.1))))) Q := h
        rw [Vals.ref1 rxs]
        exact dx_list hc I hH rx' ht fun p vs hp rp => Post.newL hs h hp (by rw [hK]; exact rp) (by rw [List.length_map]; exact z)
      · rw [e] at h; exact bad h
    by_cases dk : ∃ kvs, sv = .dK kvs
    · obtain ⟨kvs, rfl⟩ := dk
      obtain ⟨a, ws, rfl, hH, rk, z⟩ := r.dK hs
      have h : Post F .e R σ' H ((ints? (kvs.map fun kv => pK kv.1)).bind fun is => .ok (.d (.lst (is.map PV.int)))) Q := h
      rcases ints_exc (kvs.map fun kv => pK kv.1) with ⟨is, e⟩ | e
      · rw [e] at h
        have h : Post F .e R σ' H (.ok (.d (.lst (is.map PV.int)))) Q := h
        refine call_listD hc pins s σ H _ us Q I rxs ⟨a, ws, rfl, .inl hH, fun p hq => ?_⟩
        have e2 : (ws.map fun kv => kV kv.1) = is.map V.int := by
          have := congrArg (List.map kV) (int_keys e)
          rw [List.map_map, List.map_map] at this
          rw [kV_keys rk]; exact this
        have hl : is.length = kvs.length := by have := congrArg List.length (int_keys e); simpa using this.symm
        rw [e2]
        exact Post.newL hs h hq (rp_ints _) (by rw [List.length_map, hl]; exact z)
      · rw [e] at h; exact bad h
    have h : Post F .e R σ' H ((seq? sv).bind fun ps => .ok (.d (.lst ps))) Q := by
      cases sv <;> first | exact h | exact absurd ⟨_, rfl⟩ dk | exact absurd ⟨_, _, rfl⟩ dx
    obtain ⟨ps, e, h⟩ := post_seq (s := sv) h
    obtain ⟨a, vs, rfl, sq, q, z⟩ := r.seq hs e
    rw [hK] at sq
    exact call_list_of pins s σ H _ us Q I rxs ⟨a, vs, rfl, sq, fun l hl => Post.newL hs h hl q z⟩
  case sortedset => exact absurd rfl hf.1
  case lenset => exact absurd rfl hf.2
end
end Bw
end

section
set_option autoImplicit false
set_option linter.all false
/-! Bw L: items, slices, isinstance, the greater of two. -/
namespace Bw
open PySem L2 PySem.SeqAt PySem.W PyProof.Rows
section
variable {X : Cx} {F : Fr} {pins : List (Addr × Obj)} {σ : L2.St} {H R : Hp} {s : Shared} {x : V}
theorem atI_of {K : Fr'} {R : Hp} {ps : List PV} {vs : List V} {i : Int} {p : PV} (r : RpL K R ps vs) (h : atP ps i = some p) : ∃ v, atI vs i = some v ∧ RpD K R p v := by
  unfold atP at h
  cases e : ixP ps.length i with
  | none => rw [e] at h; cases h
  | some j =>
    rw [e] at h
    obtain ⟨v, h1, h2⟩ := r.get' (show ps[j]? = some p from h)
    refine ⟨v, ?_, h2⟩
    have e2 : ixN vs.length i = some j := by rw [r.len]; exact e
    unfold atI
    rw [e2]
    exact h1
/-- d[k], behind both operands -/
theorem dict_tail {value slice : Expr} {pins : List (Addr × Obj)} {s : Shared} {σ : L2.St} {H : Hp} {a : Addr} {y w : V} {u : Value} {Q : VK} (hu : X.A.units + 1 < cLine) (I : Inv X pins σ H s) (g : DGet H a y (some w)) (ry : RelV y u)
    (hpl : subscripted slice false (.ref a) u = operate [.ref a, u] (getItem (.ref a) u)) (h : ∀ w' s', Inv X pins σ H s' → RelV w w' → EP X pins σ Q w' s') :
    wpAny (model X.prog X.w) X.A (subscriptTail value slice (.ref a) u) (EP X pins σ Q) X.xe s :=
  tail_any (ops := [.ref a, u]) (dict_typeIs I g) PySem.F.slot_dict_getitem.lookup (d_getItem hu I g ry h) hpl
theorem ix_op (hK : F.K = X.K) (hu' : X.A.units + 100 < cLine) : IxR X (rB F .e idxop) := by
  intro value slice pins s σ H x y v u Q I rx ry ⟨a, b, R, σ', hs, ra, rb, h⟩ hpl
  have bad : ∀ {α : Prop}, Post F .e R σ' H .bad Q → α := fun h => h.elim
  have hu : X.A.units + 1 < cLine := by omega
  cases a with
  | dX lk kvs =>
    cases b with
    | d p =>
      obtain ⟨a, es, rfl, hH, rx', _, _⟩ := ra.dX hs
      obtain rfl : v = Value.ref a := rx
      rw [hK] at rx'
      have cp := Inv.cpT I hK hs rb ry
      have h : Post F .e R σ' H ((keyX kvs (.d p)).bind fun k => optR (valX kvs k)) Q := h
      rcases keyX_d kvs p with ⟨e1, e2, e3⟩ | e3
      · rw [e3] at h
        have h : Post F .e R σ' H (optR (valX kvs p)) Q := h
        cases e4 : valX kvs p with
        | none => rw [e4] at h; exact bad h
        | some q =>
          rw [e4] at h
          exact tail_any (ops := [.ref a, u]) (dx_type I hH).1 PySem.F.slot_dict_getitem.lookup (dx_getItem hu' I hs hH rx' e1 e2 cp e4 fun w w' s' rq rw' I' => ⟨w, H, I', rw', Post.now hs h (show RpD F.K R q w by rw [hK]; exact rq)⟩) hpl
      · rw [e3] at h; exact bad h
    | _ => exact bad h
  | dK kvs =>
    cases b with
    | d p =>
      obtain ⟨a, ws, rfl, hH, rk, _⟩ := ra.dK hs
      obtain rfl : v = Value.ref a := rx
      have key : (∃ k, key? (.d p) = .ok k ∧ y = kV k) ∨ key? (.d p) = .bad := by
        cases p <;> first | exact .inr rfl | skip
        · obtain rfl := rb.int; exact .inl ⟨_, rfl, rfl⟩
        · obtain ⟨rfl, _⟩ := rb.str; exact .inl ⟨_, rfl, rfl⟩
      have h : Post F .e R σ' H ((key? (.d p)).bind fun k => optR (valK kvs k)) Q := h
      rcases key with ⟨k, e1, rfl⟩ | e1
      · rw [e1] at h
        have h : Post F .e R σ' H (optR (valK kvs k)) Q := h
        cases e2 : valK kvs k with
        | none => rw [e2] at h; exact bad h
        | some q =>
          rw [e2] at h
          obtain ⟨w, hw, rw'⟩ := (rk.val k).1 q e2
          have g : DGet H a (kV k) (some w) := by rw [← hw]; exact DGet.k hH
          exact dict_tail hu I g ry hpl fun w' s' I' rw2 => ⟨w, H, I', rw2, Post.now hs h rw'⟩
      · rw [e1] at h; exact bad h
    | _ => exact bad h
  | ins _ _ => exact ra.ins.elim
  | scr _ => exact bad h
  | d p =>
  cases b with
  | dK _ => cases p <;> exact bad h
  | dX _ _ => cases p <;> exact bad h
  | ins _ _ => exact rb.ins.elim
  | scr _ => cases p <;> exact bad h
  | d q =>
  cases p <;> cases q <;> first | exact bad h | skip
  · rename_i z i
    obtain rfl := rb.int
    obtain ⟨rfl, hz⟩ := ra.str
    have h : Post F .e R σ' H (match atP z.cps.toList i with | some c => .ok (.d (.str ⟨#[c]⟩)) | none => .bad) Q := h
    cases e : atP z.cps.toList i with
    | none => rw [e] at h; exact bad h
    | some c =>
      rw [e] at h
      exact ix_str value slice pins s σ H _ _ v u Q I rx ry ⟨_, _, c, rfl, rfl, hz, e, Post.now hs h ⟨rfl, by show (1 : Nat) ≤ line; decide⟩⟩ hpl
  · rename_i ps i
    obtain rfl := rb.int
    obtain ⟨a, vs, rfl, sq, q, z⟩ := ra.tup
    have h : Post F .e R σ' H (match atP ps i with | some p => .ok (.d p) | none => .bad) Q := h
    cases e : atP ps i with
    | none => rw [e] at h; exact bad h
    | some p =>
      rw [e] at h
      obtain ⟨w, h1, h2⟩ := atI_of q e
      rw [hK] at sq
      exact ix_tup value slice pins s σ H _ _ v u Q I rx ry ⟨a, vs, i, w, rfl, rfl, hs.seqT sq, h1, Post.now hs h h2⟩ hpl
  · rename_i ps i
    obtain rfl := rb.int
    obtain ⟨a, vs, rfl, sq, q, z⟩ := ra.lst hs
    have h : Post F .e R σ' H (match atP ps i with | some p => .ok (.d p) | none => .bad) Q := h
    cases e : atP ps i with
    | none => rw [e] at h; exact bad h
    | some p =>
      rw [e] at h
      obtain ⟨w, h1, h2⟩ := atI_of q e
      exact ix_list value slice pins s σ H _ _ v u Q I rx ry ⟨a, vs, i, w, rfl, rfl, .of sq, h1, Post.now hs h h2⟩ hpl
theorem sx_eq (n d : Nat) (o : Option Int) : HT.sIx n d o = sxP n d o := by
  cases o with
  | none => rfl
  | some i =>
    show (if i < 0 then (i + n).toNat else min i.toNat n) = if 0 ≤ i then min i.toNat n else (i + n).toNat
    by_cases c : i < 0
    · rw [if_pos c, if_neg (by omega)]
    · rw [if_neg c, if_pos (by omega)]
theorem cut_of {K : Fr'} {R : Hp} {ps : List PV} {vs : List V} {lo hi : Option Int} (r : RpL K R ps vs) : RpL K R (cutP ps lo hi) (cutV vs lo hi) := by
  show RpL K R ((ps.drop _).take _) ((vs.drop _).take _)
  rw [r.len, sx_eq, sx_eq]
  exact (r.drop _).take _
theorem cut_le {α : Type} (ps : List α) (lo hi : Option Int) : (cutP ps lo hi).length ≤ ps.length := by
  unfold cutP
  rw [List.length_take, List.length_drop]; omega
def rSl (F : Fr) : V → Option Int → Option Int → Hp → VK → Prop := fun x lo hi H Q => ∃ s R σ, Sub R H ∧ Rm F R H .t s x ∧ Post F .e R σ H (slop s lo hi) Q
theorem scr_rp {K : Fr'} {R : Hp} : ∀ (ns : List Int), RpL K R (ns.map PV.int) (ns.map V.int)
  | [] => rfl
  | n :: ns => ⟨_, _, rfl, rfl, scr_rp ns⟩
theorem sl_op (hK : F.K = X.K) : SlR X (rSl F) := by
  intro pins s σ H x v vl vu lo hi sl Q I rx his pl pu ⟨a, R, σ', hs, ra, h⟩
  have bad : ∀ {α : Prop}, Post F .e R σ' H .bad Q → α := fun h => h.elim
  cases a with
  | dK _ => exact bad h
  | dX _ _ => exact bad h
  | ins _ _ => exact ra.ins.elim
  | scr ns =>
    obtain ⟨a, rfl, sq, z⟩ := ra.scr
    rw [hK] at sq
    refine sl_list pins s σ H _ v vl vu lo hi sl Q I rx his pl pu ⟨a, _, rfl, hs.seqL sq, fun p hp => Post.newL hs h hp (cut_of (scr_rp ns)) ?_⟩
    exact Nat.le_trans (cut_le _ _ _) (by rw [List.length_map]; exact z)
  | d p =>
  cases p <;> first | exact bad h | skip
  · obtain ⟨a, vs, rfl, sq, q, z⟩ := ra.tup
    rename_i ps
    rw [hK] at sq
    refine sl_tupA pins s σ H _ v vl vu lo hi sl Q I rx his pl pu ⟨a, vs, rfl, hs.seqT sq, fun e => ?_, fun _ p hp => Post.newT hs h hp (cut_of q) (Nat.le_trans (cut_le _ _ _) z)⟩
    have e1 : cutP ps lo hi = ps := by
      unfold cutP
      rw [← sx_eq, ← sx_eq, ← q.len, e.1, e.2, List.drop_zero, q.len, Nat.sub_zero, List.take_length]
    have h : Post F .e R σ' H (.ok (.d (.tup (cutP ps lo hi)))) Q := h
    rw [e1] at h
    exact Post.now hs h ⟨a, vs, rfl, hK ▸ sq, z, q⟩
  · obtain ⟨a, vs, rfl, sq, q, z⟩ := ra.lst hs
    exact sl_list pins s σ H _ v vl vu lo hi sl Q I rx his pl pu ⟨a, vs, rfl, .of sq, fun p hp => Post.newL hs h hp (cut_of q) (Nat.le_trans (cut_le _ _ _) z)⟩
def tyName : Ty → String
  | .int => "int" | .bool => "bool" | .str => "str" | .tuple => "tuple" | .list => "list" | .dict => "dict"
def rIsa (F : Fr) (t : Ty) : List V → Hp → VK → Prop := fun xs H Q => ∃ x s R σ, xs = [x, .ty (tyName t)] ∧ Sub R H ∧ Rm F R H .t s x ∧ Post F .e R σ H ((isaop s t).bind fun b => .ok (.d (.bl b))) Q
theorem cr_isa (hK : F.K = X.K) (t : Ty) : CallR X (.builtin "isinstance") (rIsa F t) := by
  intro pins s σ H xs us Q I rxs ⟨x, sv, R, σ', ex, hs, r, h⟩
  subst ex
  have bad : ∀ {α : Prop}, Post F .e R σ' H .bad Q → α := fun h => h.elim
  cases sv with
  | dK _ => exact bad h
  | dX _ _ => exact bad h
  | ins _ _ => exact r.ins.elim
  | scr _ => exact bad h
  | d p =>
    cases rxs with
    | cons r1 rr =>
      cases rr with
      | cons r2 rr =>
        cases rr
        rename_i u w
        obtain rfl : w = Value.type (tyName t) := r2
        obtain ⟨as, rd⟩ := reads_of (Inv.cpT I hK hs r r1)
        have fin : ∀ (b : Bool), b = isaP p t → ∀ tk, s.toks ≤ tk → EP X pins σ Q (.bool b) { s with toks := tk } := fun b e tk _ => by
          subst e
          have J : Inv X pins σ H { s with toks := tk } := I.tok _
          exact ⟨.bl _, H, J, rfl, Post.now hs h rfl⟩
        cases t
        · exact isinstance_int_data rd (fin _ (by cases p <;> rfl))
        · exact isinstance_bool_data rd (fin _ (by cases p <;> rfl))
        · exact isinstance_str_data rd (fin _ (by cases p <;> rfl))
        · exact isinstance_tuple_data rd (fin _ (by cases p <;> rfl))
        · exact isinstance_list_data rd (fin _ (by cases p <;> rfl))
        · exact isinstance_dict_data rd (fin _ (by cases p <;> rfl))
def f2val : F2 → Value
  | .min => .builtin "min" | .max => .builtin "max" | .index => .none
def rF2 (F : Fr) (g : SV → SV → Res SV) : List V → Hp → VK → Prop := fun xs H Q => ∃ x y s t R σ, xs = [x, y] ∧ Sub R H ∧ Rm F R H .t s x ∧ Rm F R H .t t y ∧ Post F .e R σ H (g s t) Q
theorem cr_f2 (hc : X.calm = true) (f : F2) (hf : f ≠ .index) : CallR X (f2val f) (rF2 F (f2op f)) := by
  intro pins s σ H xs us Q I rxs ⟨x, y, sv, tv, R, σ', ex, hs, r, r', h⟩
  subst ex
  have bad : ∀ {α : Prop}, Post F .e R σ' H .bad Q → α := fun h => h.elim
  cases f
  case index => exact absurd rfl hf
  case min =>
    cases sv with
    | d p =>
      cases p <;> first | exact bad h | skip
      cases tv with
      | d q =>
        cases q <;> first | exact bad h | skip
        obtain rfl := r.int
        obtain rfl := r'.int
        exact call_min2 hc pins s σ H _ us Q I rxs ⟨_, _, rfl, Post.now hs h rfl⟩
      | _ => exact bad h
    | _ => exact bad h
  case max =>
    cases sv with
    | d p =>
      cases p <;> first | exact bad h | skip
      cases tv with
      | d q =>
        cases q <;> first | exact bad h | skip
        obtain rfl := r.int
        obtain rfl := r'.int
        exact call_max2 hc pins s σ H _ us Q I rxs ⟨_, _, rfl, Post.now hs h rfl⟩
      | _ => exact bad h
    | _ => exact bad h
end
end Bw
end

section
set_option autoImplicit false
set_option linter.all false
/-! Bw M: does the core text say what the program's text says? -/
namespace Bw
open PySem L2
structure Inf where
  N : List Str
  fns : List Str
  cons : List Str
  exs : List Str
def nmB (x : Str) : Bool := !(x == ("__debug__" : Str)) && !(x == ("__classdict__" : Str)) && !(x == ("__name__" : Str))
def visB (sc : Scope) (x : Str) : Bool := match sc.names.lookup x with
  | some .local => true
  | some .cell => true
  | some .free => true
  | _ => false
def locB (sc : Scope) (x : Str) : Bool := match sc.names.lookup x with
  | some .local => true
  | some .cell => true
  | _ => false
def glB (sc : Scope) (x : Str) : Bool := match sc.names.lookup x with
  | some .globalImplicit => true
  | _ => false
/-- neither a star, a slice nor a set -/
def tame : Expr → Bool
  | .Starred _ _ => false
  | .Slice _ _ _ _ => false
  | .Set _ _ _ => false
  | _ => true
def f1name : F1 → String
  | .len => "len" | .abs => "abs" | .int => "int" | .sum => "sum" | .min => "min" | .max => "max" | .all => "all" | .any => "any"
  | .sorted => "sorted" | .tuple => "tuple" | .list => "list" | .sortedset => "sorted" | .lenset => "len"
def f2name : F2 → String
  | .min => "min" | .max => "max" | .index => "index"
def builtins : List String := ["len", "abs", "int", "sum", "min", "max", "all", "any", "sorted", "tuple", "list", "isinstance", "bool", "str", "dict", "range", "enumerate", "zip", "set"]
/-- the mode of a display -/
def Md.disp : Md → Md
  | .e => .e
  | _ => .f
def Md.sup : Md → Md → Md
  | .e, .e => .e
  | _, _ => .f
/-- the mode of what an operation makes -/
def Md.op1 : Md → Md
  | .f => .f
  | _ => .e
def Md.op (a b : Md) : Md := if a.le .t && b.le .t then .e else .f
mutual
def md : CE → Md
  | .own _ => .t
  | .and _ b => md b
  | .bin _ a b => (md a).op (md b)
  | .cmp _ a b => (md a).op (md b)
  | .idx a b => (md a).op (md b)
  | .f1 _ a => (md a).op1
  | .f2 _ a b => (md a).op (md b)
  | .isa a _ => (md a).op1
  | .or _ b => md b
  | .tup es => (mdL es).disp
  | .lst es => (mdL es).disp
  | .call _ es => (mdL es).disp
  | .ife _ a b => (md a).sup (md b)
  | _ => .e
def mdL : List CE → Md
  | [] => .e
  | e :: es => (md e).sup (mdL es)
end
def le_t (m : Md) : Bool := m.le .t
def isTupE : Expr → Bool
  | .Tuple _ _ _ => true
  | _ => false
def isRng : CI → Bool
  | .rng1 _ => true
  | .rng2 _ _ => true
  | _ => false
/-- how a source is told -/
def mdI : CI → Md
  | .seq e => md e
  | .enum e => md e
  | .zip a b => (md a).sup (md b)
  | .enumzip a b => (md a).sup (md b)
  | _ => .e
mutual
def okT (I : Inf) (sc : Scope) : CT → Expr → Bool
  | .name i, .Name x _ => decide (I.N[i]? = some x) && locB sc x
  | .tup ts, .Tuple xs _ _ => okTs I sc ts xs
  | _, _ => false
def okTs (I : Inf) (sc : Scope) : List CT → List Expr → Bool
  | [], [] => true
  | t :: ts, x :: xs => okT I sc t x && okTs I sc ts xs
  | _, _ => false
end
/-- the block's own names with their places -/
def ownOf (N : List Str) (vs : List Nat) : List (Str × Nat) := vs.filterMap fun i => (N[i]?).map fun x => (x, i)
mutual
def okE (I : Inf) (sc : Scope) : CE → Expr → Bool
  | .int i, x => (match x with
    | .Constant (.int j) _ _ => decide (i = j)
    | _ => false)
  | .str s, x => (match x with
    | .Constant (.str z) _ _ => decide (s = z) && decide (s.length ≤ line)
    | _ => false)
  | .bl b, x => (match x with
    | .Constant (.bool c) _ _ => b == c
    | _ => false)
  | .non, x => (match x with
    | .Constant .none _ _ => true
    | _ => false)
  | .var i, x => (match x with
    | .Name n _ => decide (I.N[i]? = some n) && visB sc n && nmB n
    | _ => false)
  | .own i, x => (match x with
    | .Name n _ => decide (I.N[i]? = some n) && visB sc n && nmB n
    | _ => false)
  | .glob k, x => (match x with
    | .Name n _ => decide (I.cons[k]? = some n) && glB sc n && nmB n
    | _ => false)
  | .flat e, x => okE I sc e x
  | .tup es, x => (match x with
    | .Tuple xs _ _ => okL I sc es xs && decide (es.length ≤ 1000)
    | _ => false)
  | .lst es, x => (match x with
    | .List xs _ => okL I sc es xs && decide (es.length ≤ 1000)
    | _ => false)
  | .bin op a b, x => (match x with
    | .BinOp y o z _ => decide (o = opOf op) && okE I sc a y && okE I sc b z
    | _ => false)
  | .neg a, x => (match x with
    | .UnaryOp .USub y _ => okE I sc a y
    | _ => false)
  | .not a, x => (match x with
    | .UnaryOp .Not y _ => okE I sc a y
    | _ => false)
  | .and a b, x => (match x with
    | .BoolOp .And [y, z] _ => okE I sc a y && okE I sc b z
    | .BoolOp .And (y :: z :: w :: r) p => okE I sc a y && okE I sc b (.BoolOp .And (z :: w :: r) p)
    | _ => false)
  | .or a b, x => (match x with
    | .BoolOp .Or [y, z] _ => okE I sc a y && okE I sc b z
    | .BoolOp .Or (y :: z :: w :: r) p => okE I sc a y && okE I sc b (.BoolOp .Or (z :: w :: r) p)
    | _ => false)
  | .cmp op a b, x => (match x with
    | .Compare y [o] [z] _ => decide (o = copOf op) && okE I sc a y && okE I sc b z && tame z
    | _ => false)
  | .chain op op' a b c, x => (match x with
    | .Compare y [o, o'] [z, w] _ => decide (o = copOf op) && decide (o' = copOf op') && okE I sc a y && okE I sc b z && okE I sc c w && le_t (md a) && le_t (md b) && le_t (md c) && tame w
    | _ => false)
  | .ife c a b, x => (match x with
    | .IfExp w y z _ => okE I sc c w && okE I sc a y && okE I sc b z
    | _ => false)
  | .idx a i, x => (match x with
    | .Subscript y z _ => okE I sc a y && okE I sc i z && tame z
    | _ => false)
  | .sl a lo hi, x => (match x with
    | .Subscript y (.Slice l h none _) _ => okE I sc a y && le_t (md a) && okO I sc lo l && okO I sc hi h
    | _ => false)
  | .rev a, x => (match x with
    | .Subscript y (.Slice none none (some (.UnaryOp .USub (.Constant (.int 1) _ _) _)) _) _ => okE I sc a y && le_t (md a)
    | _ => false)
  | .call k es, x => (match x with
    | .Call (.Name n _) (y :: ys) [] _ => decide (I.fns[k]? = some n) && glB sc n && nmB n && okL I sc es (y :: ys)
    | _ => false)
  | .f1 f a, x => (match x with
    | .Call (.Name n _) [y] [] _ => decide (n = Str.ofString (f1name f)) && decide (f ≠ .sortedset) && decide (f ≠ .lenset) && glB sc n && okE I sc a y && tame y
    | _ => false)
  | .f2 f a b, x => (match x with
    | .Call (.Name n _) [y, z] [] _ => decide (n = Str.ofString (f2name f)) && decide (f ≠ .index) && glB sc n && okE I sc a y && tame y && okE I sc b z && tame z
    | _ => false)
  | .isa a t, x => (match x with
    | .Call (.Name n _) [y, .Name z _] [] _ => decide (n = Str.ofString "isinstance") && decide (z = Str.ofString (tyName t)) && glB sc n && glB sc z && okE I sc a y && tame y
    | _ => false)
  | .col b it, x => (match x with
    | .Call (.Name n _) [y] [] _ => decide (n = Str.ofString (if b then "tuple" else "list")) && glB sc n && tame y && isRng it && okI I sc it x y
    | _ => false)
  | .dst b a, x => (match x with
    | .Call (.Name n _) [.Call (.Name m _) [y] [] _] [] _ => decide (n = Str.ofString (if b then "len" else "sorted")) && decide (m = Str.ofString "set") && glB sc n && glB sc m && tame y && le_t (md a) && okE I sc a y
    | _ => false)
  | .dc t it cs k e, x => (match x with
    | .DictComp kx vx [⟨tg, iter, ifs, 0⟩] scope _ => okI I sc it tg iter && le_t (mdI it) && tame iter && blkC I.N sc scope (ownOf I.N t.vars) && ((ownOf I.N t.vars).map (·.2) == t.vars) && okT I scope t tg && okC I scope cs ifs && okE I scope k kx && (md k == .e) && okE I scope e vx && (md e == .e)
    | _ => false)
  | .dnew, x => (match x with
    | .Dict [] [] _ => true
    | _ => false)
  | .disp1 k e, x => (match x with
    | .Dict [some z] [y] _ => okE I sc k z && (md k == .e) && okE I sc e y && (md e == .e)
    | _ => false)
  | .dget1 a k, x => (match x with
    | .Call (.Attribute (.Name n p) g apos) [z] [] cpos => decide (g = Str.ofString "get") && okE I sc a (.Name n p) && le_t (md a) && okE I sc k z && le_t (md k) && tame z && (apos.endLine == cpos.line)
    | _ => false)
  | .dget2 a k d, x => (match x with
    | .Call (.Attribute (.Name n p) g apos) [z, w] [] cpos => decide (g = Str.ofString "get") && okE I sc a (.Name n p) && le_t (md a) && okE I sc k z && le_t (md k) && tame z && okE I sc d w && (md d == .e) && tame w && (apos.endLine == cpos.line)
    | _ => false)
  | .ind a k, x => (match x with
    | .Call (.Attribute (.Name n p) g apos) [z] [] cpos => decide (g = Str.ofString "index") && okE I sc a (.Name n p) && le_t (md a) && okE I sc k z && le_t (md k) && tame z && (apos.endLine == cpos.line)
    | _ => false)
  | .dcx t it cs k e, x => (match x with
    | .DictComp kx vx [⟨tg, iter, ifs, 0⟩] scope _ => okI I sc it tg iter && le_t (mdI it) && tame iter && blkC I.N sc scope (ownOf I.N t.vars) && ((ownOf I.N t.vars).map (·.2) == t.vars) && okT I scope t tg && okC I scope cs ifs && okE I scope k kx && (md k == .e) && okE I scope e vx && (md e == .e)
    | _ => false)
  | .dnx, x => (match x with
    | .Dict [] [] _ => true
    | _ => false)
  | .disx k e, x => (match x with
    | .Dict [some z] [y] _ => okE I sc k z && (md k == .e) && okE I sc e y && (md e == .e)
    | _ => false)
  | .getx a k d, x => (match x with
    | .Call (.Attribute (.Name n p) g apos) [z, w] [] cpos => decide (g = Str.ofString "get") && okE I sc a (.Name n p) && le_t (md a) && okE I sc k z && le_t (md k) && tame z && okE I sc d w && (md d == .e) && tame w && (apos.endLine == cpos.line)
    | _ => false)
  | .lc t it cs e, x => (match x with
    | .ListComp elt [⟨tg, iter, ifs, 0⟩] scope _ => okI I sc it tg iter && le_t (mdI it) && tame iter && blkC I.N sc scope (ownOf I.N t.vars) && ((ownOf I.N t.vars).map (·.2) == t.vars) && okT I scope t tg && okC I scope cs ifs && okE I scope e elt && (md e == .e)
    | _ => false)
  | .lc2 t it cs t' it' cs' e, x => (match x with
    | .ListComp elt [⟨tg, iter, ifs, 0⟩, ⟨tg1, iter1, ifs1, 0⟩] scope _ => okI I sc it tg iter && le_t (mdI it) && tame iter && blkC I.N sc scope (ownOf I.N (t.vars ++ t'.vars)) && ((ownOf I.N (t.vars ++ t'.vars)).map (·.2) == t.vars ++ t'.vars) && okT I scope t tg && okC I scope cs ifs &&
        okI I scope it' tg1 iter1 && (mdI it' == .e) && tame iter1 && okT I scope t' tg1 && okC I scope cs' ifs1 && okE I scope e elt && (md e == .e)
    | _ => false)
def okL (I : Inf) (sc : Scope) : List CE → List Expr → Bool
  | [], [] => true
  | e :: es, x :: xs => okE I sc e x && tame x && okL I sc es xs
  | _, _ => false
def okO (I : Inf) (sc : Scope) : Option CE → Option Expr → Bool
  | none, none => true
  | some e, some x => okE I sc e x && le_t (md e) && tame x
  | _, _ => false
/-- tests: at most one -/
def okC (I : Inf) (sc : Scope) : List CE → List Expr → Bool
  | [], xs => xs.isEmpty
  | e :: es, xs => es.isEmpty && (match xs with
    | [x] => okE I sc e x
    | _ => false)
def okI (I : Inf) (sc : Scope) : CI → Expr → Expr → Bool
  | .seq e, _, x => okE I sc e x && le_t (md e)
  | .rng1 b, _, x => (match x with
    | .Call (.Name n _) [y] [] _ => decide (n = Str.ofString "range") && glB sc n && okE I sc b y && tame y
    | _ => false)
  | .rng2 a b, _, x => (match x with
    | .Call (.Name n _) [y, z] [] _ => decide (n = Str.ofString "range") && glB sc n && okE I sc a y && tame y && okE I sc b z && tame z
    | _ => false)
  | .rng3 a b st, _, x => (match x with
    | .Call (.Name n _) [y, z, .Constant (.int j) _ _] [] _ => decide (n = Str.ofString "range") && glB sc n && okE I sc a y && tame y && okE I sc b z && tame z && decide (j = st)
    | .Call (.Name n _) [y, z, .UnaryOp .USub (.Constant (.int j) _ _) _] [] _ => decide (n = Str.ofString "range") && glB sc n && okE I sc a y && tame y && okE I sc b z && tame z && decide (-j = st)
    | _ => false)
  | .enum e, tg, x => isTupE tg && (match x with
    | .Call (.Name n _) [y] [] _ => decide (n = Str.ofString "enumerate") && glB sc n && okE I sc e y && tame y && le_t (md e)
    | _ => false)
  | .zip a b, tg, x => isTupE tg && (match x with
    | .Call (.Name n _) [y, z] [] _ => decide (n = Str.ofString "zip") && glB sc n && okE I sc a y && tame y && okE I sc b z && tame z && le_t ((md a).sup (md b))
    | _ => false)
  | .enumzip _ _, _, _ => false
  | .keys e, _, x => okE I sc e x && (md e == .e)
end
theorem eqMd {a b : Md} (h : (a == b) = true) : a = b := by simpa using h
theorem starEach_tame {e : Expr} (h : tame e = true) (es : List Expr) (env : PySem.Env) : starEach (e :: es) env = (false, eval e env) :: starEach es env := by
  cases e <;> first | rfl | cases h
theorem sub_tame {e : Expr} (h : tame e = true) : PlainIx e := by
  cases e <;> first | exact (fun _ _ => rfl) | cases h
theorem behind_tame {e : Expr} (h : tame e = true) (op : CmpOp) : behindInMarks op e = false := by
  cases e <;> first | rfl | cases h
theorem folded_tame {e : Expr} (h : tame e = true) (env : PySem.Env) (x : Value) : foldedSetIterable e env x = pure x := by
  cases e <;> first | rfl | cases h
end Bw
end

section
set_option autoImplicit false
set_option linter.all false
/-! Bw N: each construct's reading by trees. -/
namespace Bw
open PySem L2
/-- what a def of the text is worth, by trees -/
def spT (K : Fr') (cls : Nat → Value) (n : Nat) (Φ : List SV → Res SV) : Sp := fun vs H Q E => ∃ ss R, vs.length = n ∧ Sub R H ∧ RpSs K R ss vs ∧
  (match Φ ss with
   | .ok r => ∀ v H' R', Grow H R H' R' → RpS K R' r v → Q v H'
   | .exc c => ∀ H' R', Grow H R H' R' → E (cls c) none H'
   | .bad => False)
/-- the name of an own class of errors that is called with a text -/
def ExcAt (K : Fr') (mg : Str → Option Value) (u : Value) (x : Str) : Prop := ∃ C, u = .ref C ∧ mg x = some (.ref C) ∧ PySem.W.keepIn K (.ref C) = true ∧ PySem.W.subIn K (.ref C) (.type "BaseException") = some true ∧
  PySem.W.typeIn K (.ref C) = some (.type "type") ∧ PySem.W.excIn K C [.type "ValueError", .type "Exception", .type "BaseException", .type "object"] "ValueError.__new__" = true
structure Cok (I : Inf) (G : Ctx) (F : Fr) (X : Cx) (sc : Scope) : Prop where
  hK : F.K = X.K
  hN : X.N = I.N
  nd : I.N.Nodup
  calm : X.calm = true
  un : X.A.units + 100 < cLine
  fnc : ∀ x, sc.names.lookup x = some .cell → X.fn x = true
  sc : ∀ x k, sc.names.lookup x = some k → X.env.scope.names.lookup x = some k ∨ (k = .free ∧ X.env.scope.names.lookup x = some .cell)
  bl : ∀ x ∈ builtins, X.mg (Str.ofString x) = none
  cons : ∀ (k : Nat) (x : Str) (s : SV), I.cons[k]? = some x → G.cons[k]? = some s → ∃ u v, X.mg x = some u ∧ RelV v u ∧ ∀ R, RpS X.K R s v
  fns : ∀ (k : Nat) (x : Str), I.fns[k]? = some x → ∃ f fd ps Φ l, G.fns[k]? = some Φ ∧ X.mg x = some (.ref f) ∧ PySem.W.keepIn X.K (.ref f) = true ∧ Binds X.K fd ps [] ∧ Room l X.A ∧
    (∀ ss, Φ ss ≠ .bad → ss.length = ps.length) ∧ FnOk X.prog X.w X.K X.mg X.base (L2.CX X.prog X.w) l f fd ps (spT X.K F.cls ps.length Φ)
  takes : Takes X F.W
  exs : ∀ (k : Nat) (x : Str), I.exs[k]? = some x → ExcAt X.K X.mg (F.cls k) x
  sub : ∀ (j k : Nat) (b : Bool), G.sub j k = some b → PySem.W.exmOne X.K (F.cls j) (F.cls k) = some b ∧ PySem.W.kitOne X.K (F.cls j) (F.cls k) = some b ∧ ∃ C, F.cls j = .ref C ∧ ExcC X.K C
section
variable {I : Inf} {G : Ctx} {F : Fr} {X : Cx} {sc : Scope} {pos : Pos}
theorem vis_of (C : Cok I G F X sc) {x : Str} (h : visB sc x = true) : Vis X.env.scope x := by
  unfold visB at h
  split at h
  · rcases C.sc _ _ (by assumption) with e | ⟨e, _⟩
    · exact .inl e
    · cases e
  · rcases C.sc _ _ (by assumption) with e | ⟨e, _⟩
    · exact .inr (.inl e)
    · cases e
  · rcases C.sc _ _ (by assumption) with e | ⟨_, e⟩
    · exact .inr (.inr e)
    · exact .inr (.inl e)
  · cases h
theorem gl_of (C : Cok I G F X sc) {x : Str} (h : glB sc x = true) : Gl X x := by
  unfold glB at h
  split at h
  · rcases C.sc _ _ (by assumption) with e | ⟨e, _⟩
    · exact e
    · cases e
  · cases h
theorem loc_of (C : Cok I G F X sc) {x : Str} (h : locB sc x = true) : Loc X.env.scope x := by
  unfold locB at h
  split at h
  · rcases C.sc _ _ (by assumption) with e | ⟨e, _⟩
    · exact .inl e
    · cases e
  · rcases C.sc _ _ (by assumption) with e | ⟨e, _⟩
    · exact .inr e
    · cases e
  · cases h
theorem nm_dest {x : Str} (h : nmB x = true) : (x == ("__debug__" : Str)) = false ∧ (x == ("__classdict__" : Str)) = false ∧ x ≠ "__name__" := by
  unfold nmB at h
  simp only [Bool.and_eq_true, Bool.not_eq_true'] at h
  refine ⟨h.1.1, h.1.2, fun e => ?_⟩
  have := h.2
  rw [e] at this
  simp at this
theorem peLe {e : Expr} {g : Gm → Res SV} {m m' : Md} (h : PE X e (Rd' F m g)) (l : m.le m' = true) : PE X e (Rd' F m' g) := peImp h fun σ H Q ⟨Γ, R, rel, p⟩ => by
  refine ⟨Γ, R, rel, ?_⟩
  cases e : g Γ with
  | ok s => rw [e] at p; exact fun v H' R' gr rv => p v H' R' gr (rv.le gr.sub l)
  | exc c => rw [e] at p; exact p
  | bad => rw [e] at p; exact p
theorem peEq {e : Expr} {g g' : Gm → Res SV} {m : Md} (h : PE X e (Rd' F m g)) (k : ∀ Γ, g' Γ = g Γ) : PE X e (Rd' F m g') := by
  have : g' = g := funext k
  rw [this]; exact h
/-! ### names, constants -/
theorem r_const {e : Expr} {v : V} {s : SV} (h : PE X e (tC v)) (k : ∀ R, RpS F.K R s v) : PE X e (Rd' F .e fun _ => .ok s) := peImp h fun σ H Q ⟨Γ, R, rel, p⟩ => Post.now rel.sub p (k R)
theorem r_var (C : Cok I G F X sc) {i : Nat} {x : Str} (h1 : I.N[i]? = some x) (h2 : visB sc x = true) (h3 : nmB x = true) : PE X (.Name x pos) (Rd' F .e (ev G (.var i))) := by
  refine peImp (pe_var (i := i) (by rw [C.hN]; exact h1) (vis_of C h2) (nm_dest h3).1 (nm_dest h3).2.1) fun σ H Q ⟨Γ, R, rel, p⟩ => ?_
  have p : Post F .e R σ H (match Γ[i]? with | some (.sh s) => .ok s | _ => .bad) Q := p
  split at p
  · rename_i s e
    obtain ⟨v, e1, r⟩ := rel.slot i s e
    exact ⟨v, e1, Post.now rel.sub p r⟩
  · exact p.elim
theorem r_own (C : Cok I G F X sc) {i : Nat} {x : Str} (h1 : I.N[i]? = some x) (h2 : visB sc x = true) (h3 : nmB x = true) : PE X (.Name x pos) (Rd' F .t (ev G (.own i))) := by
  refine peImp (pe_var (i := i) (by rw [C.hN]; exact h1) (vis_of C h2) (nm_dest h3).1 (nm_dest h3).2.1) fun σ H Q ⟨Γ, R, rel, p⟩ => ?_
  have p : Post F .t R σ H (match Γ[i]? with | some (.ow s) => .ok s | _ => .bad) Q := p
  split at p
  · rename_i s e
    obtain ⟨a, e2, e3, e6, e7⟩ := rel.own i s e
    exact ⟨.ref a, e2, Post.now rel.sub p (.inr ⟨a, rfl, e3, e7⟩)⟩
  · exact p.elim
theorem r_glob (C : Cok I G F X sc) {k : Nat} {x : Str} (h1 : I.cons[k]? = some x) (h2 : glB sc x = true) (h3 : nmB x = true) : PE X (.Name x pos) (Rd' F .e (ev G (.glob k))) := by
  cases e : G.cons[k]? with
  | none => exact ⟨fun pins s σ H Q I ⟨Γ, R, rel, p⟩ => by
      have p : Post F .e R σ H (match G.cons[k]? with | some s => .ok s | none => .bad) Q := p
      rw [e] at p; exact p.elim⟩
  | some s =>
    obtain ⟨u, v, e1, e2, e3⟩ := C.cons k x s h1 e
    refine peEq (r_const (pe_glob (gl_of C h2) e1 e2 (nm_dest h3).1) fun R => by rw [C.hK]; exact e3 R) fun Γ => ?_
    show (match G.cons[k]? with | some s => Res.ok s | none => .bad) = _
    rw [e]
/-! ### operators -/
/-- what grew from everything made here, hidden -/
theorem Grow.veil {H0 R H H' R' : Hp} (h : Sub R H) (g : Grow H (Rall H0 R H) H' R') : Grow H R H' R := ⟨g.same, .refl, h.trans g.same, fun _ _ => rfl⟩
theorem veil_sub {H0 R H H' R' : Hp} (h0 : Sub H0 H) (g : Grow H (Rall H0 R H) H' R') : Sub R' (Rall H0 R H') := fun a o e => by
  cases q : H0 a with
  | none => unfold Rall; rw [q]; exact g.sub _ _ e
  | some u =>
    have e2 := g.old a (by rw [h0 _ _ q]; simp)
    rw [e2] at e
    unfold Rall at e ⊢
    rw [q] at e ⊢
    exact e
theorem Post.all {R H : Hp} {σ : L2.St} {r : Res SV} {Q : VK} (h0 : Sub F.H0 H) (hs : Sub R H) (h : Post F .f R σ H r Q) : Post F .e (Rall F.H0 R H) σ H r Q := by
  cases r with
  | bad => exact h
  | exc c => exact fun H' R' g => h H' R (g.veil hs)
  | ok s => exact fun v H' R' g rv => h v H' R (g.veil hs) (RpS.mono (veil_sub h0 g) rv)
theorem op_cases (a b : Md) : (a.le .t = true ∧ b.le .t = true ∧ a.op b = .e) ∨ a.op b = .f := by cases a <;> cases b <;> simp [Md.op, Md.le]
/-- two operands in a row -/
theorem rd_two {ga gb : Gm → Res SV} {op : SV → SV → Res SV} {K : V → V → Hp → VK → Prop}
    (hr : ∀ x y s t R σ H Q, Sub R H → Rm F R H .t s x → Rm F R H .t t y → Post F .e R σ H (op s t) Q → K x y H Q) {σ : L2.St} {H : Hp} {Q : VK} (h : Rd' F .e (fun Γ => (ga Γ).bind fun x => (gb Γ).bind fun y => op x y) σ H Q) :
    Rd' F .t ga σ H fun x H1 => Rd' F .t gb σ H1 fun y H2 => K x y H2 Q := by
  obtain ⟨Γ, R, rel, p⟩ := h
  refine ⟨Γ, R, rel, (Post.bind (m := .t) rel.sub p).mono fun x H1 ⟨s, R1, _, g1, rx, p1⟩ => ?_⟩
  exact ⟨Γ, R1, rel.grow g1, (Post.bind (m := .t) g1.sub p1).mono fun y H2 ⟨t, R2, _, g2, ry, p2⟩ => hr _ _ s t R2 σ _ _ g2.sub (rx.grow g2) ry p2⟩
theorem rd_twoF {ga gb : Gm → Res SV} {op : SV → SV → Res SV} {K : V → V → Hp → VK → Prop}
    (hr : ∀ x y s t R σ H Q, Sub R H → Rm F R H .t s x → Rm F R H .t t y → Post F .e R σ H (op s t) Q → K x y H Q) {σ : L2.St} {H : Hp} {Q : VK} (h : Rd' F .f (fun Γ => (ga Γ).bind fun x => (gb Γ).bind fun y => op x y) σ H Q) :
    Rd' F .f ga σ H fun x H1 => Rd' F .f gb σ H1 fun y H2 => K x y H2 Q := by
  obtain ⟨Γ, R, rel, p⟩ := h
  refine ⟨Γ, R, rel, (Post.bind (m := .f) rel.sub p).mono fun x H1 ⟨s, R1, _, g1, rx, p1⟩ => ?_⟩
  exact ⟨Γ, R1, rel.grow g1, (Post.bind (m := .f) g1.sub p1).mono fun y H2 ⟨t, R2, _, g2, ry, p2⟩ => hr _ _ s t (Rall F.H0 R2 H2) σ _ _ (Rall.sub g2.sub) (.inl (rx.grow g2)) (.inl ry) (p2.all ((rel.same.trans g1.same).trans g2.same) g2.sub)⟩
theorem le_f (m : Md) : m.le .f = true := by cases m <;> rfl
theorem r_twoG {a b e : Expr} {ga gb : Gm → Res SV} {op : SV → SV → Res SV} {ma mb : Md} {K : V → V → Hp → VK → Prop} (ha : PE X a (Rd' F ma ga)) (hb : PE X b (Rd' F mb gb))
    (mk : ∀ {ta tb : TE}, PE X a ta → PE X b tb → PE X e (fun σ H Q => ta σ H fun x H1 => tb σ H1 fun y H2 => K x y H2 Q))
    (hr : ∀ x y s t R σ H Q, Sub R H → Rm F R H .t s x → Rm F R H .t t y → Post F .e R σ H (op s t) Q → K x y H Q) : PE X e (Rd' F (ma.op mb) fun Γ => (ga Γ).bind fun x => (gb Γ).bind fun y => op x y) := by
  rcases op_cases ma mb with ⟨la, lb, e1⟩ | e1
  · rw [e1]
    exact peImp (mk (peLe ha la) (peLe hb lb)) fun σ H Q h => rd_two hr h
  · rw [e1]
    exact peImp (mk (peLe ha (le_f _)) (peLe hb (le_f _))) fun σ H Q h => rd_twoF hr h
theorem r_two {a b e : Expr} {ga gb : Gm → Res SV} {op : SV → SV → Res SV} {ma mb : Md} {r : R2} (ha : PE X a (Rd' F ma ga)) (hb : PE X b (Rd' F mb gb))
    (mk : ∀ {ta tb : TE}, PE X a ta → PE X b tb → PE X e (tOp r ta tb))
    (hr : ∀ x y H Q, rB F .e op x y H Q → r x y H Q) : PE X e (Rd' F (ma.op mb) fun Γ => (ga Γ).bind fun x => (gb Γ).bind fun y => op x y) :=
  r_twoG (K := r) ha hb mk fun x y s t R σ H Q hs rx ry p => hr _ _ _ _ ⟨s, t, R, σ, hs, rx, ry, p⟩
theorem r_one {a e : Expr} {ga : Gm → Res SV} {op : SV → Res SV} {m : Md} {K : V → Hp → VK → Prop} (ha : PE X a (Rd' F m ga))
    (mk : ∀ {ta : TE}, PE X a ta → PE X e (fun σ H Q => ta σ H fun x H1 => K x H1 Q))
    (hr : ∀ x s R σ H Q, Sub R H → Rm F R H .t s x → Post F .e R σ H (op s) Q → K x H Q) : PE X e (Rd' F m.op1 fun Γ => (ga Γ).bind fun x => op x) := by
  have go : ∀ (l : m.le .t = true), PE X e (Rd' F .e fun Γ => (ga Γ).bind fun x => op x) := fun l => peImp (mk (peLe ha l)) fun σ H Q ⟨Γ, R, rel, p⟩ =>
    ⟨Γ, R, rel, (Post.bind (m := .t) rel.sub p).mono fun x H1 ⟨s, R1, _, g1, rx, p1⟩ => hr _ s R1 σ _ _ g1.sub rx p1⟩
  cases m with
  | e => exact go rfl
  | t => exact go rfl
  | f => exact peImp (mk ha) fun σ H Q ⟨Γ, R, rel, p⟩ =>
    ⟨Γ, R, rel, (Post.bind (m := .f) rel.sub p).mono fun x H1 ⟨s, R1, _, g1, rx, p1⟩ => hr _ s (Rall F.H0 R1 H1) σ _ _ (Rall.sub g1.sub) (.inl rx) (p1.all (rel.same.trans g1.same) g1.sub)⟩
theorem r_bin (C : Cok I G F X sc) {a b : Expr} {ga gb : Gm → Res SV} {ma mb : Md} (op : BOp) (ha : PE X a (Rd' F ma ga)) (hb : PE X b (Rd' F mb gb)) :
    PE X (.BinOp a (opOf op) b pos) (Rd' F (ma.op mb) fun Γ => (ga Γ).bind fun x => (gb Γ).bind fun y => binop op x y) :=
  r_two ha hb (pe_op (op_bin C.hK op)) fun _ _ _ _ h => h
theorem r_cmp (C : Cok I G F X sc) {a b : Expr} {ga gb : Gm → Res SV} {ma mb : Md} (op : COp) (ht : tame b = true) (ha : PE X a (Rd' F ma ga)) (hb : PE X b (Rd' F mb gb)) :
    PE X (.Compare a [copOf op] [b] pos) (Rd' F (ma.op mb) fun Γ => (ga Γ).bind fun x => (gb Γ).bind fun y => (cmpop op x y).bind fun c => .ok (.d (.bl c))) :=
  r_two ha hb (fun ha hb => pe_cmpR (op_cmp C.hK C.un op) ha hb (behind_tame ht _)) fun _ _ _ _ h => h
theorem r_idx (C : Cok I G F X sc) {a b : Expr} {ga gb : Gm → Res SV} {ma mb : Md} (ht : tame b = true) (ha : PE X a (Rd' F ma ga)) (hb : PE X b (Rd' F mb gb)) :
    PE X (.Subscript a b pos) (Rd' F (ma.op mb) fun Γ => (ga Γ).bind fun x => (gb Γ).bind fun y => idxop x y) :=
  r_two ha hb (fun ha hb => pe_ix (ix_op C.hK (by have := C.un; omega)) ha hb (sub_tame ht)) fun _ _ _ _ h => h
theorem post_int {s : SV} {g : Int → Res SV} {Q : VK} {m : Md} {R H : Hp} {σ : L2.St} (h : Post F m R σ H ((isInt? s).bind g) Q) : ∃ i, s = .d (.int i) ∧ Post F m R σ H (g i) Q := by
  cases s with
  | d p => cases p <;> first | exact h.elim | exact ⟨_, rfl, h⟩
  | _ => exact h.elim
theorem post_bl {s : SV} {g : Bool → Res SV} {Q : VK} {m : Md} {R H : Hp} {σ : L2.St} (h : Post F m R σ H ((isBl? s).bind g) Q) : ∃ i, s = .d (.bl i) ∧ Post F m R σ H (g i) Q := by
  cases s with
  | d p => cases p <;> first | exact h.elim | exact ⟨_, rfl, h⟩
  | _ => exact h.elim
theorem Rm.fint {R H : Hp} {i : Int} {x : V} {m : Md} (r : Rm F R H m (.d (.int i)) x) : x = .int i := by
  cases m with
  | e => exact r
  | f => exact r
  | t =>
    rcases r with r | ⟨a, _, e, _⟩
    · exact r
    · exact e.elim
theorem Rm.fbl {R H : Hp} {i : Bool} {x : V} {m : Md} (r : Rm F R H m (.d (.bl i)) x) : x = .bl i := by
  cases m with
  | e => exact r
  | f => exact r
  | t =>
    rcases r with r | ⟨a, _, e, _⟩
    · exact r
    · exact e.elim
theorem Rm.sbl {R H : Hp} {i : Bool} {m : Md} : Rm F R H m (.d (.bl i)) (.bl i) := by
  cases m with
  | e => exact rfl
  | f => exact rfl
  | t => exact .inl rfl
theorem r_neg (C : Cok I G F X sc) {a : Expr} {ga : Gm → Res SV} {ma : Md} (ha : PE X a (Rd' F ma ga)) :
    PE X (.UnaryOp .USub a pos) (Rd' F .e fun Γ => (ga Γ).bind fun x => (isInt? x).bind fun i => .ok (.d (.int (-i)))) :=
  peImp (pe_un un_neg ha) fun σ H Q ⟨Γ, R, rel, p⟩ => by
    refine ⟨Γ, R, rel, (Post.bind (m := ma) rel.sub p).mono fun x H1 ⟨s, R1, _, g1, rx, p1⟩ => ?_⟩
    obtain ⟨i, rfl, p2⟩ := post_int p1
    obtain rfl := rx.fint
    exact ⟨i, rfl, Post.now g1.sub p2 rfl⟩
theorem r_not (C : Cok I G F X sc) {a : Expr} {ga : Gm → Res SV} {ma : Md} (ha : PE X a (Rd' F ma ga)) :
    PE X (.UnaryOp .Not a pos) (Rd' F .e fun Γ => (ga Γ).bind fun x => (isBl? x).bind fun b => .ok (.d (.bl (!b)))) :=
  peImp (pe_not ha) fun σ H Q ⟨Γ, R, rel, p⟩ => by
    refine ⟨Γ, R, rel, (Post.bind (m := ma) rel.sub p).mono fun x H1 ⟨s, R1, _, g1, rx, p1⟩ => ?_⟩
    obtain ⟨i, rfl, p2⟩ := post_bl p1
    obtain rfl := rx.fbl
    exact ⟨i, rfl, Post.now g1.sub p2 rfl⟩
theorem r_and (C : Cok I G F X sc) {a b : Expr} {r : List Expr} {ga gb : Gm → Res SV} {ma mb : Md} (ha : PE X a (Rd' F ma ga)) (hb : PE X (.BoolOp .And (b :: r) pos) (Rd' F mb gb)) :
    PE X (.BoolOp .And (a :: b :: r) pos) (Rd' F mb fun Γ => (ga Γ).bind fun x => (isBl? x).bind fun c => if c then gb Γ else .ok (.d (.bl false))) :=
  peImp (pe_and ha hb) fun σ H Q ⟨Γ, R, rel, p⟩ => by
    refine ⟨Γ, R, rel, (Post.bind (m := ma) rel.sub p).mono fun x H1 ⟨s, R1, _, g1, rx, p1⟩ => ?_⟩
    obtain ⟨i, rfl, p2⟩ := post_bl p1
    obtain rfl := rx.fbl
    refine ⟨i, rfl, ?_⟩
    cases i with
    | true => exact ⟨Γ, R1, rel.grow g1, p2⟩
    | false => exact Post.now g1.sub p2 .sbl
theorem r_or (C : Cok I G F X sc) {a b : Expr} {r : List Expr} {ga gb : Gm → Res SV} {ma mb : Md} (ha : PE X a (Rd' F ma ga)) (hb : PE X (.BoolOp .Or (b :: r) pos) (Rd' F mb gb)) :
    PE X (.BoolOp .Or (a :: b :: r) pos) (Rd' F mb fun Γ => (ga Γ).bind fun x => (isBl? x).bind fun c => if c then .ok (.d (.bl true)) else gb Γ) :=
  peImp (pe_or ha hb) fun σ H Q ⟨Γ, R, rel, p⟩ => by
    refine ⟨Γ, R, rel, (Post.bind (m := ma) rel.sub p).mono fun x H1 ⟨s, R1, _, g1, rx, p1⟩ => ?_⟩
    obtain ⟨i, rfl, p2⟩ := post_bl p1
    obtain rfl := rx.fbl
    refine ⟨i, rfl, ?_⟩
    cases i with
    | false => exact ⟨Γ, R1, rel.grow g1, p2⟩
    | true => exact Post.now g1.sub p2 .sbl
theorem rd_chain {ga gb gc : Gm → Res SV} (op op' : COp) {σ : L2.St} {H : Hp} {Q : VK}
    (h : Rd' F .e (fun Γ => (ga Γ).bind fun x => (gb Γ).bind fun y => (cmpop op x y).bind fun r =>
      if r then (gc Γ).bind fun z => (cmpop op' y z).bind fun r' => .ok (.d (.bl r')) else .ok (.d (.bl false))) σ H Q) : tChain (rC F op) (rC F op') (Rd' F .t ga) (Rd' F .t gb) (Rd' F .t gc) σ H Q := by
  obtain ⟨Γ, R, rel, p⟩ := h
  refine ⟨Γ, R, rel, (Post.bind (m := .t) rel.sub p).mono fun x H1 ⟨s, R1, _, g1, rx, p1⟩ => ?_⟩
  refine ⟨Γ, R1, rel.grow g1, (Post.bind (m := .t) g1.sub p1).mono fun y H2 ⟨t, R2, _, g2, ry, p2⟩ => ?_⟩
  have rel2 := (rel.grow g1).grow g2
  refine ⟨s, t, R2, σ, g2.sub, rx.grow g2, ry, ?_⟩
  show Post F .e R2 σ H2 ((cmpop op s t).bind fun c => .ok (.d (.bl c))) _
  cases e : cmpop op s t with
  | bad => rw [e] at p2; exact p2.elim
  | exc k => rw [e] at p2; exact p2
  | ok r =>
    rw [e] at p2
    intro v H3 R3 g3 (rv : v = .bl r)
    subst rv
    refine ⟨r, rfl, ?_⟩
    cases r with
    | false =>
      have p3 : Post F .e R2 σ H2 (.ok (.d (.bl false))) Q := p2
      exact Post.now g3.sub (p3.grow g3) rfl
    | true =>
      have p3 : Post F .e R2 σ H2 ((gc Γ).bind fun z => (cmpop op' t z).bind fun r' => .ok (.d (.bl r'))) Q := p2
      have p3 := p3.grow g3
      refine ⟨Γ, R3, rel2.grow g3, (Post.bind (m := .t) g3.sub p3).mono fun z H4 ⟨u, R4, _, g4, rz, p4⟩ => ⟨t, u, R4, σ, g4.sub, (ry.grow g3).grow g4, rz, p4⟩⟩
theorem r_chain (C : Cok I G F X sc) {a b c : Expr} {ga gb gc : Gm → Res SV} {ma mb mc : Md} (op op' : COp) (la : ma.le .t = true) (lb : mb.le .t = true) (lc : mc.le .t = true) (ht : tame c = true)
    (ha : PE X a (Rd' F ma ga)) (hb : PE X b (Rd' F mb gb)) (hc : PE X c (Rd' F mc gc)) :
    PE X (.Compare a [copOf op, copOf op'] [b, c] pos) (Rd' F .e fun Γ => (ga Γ).bind fun x => (gb Γ).bind fun y => (cmpop op x y).bind fun r =>
      if r then (gc Γ).bind fun z => (cmpop op' y z).bind fun r' => .ok (.d (.bl r')) else .ok (.d (.bl false))) := by
  exact peImp (pe_chain (op_cmp C.hK C.un op) (op_cmp C.hK C.un op') (peLe ha la) (peLe hb lb) (peLe hc lc) (behind_tame ht _)) fun σ H Q h => rd_chain op op' h
theorem flat_cases (s : SV) : flat? s = .bad ∨ (flat? s = .ok s ∧ ∀ (R R' : Hp) (v : V), RpS F.K R s v → RpS F.K R' s v) := by
  cases s with
  | d q =>
    cases q
    · exact .inr ⟨rfl, fun _ _ _ r => r⟩
    · exact .inr ⟨rfl, fun _ _ _ r => r⟩
    · exact .inr ⟨rfl, fun _ _ _ r => r⟩
    · exact .inr ⟨rfl, fun _ _ _ r => r⟩
    · exact .inl rfl
    · exact .inl rfl
  | _ => exact .inl rfl
theorem r_flat {a : Expr} {ga : Gm → Res SV} {m : Md} (ha : PE X a (Rd' F m ga)) : PE X a (Rd' F .e fun Γ => (ga Γ).bind flat?) :=
  peImp (peLe ha (le_f m)) fun σ H Q ⟨Γ, R, rel, p⟩ => ⟨Γ, R, rel, (Post.bind (m := .f) rel.sub p).mono fun x H1 ⟨s, R1, _, g1, rx, p1⟩ => by
    rcases flat_cases (F := F) s with e | ⟨e, k⟩
    · rw [e] at p1; exact p1.elim
    · rw [e] at p1; exact Post.now g1.sub p1 (k _ _ _ rx)⟩
theorem bl_flat (r : Res SV) : ((r.bind flat?).bind isBl?) = r.bind isBl? := by
  cases r with
  | bad => rfl
  | exc c => rfl
  | ok s =>
    cases s with
    | d q => cases q <;> rfl
    | _ => rfl
/-! ### tests -/
theorem ptB {e : Expr} {m : Md} {g : Gm → Res SV} (h : PE X e (Rd' F m g)) (he : ∀ whole, isTrue e X.env whole = (do let v ← whole; standAt e.pos; holding [v] (truthy v))) : PT X e (RdB F fun Γ => (g Γ).bind isBl?) := by
  refine ptImp (pt_val h he) fun σ H Q ⟨Γ, R, rel, p⟩ => ⟨Γ, R, rel, ?_⟩
  have p : PostB F R σ H ((g Γ).bind isBl?) Q := p
  cases e : g Γ with
  | bad => rw [e] at p; exact p.elim
  | exc c => rw [e] at p; exact p
  | ok s =>
    rw [e] at p
    intro v H' R' gr rv
    have p : PostB F R σ H (isBl? s) Q := p
    cases s with
    | d q =>
      cases q <;> first | exact p.elim | skip
      exact ⟨_, rv.fbl, p H' R' gr⟩
    | _ => exact p.elim
theorem tB_of {e : Expr} {m : Md} {g : Gm → Res SV} {t : TE} (hpt : PT X e (tB t)) (ht : ∀ σ H Q, Rd' F m g σ H Q → t σ H Q) : PT X e (RdB F fun Γ => (g Γ).bind isBl?) := by
  refine ptImp hpt fun σ H Q ⟨Γ, R, rel, p⟩ => ht _ _ _ ⟨Γ, R, rel, ?_⟩
  have p : PostB F R σ H ((g Γ).bind isBl?) Q := p
  cases e : g Γ with
  | bad => rw [e] at p; exact p.elim
  | exc c => rw [e] at p; exact p
  | ok s =>
    rw [e] at p
    intro v H' R' gr rv
    have p : PostB F R σ H (isBl? s) Q := p
    cases s with
    | d q =>
      cases q <;> first | exact p.elim | skip
      exact ⟨_, rv.fbl, p H' R' gr⟩
    | _ => exact p.elim
theorem t_cmp (C : Cok I G F X sc) {a b : Expr} {ga gb : Gm → Res SV} {ma mb : Md} (op : COp) (ht : tame b = true) (ha : PE X a (Rd' F ma ga)) (hb : PE X b (Rd' F mb gb)) :
    PT X (.Compare a [copOf op] [b] pos) (RdB F fun Γ => ((ga Γ).bind fun x => (gb Γ).bind fun y => (cmpop op x y).bind fun c => .ok (.d (.bl c))).bind isBl?) := by
  have hr : ∀ x y s t R σ H Q, Sub R H → Rm F R H .t s x → Rm F R H .t t y → Post F .e R σ H ((cmpop op s t).bind fun c => .ok (.d (.bl c))) Q → rC F op x y H Q := fun x y s t R σ H Q hs rx ry p => ⟨s, t, R, σ, hs, rx, ry, p⟩
  rcases op_cases ma mb with ⟨la, lb, e1⟩ | e1
  · exact tB_of (m := .e) (pt_cmpR (op_cmp C.hK C.un op) (peLe ha la) (peLe hb lb) (behind_tame ht _)) fun σ H Q h => rd_two hr h
  · exact tB_of (m := .f) (pt_cmpR (op_cmp C.hK C.un op) (peLe ha (le_f _)) (peLe hb (le_f _)) (behind_tame ht _)) fun σ H Q h => rd_twoF hr h
theorem t_chain (C : Cok I G F X sc) {a b c : Expr} {ga gb gc : Gm → Res SV} {ma mb mc : Md} (op op' : COp) (la : ma.le .t = true) (lb : mb.le .t = true) (lc : mc.le .t = true) (ht : tame c = true)
    (ha : PE X a (Rd' F ma ga)) (hb : PE X b (Rd' F mb gb)) (hc : PE X c (Rd' F mc gc)) :
    PT X (.Compare a [copOf op, copOf op'] [b, c] pos) (RdB F fun Γ => ((ga Γ).bind fun x => (gb Γ).bind fun y => (cmpop op x y).bind fun r =>
      if r then (gc Γ).bind fun z => (cmpop op' y z).bind fun r' => .ok (.d (.bl r')) else .ok (.d (.bl false))).bind isBl?) :=
  tB_of (m := .e) (pt_chain (op_cmp C.hK C.un op) (op_cmp C.hK C.un op') (peLe ha la) (peLe hb lb) (peLe hc lc) (behind_tame ht _)) fun σ H Q h => rd_chain op op' h
/-- a test, then what hangs on it -/
theorem PostB.bind {R H : Hp} {σ : L2.St} {r : Res SV} {f : Bool → Res SV} {Q : Bool → Hp → Prop} (hs : Sub R H) (h : PostB F R σ H ((r.bind fun x => (isBl? x).bind f).bind isBl?) Q) :
    PostB F R σ H (r.bind isBl?) (fun c H1 => ∃ R1, Grow H R H1 R1 ∧ PostB F R1 σ H1 ((f c).bind isBl?) Q) := by
  cases r with
  | bad => exact h
  | exc c => exact h
  | ok s =>
    have h : PostB F R σ H (((isBl? s).bind f).bind isBl?) Q := h
    show PostB F R σ H (isBl? s) _
    cases s with
    | d q =>
      cases q <;> first | exact h.elim | skip
      exact fun H1 R1 g => ⟨R1, g, PostB.grow (r := (f _).bind isBl?) h g⟩
    | _ => exact h.elim
theorem PostB.mono {R H : Hp} {σ : L2.St} {r : Res Bool} {Q Q' : Bool → Hp → Prop} (h : PostB F R σ H r Q) (k : ∀ b H', Q b H' → Q' b H') : PostB F R σ H r Q' := by
  cases r with
  | bad => exact h
  | exc c => exact h
  | ok b => exact fun H' R' g => k _ _ (h H' R' g)
theorem t_not {a : Expr} {ga : Gm → Res SV} (ha : PT X a (RdB F fun Γ => (ga Γ).bind isBl?)) :
    PT X (.UnaryOp .Not a pos) (RdB F fun Γ => ((ga Γ).bind fun x => (isBl? x).bind fun b => .ok (.d (.bl (!b)))).bind isBl?) :=
  ptImp (pt_not ha) fun σ H Q ⟨Γ, R, rel, p⟩ => ⟨Γ, R, rel, (PostB.bind (f := fun b => .ok (.d (.bl (!b)))) rel.sub p).mono fun c H1 ⟨R1, g1, q⟩ => q H1 R1 (.refl g1.sub)⟩
/-- the region that goes with a test's end is lost in TT; it is told again -/
theorem PostB.bind' {R H : Hp} {σ : L2.St} {r : Res Bool} {f : Bool → Res Bool} {Q : Bool → Hp → Prop} (h : PostB F R σ H (r.bind f) Q) : PostB F R σ H r (fun c H1 => ∃ R1, Grow H R H1 R1 ∧ PostB F R1 σ H1 (f c) Q) := by
  cases r with
  | bad => exact h
  | exc c => exact h
  | ok b => exact fun H1 R1 g => ⟨R1, g, PostB.grow (r := f b) h g⟩
theorem bl_and (ra : Res SV) (rb : Res SV) : ((ra.bind fun x => (isBl? x).bind fun c => if c then rb else .ok (.d (.bl false))).bind isBl?) = ((ra.bind isBl?).bind fun c => if c then rb.bind isBl? else .ok false) := by
  cases ra with
  | bad => rfl
  | exc c => rfl
  | ok s =>
    cases s with
    | d q =>
      cases q <;> first | rfl | skip
      rename_i b
      cases b <;> rfl
    | _ => rfl
theorem bl_or (ra : Res SV) (rb : Res SV) : ((ra.bind fun x => (isBl? x).bind fun c => if c then .ok (.d (.bl true)) else rb).bind isBl?) = ((ra.bind isBl?).bind fun c => if c then .ok true else rb.bind isBl?) := by
  cases ra with
  | bad => rfl
  | exc c => rfl
  | ok s =>
    cases s with
    | d q =>
      cases q <;> first | rfl | skip
      rename_i b
      cases b <;> rfl
    | _ => rfl
theorem bl_ife (rc ra rb : Res SV) : ((rc.bind fun x => (isBl? x).bind fun c => if c then ra else rb).bind isBl?) = ((rc.bind isBl?).bind fun c => if c then ra.bind isBl? else rb.bind isBl?) := by
  cases rc with
  | bad => rfl
  | exc c => rfl
  | ok s =>
    cases s with
    | d q =>
      cases q <;> first | rfl | skip
      rename_i b
      cases b <;> rfl
    | _ => rfl
theorem w_and {a b : Expr} {r : List Expr} {ga gb : Gm → Res Bool} (ha : PT X a (RdB F ga)) (hb : PW X (.BoolOp .And (b :: r) pos) (RdB F gb)) : PW X (.BoolOp .And (a :: b :: r) pos) (RdB F fun Γ => (ga Γ).bind fun c => if c then gb Γ else .ok false) :=
  ⟨fun wh pins s σ H Q I ⟨Γ, R, rel, p⟩ => (pw_and ha hb).run wh pins s σ H Q I ⟨Γ, R, rel, (PostB.bind' p).mono fun c H1 ⟨R1, g1, q⟩ => by
    cases c with
    | true => exact ⟨Γ, R1, rel.grow g1, q⟩
    | false => exact q H1 R1 (.refl g1.sub)⟩⟩
theorem w_or {a b : Expr} {r : List Expr} {ga gb : Gm → Res Bool} (ha : PT X a (RdB F ga)) (hb : PW X (.BoolOp .Or (b :: r) pos) (RdB F gb)) : PW X (.BoolOp .Or (a :: b :: r) pos) (RdB F fun Γ => (ga Γ).bind fun c => if c then .ok true else gb Γ) :=
  ⟨fun wh pins s σ H Q I ⟨Γ, R, rel, p⟩ => (pw_or ha hb).run wh pins s σ H Q I ⟨Γ, R, rel, (PostB.bind' p).mono fun c H1 ⟨R1, g1, q⟩ => by
    cases c with
    | false => exact ⟨Γ, R1, rel.grow g1, q⟩
    | true => exact q H1 R1 (.refl g1.sub)⟩⟩
theorem PW.of {op : BoolOp} {es : List Expr} {t : TT} (h : PT X (.BoolOp op es pos) t) : PW X (.BoolOp op es pos) t := ⟨fun _ pins s σ H Q I q => h.run pins s σ H Q I q⟩
theorem t_ife {z x y : Expr} {gc ga gb : Gm → Res Bool} (hc : PT X z (RdB F gc)) (ha : PT X x (RdB F ga)) (hb : PT X y (RdB F gb)) : PT X (.IfExp z x y pos) (RdB F fun Γ => (gc Γ).bind fun c => if c then ga Γ else gb Γ) :=
  ⟨fun pins s σ H Q I ⟨Γ, R, rel, p⟩ => by
    show wpAny _ _ (PySem.isTrue z X.env (eval z X.env) >>= fun c => if c = true then PySem.isTrue x X.env (eval x X.env) else PySem.isTrue y X.env (eval y X.env)) _ _ s
    refine wpAny_bind (thn (hc.run pins s σ H (fun c H1 => ∃ R1, Grow H R H1 R1 ∧ PostB F R1 σ H1 (if c then ga Γ else gb Γ) Q) I ⟨Γ, R, rel, PostB.bind' p⟩) fun c s1 ⟨H1, I1, R1, g1, q⟩ => ?_)
    cases c with
    | true => exact ha.run pins s1 σ H1 Q I1 ⟨Γ, R1, rel.grow g1, q⟩
    | false => exact hb.run pins s1 σ H1 Q I1 ⟨Γ, R1, rel.grow g1, q⟩⟩
end
end Bw
end

section
set_option autoImplicit false
set_option linter.all false
/-! Bw O: readings, continued: lists of arguments, calls, tests. -/
namespace Bw
open PySem L2
section
variable {I : Inf} {G : Ctx} {F : Fr} {X : Cx} {sc : Scope} {pos : Pos}
theorem md_e (m : Md) : Md.le .e m = true := by cases m <;> rfl
theorem md_f (m : Md) : m.le .f = true := by cases m <;> rfl
theorem sup_l (a b : Md) : a.le (a.sup b) = true := by cases a <;> cases b <;> rfl
theorem sup_r (a b : Md) : b.le (a.sup b) = true := by cases a <;> cases b <;> rfl
theorem Rms.le {R H : Hp} (h : Sub R H) {m m' : Md} (l : m.le m' = true) : ∀ {s : List SV} {v : List V}, Rms F R H m s v → Rms F R H m' s v
  | [], _, r => r
  | _ :: _, _, ⟨v, ws, e, r, rs⟩ => ⟨v, ws, e, r.le h l, Rms.le h l rs⟩
theorem paLe {e : List Expr} {g : Gm → Res (List SV)} {m m' : Md} (h : PA X e (RdL F m g)) (l : m.le m' = true) : PA X e (RdL F m' g) := paImp h fun σ H Q ⟨Γ, R, rel, p⟩ => by
  refine ⟨Γ, R, rel, ?_⟩
  cases e : g Γ with
  | ok s => rw [e] at p; exact fun v H' R' gr rv => p v H' R' gr (rv.le gr.sub l)
  | exc c => rw [e] at p; exact p
  | bad => rw [e] at p; exact p
theorem pl_nil : PA X [] (RdL F .e (evL G [])) := paImp pa_nil fun σ H Q ⟨Γ, R, rel, p⟩ => p [] H R (.refl rel.sub) rfl
theorem pl_cons {a : CE} {as : List CE} {x : Expr} {xs : List Expr} {m m' : Md} (ht : tame x = true) (ha : PE X x (Rd' F m (ev G a))) (hr : PA X xs (RdL F m' (evL G as))) : PA X (x :: xs) (RdL F (m.sup m') (evL G (a :: as))) := by
  refine paImp (pa_cons (peLe ha (sup_l m m')) (paLe hr (sup_r m m')) (starEach_tame ht _ _)) fun σ H Q ⟨Γ, R, rel, p⟩ => ⟨Γ, R, rel, ?_⟩
  have p : PostL F (m.sup m') R σ H ((ev G a Γ).bind fun x => (evL G as Γ).bind fun xs => .ok (x :: xs)) Q := p
  cases e : ev G a Γ with
  | bad => rw [e] at p; exact p.elim
  | exc c => rw [e] at p; exact p
  | ok s =>
    rw [e] at p
    intro v H1 R1 g1 rv
    refine ⟨Γ, R1, rel.grow g1, ?_⟩
    have p : PostL F (m.sup m') R σ H ((evL G as Γ).bind fun xs => .ok (s :: xs)) Q := p
    have p := p.grow g1
    cases e2 : evL G as Γ with
    | bad => rw [e2] at p; exact p.elim
    | exc c => rw [e2] at p; exact p
    | ok ss =>
      rw [e2] at p
      intro vs H2 R2 g2 rvs
      exact p _ H2 R2 g2 ⟨v, vs, rfl, rv.grow g2, rvs⟩
theorem plain_tame : ∀ {es : List Expr} {env : PySem.Env} {pos : Pos}, es.all tame = true → (backTo pos (starEach es env)).any (·.1) = false := by
  intro es env pos h
  induction es with
  | nil => rfl
  | cons e es ih =>
    simp only [List.all_cons, Bool.and_eq_true] at h
    rw [starEach_tame h.1]
    show (false || _) = false
    exact ih h.2
theorem rms_data {R H : Hp} : ∀ {ss : List SV} {vs : List V} {ps : List PV}, Rms F R H .e ss vs → datas? ss = .ok ps → RpL F.K R ps vs
  | [], _, ps, r, h => by
    rw [show _ = [] from r]
    obtain rfl : ps = [] := by cases h; rfl
    exact rfl
  | s :: ss, _, ps, ⟨v, ws, e, r, rs⟩, h => by
    subst e
    have h : ((data? s).bind fun p => (datas? ss).bind fun ps => .ok (p :: ps)) = .ok ps := h
    cases s with
    | d p =>
      have h : ((datas? ss).bind fun ps => .ok (p :: ps)) = Res.ok ps := h
      cases e : datas? ss with
      | ok qs => rw [e] at h; cases h; exact ⟨v, ws, rfl, r, rms_data rs e⟩
      | exc c => rw [e] at h; cases h
      | bad => rw [e] at h; cases h
    | _ => cases h
theorem datas_exc : ∀ (ss : List SV), (∃ ps, datas? ss = .ok ps) ∨ datas? ss = .bad
  | [] => .inl ⟨[], rfl⟩
  | s :: ss => by
    cases s with
    | d p =>
      rcases datas_exc ss with ⟨qs, e⟩ | e
      · exact .inl ⟨p :: qs, by show ((datas? ss).bind fun ps => _) = _; rw [e]; rfl⟩
      · exact .inr (by show ((datas? ss).bind fun ps => _) = _; rw [e]; rfl)
    | _ => exact .inr rfl
/-- all of a display's items, told with the region that holds everything made here -/
theorem rms_all {R H : Hp} : ∀ {ss : List SV} {vs : List V} {ps : List PV}, Rms F R H .f ss vs → datas? ss = .ok ps → RpL F.K (Rall F.H0 R H) ps vs
  | [], _, ps, r, h => by
    rw [show _ = [] from r]
    obtain rfl : ps = [] := by cases h; rfl
    exact rfl
  | s :: ss, _, ps, ⟨v, ws, e, r, rs⟩, h => by
    subst e
    have h : ((data? s).bind fun p => (datas? ss).bind fun ps => .ok (p :: ps)) = .ok ps := h
    cases s with
    | d p =>
      have h : ((datas? ss).bind fun ps => .ok (p :: ps)) = Res.ok ps := h
      cases e : datas? ss with
      | ok qs => rw [e] at h; cases h; exact ⟨v, ws, rfl, r, rms_all rs e⟩
      | exc c => rw [e] at h; cases h
      | bad => rw [e] at h; cases h
    | _ => cases h
theorem rms_len {R H : Hp} {m : Md} : ∀ {ss : List SV} {vs : List V}, Rms F R H m ss vs → vs.length = ss.length
  | [], _, r => by rw [show _ = [] from r]; rfl
  | _ :: _, _, ⟨v, ws, e, _, rs⟩ => by rw [e]; simp [rms_len rs]
theorem evL_len {Γ : Gm} : ∀ {es : List CE} {ss : List SV}, evL G es Γ = .ok ss → ss.length = es.length
  | [], ss, h => by cases h; rfl
  | e :: es, ss, h => by
    have h : ((ev G e Γ).bind fun x => (evL G es Γ).bind fun xs => .ok (x :: xs)) = .ok ss := h
    cases e1 : ev G e Γ with
    | ok s =>
      rw [e1] at h
      have h : ((evL G es Γ).bind fun xs => .ok (s :: xs)) = .ok ss := h
      cases e2 : evL G es Γ with
      | ok qs => rw [e2] at h; cases h; simp [evL_len e2]
      | exc c => rw [e2] at h; cases h
      | bad => rw [e2] at h; cases h
    | exc c => rw [e1] at h; cases h
    | bad => rw [e1] at h; cases h
theorem data_len : ∀ {ss : List SV} {ps : List PV}, datas? ss = .ok ps → ps.length = ss.length
  | [], ps, h => by cases h; rfl
  | s :: ss, ps, h => by
    have h : ((data? s).bind fun p => (datas? ss).bind fun ps => .ok (p :: ps)) = .ok ps := h
    cases s with
    | d p =>
      have h : ((datas? ss).bind fun ps => .ok (p :: ps)) = Res.ok ps := h
      cases e : datas? ss with
      | ok qs => rw [e] at h; cases h; simp [data_len e]
      | exc c => rw [e] at h; cases h
      | bad => rw [e] at h; cases h
    | _ => cases h
/-- a display: the new object lies beside what the items' mode allows -/
theorem disp_post {b : Bool} {m : Md} {R H : Hp} {σ : L2.St} {es : List CE} {Γ : Gm} {Q : VK} (he : es.length ≤ 1000) (hs : Sub R H) (rel : RelR F.K F.H0 F.R0 R Γ σ H)
    (p : Post F m R σ H ((evL G es Γ).bind fun ss => (datas? ss).bind fun ps => .ok (.d (if b then .tup ps else .lst ps))) Q) (hm : m = .e ∨ m = .f) :
    PostL F m R σ H (evL G es Γ) fun xs H1 => xs.length ≤ sizeLine ∧ ∀ p, H1 p = none → Q (.ref p) (upd H1 p (if b then .tup xs else .lst xs)) := by
  cases e : evL G es Γ with
  | bad => rw [e] at p; exact p.elim
  | exc c => rw [e] at p; exact p
  | ok ss =>
    rw [e] at p
    have p : Post F m R σ H ((datas? ss).bind fun ps => .ok (.d (if b then .tup ps else .lst ps))) Q := p
    rcases datas_exc ss with ⟨ps, e2⟩ | e2
    · rw [e2] at p
      have p : Post F m R σ H (.ok (.d (if b then .tup ps else .lst ps))) Q := p
      intro vs H1 R1 g1 rv
      have hl : vs.length = es.length := by rw [rms_len rv, evL_len e]
      have hp : ps.length ≤ line := by rw [data_len e2, evL_len e]; unfold line; omega
      refine ⟨by rw [hl]; exact Nat.le_trans he (by decide), fun q hq => ?_⟩
      rcases hm with rfl | rfl
      · refine Post.new g1.sub (p.grow g1) hq ?_
        have gg := Grow.new g1.sub hq (if b = true then HO.tup vs else HO.lst vs)
        have rp := (rms_data rv e2).mono gg.reg
        cases b with
        | true => exact ⟨q, vs, rfl, .inl (.inl (upd_same ..)), hp, rp⟩
        | false => exact ⟨q, vs, rfl, upd_same .., hp, rp⟩
      · have gg := Grow.hid g1.sub hq (if b = true then HO.tup vs else HO.lst vs)
        refine p.grow g1 _ _ _ gg ?_
        have h0 : F.H0 q = none := by
          cases e0 : F.H0 q with
          | none => rfl
          | some o => have := g1.same _ _ (rel.same _ _ e0); rw [this] at hq; cases hq
        have all : Sub (Rall F.H0 R1 H1) (Rall F.H0 R1 (upd H1 q (if b = true then HO.tup vs else HO.lst vs))) := fun a o ea => by
          unfold Rall at ea ⊢
          cases e0 : F.H0 a with
          | none => rw [e0] at ea; exact gg.same _ _ ea
          | some _ => rw [e0] at ea; exact ea
        have at' : Rall F.H0 R1 (upd H1 q (if b = true then HO.tup vs else HO.lst vs)) q = some (if b = true then HO.tup vs else HO.lst vs) := by
          unfold Rall; rw [h0]; exact upd_same ..
        have rp := (rms_all rv e2).mono all
        cases b with
        | true => exact ⟨q, vs, rfl, .inl (.inl at'), hp, rp⟩
        | false => exact ⟨q, vs, rfl, at', hp, rp⟩
    · rw [e2] at p; exact p.elim
theorem disp_le (m : Md) : m.le m.disp = true := by cases m <;> rfl
theorem disp_or (m : Md) : m.disp = .e ∨ m.disp = .f := by cases m <;> simp [Md.disp]
theorem r_tup {es : List CE} {xs : List Expr} {m : Md} {k} (he : es.length ≤ 1000) (h : PA X xs (RdL F m (evL G es))) : PE X (.Tuple xs k pos) (Rd' F m.disp (ev G (.tup es))) :=
  peImp (pe_tup (paLe h (disp_le m))) fun σ H Q ⟨Γ, R, rel, p⟩ => ⟨Γ, R, rel, disp_post (b := true) he rel.sub rel p (disp_or m)⟩
theorem r_lst {es : List CE} {xs : List Expr} {m : Md} (he : es.length ≤ 1000) (h : PA X xs (RdL F m (evL G es))) : PE X (.List xs pos) (Rd' F m.disp (ev G (.lst es))) :=
  peImp (pe_lst (paLe h (disp_le m))) fun σ H Q ⟨Γ, R, rel, p⟩ => ⟨Γ, R, rel, disp_post (b := false) he rel.sub rel p (disp_or m)⟩
end
end Bw
end

section
set_option autoImplicit false
set_option linter.all false
/-! Bw P: readings, continued: calls, built-ins, slices, tests. -/
namespace Bw
open PySem L2
section
variable {I : Inf} {G : Ctx} {F : Fr} {X : Cx} {sc : Scope} {pos : Pos}
/-! ### a call of a def -/
theorem rms_e {R H : Hp} : ∀ {ss : List SV} {vs : List V}, Rms F R H .e ss vs → RpSs F.K R ss vs
  | [], _, r => r
  | _ :: _, _, ⟨v, ws, e, r, rs⟩ => ⟨v, ws, e, r, rms_e rs⟩
theorem rms_f {R H : Hp} : ∀ {ss : List SV} {vs : List V}, Rms F R H .f ss vs → RpSs F.K (Rall F.H0 R H) ss vs
  | [], _, r => r
  | _ :: _, _, ⟨v, ws, e, r, rs⟩ => ⟨v, ws, e, r, rms_f rs⟩
theorem r_call (C : Cok I G F X sc) {k : Nat} {x : Str} {es : List CE} {y : Expr} {xs : List Expr} {m : Md} {p : Pos} (h1 : I.fns[k]? = some x) (h2 : glB sc x = true) (h3 : nmB x = true) (hy : tame y = true) (hxs : xs.all tame = true)
    (h : PA X (y :: xs) (RdL F m (evL G es))) : PE X (.Call (.Name x p) (y :: xs) [] pos) (Rd' F m.disp (ev G (.call k es))) := by
  obtain ⟨f, fd, ps, Φ, l, e1, e2, e3, e4, e5, e7, e6⟩ := C.fns k x h1
  refine peImp (pe_callSD e6 e5 (gl_of C h2) e2 e3 e4 .nil (fun σ => passAt C.takes σ) (paLe h (disp_le m)) (nm_dest h3).1 (starEach_tame hy _ _) (plain_tame hxs)) fun σ H Q ⟨Γ, R, rel, p⟩ => ⟨Γ, R, rel, ?_⟩
  have p : Post F m.disp R σ H ((evL G es Γ).bind fun ss => callF G.fns[k]? ss) Q := p
  rw [e1] at p
  have hK := C.hK
  cases e : evL G es Γ with
  | bad => rw [e] at p; exact p.elim
  | exc c => rw [e] at p; exact p
  | ok ss =>
    rw [e] at p
    have p : Post F m.disp R σ H (Φ ss) Q := p
    intro vs H1 R1 g1 rv
    have p := p.grow g1
    have hl : vs.length = ps.length := by
      rw [rms_len rv]
      refine e7 ss fun q => ?_
      rw [q] at p; exact p.elim
    rw [List.append_nil]
    have h0 : Sub F.H0 H1 := rel.same.trans g1.same
    rcases disp_or m with hm | hm
    · rw [hm] at rv p
      refine ⟨ss, R1, hl, g1.sub, hK ▸ rms_e rv, ?_⟩
      cases e8 : Φ ss with
      | bad => rw [e8] at p; exact p.elim
      | exc c => rw [e8] at p; exact p
      | ok r => rw [e8] at p; exact fun v H' R' g rv => p v H' R' g (show RpS F.K R' r v from hK ▸ rv)
    · rw [hm] at rv p
      refine ⟨ss, Rall F.H0 R1 H1, hl, Rall.sub g1.sub, hK ▸ rms_f rv, ?_⟩
      cases e8 : Φ ss with
      | bad => rw [e8] at p; exact p.elim
      | exc c => rw [e8] at p; exact fun H' R' g => p H' R1 (g.veil g1.sub)
      | ok r => rw [e8] at p; exact fun v H' R' g rv => p v H' R1 (g.veil g1.sub) ((hK ▸ rv : RpS F.K R' r v).mono (veil_sub h0 g))
/-! ### built-in calls -/
theorem f1mem (f : F1) : f1name f ∈ builtins := by cases f <;> decide
theorem f2mem (f : F2) (h : f ≠ .index) : f2name f ∈ builtins := by cases f <;> first | (exact absurd rfl h) | decide
theorem bt_nm {x : String} (h : x ∈ builtins) : Str.ofString x ≠ "__name__" ∧ (Str.ofString x == ("__debug__" : Str)) = false := by
  have : builtins.all (fun x => decide (Str.ofString x ≠ "__name__") && !(Str.ofString x == ("__debug__" : Str))) = true := by decide +kernel
  have := List.all_eq_true.mp this x h
  simp only [Bool.and_eq_true, Bool.not_eq_true', decide_eq_true_eq] at this
  exact this
theorem boot_abs' : bootBuiltins (Str.ofString "abs") = some (.builtin "abs") := by decide +kernel
theorem boot_len' : bootBuiltins (Str.ofString "len") = some (.builtin "len") := by decide +kernel
theorem boot_int' : bootBuiltins (Str.ofString "int") = some (.type "int") := by decide +kernel
theorem boot_sum' : bootBuiltins (Str.ofString "sum") = some (.builtin "sum") := by decide +kernel
theorem boot_min' : bootBuiltins (Str.ofString "min") = some (.builtin "min") := by decide +kernel
theorem boot_max' : bootBuiltins (Str.ofString "max") = some (.builtin "max") := by decide +kernel
theorem boot_all' : bootBuiltins (Str.ofString "all") = some (.builtin "all") := by decide +kernel
theorem boot_any' : bootBuiltins (Str.ofString "any") = some (.builtin "any") := by decide +kernel
theorem boot_sorted' : bootBuiltins (Str.ofString "sorted") = some (.builtin "sorted") := by decide +kernel
theorem boot_tuple' : bootBuiltins (Str.ofString "tuple") = some (.type "tuple") := by decide +kernel
theorem boot_list' : bootBuiltins (Str.ofString "list") = some (.type "list") := by decide +kernel
theorem boot_isa' : bootBuiltins (Str.ofString "isinstance") = some (.builtin "isinstance") := by decide +kernel
theorem boot_range' : bootBuiltins (Str.ofString "range") = some (.type "range") := by decide +kernel
theorem boot_enum' : bootBuiltins (Str.ofString "enumerate") = some (.type "enumerate") := by decide +kernel
theorem boot_zip' : bootBuiltins (Str.ofString "zip") = some (.type "zip") := by decide +kernel
theorem boot_ty' (t : Ty) : bootBuiltins (Str.ofString (tyName t)) = some (.type (tyName t)) := by cases t <;> decide +kernel
theorem tymem (t : Ty) : tyName t ∈ builtins := by cases t <;> decide
/-- any built-in of one value -/
theorem pe_call1 (C : Cok I G F X sc) {f : F1} (hf : f ≠ .sortedset ∧ f ≠ .lenset) {r : List V → Hp → VK → Prop} {y : Expr} {t : TA} {p : Pos} (hc : CallR X (f1val f) r) (hg : Gl X (Str.ofString (f1name f))) (ha : PA X [y] t) (hy : tame y = true) :
    PE X (.Call (.Name (Str.ofString (f1name f)) p) [y] [] pos) (tCB r t) := by
  have hm := C.bl _ (f1mem f)
  have nm := bt_nm (f1mem f)
  cases f
  case len => exact pe_callB hc hg hm boot_len' ha nm.1 nm.2 (starEach_tame hy _ _) rfl
  case abs => exact pe_callB hc hg hm boot_abs' ha nm.1 nm.2 (starEach_tame hy _ _) rfl
  case int => exact pe_callTy hc hg hm boot_int' ha nm.1 nm.2 (starEach_tame hy _ _) rfl
  case sum => exact pe_callB hc hg hm boot_sum' ha nm.1 nm.2 (starEach_tame hy _ _) rfl
  case min => exact pe_callB hc hg hm boot_min' ha nm.1 nm.2 (starEach_tame hy _ _) rfl
  case max => exact pe_callB hc hg hm boot_max' ha nm.1 nm.2 (starEach_tame hy _ _) rfl
  case all => exact pe_callB hc hg hm boot_all' ha nm.1 nm.2 (starEach_tame hy _ _) rfl
  case any => exact pe_callB hc hg hm boot_any' ha nm.1 nm.2 (starEach_tame hy _ _) rfl
  case sorted => exact pe_callB hc hg hm boot_sorted' ha nm.1 nm.2 (starEach_tame hy _ _) rfl
  case tuple => exact pe_callTy hc hg hm boot_tuple' ha nm.1 nm.2 (starEach_tame hy _ _) rfl
  case list => exact pe_callTy hc hg hm boot_list' ha nm.1 nm.2 (starEach_tame hy _ _) rfl
  case sortedset => exact absurd rfl hf.1
  case lenset => exact absurd rfl hf.2
/-- one argument -/
theorem pa_one {y : Expr} {t : TE} (hy : tame y = true) (h : PE X y t) : PA X [y] (tCons t tNil) := pa_cons h pa_nil (starEach_tame hy _ _)
theorem r_f1 (C : Cok I G F X sc) {f : F1} (hf : f ≠ .sortedset ∧ f ≠ .lenset) {a : CE} {y : Expr} {m : Md} {p : Pos} (hg : glB sc (Str.ofString (f1name f)) = true) (hy : tame y = true) (h : PE X y (Rd' F m (ev G a))) :
    PE X (.Call (.Name (Str.ofString (f1name f)) p) [y] [] pos) (Rd' F m.op1 (ev G (.f1 f a))) :=
  r_one h (fun h => pe_call1 C hf (cr_f1 C.hK C.calm C.un f hf) (gl_of C hg) (pa_one hy h) hy) fun x s R σ H Q hs rx p1 => ⟨x, s, R, σ, rfl, hs, rx, p1⟩
theorem pe_call2 (C : Cok I G F X sc) {f : F2} (hf : f ≠ .index) {r : List V → Hp → VK → Prop} {y : Expr} {ys : List Expr} {t : TA} {p : Pos} (hc : CallR X (f2val f) r) (hg : Gl X (Str.ofString (f2name f))) (ha : PA X (y :: ys) t) (hy : tame y = true) (hys : ys.all tame = true) :
    PE X (.Call (.Name (Str.ofString (f2name f)) p) (y :: ys) [] pos) (tCB r t) := by
  have hm := C.bl _ (f2mem f hf)
  have nm := bt_nm (f2mem f hf)
  cases f
  case min => exact pe_callB hc hg hm boot_min' ha nm.1 nm.2 (starEach_tame hy _ _) (plain_tame hys)
  case max => exact pe_callB hc hg hm boot_max' ha nm.1 nm.2 (starEach_tame hy _ _) (plain_tame hys)
  case index => exact absurd rfl hf
theorem r_f2 (C : Cok I G F X sc) {f : F2} (hf : f ≠ .index) {a b : CE} {y z : Expr} {ma mb : Md} {p : Pos} (hg : glB sc (Str.ofString (f2name f)) = true) (hy : tame y = true) (hz : tame z = true)
    (ha : PE X y (Rd' F ma (ev G a))) (hb : PE X z (Rd' F mb (ev G b))) : PE X (.Call (.Name (Str.ofString (f2name f)) p) [y, z] [] pos) (Rd' F (ma.op mb) (ev G (.f2 f a b))) :=
  r_twoG (K := fun x y H Q => rF2 F (f2op f) [x, y] H Q) ha hb (fun ha hb => peImp (pe_call2 C hf (cr_f2 C.calm f hf) (gl_of C hg) (pa_cons ha (pa_one hz hb) (starEach_tame hy _ _)) hy (by simp [hz])) fun _ _ _ h => h) fun x y s t R σ H Q hs rx ry p => ⟨x, y, s, t, R, σ, rfl, hs, rx, ry, p⟩
theorem r_isa (C : Cok I G F X sc) {t : Ty} {a : CE} {y : Expr} {m : Md} {p p2 : Pos} (hg : glB sc (Str.ofString "isinstance") = true) (hgt : glB sc (Str.ofString (tyName t)) = true) (hy : tame y = true) (h : PE X y (Rd' F m (ev G a))) :
    PE X (.Call (.Name (Str.ofString "isinstance") p) [y, .Name (Str.ofString (tyName t)) p2] [] pos) (Rd' F m.op1 (ev G (.isa a t))) := by
  have mi : "isinstance" ∈ builtins := by decide
  have nt := bt_nm (tymem t)
  exact r_one h (fun h => pe_callB (cr_isa C.hK t) (gl_of C hg) (C.bl _ mi) boot_isa' (pa_cons h (pa_one (t := tC (.ty (tyName t))) rfl (pe_bltn (gl_of C hgt) (C.bl _ (tymem t)) (boot_ty' t) rfl nt.1 nt.2)) (starEach_tame hy _ _)) (bt_nm mi).1 (bt_nm mi).2 (starEach_tame hy _ _) rfl)
    fun x s R σ H Q hs rx p1 => ⟨x, s, R, σ, rfl, hs, rx, p1⟩
/-! ### slices -/
theorem r_sl (C : Cok I G F X sc) {a : CE} {lo hi : Option CE} {y : Expr} {l h : Option Expr} {m : Md} {p2 : Pos} (la : m.le .t = true) (ha : PE X y (Rd' F m (ev G a)))
    (hl : PO X l (fun σ H Q => ∃ Γ R, RelR F.K F.H0 F.R0 R Γ σ H ∧ (match evO G lo Γ with | .ok o => ∀ H' R', Grow H R H' R' → Q o H' | .exc c => ∀ H' R', Grow H R H' R' → F.W (F.cls c) none σ H' | .bad => False)))
    (hh : PO X h (fun σ H Q => ∃ Γ R, RelR F.K F.H0 F.R0 R Γ σ H ∧ (match evO G hi Γ with | .ok o => ∀ H' R', Grow H R H' R' → Q o H' | .exc c => ∀ H' R', Grow H R H' R' → F.W (F.cls c) none σ H' | .bad => False))) :
    PE X (.Subscript y (.Slice l h none p2) pos) (Rd' F .e (ev G (.sl a lo hi))) := by
  refine peImp (pe_slice (sl_op C.hK) (peLe ha la) hl hh) fun σ H Q ⟨Γ, R, rel, p⟩ => ⟨Γ, R, rel, ?_⟩
  refine (Post.bind (m := .t) (m' := .e) (f := fun x => (evO G lo Γ).bind fun l => (evO G hi Γ).bind fun h => slop x l h) rel.sub p).mono fun x H1 ⟨s, R1, _, g1, rx, p1⟩ => ⟨Γ, R1, rel.grow g1, ?_⟩
  cases e : evO G lo Γ with
  | bad => rw [e] at p1; exact p1.elim
  | exc c => rw [e] at p1; exact p1
  | ok o =>
    rw [e] at p1
    have p1 : Post F .e R1 σ H1 ((evO G hi Γ).bind fun h => slop s o h) Q := p1
    intro H2 R2 g2
    have p1 := p1.grow g2
    refine ⟨Γ, R2, (rel.grow g1).grow g2, ?_⟩
    cases e : evO G hi Γ with
    | bad => rw [e] at p1; exact p1.elim
    | exc c => rw [e] at p1; exact p1
    | ok o2 =>
      rw [e] at p1
      have p1 : Post F .e R2 σ H2 (slop s o o2) Q := p1
      exact fun H3 R3 g3 => ⟨s, R3, σ, g3.sub, (rx.grow g2).grow g3, p1.grow g3⟩
def RdO (F : Fr) (g : Gm → Res (Option Int)) : TO := fun σ H Q => ∃ Γ R, RelR F.K F.H0 F.R0 R Γ σ H ∧ (match g Γ with | .ok o => ∀ H' R', Grow H R H' R' → Q o H' | .exc c => ∀ H' R', Grow H R H' R' → F.W (F.cls c) none σ H' | .bad => False)
theorem po_no : PO X none (RdO F (evO G none)) := ⟨fun pins s σ H Q I ⟨Γ, R, rel, p⟩ => po_none.run pins s σ H Q I (p H R (.refl rel.sub))⟩
theorem po_so {e : CE} {x : Expr} {m : Md} (l : m.le .t = true) (h : PE X x (Rd' F m (ev G e))) : PO X (some x) (RdO F (evO G (some e))) := ⟨fun pins s σ H Q I ⟨Γ, R, rel, p⟩ => by
  refine (po_some (peLe h l)).run pins s σ H Q I ⟨Γ, R, rel, ?_⟩
  change (match (ev G e Γ).bind fun x => (isInt? x).bind fun i => .ok (some i) with | .ok o => ∀ H' R', Grow H R H' R' → Q o H' | .exc c => ∀ H' R', Grow H R H' R' → F.W (F.cls c) none σ H' | .bad => False) at p
  cases e1 : ev G e Γ with
  | bad => rw [e1] at p; exact p.elim
  | exc c => rw [e1] at p; exact p
  | ok s =>
    rw [e1] at p
    intro v H1 R1 g1 rv
    cases s with
    | d q =>
      cases q <;> first | exact p.elim | skip
      exact ⟨_, rv.int, p H1 R1 g1⟩
    | _ => exact p.elim⟩
/-! ### one or the other -/
theorem r_ife {c a b : CE} {z x y : Expr} {ma mb m : Md} (la : ma.le m = true) (lb : mb.le m = true) (hc : PT X z (RdB F fun Γ => (ev G c Γ).bind isBl?)) (ha : PE X x (Rd' F ma (ev G a))) (hb : PE X y (Rd' F mb (ev G b))) : PE X (.IfExp z x y pos) (Rd' F m (ev G (.ife c a b))) := by
  refine peImp (pe_ifExp hc (peLe ha la) (peLe hb lb)) fun σ H Q ⟨Γ, R, rel, p⟩ => ⟨Γ, R, rel, ?_⟩
  have p : Post F m R σ H ((ev G c Γ).bind fun x => (isBl? x).bind fun r => if r then ev G a Γ else ev G b Γ) Q := p
  show PostB F R σ H ((ev G c Γ).bind isBl?) _
  cases e : ev G c Γ with
  | bad => rw [e] at p; exact p.elim
  | exc c => rw [e] at p; exact p
  | ok s =>
    rw [e] at p
    cases s with
    | d q =>
      cases q <;> first | exact p.elim | skip
      rename_i t
      have p : Post F m R σ H (if t then ev G a Γ else ev G b Γ) Q := p
      intro H1 R1 g1
      have p := p.grow g1
      cases t with
      | true => exact ⟨Γ, R1, rel.grow g1, p⟩
      | false => exact ⟨Γ, R1, rel.grow g1, p⟩
    | _ => exact p.elim
end
end Bw
end

section
set_option autoImplicit false
set_option linter.all false
set_option maxRecDepth 100000
/-! Bw Q: enumerate of a tuple. -/
namespace Bw
open PySem PySem.Spec PyProof.Rows L2
open Sem (wp)
set_option maxHeartbeats 1000000 in
theorem meets_enumB {v : Value} {oi : Obj} {Ok : Heap → Prop} (B : Begins v oi Ok) :
    Meets (Builtin.«enumerate.__new__» ⟨[.type "enumerate", v], []⟩) (fun _ R z => Ok z.heap ∧
      R (.ok (.ret (.ref (z.heap.push oi).objs.size))) { z with heap := (z.heap.push oi).push { cls := .type "enumerate", data := .fields #[.none, .bool false, .ref z.heap.objs.size, rawInt 0, .none, .none] } }) :=
  .of_wp fun prog w A R z h => by
    obtain ⟨hh, gg, dd, tt, oo⟩ := z; obtain ⟨hB, h⟩ := h
    have hsub := sub_enumerate
    have go : ∀ {A' : Around} {E Q : Value → Shared → Prop}, Q (.ref hh.objs.size) ⟨hh.push oi, gg, dd, tt, oo⟩ → wpAny (model prog w) A' (pyIter v) Q E ⟨hh, gg, dd, tt, oo⟩ :=
      fun q => B.iter prog w _ _ ⟨hh, gg, dd, tt, oo⟩ _ hB q
    wp_walk using go
    refine wpAny_stack_any fun _ => wpAny_pure ?_
    split
    · rename_i cl _ _ _ _ _
      cases (cl == Value.type "enumerate")
      · wp_walk using go
        exact ⟨_, rfl, h⟩
      · wp_walk using go
        exact ⟨_, rfl, h⟩
    · wp_walk using go
      exact ⟨_, rfl, h⟩
section
variable {prog : Program} {w : World} {A : Around} {E : Value → Shared → Prop} {z : Shared}
theorem call_enumB {v : Value} {oi : Obj} {Ok : Heap → Prop} {Q : Value → Shared → Prop} (B : Begins v oi Ok) (hB : Ok z.heap)
    (h : ∀ h', IsEnum h' (z.heap.objs.size + 1) z.heap.objs.size 0 .none → h'.get? z.heap.objs.size = some oi → h'.objs.size = z.heap.objs.size + 2 →
      (∀ b o, z.heap.get? b = some o → h'.get? b = some o) → Q (.ref (z.heap.objs.size + 1)) { z with heap := h' }) :
    wpAny (model prog w) A (call (.type "enumerate") [v]) Q E z := by
  refine callType_new F.called_enumerate (by decide) (F.typeCall_enumerate_1 _) (F.newCall_enumerate_1 _) (fun obj => F.args_object_init_2 obj _) F.entry_enumerate_new (meets_enumB B) ⟨hB, ?_⟩
  have sz : (z.heap.push oi).objs.size = z.heap.objs.size + 1 := Heap.size_push ..
  show _ ∧ _
  rw [sz]
  have en : IsEnum ((z.heap.push oi).push { cls := .type "enumerate", data := .fields #[.none, .bool false, .ref z.heap.objs.size, rawInt 0, .none, .none] }) (z.heap.objs.size + 1) z.heap.objs.size 0 .none := by
    have q := Heap.get?_push_size (z.heap.push oi) (o := { cls := .type "enumerate", data := .fields #[.none, .bool false, .ref z.heap.objs.size, rawInt 0, .none, .none] }) rfl
    rw [sz] at q; exact q
  exact ⟨⟨_, en, rfl⟩, h _ en (Heap.get?_push_of_some _ (Heap.get?_push_size _ B.free)) (by rw [Heap.size_push, sz]) fun b o q => Heap.get?_push_of_some _ (Heap.get?_push_of_some _ q)⟩
end
/-- the tuple at a, each item in a new pair -/
def IteT (K : Fr') (a : Addr) : It where
  go := fun i H => ∃ (xs : List V) (x : V), SqT K H a xs ∧ xs[i]? = some x
  yld := fun i H v H' => ∃ T x, v = .ref T ∧ H T = none ∧ H' = upd H T (.tup [.int (i : Nat), x]) ∧ ∀ xs, SqT K H a xs → xs[i]? = some x
  stop := fun i H => ∃ xs : List V, SqT K H a xs ∧ xs.length ≤ i
theorem turn_enumT {P : Program} {w : World} {K : Fr'} {elts : List Expr} {kk : Nat} {tpos : Pos} (a e it : Addr) :
    Turn P w K (.Tuple elts kk tpos) (IteT K a) [e, it] e (fun i h => (∃ old, IsEnum h e it ((i : Nat) : Int) old) ∧ h.IsTupleIter it a i ∧ e ≠ it ∧ a ≠ it ∧ e ≠ a) where
  mem := by simp
  obj := fun i h ⟨⟨old, he⟩, ⟨o, ho, hc, hd⟩, _⟩ b hb => by
    rcases (show b = e ∨ b = it by simpa using hb) with rfl | rfl
    · exact ⟨_, he, fun v q => nomatch q⟩
    · exact ⟨o, ho, fun v q => by rw [hd] at q; cases q⟩
  keep := fun i h h' ⟨⟨old, he⟩, hi, hne⟩ k => ⟨⟨old, k e (by simp) _ he⟩, hi.at fun o q => k it (by simp) o q, hne⟩
  item := by
    intro X hP hw hK hc i pins s σ H E I hf st ⟨xs, x, hq, hx⟩
    subst hP hw hK
    obtain ⟨⟨old, he⟩, hit, hne, hai, hea⟩ := st
    obtain ⟨its, rv, p, hz⟩ := I.tuple hq
    obtain ⟨u, hu, ru⟩ := rv.get hx
    have hel : e < s.heap.objs.size := Heap.lt_size he
    have hil : it < s.heap.objs.size := by obtain ⟨_, q, _⟩ := hit; exact Heap.lt_size q
    have hd : X.A.in1.handled = none := I.ok.hd hc
    have D := Draws.tuple (prog := X.prog) (w := X.w) (A := X.A.in1) hd it a hai its.toArray
    have hlt : i < its.toArray.size := by
      rcases Nat.lt_or_ge i its.toArray.size with l | l
      · exact l
      · rw [List.getElem?_eq_none (by simpa using l)] at hu; cases hu
    refine wpAny_pyNext_enum_itemD D he ⟨hit, show s.heap.IsTuple a its.toArray from p⟩ hlt hne (by simp [hne, hea]) fun y h' tk hy ho hit' hT hsz hk => ?_
    have hy' : y = u := by
      have : its.toArray[i]? = some y := hy
      rw [show its.toArray[i]? = some u by simpa using hu] at this
      exact (Option.some.inj this).symm
    subst hy'
    refine ⟨_, rfl, wpAny_letOwnedTupleGo_enum (s := { s with heap := h', toks := tk + 1 }) ho fun h'' he' sb => ?_⟩
    have hT2 : h''.get? s.heap.objs.size = some { cls := .type "tuple", data := .seq #[.int i tk, y] } := (sb.2 _ (Nat.ne_of_gt hel)).trans hT
    have new : ObjOk X.prog X.w (upd H s.heap.objs.size (.tup [.int (i : Nat), x])) h'' s.heap.objs.size (.tup [.int (i : Nat), x]) :=
      ⟨by show 2 ≤ sizeLine; decide, [.int i tk, y], .cons ⟨_, rfl⟩ (.cons ru .nil), ⟨_, hT2, rfl, _, rfl⟩⟩
    have I1 : Inv X pins σ (upd H s.heap.objs.size (.tup [.int (i : Nat), x])) { s with heap := h'', toks := tk + 1 } :=
      I.turnedNew (ch := [e, it]) (fun b ob hb q => (sb.2 b (fun z => hb (by simp [z]))).trans (hk b ob (fun z => hb (by simp [z])) (fun z => hb (by simp [z])) q)) hf (Nat.le_refl _) new
    refine ⟨.ref s.heap.objs.size, _, I1, rfl, ⟨_, x, rfl, I.hok.fresh (Nat.le_refl _), rfl, fun ys hy => by rw [I.tuple_inj hy hq]; exact hx⟩, ⟨⟨y, ?_⟩, hit'.1.at fun o q => (sb.2 it (Ne.symm hne)).trans q, hne, hai, hea⟩, fun b hb => ?_⟩
    · rw [show ((i + 1 : Nat) : Int) = (i : Int) + 1 by omega]; exact he'
    · have hb' : b < s.heap.objs.size := by
        rcases (show b = e ∨ b = it by simpa using hb) with rfl | rfl
        · exact hel
        · exact hil
      rw [upd_ne (Nat.ne_of_lt hb')]
      exact (hf b hb).1
  done := by
    intro X hP hw hK hc i pins s σ H E I hf st ⟨xs, hq, hx⟩
    subst hP hw hK
    obtain ⟨⟨old, he⟩, hit, hne, hai, hea⟩ := st
    obtain ⟨its, rv, p, hz⟩ := I.tuple hq
    obtain ⟨f0, f1, f2, f3, f4, f5⟩ := hf it (by simp)
    have hl := rv.length
    have hd : X.A.in1.handled = none := I.ok.hd hc
    have hT : s.TypeIs (.ref e) "enumerate" := ⟨_, he, rfl⟩
    unfold pyNext
    refine wpAny_bind (wpAny_attempt (wpAny_callSpecial?_slot (name := Str.ofString "__next__") hT F.slot_enumerate_next (wpAny_call_entry F.slot_enumerate_next hT F.entry_enumerate_next ?_ (F.args_enumerate_next_1 _))))
    show wpAny _ _ (field (.ref e) 2 >>= _) _ _ _
    refine wpAny_bind (wpAny_field he rfl (x := .ref it) rfl (wpAny_bind (wpAny_nextOf_tuple_end hd hit (show s.heap.IsTuple a its.toArray from p) (by simp; omega) fun h' y hk hy => ?_)))
    obtain ⟨o, ho, hcl⟩ := hy
    refine wpAny_bind (wpAny_isInstance (T := "StopIteration") (b := true) ⟨o, ho, hcl⟩ isSubtype_stop (wpAny_pure ⟨rfl, I.turned (t' := s.toks) (fun b o hb q => hk b o hb q) f0 f1 f3 f4 f5⟩))
  self := fun A i s Q E st h => let ⟨⟨_, he⟩, _⟩ := st; wpAny_pyIter_enum he h
def iEnumA (K : Fr') (ta : TA) : TI := fun σ H R => ta σ H fun vs H1 => ∃ a xs, vs = [.ref a] ∧ ((SqL K H1 a xs ∧ R (Ite K a) H1) ∨ (SqT K H1 a xs ∧ R (IteT K a) H1))
theorem pi_enumA {X : Cx} {e : Expr} {ta : TA} {p pos tpos : Pos} {elts : List Expr} {kk : Nat} (hg : Gl X "enumerate") (hm : X.mg "enumerate" = none) (ha : PA X [e] ta) (hs : starEach [e] X.env = [(false, eval e X.env)]) :
    PI X (.Tuple elts kk tpos) (.Call (.Name "enumerate" p) [e] [] pos) (iEnumA X.K ta) := by
  refine ⟨fun pins s σ H R I h => ?_⟩
  refine Call_ (ld_blt I hg hm boot_enumerate (PyProof.Rows.callWith_type1 (thn (ha.run pos pins s σ H _ I h) fun us s1 ⟨vs, H1, I1, r1, a, xs, ex, q1⟩ => ?_) hs rfl))
  subst ex
  cases r1 with
  | cons r rr =>
    cases rr
    cases r
    have fr : ∀ b, b = s1.heap.objs.size + 1 ∨ b = s1.heap.objs.size → FpOk X pins H1 b := fun b e' => by
      have hle : s1.heap.objs.size ≤ b := by
        rcases e' with z | z
        · rw [z]; exact Nat.le_add_right _ _
        · rw [z]; exact Nat.le_refl _
      exact I1.fpOk hle (I1.hok.fresh hle)
    rcases q1 with ⟨hq, q⟩ | ⟨hq, q⟩
    · obtain ⟨its, rv, p', hz⟩ := I1.list hq
      refine call_enumerate_list p'.isList fun h' he hit hsz hk => wpAny_pyIter_enum he ?_
      exact ⟨s1.heap.objs.size + 1, [s1.heap.objs.size + 1, s1.heap.objs.size], _, _, H1, rfl, I1.kept (t' := s1.toks) hk, turn_enum a (s1.heap.objs.size + 1) s1.heap.objs.size, ⟨⟨.none, he⟩, hit, Nat.succ_ne_self _⟩, fun b hb => fr b (by simpa using hb), q⟩
    · obtain ⟨its, rv, p', hz⟩ := I1.tuple hq
      have ht : s1.heap.IsTuple a its.toArray := p'
      have al : a < s1.heap.objs.size := by obtain ⟨o, ho, _⟩ := id p'; exact Heap.lt_size ho
      refine call_enumB (begins_tuple a its.toArray) ht fun h' he hit hsz hk => wpAny_pyIter_enum he ?_
      exact ⟨s1.heap.objs.size + 1, [s1.heap.objs.size + 1, s1.heap.objs.size], _, _, H1, rfl, I1.kept (t' := s1.toks) hk, turn_enumT a (s1.heap.objs.size + 1) s1.heap.objs.size, ⟨⟨.none, he⟩, ⟨_, hit, rfl, rfl⟩, Nat.succ_ne_self _, Nat.ne_of_lt al, Nat.ne_of_gt (Nat.lt_succ_of_lt al)⟩, fun b hb => fr b (by simpa using hb), q⟩
end Bw
end

section
set_option autoImplicit false
set_option linter.all false
/-! Bw R: what a loop walks. -/
namespace Bw
open PySem L2
/-- J yields the items told by xs, wherever B and R1 still lie -/
def Wlk (K : Fr') (J : It) (xs : List PV) (B R1 : Hp) : Prop := ∀ (H R : Hp), Sub B H → Sub R1 R → Sub R H → ∀ (i : Nat),
  (∀ p, xs[i]? = some p → J.go i H ∧ ∀ x H', J.yld i H x H' → ∃ R', Grow H R H' R' ∧ RpD K R' p x) ∧ (xs[i]? = none → J.stop i H)
/-- what must still lie: the shared region, or the whole heap -/
def base (m : Md) (R H : Hp) : Hp := match m with
  | .e => R
  | _ => H
def PostI (F : Fr) (m : Md) (R : Hp) (σ : L2.St) (H : Hp) (r : Res (List PV)) (Q : It → Hp → Prop) : Prop :=
  match r with
  | .ok xs => ∀ J H1 R1, Grow H R H1 R1 → Wlk F.K J xs (base m R1 H1) R1 → xs.length ≤ line → Q J H1
  | .exc c => ∀ H1 R1, Grow H R H1 R1 → F.W (F.cls c) none σ H1
  | .bad => False
theorem PostI.grow {F : Fr} {m : Md} {R R1 H H1 : Hp} {σ : L2.St} {r : Res (List PV)} {Q : It → Hp → Prop} (h : PostI F m R σ H r Q) (g : Grow H R H1 R1) : PostI F m R1 σ H1 r Q := by
  cases r with
  | ok s => exact fun J H' R' g' rv => h J H' R' (g.trans g') rv
  | exc c => exact fun H' R' g' => h H' R' (g.trans g')
  | bad => exact h
def RdI (F : Fr) (m : Md) (g : Gm → Res (List PV)) : TI := fun σ H Q => ∃ Γ R, RelR F.K F.H0 F.R0 R Γ σ H ∧ PostI F m R σ H (g Γ) Q
theorem piImp {X : Cx} {tg e : Expr} {t t' : TI} (h : PI X tg e t) (k : ∀ σ H Q, t' σ H Q → t σ H Q) : PI X tg e t' := ⟨fun pins s σ H R I q => h.run pins s σ H R I (k σ H R q)⟩
/-- two readings, by cases -/
theorem piOr {X : Cx} {tg e : Expr} {t t' : TI} (h : PI X tg e t) (h' : PI X tg e t') : PI X tg e (fun σ H Q => t σ H Q ∨ t' σ H Q) := ⟨fun pins s σ H R I q => q.elim (fun q => h.run pins s σ H R I q) (fun q => h'.run pins s σ H R I q)⟩
theorem base_sub {m : Md} {R H : Hp} (h : Sub R H) : Sub (base m R H) H := by
  cases m
  · exact h
  · exact .refl
  · exact .refl
theorem SqL.len' {K : Fr'} {R : Hp} {ps : List PV} {vs : List V} (r : RpL K R ps vs) {i : Nat} : ps[i]? = none ↔ vs.length ≤ i := by
  rw [r.len]; exact List.getElem?_eq_none_iff
theorem wlk_list {K : Fr'} {a : Addr} {vs : List V} {ps : List PV} {B R1 : Hp} (hs : ∀ H, Sub B H → SqL K H a vs) (r : RpL K R1 ps vs) : Wlk K (Itl K a) ps B R1 := fun H R hB h1 h2 i => by
  refine ⟨fun p e => ?_, fun e => ?_⟩
  · obtain ⟨v, e1, e2⟩ := r.get' e
    refine ⟨⟨vs, v, hs H hB, e1⟩, fun x H' ⟨eH, k⟩ => ?_⟩
    subst eH
    have := k vs (hs H' hB)
    rw [e1] at this
    cases this
    exact ⟨R, .refl h2, e2.mono h1⟩
  · exact ⟨vs, hs H hB, (SqL.len' r).mp e⟩
theorem wlk_tup {K : Fr'} {a : Addr} {vs : List V} {ps : List PV} {B R1 : Hp} (hs : ∀ H, Sub B H → SqT K H a vs) (r : RpL K R1 ps vs) : Wlk K (Itt K a) ps B R1 := fun H R hB h1 h2 i => by
  refine ⟨fun p e => ?_, fun e => ?_⟩
  · obtain ⟨v, e1, e2⟩ := r.get' e
    refine ⟨⟨vs, v, hs H hB, e1⟩, fun x H' ⟨eH, k⟩ => ?_⟩
    subst eH
    have := k vs (hs H' hB)
    rw [e1] at this
    cases this
    exact ⟨R, .refl h2, e2.mono h1⟩
  · exact ⟨vs, hs H hB, (SqL.len' r).mp e⟩
theorem wlk_rng {K : Fr'} {lo c : Int} {n : Nat} {B R1 : Hp} : Wlk K (Itc lo c n) (rangeP lo c n) B R1 := fun H R hB h1 h2 i => by
  rw [rangeP_get]
  refine ⟨fun p e => ?_, fun e => ?_⟩
  · by_cases h : i < n
    · rw [if_pos h] at e
      cases e
      exact ⟨h, fun x H' ⟨eH, k⟩ => ⟨R, by subst eH; exact .refl h2, k⟩⟩
    · rw [if_neg h] at e; cases e
  · by_cases h : i < n
    · rw [if_pos h] at e; cases e
    · exact Nat.le_of_not_lt h
theorem wlk_rng1 {K : Fr'} {lo : Int} {n : Nat} {B R1 : Hp} : Wlk K (Itr lo n) (rangeP lo 1 n) B R1 := fun H R hB h1 h2 i => by
  rw [rangeP_get]
  refine ⟨fun p e => ?_, fun e => ?_⟩
  · by_cases h : i < n
    · rw [if_pos h] at e
      cases e
      exact ⟨h, fun x H' ⟨eH, k⟩ => ⟨R, by subst eH; exact .refl h2, by rw [k, Int.mul_one]; exact rfl⟩⟩
    · rw [if_neg h] at e; cases e
  · by_cases h : i < n
    · rw [if_pos h] at e; cases e
    · exact Nat.le_of_not_lt h
/-- a new pair, shared -/
theorem pair_new {K : Fr'} {H R : Hp} {T : Addr} {x y : V} {p q : PV} (h : Sub R H) (hT : H T = none) (rp : RpD K R p x) (rq : RpD K R q y) : ∃ R', Grow H R (upd H T (.tup [x, y])) R' ∧ RpD K R' (.tup [p, q]) (.ref T) := by
  have g := Grow.new h hT (HO.tup [x, y])
  exact ⟨_, g, T, [x, y], rfl, .inl (.inl (upd_same ..)), by show 2 ≤ line; decide, x, [y], rfl, rp.mono g.reg, y, [], rfl, rq.mono g.reg, rfl⟩
theorem wlk_enum {K : Fr'} {a : Addr} {vs : List V} {ps : List PV} {B R1 : Hp} (hs : ∀ H, Sub B H → SqL K H a vs) (r : RpL K R1 ps vs) : Wlk K (Ite K a) (enumP 0 ps) B R1 := fun H R hB h1 h2 i => by
  rw [enumP_get]
  refine ⟨fun p e => ?_, fun e => ?_⟩
  · cases e1 : ps[i]? with
    | none => rw [e1] at e; cases e
    | some q =>
      rw [e1] at e
      cases e
      obtain ⟨v, e2, e3⟩ := r.get' e1
      refine ⟨⟨vs, v, hs H hB, e2⟩, fun x H' ⟨T, y, ex, hT, eH, k⟩ => ?_⟩
      have := k vs (hs H hB)
      rw [e2] at this
      cases this
      subst ex eH
      exact pair_new h2 hT (show _ = _ by rw [Int.zero_add]) (e3.mono h1)
  · cases e1 : ps[i]? with
    | none => exact ⟨vs, hs H hB, (SqL.len' r).mp e1⟩
    | some q => rw [e1] at e; cases e
theorem wlk_enumT {K : Fr'} {a : Addr} {vs : List V} {ps : List PV} {B R1 : Hp} (hs : ∀ H, Sub B H → SqT K H a vs) (r : RpL K R1 ps vs) : Wlk K (IteT K a) (enumP 0 ps) B R1 := fun H R hB h1 h2 i => by
  rw [enumP_get]
  refine ⟨fun p e => ?_, fun e => ?_⟩
  · cases e1 : ps[i]? with
    | none => rw [e1] at e; cases e
    | some q =>
      rw [e1] at e
      cases e
      obtain ⟨v, e2, e3⟩ := r.get' e1
      refine ⟨⟨vs, v, hs H hB, e2⟩, fun x H' ⟨T, y, ex, hT, eH, k⟩ => ?_⟩
      have := k vs (hs H hB)
      rw [e2] at this
      cases this
      subst ex eH
      exact pair_new h2 hT (show _ = _ by rw [Int.zero_add]) (e3.mono h1)
  · cases e1 : ps[i]? with
    | none => exact ⟨vs, hs H hB, (SqL.len' r).mp e1⟩
    | some q => rw [e1] at e; cases e
theorem wlk_zip {K : Fr'} {a b : Addr} {vs ws : List V} {ps qs : List PV} {B R1 : Hp} (hs : ∀ H, Sub B H → SqL K H a vs) (hs' : ∀ H, Sub B H → SqL K H b ws) (r : RpL K R1 ps vs) (r' : RpL K R1 qs ws) : Wlk K (Itz K a b) (zipP ps qs) B R1 := fun H R hB h1 h2 i => by
  rw [zipP_get]
  cases e1 : ps[i]? with
  | none => exact ⟨fun p e => (by cases e), fun _ => ⟨vs, ws, hs H hB, hs' H hB, .inl ((SqL.len' r).mp e1)⟩⟩
  | some p =>
    cases e2 : qs[i]? with
    | none => exact ⟨fun p e => (by cases e), fun _ => ⟨vs, ws, hs H hB, hs' H hB, .inr ((SqL.len' r').mp e2)⟩⟩
    | some q =>
      refine ⟨fun z e => ?_, fun e => by cases e⟩
      obtain rfl : PV.tup [p, q] = z := Option.some.inj e
      obtain ⟨v, f1, f2⟩ := r.get' e1
      obtain ⟨w, f3, f4⟩ := r'.get' e2
      refine ⟨⟨vs, ws, v, w, hs H hB, hs' H hB, f1, f3⟩, fun x H' ⟨T, y, y', ex, hT, eH, k, k'⟩ => ?_⟩
      have c1 := k vs (hs H hB)
      have c2 := k' ws (hs' H hB)
      rw [f1] at c1
      rw [f3] at c2
      cases c1
      cases c2
      subst ex eH
      exact pair_new h2 hT (f2.mono h1) (f4.mono h1)
theorem wlk_zipT {K : Fr'} {a b : Addr} {vs ws : List V} {ps qs : List PV} {B R1 : Hp} (hs : ∀ H, Sub B H → SqT K H a vs) (hs' : ∀ H, Sub B H → SqT K H b ws) (r : RpL K R1 ps vs) (r' : RpL K R1 qs ws) : Wlk K (RZ.ItzT K a b) (zipP ps qs) B R1 := fun H R hB h1 h2 i => by
  rw [zipP_get]
  cases e1 : ps[i]? with
  | none => exact ⟨fun p e => (by cases e), fun _ => ⟨vs, ws, hs H hB, hs' H hB, .inl ((SqL.len' r).mp e1)⟩⟩
  | some p =>
    cases e2 : qs[i]? with
    | none => exact ⟨fun p e => (by cases e), fun _ => ⟨vs, ws, hs H hB, hs' H hB, .inr ((SqL.len' r').mp e2)⟩⟩
    | some q =>
      refine ⟨fun z e => ?_, fun e => by cases e⟩
      obtain rfl : PV.tup [p, q] = z := Option.some.inj e
      obtain ⟨v, f1, f2⟩ := r.get' e1
      obtain ⟨w, f3, f4⟩ := r'.get' e2
      refine ⟨⟨vs, ws, v, w, hs H hB, hs' H hB, f1, f3⟩, fun x H' ⟨T, y, y', ex, hT, eH, k, k'⟩ => ?_⟩
      have c1 := k vs (hs H hB)
      have c2 := k' ws (hs' H hB)
      rw [f1] at c1
      rw [f3] at c2
      cases c1
      cases c2
      subst ex eH
      exact pair_new h2 hT (f2.mono h1) (f4.mono h1)
end Bw
end

section
set_option autoImplicit false
set_option linter.all false
/-! Bw S: the sources of loops; targets. -/
namespace Bw
open PySem L2
section
variable {I : Inf} {G : Ctx} {F : Fr} {X : Cx} {sc : Scope} {pos : Pos} {tg : Expr}
theorem src_tup {K : Fr'} {F : Fr} {m : Md} {R H : Hp} {ps : List PV} {v : V} (l : m.le .t = true) (h : Sub R H) (r : Rm F R H m (.d (.tup ps)) v) : ∃ a vs, v = .ref a ∧ (∀ H', Sub (base m R H) H' → SqT F.K H' a vs) ∧ ps.length ≤ line ∧ RpL F.K R ps vs := by
  have go : RpD F.K R (.tup ps) v → ∃ a vs, v = .ref a ∧ SqT F.K R a vs ∧ ps.length ≤ line ∧ RpL F.K R ps vs := fun r => r
  cases m with
  | e => obtain ⟨a, vs, e, s, z, q⟩ := go r; exact ⟨a, vs, e, fun H' hb => Sub.seqT hb s, z, q⟩
  | t =>
    rcases r with r | ⟨_, _, e, _⟩
    · obtain ⟨a, vs, e, s, z, q⟩ := go r; exact ⟨a, vs, e, fun H' hb => Sub.seqT (h.trans hb) s, z, q⟩
    · exact e.elim
  | f => cases l
theorem src_lst {F : Fr} {m : Md} {R H : Hp} {ps : List PV} {v : V} (l : m.le .t = true) (h : Sub R H) (r : Rm F R H m (.d (.lst ps)) v) : ∃ a vs, v = .ref a ∧ (∀ H', Sub (base m R H) H' → SqL F.K H' a vs) ∧ ps.length ≤ line ∧ RpL F.K R ps vs := by
  have go : RpD F.K R (.lst ps) v → ∃ a vs, v = .ref a ∧ R a = some (.lst vs) ∧ ps.length ≤ line ∧ RpL F.K R ps vs := fun r => r
  cases m with
  | e => obtain ⟨a, vs, e, s, z, q⟩ := go r; exact ⟨a, vs, e, fun H' hb => .of (hb _ _ s), z, q⟩
  | t =>
    rcases r with r | ⟨a, e2, ⟨vs, h1, h2, h3⟩, h4⟩
    · obtain ⟨a, vs, e, s, z, q⟩ := go r; exact ⟨a, vs, e, fun H' hb => .of (hb _ _ (h _ _ s)), z, q⟩
    · exact ⟨a, vs, e2, fun H' hb => .of (hb _ _ h1), h3, h2⟩
  | f => cases l
theorem posti_bind {m m' : Md} {R H : Hp} {σ : L2.St} {r : Res SV} {f : SV → Res (List PV)} {Q : It → Hp → Prop} (h : PostI F m R σ H (r.bind f) Q) :
    Post F m' R σ H r (fun x H1 => ∃ s R1, r = .ok s ∧ Grow H R H1 R1 ∧ Rm F R1 H1 m' s x ∧ PostI F m R1 σ H1 (f s) Q) := by
  cases r with
  | ok s => exact fun v H1 R1 g rv => ⟨s, R1, rfl, g, rv, PostI.grow (r := f s) h g⟩
  | exc c => exact h
  | bad => exact h
theorem base_grow {m : Md} {R H R' H' : Hp} (g : Grow H R H' R') : Sub (base m R H) (base m R' H') := by
  cases m
  · exact g.reg
  · exact g.same
  · exact g.same
theorem i_seq (C : Cok I G F X sc) {e : CE} {y : Expr} {m : Md} (l : m.le .t = true) (h : PE X y (Rd' F m (ev G e))) : PI X tg y (RdI F m (evI G (.seq e))) := by
  refine piImp (piOr (pi_list h) (pi_tup h)) fun σ H Q ⟨Γ, R, rel, p⟩ => ?_
  have p : PostI F m R σ H ((ev G e Γ).bind fun x => seq? x) Q := p
  cases e1 : ev G e Γ with
  | bad => rw [e1] at p; exact p.elim
  | exc c => rw [e1] at p; exact .inl ⟨Γ, R, rel, by rw [e1]; exact p⟩
  | ok s =>
    rw [e1] at p
    have p : PostI F m R σ H (seq? s) Q := p
    cases s with
    | d q =>
      cases q <;> first | exact p.elim | skip
      · refine .inr ⟨Γ, R, rel, ?_⟩
        rw [e1]
        intro v H1 R1 g rv
        obtain ⟨a, vs, ev, s, z, q⟩ := src_tup (K := F.K) l g.sub rv
        exact ⟨a, ev, ⟨vs, by rw [← C.hK]; exact s H1 (base_sub g.sub)⟩, p _ _ R1 g (by rw [← C.hK]; exact wlk_tup s q) z⟩
      · refine .inl ⟨Γ, R, rel, ?_⟩
        rw [e1]
        intro v H1 R1 g rv
        obtain ⟨a, vs, ev, s, z, q⟩ := src_lst l g.sub rv
        exact ⟨a, ev, ⟨vs, by rw [← C.hK]; exact s H1 (base_sub g.sub)⟩, p _ _ R1 g (by rw [← C.hK]; exact wlk_list s q) z⟩
    | _ => exact p.elim
/-! ranges -/
theorem rng_cases (lo hi st : Int) : (rng? lo hi st = .bad) ∨ (rng? lo hi st = .ok (rangeP lo st (rangeN lo hi st)) ∧ -(2 ^ 62) ≤ lo ∧ lo < 2 ^ 62 ∧ -(2 ^ 62) ≤ hi ∧ hi < 2 ^ 62 ∧ st.natAbs < 1073741824 ∧ st ≠ 0 ∧ rangeN lo hi st ≤ line) := by
  unfold rng?
  split
  · rename_i h
    simp only [big, Bool.and_eq_true, decide_eq_true_eq] at h
    have h1 := h.1.1.1.1
    have h2 := h.1.1.1.2
    exact .inr ⟨rfl, by omega, by omega, by omega, by omega, h.1.1.2, h.1.2, h.2⟩
  · exact .inl rfl
theorem rangeN_size (a b c : Int) (hc : c ≠ 0) : Builtin.Range.rangeSize a b c = (rangeN a b c : Nat) := by
  have key : ∀ d k : Int, 0 < k → ((if 0 < d then (d - 1) / k + 1 else 0) : Int) = (((d + k - 1) / k).toNat : Nat) := fun d k hk => by
    split
    · rename_i hd
      have : (d + k - 1) / k = (d - 1) / k + 1 := by
        rw [show d + k - 1 = (d - 1) + 1 * k by omega, Int.add_mul_ediv_right _ _ (by omega)]
      rw [this]
      have := Int.ediv_nonneg (show 0 ≤ d - 1 by omega) (show 0 ≤ k by omega)
      omega
    · have : (d + k - 1) / k ≤ 0 := by
        have : (d + k - 1) / k < 1 := Int.ediv_lt_of_lt_mul hk (by omega)
        omega
      omega
  unfold Builtin.Range.rangeSize rangeN
  by_cases h : 0 < c
  · rw [if_pos h, if_pos h, show b - a + c - 1 = (b - a) + c - 1 by omega, ← key (b - a) c h]
    by_cases h2 : a < b
    · rw [if_pos h2, if_pos (by omega)]
    · rw [if_neg h2, if_neg (by omega)]
  · have hn : c < 0 := by omega
    rw [if_neg h, if_neg h, if_pos hn, show a - b - c - 1 = (a - b) + (-c) - 1 by omega, ← key (a - b) (-c) (by omega)]
    by_cases h2 : a > b
    · rw [if_pos h2, if_pos (by omega)]
    · rw [if_neg h2, if_neg (by omega)]
theorem rgC_of {a b c : Int} (h1 : -(2 ^ 62) ≤ a) (h2 : a < 2 ^ 62) (h3 : -(2 ^ 62) ≤ b) (h4 : b < 2 ^ 62) (h5 : c.natAbs < 1073741824) (h6 : c ≠ 0) (h7 : rangeN a b c ≤ line) : RgC a b c (rangeN a b c) := by
  refine ⟨h6, h5, ?_, rangeN_size a b c h6⟩
  unfold Builtin.Range.small
  rw [rangeN_size a b c h6]
  have h8 : rangeN a b c ≤ 16777216 := h7
  simp only [Builtin.Range.rangeFitsLong, Bool.and_eq_true, Bool.or_eq_true, decide_eq_true_eq, beq_iff_eq]
  refine ⟨⟨⟨⟨?_, ?_⟩, ?_⟩, ?_⟩, .inr ?_⟩
  · constructor <;> omega
  · constructor <;> omega
  · constructor <;> omega
  · constructor <;> omega
  · split <;> simp only [Bool.and_eq_true, decide_eq_true_eq] <;> constructor <;> omega
theorem rangeN_one (a b : Int) : rangeN a b 1 = (b - a).toNat := by
  unfold rangeN
  rw [if_pos (by decide), Int.ediv_one]
  congr 1; omega
theorem mgB (C : Cok I G F X sc) {x : String} (h : x ∈ builtins) : X.mg (Str.ofString x) = none := C.bl x h
/-- an int operand, then a source -/
theorem posti_int {s : SV} {g : Int → Res (List PV)} {Q : It → Hp → Prop} {m : Md} {R H : Hp} {σ : L2.St} (h : PostI F m R σ H ((isInt? s).bind g) Q) : ∃ i, s = .d (.int i) ∧ PostI F m R σ H (g i) Q := by
  cases s with
  | d p => cases p <;> first | exact h.elim | exact ⟨_, rfl, h⟩
  | _ => exact h.elim
theorem posti_rng {lo hi st : Int} {Q : It → Hp → Prop} {m : Md} {R H : Hp} {σ : L2.St} (h : PostI F m R σ H (rng? lo hi st) Q) :
    PostI F m R σ H (.ok (rangeP lo st (rangeN lo hi st))) Q ∧ -(2 ^ 62) ≤ lo ∧ lo < 2 ^ 62 ∧ -(2 ^ 62) ≤ hi ∧ hi < 2 ^ 62 ∧ st.natAbs < 1073741824 ∧ st ≠ 0 ∧ rangeN lo hi st ≤ line := by
  rcases rng_cases lo hi st with e | ⟨e, h1⟩
  · rw [e] at h; exact h.elim
  · rw [e] at h; exact ⟨h, h1⟩
theorem i_rng1 (C : Cok I G F X sc) {b : CE} {y : Expr} {m : Md} {p : Pos} (hg : glB sc (Str.ofString "range") = true) (hy : tame y = true) (h : PE X y (Rd' F m (ev G b))) :
    PI X tg (.Call (.Name (Str.ofString "range") p) [y] [] pos) (RdI F .e (evI G (.rng1 b))) := by
  refine piImp (pi_range1 (gl_of C hg) (mgB C (by decide)) (pa_one hy h) (starEach_tame hy _ _)) fun σ H Q ⟨Γ, R, rel, p⟩ => ⟨Γ, R, rel, (posti_bind p).mono fun x H1 ⟨s, R1, _, g1, rx, p1⟩ => ?_⟩
  obtain ⟨j, rfl, p2⟩ := posti_int p1
  obtain ⟨p3, h1, h2, h3, h4, h5, h6, h7⟩ := posti_rng p2
  obtain rfl := rx.fint
  refine ⟨j, rfl, h3, h4, ?_⟩
  have := p3 (Itr 0 (rangeN 0 j 1)) H1 R1 (.refl g1.sub) wlk_rng1 (by rw [rangeP_len]; exact h7)
  rwa [rangeN_one, Int.sub_zero] at this
theorem i_rng2 (C : Cok I G F X sc) {a b : CE} {x y : Expr} {ma m : Md} {p : Pos} (hg : glB sc (Str.ofString "range") = true) (hx : tame x = true) (hy : tame y = true) (ha : PE X x (Rd' F ma (ev G a))) (h : PE X y (Rd' F m (ev G b))) :
    PI X tg (.Call (.Name (Str.ofString "range") p) [x, y] [] pos) (RdI F .e (evI G (.rng2 a b))) := by
  refine piImp (pi_range2 (gl_of C hg) (mgB C (by decide)) (pa_cons ha (pa_one hy h) (starEach_tame hx _ _)) (by rw [starEach_tame hx, starEach_tame hy]; rfl) (starEach_tame hy _ _)) fun σ H Q ⟨Γ, R, rel, p⟩ => ⟨Γ, R, rel, (posti_bind p).mono fun u H1 ⟨s, R1, _, g1, rx, p1⟩ => ?_⟩
  obtain ⟨i, rfl, p2⟩ := posti_int p1
  obtain rfl := rx.fint
  refine ⟨Γ, R1, rel.grow g1, (posti_bind p2).mono fun w H2 ⟨t, R2, _, g2, ry, p3⟩ => ?_⟩
  obtain ⟨j, rfl, p4⟩ := posti_int p3
  obtain ⟨p5, h1, h2, h3, h4, h5, h6, h7⟩ := posti_rng p4
  obtain rfl := ry.fint
  refine ⟨i, j, rfl, ⟨h1, h2, h3, h4⟩, ?_⟩
  have := p5 (Itr i (rangeN i j 1)) H2 R2 (.refl g2.sub) wlk_rng1 (by rw [rangeP_len]; exact h7)
  rwa [rangeN_one] at this
theorem i_rng3 (C : Cok I G F X sc) {a b c : CE} {st : Int} {x y z : Expr} {ma mb m : Md} {p : Pos} (hg : glB sc (Str.ofString "range") = true) (hx : tame x = true) (hy : tame y = true) (hz : tame z = true)
    (ha : PE X x (Rd' F ma (ev G a))) (hb : PE X y (Rd' F mb (ev G b))) (h : PE X z (Rd' F m (ev G c))) (hc : ∀ Γ, ev G c Γ = .ok (.d (.int st))) :
    PI X tg (.Call (.Name (Str.ofString "range") p) [x, y, z] [] pos) (RdI F .e (evI G (.rng3 a b st))) := by
  refine piImp (pi_range3 (gl_of C hg) (mgB C (by decide)) (pa_cons ha (pa_cons hb (pa_one hz h) (starEach_tame hy _ _)) (starEach_tame hx _ _)) (starEach_tame hx _ _) (plain_tame (by simp [hy, hz]))) fun σ H Q ⟨Γ, R, rel, p⟩ => ⟨Γ, R, rel, (posti_bind p).mono fun u H1 ⟨s, R1, _, g1, rx, p1⟩ => ?_⟩
  obtain ⟨i, rfl, p2⟩ := posti_int p1
  obtain rfl := rx.fint
  refine ⟨Γ, R1, rel.grow g1, (posti_bind p2).mono fun w H2 ⟨t, R2, _, g2, ry, p3⟩ => ?_⟩
  obtain ⟨j, rfl, p4⟩ := posti_int p3
  obtain ⟨p5, h1, h2, h3, h4, h5, h6, h7⟩ := posti_rng p4
  obtain rfl := ry.fint
  refine ⟨Γ, R2, (rel.grow g1).grow g2, ?_⟩
  rw [hc]
  intro v H3 R3 g3 rv
  obtain rfl := rv.fint
  exact ⟨i, j, st, _, rfl, rgC_of h1 h2 h3 h4 h5 h6 h7, p5 _ H3 R3 (g3) wlk_rng (by rw [rangeP_len]; exact h7)⟩
theorem i_enum (C : Cok I G F X sc) {e : CE} {y : Expr} {m : Md} {p tpos : Pos} {elts : List Expr} {kk : Nat} (hg : glB sc (Str.ofString "enumerate") = true) (hy : tame y = true) (l : m.le .t = true) (h : PE X y (Rd' F m (ev G e))) :
    PI X (.Tuple elts kk tpos) (.Call (.Name (Str.ofString "enumerate") p) [y] [] pos) (RdI F m (evI G (.enum e))) := by
  refine piImp (pi_enumA (gl_of C hg) (mgB C (by decide)) (pa_one hy h) (starEach_tame hy _ _)) fun σ H Q ⟨Γ, R, rel, p⟩ => ⟨Γ, R, rel, (posti_bind p).mono fun u H1 ⟨s, R1, _, g1, rx, p1⟩ => ?_⟩
  have hK := C.hK
  cases s with
  | d q =>
    cases q <;> first | exact p1.elim | skip
    · obtain ⟨a, vs, ev, sq, z, q⟩ := src_tup (K := F.K) l g1.sub rx
      exact ⟨a, vs, by rw [ev], .inr ⟨by rw [← hK]; exact sq H1 (base_sub g1.sub), p1 _ H1 R1 (.refl g1.sub) (by rw [← hK]; exact wlk_enumT sq q) (by rw [enumP_len]; exact z)⟩⟩
    · obtain ⟨a, vs, ev, sq, z, q⟩ := src_lst l g1.sub rx
      exact ⟨a, vs, by rw [ev], .inl ⟨by rw [← hK]; exact sq H1 (base_sub g1.sub), p1 _ H1 R1 (.refl g1.sub) (by rw [← hK]; exact wlk_enum sq q) (by rw [enumP_len]; exact z)⟩⟩
  | _ => exact p1.elim
theorem i_zip (C : Cok I G F X sc) {a b : CE} {x y : Expr} {ma mb m : Md} {p tpos : Pos} {elts : List Expr} {kk : Nat} (hg : glB sc (Str.ofString "zip") = true) (hx : tame x = true) (hy : tame y = true) (la : ma.le m = true) (lb : mb.le m = true) (l : m.le .t = true) (ha : PE X x (Rd' F ma (ev G a))) (hb : PE X y (Rd' F mb (ev G b))) :
    PI X (.Tuple elts kk tpos) (.Call (.Name (Str.ofString "zip") p) [x, y] [] pos) (RdI F m (evI G (.zip a b))) := by
  refine piImp (RZ.pi_zipA (gl_of C hg) (mgB C (by decide)) (pa_cons (peLe ha la) (pa_one hy (peLe hb lb)) (starEach_tame hx _ _)) (starEach_tame hx _ _) (plain_tame (by simp [hy]))) fun σ H Q ⟨Γ, R, rel, p⟩ => ⟨Γ, R, rel, (posti_bind p).mono fun u H1 ⟨s, R1, _, g1, rx, p1⟩ => ?_⟩
  refine ⟨Γ, R1, rel.grow g1, (posti_bind p1).mono fun w H2 ⟨t, R2, _, g2, ry, p2⟩ => ?_⟩
  have hK := C.hK
  cases s with
  | d q =>
    cases t with
    | d q' =>
      cases q <;> cases q' <;> first | exact p2.elim | skip
      · obtain ⟨a, vs, ev, sq, z, q⟩ := src_tup (K := F.K) l g1.sub rx
        obtain ⟨b, ws, ev', sq', z', q'⟩ := src_tup (K := F.K) l g2.sub ry
        have sq2 : ∀ H, Sub (base m R2 H2) H → SqT F.K H a vs := fun H hb => sq H ((base_grow g2).trans hb)
        exact ⟨a, b, vs, ws, by rw [ev, ev'], .inr ⟨by rw [← hK]; exact sq2 H2 (base_sub g2.sub), by rw [← hK]; exact sq' H2 (base_sub g2.sub), p2 _ H2 R2 (.refl g2.sub) (by rw [← hK]; exact wlk_zipT sq2 sq' (q.mono g2.reg) q') (Nat.le_trans (zipP_len _ _) z)⟩⟩
      · obtain ⟨a, vs, ev, sq, z, q⟩ := src_lst l g1.sub rx
        obtain ⟨b, ws, ev', sq', z', q'⟩ := src_lst l g2.sub ry
        have sq2 : ∀ H, Sub (base m R2 H2) H → SqL F.K H a vs := fun H hb => sq H ((base_grow g2).trans hb)
        exact ⟨a, b, vs, ws, by rw [ev, ev'], .inl ⟨by rw [← hK]; exact sq2 H2 (base_sub g2.sub), by rw [← hK]; exact sq' H2 (base_sub g2.sub), p2 _ H2 R2 (.refl g2.sub) (by rw [← hK]; exact wlk_zip sq2 sq' (q.mono g2.reg) q') (Nat.le_trans (zipP_len _ _) z)⟩⟩
    | _ => cases q <;> exact p2.elim
  | _ => exact p2.elim
end
end Bw
end

section
set_option autoImplicit false
set_option linter.all false
/-! Bw S2: tuple(range(..)), list(range(..)). -/
namespace Bw
open PySem L2
section
variable {I : Inf} {G : Ctx} {F : Fr} {X : Cx} {sc : Scope} {pos : Pos}
def PostP (F : Fr) (R : Hp) (σ : L2.St) (H : Hp) (r : Res (List PV)) (Q : Int → Int → Hp → Prop) : Prop :=
  match r with
  | .ok xs => ∀ a b H1 R1, Grow H R H1 R1 → xs = rangeP a 1 (b - a).toNat → RgOk a b → Q a b H1
  | .exc c => ∀ H' R', Grow H R H' R' → F.W (F.cls c) none σ H'
  | .bad => False
theorem PostP.grow {R R1 H H1 : Hp} {σ : L2.St} {r : Res (List PV)} {Q : Int → Int → Hp → Prop} (h : PostP F R σ H r Q) (g : Grow H R H1 R1) : PostP F R1 σ H1 r Q := by
  cases r with
  | ok s => exact fun a b H' R' g' e k => h a b H' R' (g.trans g') e k
  | exc c => exact fun H' R' g' => h H' R' (g.trans g')
  | bad => exact h
theorem postp_bind {m : Md} {R H : Hp} {σ : L2.St} {r : Res SV} {f : SV → Res (List PV)} {Q : Int → Int → Hp → Prop} (h : PostP F R σ H (r.bind f) Q) :
    Post F m R σ H r (fun x H1 => ∃ s R1, Grow H R H1 R1 ∧ Rm F R1 H1 m s x ∧ PostP F R1 σ H1 (f s) Q) := by
  cases r with
  | ok s => exact fun v H1 R1 g rv => ⟨s, R1, g, rv, PostP.grow (r := f s) h g⟩
  | exc c => exact h
  | bad => exact h
theorem postp_int {s : SV} {g : Int → Res (List PV)} {Q : Int → Int → Hp → Prop} {R H : Hp} {σ : L2.St} (h : PostP F R σ H ((isInt? s).bind g) Q) : ∃ i, s = .d (.int i) ∧ PostP F R σ H (g i) Q := by
  cases s with
  | d p => cases p <;> first | exact h.elim | exact ⟨_, rfl, h⟩
  | _ => exact h.elim
theorem postp_rng {lo hi : Int} {Q : Int → Int → Hp → Prop} {R H : Hp} {σ : L2.St} (hs : Sub R H) (h : PostP F R σ H (rng? lo hi 1) Q) : Q lo hi H := by
  rcases rng_cases lo hi 1 with e | ⟨e, h1, h2, h3, h4, _, _, h7⟩
  · rw [e] at h; exact h.elim
  · rw [e] at h
    rw [rangeN_one] at h h7
    exact h lo hi H R (.refl hs) rfl ⟨h1, h2, h3, h4, h7⟩
def RdP (F : Fr) (g : Gm → Res (List PV)) : L2.St → Hp → (Int → Int → Hp → Prop) → Prop := fun σ H Q => ∃ Γ R, RelR F.K F.H0 F.R0 R Γ σ H ∧ PostP F R σ H (g Γ) Q
theorem prgImp {X : Cx} {e : Expr} {t t' : L2.St → Hp → (Int → Int → Hp → Prop) → Prop} (h : PRg X e t) (k : ∀ σ H Q, t' σ H Q → t σ H Q) : PRg X e t' := fun pins s σ H Q I q => h pins s σ H Q I (k σ H Q q)
theorem g_rng1 (C : Cok I G F X sc) {b : CE} {y : Expr} {m : Md} {p : Pos} (hg : glB sc (Str.ofString "range") = true) (hy : tame y = true) (h : PE X y (Rd' F m (ev G b))) :
    PRg X (.Call (.Name (Str.ofString "range") p) [y] [] pos) (RdP F (evI G (.rng1 b))) := by
  refine prgImp (prg_1 (gl_of C hg) (mgB C (by decide)) h (starEach_tame hy _ _)) fun σ H Q ⟨Γ, R, rel, p⟩ => ⟨Γ, R, rel, (postp_bind p).mono fun x H1 ⟨s, R1, g1, rx, p1⟩ => ?_⟩
  obtain ⟨j, rfl, p2⟩ := postp_int p1
  obtain rfl := rx.fint
  exact ⟨j, rfl, postp_rng g1.sub p2⟩
theorem g_rng2 (C : Cok I G F X sc) {a b : CE} {x y : Expr} {ma m : Md} {p : Pos} (hg : glB sc (Str.ofString "range") = true) (hx : tame x = true) (hy : tame y = true) (ha : PE X x (Rd' F ma (ev G a))) (h : PE X y (Rd' F m (ev G b))) :
    PRg X (.Call (.Name (Str.ofString "range") p) [x, y] [] pos) (RdP F (evI G (.rng2 a b))) := by
  refine prgImp (prg_2 (gl_of C hg) (mgB C (by decide)) ha h (starEach_tame hx _ _) (starEach_tame hy _ _) (by rw [starEach_tame hy]; rfl)) fun σ H Q ⟨Γ, R, rel, p⟩ => ⟨Γ, R, rel, (postp_bind p).mono fun u H1 ⟨s, R1, g1, rx, p1⟩ => ?_⟩
  obtain ⟨i, rfl, p2⟩ := postp_int p1
  obtain rfl := rx.fint
  refine ⟨Γ, R1, rel.grow g1, (postp_bind p2).mono fun w H2 ⟨t, R2, g2, ry, p3⟩ => ?_⟩
  obtain ⟨j, rfl, p4⟩ := postp_int p3
  obtain rfl := ry.fint
  exact ⟨i, j, rfl, rfl, postp_rng g2.sub p4⟩
theorem rg_len {a b : Int} : (rangeP a 1 (b - a).toNat).length = (rgV a b).length := by rw [rangeP_len, rgV_length]
theorem rpl_rg {K : Fr'} {R : Hp} {a b : Int} : RpL K R (rangeP a 1 (b - a).toNat) (rgV a b) := by
  unfold rgV
  generalize (b - a).toNat = n
  induction n generalizing a with
  | zero => rfl
  | succ n ih =>
    rw [List.range_succ_eq_map, List.map_cons, List.map_map]
    refine ⟨_, _, rfl, by show V.int _ = V.int _; congr 1; simp, ?_⟩
    have e : (List.range n).map ((fun i : Nat => V.int (a + (i : Nat))) ∘ Nat.succ) = (List.range n).map (fun i : Nat => V.int (a + 1 + (i : Nat))) := by
      refine List.map_congr_left fun i _ => ?_
      show V.int _ = V.int _
      congr 1
      push_cast
      omega
    rw [e]
    exact ih
theorem r_colT (C : Cok I G F X sc) {it : CI} {y : Expr} {p : Pos} (hg : glB sc (Str.ofString "tuple") = true) (hy : tame y = true) (h : PRg X y (RdP F (evI G it))) : PE X (.Call (.Name (Str.ofString "tuple") p) [y] [] pos) (Rd' F .e (ev G (.col true it))) := by
  refine peImp (pe_tupRg C.calm (gl_of C hg) (mgB C (by decide)) h (starEach_tame hy _ _)) fun σ H Q ⟨Γ, R, rel, p⟩ => ⟨Γ, R, rel, ?_⟩
  have p : Post F .e R σ H ((evI G it Γ).bind fun xs => .ok (.d (.tup xs))) Q := p
  cases e : evI G it Γ with
  | bad => rw [e] at p; exact p.elim
  | exc c => rw [e] at p; exact p
  | ok xs =>
    rw [e] at p
    intro a b H1 R1 g ex ok
    subst ex
    refine ⟨ok, fun q hq => Post.newT g.sub (Post.grow (r := .ok (.d (.tup _))) p g) hq rpl_rg ?_⟩
    rw [rangeP_len]; exact ok.2.2.2.2
theorem r_colL (C : Cok I G F X sc) {it : CI} {y : Expr} {p : Pos} (hg : glB sc (Str.ofString "list") = true) (hy : tame y = true) (h : PRg X y (RdP F (evI G it))) : PE X (.Call (.Name (Str.ofString "list") p) [y] [] pos) (Rd' F .e (ev G (.col false it))) := by
  refine peImp (pe_listRg C.calm (gl_of C hg) (mgB C (by decide)) h (starEach_tame hy _ _)) fun σ H Q ⟨Γ, R, rel, p⟩ => ⟨Γ, R, rel, ?_⟩
  have p : Post F .e R σ H ((evI G it Γ).bind fun xs => .ok (.d (.lst xs))) Q := p
  cases e : evI G it Γ with
  | bad => rw [e] at p; exact p.elim
  | exc c => rw [e] at p; exact p
  | ok xs =>
    rw [e] at p
    intro a b H1 R1 g ex ok
    subst ex
    refine ⟨ok, fun q hq => Post.newL g.sub (Post.grow (r := .ok (.d (.lst _))) p g) hq rpl_rg ?_⟩
    rw [rangeP_len]; exact ok.2.2.2.2
end
end Bw
end

section
set_option autoImplicit false
set_option linter.all false
set_option maxRecDepth 100000
/-! Bw S3: len(set(a)), sorted(set(a)), a a list or a tuple of whole numbers. -/
namespace Bw
open PySem L2 PySem.Spec PyProof.Rows
/-- a set that is made, nothing in it yet -/
abbrev noneIn (w : World) : Obj := { cls := .type "set", dict := none, data := .set #[] 0 (.fresh 0 0 (!w.params.followText "set-order")) }
section
variable {P : Program} {w : World} {A : Around} {E : Value → Shared → Prop} {s : Shared}
set_option maxHeartbeats 3200000 in
theorem call_set_lst {l : Addr} {xs : Array Value} (ns : List Int) {Q : Value → Shared → Prop} (hh : A.handled = none) (hl : s.heap.IsList l xs) (hi : IntsAre xs.toList ns) (hb : ns.length + 1 < scanBound)
    (h : ∀ (h' : Heap) (tk c : Nat), SetR w h' s.heap.objs.size (fun j => decide (j ∈ ns)) c → c ≤ ns.length → (∀ b o, s.heap.get? b = some o → h'.get? b = some o) → Q (.ref s.heap.objs.size) { s with heap := h', toks := tk }) :
    wpAny (model P w) A (call (.type "set") [.ref l]) Q E s := by
  have hn : xs.size = ns.length := by
    have z := IntsAre.length hi
    rwa [Array.length_toList] at z
  obtain ⟨c0, t0, m0⟩ := F.called_set.mro
  have e1 := F.called_set.made
  have e2 := F.called_set.sub
  have e3 := F.called_set.notType
  have e4 := F.called_set.canCreate
  have e5 := F.typeCall_set_1 (.ref l)
  have ht : (s.heap.push (noneIn w)).get? s.heap.objs.size = some (noneIn w) := Heap.get?_push_size _ rfl
  have hT : Shared.TypeIs { s with heap := s.heap.push (noneIn w) } (.ref s.heap.objs.size) "set" := ⟨_, ht, rfl⟩
  have e6 := F.called_set.init.lookup
  have e7 := F.called_set.init.bind (.ref s.heap.objs.size)
  refine wpAny_call (codeAny_of_tree ?_)
  show wpAny _ _ (callAny (.type "set") _) _ _ _
  refine wpAny_pure ⟨Code.quiet_builtin _ (by decide +kernel), codeAny_builtin F.entry_type_call ?_⟩
  rw [Around.under_plain (weight_type_call_type "set" [.ref l] []) rfl]
  repeat (any_goals (first | assumption | wp_step))
  refine codeAny_mono (code_set_led1 (.ref l) (E := E) (Q₁ := fun y z => y = .ref s.heap.objs.size ∧ z = { s with heap := s.heap.push (noneIn w) }) ⟨rfl, rfl⟩) fun r z hr => ?_
  cases r with
  | error e => exact hr
  | ok fl =>
    cases fl with
    | ret y =>
      obtain ⟨rfl, rfl⟩ := hr
      repeat (any_goals (first | assumption | wp_step))
      refine codeAny_mono (codeAny_call_builtin (R := wants (fun r z => r = .none ∧ ∃ h' tk c, z = { s with heap := h', toks := tk } ∧ SetR w h' s.heap.objs.size (fun j => decide (j ∈ ns)) c ∧ c ≤ ns.length ∧
          (∀ b o, s.heap.get? b = some o → h'.get? b = some o)) E) F.called_set.init.plain F.entry_set_init (check_set_init_1 hT ?_)) fun r2 z2 hr2 => ?_
      · obtain ⟨⟨oc, od, odt, os⟩, hol, hcl, nl, hdl⟩ := hl
        simp only at hcl hdl
        subst hcl; subst hdl
        have hol' : (s.heap.push (noneIn w)).get? l = some { cls := .type "list", dict := od, data := .seq xs nl, slots := os } := Heap.get?_push_of_some _ hol
        have f1 := F.sub_list_set
        have f2 := F.sub_list_frozenset
        have f3 : (Value.type "list" == Value.type "dict") = false := by decide
        have hl1 : (s.heap.push (noneIn w)).IsList l xs := ⟨_, hol', rfl, nl, rfl⟩
        unfold Builtin.«set.__init__» noKeywords Builtin.Frozenset.updateFrom
        generalize hPI : pyIter = PI
        wp_walk
        subst hPI
        refine wpAny_pyIter_list hl1 ?_
        refine wpAny_bind (wpAny_runValue ?_)
        have lS : l < s.heap.objs.size := Heap.lt_size hol
        have h3 : A.in1.in1.in1.handled = none := by simp [hh]
        have neI : l ≠ (s.heap.push (noneIn w)).objs.size := by
          rw [Heap.size_push]; exact Nat.ne_of_lt (Nat.lt_succ_of_lt lS)
        have nS : s.heap.objs.size ∉ [(s.heap.push (noneIn w)).objs.size, l] := by
          rw [Heap.size_push]
          intro hm
          rcases List.mem_cons.mp hm with q | q
          · exact absurd q (Nat.ne_of_lt (Nat.lt_succ_self _))
          · exact absurd (List.mem_singleton.mp q) (Nat.ne_of_gt lS)
        have hv : ∀ (i : Nat) (v : Value), xs[i]? = some v → ∃ k t, ns[i]? = some k ∧ v = .int k t := fun i v hv => by
          have q : i < ns.length := by rw [← hn]; exact (Array.getElem?_eq_some_iff.mp hv).1
          obtain ⟨t, e⟩ := PyProof.Rows.IntsAre.int_at hi i v (by rw [Array.getElem?_toList]; exact hv)
          refine ⟨ns[i], t, List.getElem?_eq_getElem q, ?_⟩
          rw [e, List.getD_eq_getElem?_getD, List.getElem?_eq_getElem q] <;> rfl
        refine set_update_ints ((Walks.list h3 _ l neI xs).toS) s.heap.objs.size nS ns hn hb hv (xs.size - 0) 0 _ (by omega) (Nat.zero_le _) ⟨⟨_, Heap.get?_push_size _ rfl, rfl, rfl⟩, (hl1.push _)⟩ ?A0 ?AR
        case A0 => exact ⟨0, Nat.le_refl 0, setR_new_at (Heap.get?_push_of_some _ ht)⟩
        case AR =>
          intro s2 c2 hm hc2 hS2
          obtain ⟨g1, g2, g3, g4, g5⟩ := s2
          obtain rfl : g2 = s.gens := hm.gens
          obtain rfl : g3 = s.drawn := hm.drawn
          obtain rfl : g5 = s.os := hm.os
          show wpAny _ _ _ _ _ _
          refine wpAny_pure ?_
          show wpAny _ _ (ret Value.none) _ _ _
          rw [hn] at hc2
          refine wpAny_pure ⟨rfl, g1, g4, c2, rfl, hS2, hc2, fun b o e => ?_⟩
          have b0 : b < s.heap.objs.size := Heap.lt_size e
          refine hm.heap b o (fun hmem => ?_) (Heap.get?_push_of_some _ (Heap.get?_push_of_some _ e))
          rcases List.mem_cons.mp hmem with q | q
          · exact absurd q (Nat.ne_of_lt b0)
          · have z := List.mem_singleton.mp q
            rw [Heap.size_push] at z
            exact absurd z (Nat.ne_of_lt (Nat.lt_succ_of_lt b0))
      · cases r2 with
        | error e => exact hr2
        | ok fl2 =>
          cases fl2 with
          | ret r =>
            obtain ⟨rfl, h', tk, c', rfl, q1, q2, q3⟩ := hr2
            repeat (any_goals (first | assumption | wp_step))
            exact h _ _ _ q1 q2 q3
          | _ => exact hr2.elim
    | _ => exact hr.elim
set_option maxHeartbeats 3200000 in
theorem call_set_tupsT {l : Addr} {xs : Array Value} (ks : List (Addr × List Int)) {Q : Value → Shared → Prop} (hh : A.handled = none) (hl : s.heap.IsTuple l xs) (hit : xs.toList = ks.map fun p => Value.ref p.1)
    (hk : ∀ p ∈ ks, IsT P w s.heap p.2 p.1) (hfew : ks.length < 64) (hu : A.units + 3 < cLine)
    (h : ∀ (h' : Heap) (tk : Nat) L es ep t, SetTR P w h' s.heap.objs.size L es ep t → Got ks ks.length L → (∀ b o, s.heap.get? b = some o → h'.get? b = some o) → Q (.ref s.heap.objs.size) { s with heap := h', toks := tk }) :
    wpAny (model P w) A (call (.type "set") [.ref l]) Q E s := by
  have hn : xs.size = ks.length := by
    have z := congrArg List.length hit
    rwa [Array.length_toList, List.length_map] at z
  obtain ⟨c0, t0, m0⟩ := F.called_set.mro
  have e1 := F.called_set.made
  have e2 := F.called_set.sub
  have e3 := F.called_set.notType
  have e4 := F.called_set.canCreate
  have e5 := F.typeCall_set_1 (.ref l)
  have ht : (s.heap.push (noneIn w)).get? s.heap.objs.size = some (noneIn w) := Heap.get?_push_size _ rfl
  have hT : Shared.TypeIs { s with heap := s.heap.push (noneIn w) } (.ref s.heap.objs.size) "set" := ⟨_, ht, rfl⟩
  have e6 := F.called_set.init.lookup
  have e7 := F.called_set.init.bind (.ref s.heap.objs.size)
  refine wpAny_call (codeAny_of_tree ?_)
  show wpAny _ _ (callAny (.type "set") _) _ _ _
  refine wpAny_pure ⟨Code.quiet_builtin _ (by decide +kernel), codeAny_builtin F.entry_type_call ?_⟩
  rw [Around.under_plain (weight_type_call_type "set" [.ref l] []) rfl]
  repeat (any_goals (first | assumption | wp_step))
  refine codeAny_mono (code_set_led1 (.ref l) (E := E) (Q₁ := fun y z => y = .ref s.heap.objs.size ∧ z = { s with heap := s.heap.push (noneIn w) }) ⟨rfl, rfl⟩) fun r z hr => ?_
  cases r with
  | error e => exact hr
  | ok fl =>
    cases fl with
    | ret y =>
      obtain ⟨rfl, rfl⟩ := hr
      repeat (any_goals (first | assumption | wp_step))
      refine codeAny_mono (codeAny_call_builtin (R := wants (fun r z => r = .none ∧ ∃ h' tk L es ep t, z = { s with heap := h', toks := tk } ∧ SetTR P w h' s.heap.objs.size L es ep t ∧ Got ks ks.length L ∧
          (∀ b o, s.heap.get? b = some o → h'.get? b = some o)) E) F.called_set.init.plain F.entry_set_init (check_set_init_1 hT ?_)) fun r2 z2 hr2 => ?_
      · obtain ⟨⟨oc, od, odt, os⟩, hol, hcl, nl, hdl⟩ := hl
        simp only at hcl hdl
        subst hcl; subst hdl
        have hol' : (s.heap.push (noneIn w)).get? l = some { cls := .type "tuple", dict := od, data := .seq xs nl, slots := os } := Heap.get?_push_of_some _ hol
        have f1 := F.sub_tuple_set
        have f2 := F.sub_tuple_frozenset
        have f3 : (Value.type "tuple" == Value.type "dict") = false := by decide
        have hl1 : (s.heap.push (noneIn w)).IsTuple l xs := ⟨_, hol', rfl, nl, rfl⟩
        unfold Builtin.«set.__init__» noKeywords Builtin.Frozenset.updateFrom
        generalize hPI : pyIter = PI
        wp_walk
        subst hPI
        refine wpAny_pyIter_tuple hl1 ?_
        refine wpAny_bind (wpAny_runValue ?_)
        have lS : l < s.heap.objs.size := Heap.lt_size hol
        have h3 : A.in1.in1.in1.handled = none := by simp [hh]
        have neI : l ≠ (s.heap.push (noneIn w)).objs.size := by
          rw [Heap.size_push]; exact Nat.ne_of_lt (Nat.lt_succ_of_lt lS)
        have nS : s.heap.objs.size ∉ [(s.heap.push (noneIn w)).objs.size, l] := by
          rw [Heap.size_push]
          intro hm
          rcases List.mem_cons.mp hm with q | q
          · exact absurd q (Nat.ne_of_lt (Nat.lt_succ_self _))
          · exact absurd (List.mem_singleton.mp q) (Nat.ne_of_gt lS)
        have hv : ∀ (i : Nat) (v : Value), xs[i]? = some v → ∃ p, ks[i]? = some p ∧ v = .ref p.1 := fun i v hv => by
          have q : xs.toList[i]? = some v := by rw [Array.getElem?_toList]; exact hv
          rw [hit, List.getElem?_map] at q
          cases hq : ks[i]? with
          | none => rw [hq] at q; cases q
          | some p => rw [hq] at q; exact ⟨p, rfl, (Option.some.inj q).symm⟩
        have no : ∀ b, s.heap.objs.size ≤ b → s.heap.get? b = none := fun b hb => by
          cases q : s.heap.get? b with
          | none => rfl
          | some o => exact absurd (Nat.lt_of_lt_of_le (Heap.lt_size q) hb) (Nat.lt_irrefl _)
        refine set_update_tups ((Walks.tuple h3 _ l neI xs).toS) s.heap.objs.size nS ks hn hfew hv s.heap hk (no _ (Nat.le_refl _)) (fun b hb => no b (by
            rw [List.mem_singleton.mp hb, Heap.size_push]; exact Nat.le_succ _)) hu (xs.size - 0) 0 _ (by omega) (Nat.zero_le _) ⟨⟨_, Heap.get?_push_size _ rfl, rfl, rfl⟩, (hl1.push _)⟩ (fun b o e => Heap.get?_push_of_some _ (Heap.get?_push_of_some _ e)) ?A0 ?AR
        case A0 => exact ⟨[], #[], 0, _, setTR_fresh (Heap.get?_push_of_some _ ht), Got.zero ks⟩
        case AR =>
          intro s2 L es ep t hm hS2 g' kp
          obtain ⟨g1, g2, g3, g4, g5⟩ := s2
          obtain rfl : g2 = s.gens := hm.gens
          obtain rfl : g3 = s.drawn := hm.drawn
          obtain rfl : g5 = s.os := hm.os
          show wpAny _ _ _ _ _ _
          refine wpAny_pure ?_
          show wpAny _ _ (ret Value.none) _ _ _
          rw [hn] at g'
          exact wpAny_pure ⟨rfl, g1, g4, L, es, ep, t, rfl, hS2, g', kp⟩
      · cases r2 with
        | error e => exact hr2
        | ok fl2 =>
          cases fl2 with
          | ret r =>
            obtain ⟨rfl, h', tk, L, es, ep, t, rfl, q1, q2, q3⟩ := hr2
            repeat (any_goals (first | assumption | wp_step))
            exact h _ _ _ _ _ _ q1 q2 q3
          | _ => exact hr2.elim
    | _ => exact hr.elim
end
section
variable {I : Inf} {G : Ctx} {F : Fr} {X : Cx} {sc : Scope} {pos : Pos}
/-- set(a), then what is asked of it -/
theorem set_made {a : Expr} {ta : TE} {p2 q : Pos} (hg2 : Gl X "set") (hm2 : X.mg "set" = none) (ha : PE X a ta) (hc : X.calm = true) (na : starEach [a] X.env = (false, eval a X.env) :: starEach [] X.env)
    {pins : List (Addr × Obj)} {st : Shared} {σ : L2.St} {H : Hp} {W : Value → Shared → Prop} (J : Inv X pins σ H st)
    {V0 : VK} (h : ta σ H V0) (kk : ∀ x H1, V0 x H1 → ∃ (l : Addr) (ns : List Int), x = .ref l ∧ (SqL X.K H1 l (ns.map V.int) ∨ SqT X.K H1 l (ns.map V.int)) ∧ ns.length < 64 ∧
      ∀ (s1 : Shared) (a : Addr) (c : Nat), Inv X pins σ H1 s1 → SetR X.w s1.heap a (fun j => decide (j ∈ ns)) c → c ≤ ns.length → W (.ref a) s1) :
    wpAny (model X.prog X.w) X.A (eval (.Call (.Name "set" p2) [a] [] q) X.env) W X.xe st := by
  refine Call_ (ld_blt J hg2 hm2 boot_set ?_)
  refine PyProof.Rows.callWith_type1 (PyProof.Rows.args_cons (thn (ha.run pins st σ H _ J h) fun v s1 ⟨x, H1, I1, r1, q1⟩ => PyProof.Rows.args_nil ?_) na) na rfl
  obtain ⟨l, ns, rfl, hq, hl, k⟩ := kk _ _ q1
  cases r1
  have hd := I1.ok.hd hc
  have fin : ∀ (h' : Heap) (tk c : Nat), SetR X.w h' s1.heap.objs.size (fun j => decide (j ∈ ns)) c → c ≤ ns.length → (∀ b o, s1.heap.get? b = some o → h'.get? b = some o) → W (.ref s1.heap.objs.size) { s1 with heap := h', toks := tk } :=
    fun h' tk c S hc kp => k _ _ c (I1.kept kp) S hc
  rcases hq with hq | hq
  · obtain ⟨its, r, pl, hz⟩ := I1.list hq
    exact call_set_lst ns hd pl.isList (by simpa using RZ.intsAre_vals r) (by unfold scanBound; omega) fin
  · obtain ⟨its, r, pt, hz⟩ := I1.tuple hq
    exact call_set_tupI ns hd (show s1.heap.IsTuple l its.toArray from pt) (by simpa using RZ.intsAre_vals r) (by unfold scanBound; omega) fin
/-- the same, a also a list of tuples of whole numbers -/
theorem set_made2 {a : Expr} {ta : TE} {p2 q : Pos} (hg2 : Gl X "set") (hm2 : X.mg "set" = none) (ha : PE X a ta) (hc : X.calm = true) (hu : X.A.units + 100 < cLine) (na : starEach [a] X.env = (false, eval a X.env) :: starEach [] X.env)
    {pins : List (Addr × Obj)} {st : Shared} {σ : L2.St} {H : Hp} {W : Value → Shared → Prop} (J : Inv X pins σ H st)
    {V0 : VK} (h : ta σ H V0) (kk : ∀ x H1, V0 x H1 → (∃ (l : Addr) (ns : List Int), x = .ref l ∧ (SqL X.K H1 l (ns.map V.int) ∨ SqT X.K H1 l (ns.map V.int)) ∧ ns.length < 64 ∧
      ∀ (s1 : Shared) (a : Addr) (c : Nat), Inv X pins σ H1 s1 → SetR X.w s1.heap a (fun j => decide (j ∈ ns)) c → c ≤ ns.length → W (.ref a) s1) ∨
      (∃ (l : Addr) (ks : List (Addr × List Int)), x = .ref l ∧ (SqL X.K H1 l (ks.map fun p => V.ref p.1) ∨ SqT X.K H1 l (ks.map fun p => V.ref p.1)) ∧ (∀ p ∈ ks, SqT X.K H1 p.1 (p.2.map V.int)) ∧ ks.length < 64 ∧
      ∀ (s1 : Shared) (a : Addr) L es ep t, Inv X pins σ H1 s1 → SetTR X.prog X.w s1.heap a L es ep t → Got ks ks.length L → W (.ref a) s1)) :
    wpAny (model X.prog X.w) X.A (eval (.Call (.Name "set" p2) [a] [] q) X.env) W X.xe st := by
  refine Call_ (ld_blt J hg2 hm2 boot_set ?_)
  refine PyProof.Rows.callWith_type1 (PyProof.Rows.args_cons (thn (ha.run pins st σ H _ J h) fun v s1 ⟨x, H1, I1, r1, q1⟩ => PyProof.Rows.args_nil ?_) na) na rfl
  have hd := I1.ok.hd hc
  rcases kk _ _ q1 with ⟨l, ns, rfl, hq, hl, k⟩ | ⟨l, ks, rfl, hq, hk, hl, k⟩
  · cases r1
    have fin : ∀ (h' : Heap) (tk c : Nat), SetR X.w h' s1.heap.objs.size (fun j => decide (j ∈ ns)) c → c ≤ ns.length → (∀ b o, s1.heap.get? b = some o → h'.get? b = some o) → W (.ref s1.heap.objs.size) { s1 with heap := h', toks := tk } :=
      fun h' tk c S hc kp => k _ _ c (I1.kept kp) S hc
    rcases hq with hq | hq
    · obtain ⟨its, r, pl, hz⟩ := I1.list hq
      exact call_set_lst ns hd pl.isList (by simpa using RZ.intsAre_vals r) (by unfold scanBound; omega) fin
    · obtain ⟨its, r, pt, hz⟩ := I1.tuple hq
      exact call_set_tupI ns hd (show s1.heap.IsTuple l its.toArray from pt) (by simpa using RZ.intsAre_vals r) (by unfold scanBound; omega) fin
  · cases r1
    rcases hq with hq | hq
    · obtain ⟨its, rv, pl, hz⟩ := I1.list hq
      refine call_set_tups (P := X.prog) (w := X.w) ks hd pl.isList (by simpa using refs_of_vals rv) (fun p hp => I1.isT (hk p hp)) hl (by omega) fun h' tk L es ep t R g kp => ?_
      exact k _ _ L es ep t (I1.kept kp) R g
    · obtain ⟨its, rv, pl, hz⟩ := I1.tuple hq
      refine call_set_tupsT (P := X.prog) (w := X.w) ks hd (show s1.heap.IsTuple l its.toArray from pl) (by simpa using refs_of_vals rv) (fun p hp => I1.isT (hk p hp)) hl (by omega) fun h' tk L es ep t R g kp => ?_
      exact k _ _ L es ep t (I1.kept kp) R g
end
end Bw
end

section
set_option autoImplicit false
set_option linter.all false
/-! Bw S4: len(set(a)), sorted(set(a)) read by trees. -/
namespace Bw
open PySem L2 PySem.Spec PyProof.Rows
theorem set_count {w : World} {h : Heap} {a : Addr} {ns : List Int} {c : Nat} (S : SetR w h a (fun j => decide (j ∈ ns)) c) : c = (sortI ns).length := by
  obtain ⟨o, es, ep, t, ho, hex, hd, g, nd, hm, hb, hf, hn, hr, hl⟩ := S
  have e : (es.toList.map keyOf).Perm (sortI ns) := by
    refine (List.perm_ext_iff_of_nodup nd ?_).mpr fun k => ?_
    · exact (sortI_pw (l := ns)).imp fun {a b} h => by omega
    · rw [← hm k, mem_sortI, decide_eq_true_eq]
  have := e.length_eq
  rw [List.length_map, Array.length_toList] at this
  omega
section
variable {I : Inf} {G : Ctx} {F : Fr} {X : Cx} {sc : Scope} {pos : Pos}
def tDst (b : Bool) (K : PySem.W.Frag) (ta : TE) : TE := fun σ H Q => ta σ H fun x H1 => ∃ (l : Addr) (ns : List Int), x = .ref l ∧ (SqL K H1 l (ns.map V.int) ∨ SqT K H1 l (ns.map V.int)) ∧ ns.length < 64 ∧
  (if b then Q (.int ((sortI ns).length : Nat)) H1 else ∀ p, H1 p = none → Q (.ref p) (upd H1 p (.lst ((sortI ns).map V.int))))
/-- what sorted(set(a)) gives of pairs of small whole numbers -/
def tDsP (K : PySem.W.Frag) (Q : VK) (x : V) (H1 : Hp) : Prop := ∃ (l : Addr) (ks : List (Addr × List Int)), x = .ref l ∧ (SqL K H1 l (ks.map fun p => V.ref p.1) ∨ SqT K H1 l (ks.map fun p => V.ref p.1)) ∧ (∀ p ∈ ks, SqT K H1 p.1 (p.2.map V.int)) ∧ (∀ p ∈ ks, p.2.length = 2 ∧ TS.Bd 64 p.2) ∧ ks.length < 64 ∧
  ∀ (L : List (Addr × List Int)) (p : Addr), (∀ q ∈ L, q ∈ ks) → (∀ q ∈ ks, q.2 ∈ L.map (·.2)) → (L.map (·.2)).Nodup → L.Pairwise (fun q r => TS.code 64 q.2 ≤ TS.code 64 r.2) → H1 p = none → Q (.ref p) (upd H1 p (.lst (L.map fun q => V.ref q.1)))
def tDst2 (K : PySem.W.Frag) (ta : TE) : TE := fun σ H Q => ta σ H fun x H1 => (∃ (l : Addr) (ns : List Int), x = .ref l ∧ (SqL K H1 l (ns.map V.int) ∨ SqT K H1 l (ns.map V.int)) ∧ ns.length < 64 ∧ ∀ p, H1 p = none → Q (.ref p) (upd H1 p (.lst ((sortI ns).map V.int)))) ∨ tDsP K Q x H1
theorem sortI_len : ∀ ns : List Int, (sortI ns).length ≤ ns.length
  | [] => Nat.le_refl _
  | i :: is => by
    have ih := sortI_len is
    have k : ∀ (i : Int) (l : List Int), (insI i l).length ≤ l.length + 1 := fun i l => by
      induction l with
      | nil => simp [insI]
      | cons x xs ih =>
        unfold insI
        split
        · simp
        · split
          · simp
          · simpa using ih
    have := k i (sortI is)
    show (insI i (sortI is)).length ≤ is.length + 1
    omega
theorem pe_dst {b : Bool} {a : Expr} {ta : TE} {p p2 q : Pos} (hg : Gl X (Str.ofString (if b then "len" else "sorted"))) (hm : X.mg (Str.ofString (if b then "len" else "sorted")) = none) (hg2 : Gl X "set") (hm2 : X.mg "set" = none) (ha : PE X a ta) (hc : X.calm = true)
    (na : starEach [a] X.env = (false, eval a X.env) :: starEach [] X.env) : PE X (.Call (.Name (Str.ofString (if b then "len" else "sorted")) p) [.Call (.Name "set" p2) [a] [] q] [] pos) (tDst b X.K ta) := by
  refine ⟨fun pins s σ H Q J h => ?_⟩
  cases b with
  | true =>
    refine Call_ (ld_blt J hg hm boot_len ?_)
    refine callWith_builtin1 (args_cons (set_made hg2 hm2 ha hc na J h fun x H1 ⟨l, ns, e, hq, hl, k⟩ => ⟨l, ns, e, hq, hl, fun s1 a c I1 S hcn => args_nil ?_⟩) rfl) rfl rfl
    have e := set_count S
    obtain ⟨o, es, ep, t, ho, hex, hd, g, nd, hm, hb, hf, hn, hr, hl2⟩ := S
    refine call_len_set ho hex hd hf (by unfold scanBound at hb; omega) ⟨.int es.size, H1, I1.tok _, ⟨_, rfl⟩, ?_⟩
    rw [hn, e]
    exact k
  | false =>
    refine Call_ (ld_blt J hg hm (show bootBuiltins (Str.ofString "sorted") = _ from rfl) ?_)
    refine callWith_builtin1 (args_cons (set_made hg2 hm2 ha hc na J h fun x H1 ⟨l, ns, e, hq, hl, k⟩ => ⟨l, ns, e, hq, hl, fun s1 a c I1 S hcn => args_nil ?_⟩) rfl) rfl rfl
    refine sorted_set S (I1.ok.hd hc) (by omega) fun s' p out c' ns' kp g o hp hgt hi hs hmm hl' => ?_
    obtain rfl : ns' = sortI ns := pw_same hs sortI_pw fun j => by rw [hmm j, decide_eq_true_eq, mem_sortI]
    have hlen : ((sortI ns).map V.int).length ≤ sizeLine := by
      have := sortI_len ns
      rw [List.length_map, sizeLine_eq]; omega
    have hnone : H1 p = none := I1.hok.fresh hp
    have K : Inv X pins σ (upd H1 p (.lst ((sortI ns).map V.int))) { s1 with heap := s'.heap, gens := s'.gens, drawn := s'.drawn, toks := s'.toks } :=
      I1.call (ch := []) (Un.laid kp hp hnone) (I1.hok.laid kp hp ⟨hlen, out.toList, c', vals_of_ints hi, hgt⟩) (by rw [g]; exact I1.bare) (fun _ z => nomatch z)
    have e : s' = { s1 with heap := s'.heap, gens := s'.gens, drawn := s'.drawn, toks := s'.toks } := by
      cases s'; cases s1; cases o; rfl
    rw [e]
    exact ⟨.ref p, _, K, rfl, k p hnone⟩
theorem pe_dst2 {a : Expr} {ta : TE} {p p2 q : Pos} (hg : Gl X (Str.ofString "sorted")) (hm : X.mg (Str.ofString "sorted") = none) (hg2 : Gl X "set") (hm2 : X.mg "set" = none) (ha : PE X a ta) (hc : X.calm = true) (hu : X.A.units + 100 < cLine)
    (na : starEach [a] X.env = (false, eval a X.env) :: starEach [] X.env) : PE X (.Call (.Name (Str.ofString "sorted") p) [.Call (.Name "set" p2) [a] [] q] [] pos) (tDst2 X.K ta) := by
  refine ⟨fun pins s σ H Q J h => ?_⟩
  refine Call_ (ld_blt J hg hm (show bootBuiltins (Str.ofString "sorted") = _ from rfl) ?_)
  refine callWith_builtin1 (args_cons (set_made2 hg2 hm2 ha hc hu na J h fun x H1 hh => ?_) rfl) rfl rfl
  rcases hh with ⟨l, ns, e, hq, hl, k⟩ | ⟨l, ks, e, hq, hk, hb, hl, k⟩
  · refine .inl ⟨l, ns, e, hq, hl, fun s1 a c I1 S hcn => args_nil ?_⟩
    refine sorted_set S (I1.ok.hd hc) (by omega) fun s' p out c' ns' kp g o hp hgt hi hs hmm hl' => ?_
    obtain rfl : ns' = sortI ns := pw_same hs sortI_pw fun j => by rw [hmm j, decide_eq_true_eq, mem_sortI]
    have hlen : ((sortI ns).map V.int).length ≤ sizeLine := by
      have := sortI_len ns
      rw [List.length_map, sizeLine_eq]; omega
    have hnone : H1 p = none := I1.hok.fresh hp
    have K : Inv X pins σ (upd H1 p (.lst ((sortI ns).map V.int))) { s1 with heap := s'.heap, gens := s'.gens, drawn := s'.drawn, toks := s'.toks } :=
      I1.call (ch := []) (Un.laid kp hp hnone) (I1.hok.laid kp hp ⟨hlen, out.toList, c', vals_of_ints hi, hgt⟩) (by rw [g]; exact I1.bare) (fun _ z => nomatch z)
    have e : s' = { s1 with heap := s'.heap, gens := s'.gens, drawn := s'.drawn, toks := s'.toks } := by
      cases s'; cases s1; cases o; rfl
    rw [e]
    exact ⟨.ref p, _, K, rfl, k p hnone⟩
  · refine .inr ⟨l, ks, e, hq, hk, hl, fun s1 a L es ep t I1 R g => args_nil ?_⟩
    have hsub : ∀ q ∈ L, q ∈ ks := fun q hq => List.mem_of_mem_take (g.sub q hq)
    refine sorted_setT R (I1.ok.hd hc) (d := 2) (B := 64) (by decide) (fun q hq => hb q (hsub q hq)) fun s' p out c L' kp gg o hp hgt hout pm pw => ?_
    have hfew : L'.length < 64 := by rw [pm.length_eq]; exact R.few
    have hlen : (L'.map fun q => V.ref q.1).length ≤ sizeLine := by rw [List.length_map, sizeLine_eq]; omega
    have hnone : H1 p = none := I1.hok.fresh hp
    have hv : Vals (L'.map fun q => V.ref q.1) out.toList := by rw [hout]; exact vals_of_refs L'
    have K : Inv X pins σ (upd H1 p (.lst (L'.map fun q => V.ref q.1))) { s1 with heap := s'.heap, gens := s'.gens, drawn := s'.drawn, toks := s'.toks } :=
      I1.call (ch := []) (Un.laid kp hp hnone) (I1.hok.laid kp hp ⟨hlen, out.toList, c, hv, hgt⟩) (by rw [gg]; exact I1.bare) (fun _ z => nomatch z)
    have e : s' = { s1 with heap := s'.heap, gens := s'.gens, drawn := s'.drawn, toks := s'.toks } := by
      cases s'; cases s1; cases o; rfl
    rw [e]
    refine ⟨.ref p, _, K, rfl, k L' p (fun q hq => hsub q (pm.mem_iff.mp hq)) (fun q hq => ?_) ((pm.map (·.2)).nodup_iff.mpr R.nd) pw hnone⟩
    exact (pm.map (·.2)).mem_iff.mpr (g.all q (by rw [List.take_length]; exact hq))
/-- the list's tuples -/
theorem set_tups {K : Fr'} {R : Hp} : ∀ {ps : List PV} {cs : List Int} {vs : List V}, codes? ps = some cs → RpL K R ps vs → ∃ ks : List (Addr × List Int), vs = (ks.map fun p => V.ref p.1) ∧ cs = (ks.map fun p => TS.code 64 p.2) ∧ ps.length = ks.length ∧
    ∀ p ∈ ks, p.2.length = 2 ∧ TS.Bd 64 p.2 ∧ SqT K R p.1 (p.2.map V.int) ∧ RpD K R (deco (TS.code 64 p.2)) (.ref p.1)
  | [], cs, vs, h, r => by
    cases h
    exact ⟨[], r, rfl, rfl, by simp⟩
  | p :: ps, cs, vs, h, ⟨v, ws, e, rv, rs⟩ => by
    have h : ((code1 p).bind fun c => (codes? ps).bind fun cs => some (c :: cs)) = some cs := h
    cases e1 : code1 p with
    | none => rw [e1] at h; cases h
    | some c =>
      rw [e1] at h
      have h : ((codes? ps).bind fun cs => some (c :: cs)) = some cs := h
      cases e2 : codes? ps with
      | none => rw [e2] at h; cases h
      | some ds =>
        rw [e2] at h
        cases h
        obtain ⟨ks, q1, q2, q3, q4⟩ := set_tups e2 rs
        unfold code1 at e1
        split at e1
        · rename_i x y
          split at e1
          · rename_i b
            cases e1
            have rv0 := rv
            obtain ⟨a, us, ev, sq, z, r2⟩ : ∃ a us, v = .ref a ∧ SqT K R a us ∧ _ ∧ RpL K R [.int x, .int y] us := rv
            obtain ⟨u1, us1, eu, r3, u2, us2, eu2, r4, eu3⟩ := r2
            obtain rfl : u1 = .int x := r3
            obtain rfl : u2 = .int y := r4
            rw [show us2 = [] from eu3] at eu2
            subst eu2 eu ev
            have cd : TS.code 64 [x, y] = x * 64 + y := code_pair x y
            have dc : deco (x * 64 + y) = .tup [.int x, .int y] := by
              unfold deco
              rw [show (x * 64 + y) / 64 = x by omega, show (x * 64 + y) % 64 = y by omega]
            refine ⟨(a, [x, y]) :: ks, by rw [e, q1]; rfl, by rw [q2, List.map_cons, cd], by simp [q3], fun p hp => ?_⟩
            rcases List.mem_cons.mp hp with rfl | hp
            · refine ⟨rfl, fun m hm => ?_, sq, ?_⟩
              · simp at hm
                rcases hm with rfl | rfl <;> omega
              · show RpD K R (deco (TS.code 64 [x, y])) (.ref a)
                rw [cd, dc]; exact rv0
            · exact q4 p hp
          · cases e1
        · cases e1
theorem set_ints : ∀ {ps : List PV} {ns : List Int} {K : Fr'} {R : Hp} {vs : List V}, ints? ps = .ok ns → RpL K R ps vs → vs = ns.map V.int ∧ ps.length = ns.length
  | [], ns, K, R, vs, h, r => by
    cases h
    exact ⟨r, rfl⟩
  | p :: ps, ns, K, R, vs, h, ⟨v, ws, e, rv, rs⟩ => by
    cases p <;> first | (cases h; done) | skip
    rename_i i
    have h : ((ints? ps).bind fun is => .ok (i :: is)) = .ok ns := h
    cases e1 : ints? ps with
    | bad => rw [e1] at h; cases h
    | exc c => rw [e1] at h; cases h
    | ok is =>
      rw [e1] at h
      cases h
      obtain ⟨q1, q2⟩ := set_ints e1 rs
      subst e q1
      obtain rfl : v = .int i := rv
      exact ⟨rfl, by simp [q2]⟩
theorem post_ints {ps : List PV} {f : List Int → Res SV} {R H : Hp} {σ : L2.St} {Q : VK} (h : Post F .e R σ H ((ints? ps).bind f) Q) : ∃ ns, ints? ps = .ok ns ∧ Post F .e R σ H (f ns) Q := by
  have no : ∀ (ps : List PV) c, ints? ps ≠ .exc c := by
    intro ps
    induction ps with
    | nil => intro c z; cases z
    | cons p ps ih =>
      intro c z
      cases p <;> first | (cases z; done) | skip
      rename_i i
      have z : ((ints? ps).bind fun is => .ok (i :: is)) = .exc c := z
      cases e : ints? ps with
      | ok is => rw [e] at z; cases z
      | exc c => exact ih c e
      | bad => rw [e] at z; cases z
  cases e : ints? ps with
  | ok ns => rw [e] at h; exact ⟨ns, rfl, h⟩
  | exc c => exact absurd e (no ps c)
  | bad => rw [e] at h; exact h.elim
theorem src_seq (C : Cok I G F X sc) {m : Md} {s : SV} {R1 H1 : Hp} {x : V} (hs : Sub R1 H1) (rx : Rm F R1 H1 .t s x) : ∀ ps, seq? s = .ok ps → ∃ (a : Addr) (vs : List V), x = .ref a ∧ (SqL X.K H1 a vs ∨ SqT X.K H1 a vs) ∧ RpL F.K R1 ps vs := fun ps e => by
  cases s with
  | d q =>
    cases q with
    | lst qs =>
      cases e
      obtain ⟨a, vs, ex, sq, r, z⟩ := rx.lst hs
      exact ⟨a, vs, ex, .inl (.of sq), r⟩
    | tup qs =>
      cases e
      obtain ⟨a, vs, ex, sq, z, r⟩ := src_tup (K := F.K) (m := .t) rfl hs rx
      exact ⟨a, vs, ex, .inr (by rw [← C.hK]; exact sq H1 .refl), r⟩
    | _ => cases e
  | _ => cases e
theorem r_dst (C : Cok I G F X sc) {b : Bool} {a : CE} {y : Expr} {m : Md} {p p2 q : Pos} (hg : glB sc (Str.ofString (if b then "len" else "sorted")) = true) (hg2 : glB sc (Str.ofString "set") = true) (hy : tame y = true) (l : m.le .t = true) (h : PE X y (Rd' F m (ev G a))) :
    PE X (.Call (.Name (Str.ofString (if b then "len" else "sorted")) p) [.Call (.Name (Str.ofString "set") p2) [y] [] q] [] pos) (Rd' F .e (ev G (.dst b a))) := by
  cases b with
  | true =>
    refine peImp (pe_dst (b := true) (gl_of C hg) (mgB C (by decide)) (gl_of C hg2) (mgB C (by decide)) (peLe h l) C.calm (starEach_tame hy _ _)) fun σ H Q ⟨Γ, R, rel, p⟩ => ⟨Γ, R, rel, ?_⟩
    have p : Post F .e R σ H ((ev G a Γ).bind fun x => f1op .lenset x) Q := p
    refine (Post.bind (m := .t) rel.sub p).mono fun x H1 ⟨s, R1, _, g1, rx, p1⟩ => ?_
    have src := src_seq (m := m) C g1.sub rx
    have p1 : Post F .e R1 σ H1 ((seq? s).bind fun ps => (ints? ps).bind fun is => if is.length < 64 then .ok (.d (.int (sortI is).length)) else .bad) Q := p1
    cases e : seq? s with
    | bad => rw [e] at p1; exact p1.elim
    | exc c => cases s with
      | d q => cases q <;> cases e
      | _ => cases e
    | ok ps =>
      rw [e] at p1
      obtain ⟨ns, e2, p3⟩ := post_ints (show Post F .e R1 σ H1 ((ints? ps).bind _) Q from p1)
      obtain ⟨a, vs, ex, sq, r⟩ := src ps e
      obtain ⟨rfl, _⟩ := set_ints e2 r
      by_cases c : ns.length < 64
      · rw [if_pos c] at p3
        exact ⟨a, ns, ex, sq, c, Post.now g1.sub p3 rfl⟩
      · rw [if_neg c] at p3; exact p3.elim
  | false =>
    refine peImp (pe_dst2 (gl_of C hg) (mgB C (by decide)) (gl_of C hg2) (mgB C (by decide)) (peLe h l) C.calm C.un (starEach_tame hy _ _)) fun σ H Q ⟨Γ, R, rel, p⟩ => ⟨Γ, R, rel, ?_⟩
    have p : Post F .e R σ H ((ev G a Γ).bind fun x => f1op .sortedset x) Q := p
    refine (Post.bind (m := .t) rel.sub p).mono fun x H1 ⟨s, R1, _, g1, rx, p1⟩ => ?_
    have src := src_seq (m := m) C g1.sub rx
    have p1 : Post F .e R1 σ H1 ((seq? s).bind fun ps => if tupHd ps = true then (match codes? ps with
      | some cs => if cs.length < 64 then .ok (.d (.lst ((sortI cs).map deco))) else .bad
      | none => .bad)
      else (ints? ps).bind fun is => if is.length < 64 then .ok (.d (.lst ((sortI is).map PV.int))) else .bad) Q := p1
    cases e : seq? s with
    | bad => rw [e] at p1; exact p1.elim
    | exc c => cases s with
      | d q => cases q <;> cases e
      | _ => cases e
    | ok ps =>
      rw [e] at p1
      have p1 : Post F .e R1 σ H1 (if tupHd ps = true then (match codes? ps with
        | some cs => if cs.length < 64 then .ok (.d (.lst ((sortI cs).map deco))) else .bad
        | none => .bad)
        else (ints? ps).bind fun is => if is.length < 64 then .ok (.d (.lst ((sortI is).map PV.int))) else .bad) Q := p1
      by_cases ct : tupHd ps = true
      · rw [if_pos ct] at p1
        right
        cases ec : codes? ps with
        | none => rw [ec] at p1; exact p1.elim
        | some cs =>
          rw [ec] at p1
          have p1 : Post F .e R1 σ H1 (if cs.length < 64 then .ok (.d (.lst ((sortI cs).map deco))) else .bad) Q := p1
          obtain ⟨a, vs, ex, sq, r⟩ := src ps e
          obtain ⟨ks, rfl, rfl, hl, hk⟩ := set_tups ec r
          by_cases c : ks.length < 64
          · rw [if_pos (by rw [List.length_map]; exact c)] at p1
            refine ⟨a, ks, ex, sq, fun p hp => by rw [← C.hK]; exact g1.sub.seqT (hk p hp).2.2.1, fun p hp => ⟨(hk p hp).1, (hk p hp).2.1⟩, c, fun L t hs ha nd pw hn => ?_⟩
            have inj : ∀ q ∈ L, ∀ r ∈ L, TS.code 64 q.2 = TS.code 64 r.2 → q.2 = r.2 := fun q hq r hr ee => by
              obtain ⟨l1, b1, _⟩ := hk q (hs q hq)
              obtain ⟨l2, b2, _⟩ := hk r (hs r hr)
              match hq2 : q.2, l1 with
              | [x, y], _ =>
                match hr2 : r.2, l2 with
                | [x', y'], _ =>
                  rw [hq2] at ee b1
                  rw [hr2] at ee b2
                  rw [code_pair, code_pair] at ee
                  have := b1 x (by simp); have := b1 y (by simp); have := b2 x' (by simp); have := b2 y' (by simp)
                  have e1 : x = x' := by omega
                  have e2 : y = y' := by omega
                  rw [e1, e2]
            have so : L.map (fun q => TS.code 64 q.2) = sortI (ks.map fun p => TS.code 64 p.2) := by
              refine pw_same ?_ sortI_pw fun j => ?_
              · rw [List.pairwise_map]
                rw [List.Nodup, List.pairwise_map] at nd
                refine List.Pairwise.imp_of_mem (fun {q r} hq hr ⟨h1, h2⟩ => ?_) (List.Pairwise.and pw nd)
                rcases Int.lt_or_eq_of_le h1 with l | l
                · exact l
                · exact absurd (inj q hq r hr l) h2
              · rw [mem_sortI, List.mem_map, List.mem_map]
                constructor
                · rintro ⟨q, hq, rfl⟩
                  exact ⟨q, hs q hq, rfl⟩
                · rintro ⟨q, hq, rfl⟩
                  obtain ⟨r, hr, er⟩ := List.mem_map.mp (ha q hq)
                  exact ⟨r, hr, by rw [er]⟩
            rw [← so] at p1
            have rp : ∀ (M : List (Addr × List Int)), (∀ q ∈ M, q ∈ ks) → RpL F.K R1 ((M.map fun q => TS.code 64 q.2).map deco) (M.map fun q => V.ref q.1) := fun M => by
              induction M with
              | nil => intro _; rfl
              | cons q M ih => exact fun h => ⟨_, _, rfl, (hk q (h q (List.mem_cons_self ..))).2.2.2, ih fun r hr => h r (List.mem_cons_of_mem _ hr)⟩
            refine Post.newL g1.sub p1 hn (rp L hs) ?_
            have := sortI_len (ks.map fun p => TS.code 64 p.2)
            rw [← so, List.length_map, List.length_map] at this
            rw [List.length_map, List.length_map]; unfold line; omega
          · rw [if_neg (by rw [List.length_map]; exact c)] at p1; exact p1.elim
      · rw [if_neg ct] at p1
        left
        obtain ⟨ns, e2, p3⟩ := post_ints (show Post F .e R1 σ H1 ((ints? ps).bind _) Q from p1)
        obtain ⟨a, vs, ex, sq, r⟩ := src ps e
        obtain ⟨rfl, _⟩ := set_ints e2 r
        by_cases c : ns.length < 64
        · rw [if_pos c] at p3
          refine ⟨a, ns, ex, sq, c, fun q hq => Post.newL g1.sub p3 hq ?_ ?_⟩
          · generalize sortI ns = l
            induction l with
            | nil => rfl
            | cons i is ih => exact ⟨_, _, rfl, rfl, ih⟩
          · have := sortI_len ns
            rw [List.length_map]; unfold line; omega
        · rw [if_neg c] at p3; exact p3.elim
end
end Bw
end

section
set_option autoImplicit false
set_option linter.all false
/-! Bw T: targets, list comprehensions. -/
namespace Bw
open PySem L2
theorem RelR.set {K : Fr'} {H0 R0 R : Hp} {Γ : Gm} {σ : L2.St} {H : Hp} {i : Nat} {s : SV} {v : V} (r : RelR K H0 R0 R Γ σ H) (h : RpS K R s v) : RelR K H0 R0 R (Γ.set i (.sh s)) (σ.set i (some v)) H := by
  have ne : ∀ {j : Nat} {b : Bx}, (Γ.set i (.sh s))[j]? = some b → (j = i ∧ b = .sh s ∧ i < Γ.length) ∨ (i ≠ j ∧ Γ[j]? = some b) := fun {j b} e => by
    by_cases c : i = j
    · subst c
      by_cases l : i < Γ.length
      · rw [List.getElem?_set_self l] at e; cases e; exact .inl ⟨rfl, rfl, l⟩
      · rw [List.getElem?_eq_none (by rw [List.length_set]; omega)] at e; cases e
    · rw [List.getElem?_set_ne c] at e; exact .inr ⟨c, e⟩
  refine ⟨r.same, r.sub, r.sub0, r.old, fun j t e => ?_, fun j t e => ?_, fun j k t u a n e1 e2 e3 e4 => ?_, by rw [List.length_set, List.length_set]; exact r.len⟩
  · rcases ne e with ⟨rfl, e1, l⟩ | ⟨c, e1⟩
    · cases e1; exact ⟨v, List.getElem?_set_self (by rw [← r.len]; exact l), h⟩
    · rw [List.getElem?_set_ne c]; exact r.slot j t e1
  · rcases ne e with ⟨rfl, e1, l⟩ | ⟨c, e1⟩
    · cases e1
    · rw [List.getElem?_set_ne c]; exact r.own j t e1
  · rcases ne e1 with ⟨_, q, _⟩ | ⟨c, q⟩
    · cases q
    rcases ne e2 with ⟨_, q2, _⟩ | ⟨c2, q2⟩
    · cases q2
    rw [List.getElem?_set_ne c] at e3
    rw [List.getElem?_set_ne c2] at e4
    exact r.apart j k t u a n q q2 e3 e4
theorem RelR.no {K : Fr'} {H0 R0 R : Hp} {Γ : Gm} {σ : L2.St} {H : Hp} {i : Nat} {x : Option V} (r : RelR K H0 R0 R Γ σ H) : RelR K H0 R0 R (Γ.set i .no) (σ.set i x) H := by
  have ne : ∀ {j : Nat} {b : Bx}, (Γ.set i .no)[j]? = some b → b = .no ∨ (i ≠ j ∧ Γ[j]? = some b) := fun {j b} e => by
    by_cases c : i = j
    · subst c
      by_cases l : i < Γ.length
      · rw [List.getElem?_set_self l] at e; cases e; exact .inl rfl
      · rw [List.getElem?_eq_none (by rw [List.length_set]; omega)] at e; cases e
    · rw [List.getElem?_set_ne c] at e; exact .inr ⟨c, e⟩
  refine ⟨r.same, r.sub, r.sub0, r.old, fun j t e => ?_, fun j t e => ?_, fun j k t u a n e1 e2 e3 e4 => ?_, by rw [List.length_set, List.length_set]; exact r.len⟩
  · rcases ne e with e1 | ⟨c, e1⟩
    · cases e1
    · rw [List.getElem?_set_ne c]; exact r.slot j t e1
  · rcases ne e with e1 | ⟨c, e1⟩
    · cases e1
    · rw [List.getElem?_set_ne c]; exact r.own j t e1
  · rcases ne e1 with q | ⟨c, q⟩
    · cases q
    rcases ne e2 with q2 | ⟨c2, q2⟩
    · cases q2
    rw [List.getElem?_set_ne c] at e3
    rw [List.getElem?_set_ne c2] at e4
    exact r.apart j k t u a n q q2 e3 e4
theorem RelR.wipe {K : Fr'} {H0 R0 R : Hp} {Γ : Gm} {σ : L2.St} {H : Hp} (r : RelR K H0 R0 R Γ σ H) : ∀ vs, RelR K H0 R0 R (wipeG Γ vs) (L2.wipe σ vs) H
  | [] => r
  | v :: vs => RelR.no (r.wipe vs)
theorem wipeG_len (Γ : Gm) : ∀ vs, (wipeG Γ vs).length = Γ.length
  | [] => rfl
  | v :: vs => by rw [wipeG, List.length_set, wipeG_len Γ vs]
theorem wipeG_get (Γ : Gm) (i : Nat) : ∀ {vs : List Nat}, i ∉ vs → (wipeG Γ vs)[i]? = Γ[i]?
  | [], _ => rfl
  | v :: vs, h => by
    simp only [List.mem_cons, not_or] at h
    rw [wipeG, List.getElem?_set_ne (Ne.symm h.1), wipeG_get Γ i h.2]
theorem wipe_get (σ : L2.St) (i : Nat) : ∀ {vs : List Nat}, i ∉ vs → (L2.wipe σ vs)[i]? = σ[i]?
  | [], _ => rfl
  | v :: vs, h => by
    simp only [List.mem_cons, not_or] at h
    rw [L2.wipe, List.getElem?_set_ne (Ne.symm h.1), wipe_get σ i h.2]
theorem wipe_in (σ : L2.St) (i : Nat) (l : i < σ.length) : ∀ {vs : List Nat}, i ∈ vs → (L2.wipe σ vs)[i]? = some none
  | v :: vs, h => by
    by_cases c : v = i
    · subst c; rw [L2.wipe, List.getElem?_set_self (by rw [wipe_length]; exact l)]
    · rw [L2.wipe, List.getElem?_set_ne c]
      rcases List.mem_cons.mp h with e | e
      · exact absurd e.symm c
      · exact wipe_in σ i l e
theorem wipe_eq {σ σ' : L2.St} {vs : List Nat} (hl : σ'.length = σ.length) (h : ∀ i, i ∉ vs → σ'[i]? = σ[i]?) : L2.wipe σ' vs = L2.wipe σ vs := by
  refine List.ext_getElem? fun i => ?_
  by_cases c : i ∈ vs
  · by_cases l : i < σ.length
    · rw [wipe_in σ i l c, wipe_in σ' i (by omega) c]
    · rw [List.getElem?_eq_none (by rw [wipe_length]; omega), List.getElem?_eq_none (by rw [wipe_length]; omega)]
  · rw [wipe_get σ i c, wipe_get σ' i c, h i c]
/-! ### binding -/
mutual
theorem bind_len : ∀ {t : CT} {p : PV} {Γ Γ' : Gm}, bindT t p Γ = some Γ' → Γ'.length = Γ.length
  | .name i, p, Γ, Γ', h => by cases h; rw [List.length_set]
  | .tup ts, .tup ps, Γ, Γ', h => binds_len (ts := ts) (ps := ps) h
  | .tup ts, .non, Γ, Γ', h => by cases h
  | .tup ts, .bl _, Γ, Γ', h => by cases h
  | .tup ts, .int _, Γ, Γ', h => by cases h
  | .tup ts, .str _, Γ, Γ', h => by cases h
  | .tup ts, .lst _, Γ, Γ', h => by cases h
theorem binds_len : ∀ {ts : List CT} {ps : List PV} {Γ Γ' : Gm}, bindTs ts ps Γ = some Γ' → Γ'.length = Γ.length
  | [], [], Γ, Γ', h => by cases h; rfl
  | t :: ts, p :: ps, Γ, Γ', h => by
    have h : (bindT t p Γ).bind (fun Γ' => bindTs ts ps Γ') = some Γ' := h
    cases e : bindT t p Γ with
    | none => rw [e] at h; cases h
    | some Γ1 => rw [e] at h; exact (binds_len (ts := ts) (ps := ps) (Γ := Γ1) h).trans (bind_len e)
  | [], _ :: _, Γ, Γ', h => by cases h
  | _ :: _, [], Γ, Γ', h => by cases h
end
theorem binds_n : ∀ {ts : List CT} {ps : List PV} {Γ Γ' : Gm}, bindTs ts ps Γ = some Γ' → ps.length = ts.length
  | [], [], Γ, Γ', h => rfl
  | t :: ts, p :: ps, Γ, Γ', h => by
    have h : (bindT t p Γ).bind (fun Γ' => bindTs ts ps Γ') = some Γ' := h
    cases e : bindT t p Γ with
    | none => rw [e] at h; cases h
    | some Γ1 => rw [e] at h; rw [List.length_cons, List.length_cons, binds_n (ts := ts) (ps := ps) (Γ := Γ1) h]
  | [], _ :: _, Γ, Γ', h => by cases h
  | _ :: _, [], Γ, Γ', h => by cases h
/-- what is bound does not hang on what stood in the bound places -/
def Agr (D : Nat → Prop) (Γ Δ : Gm) : Prop := Γ.length = Δ.length ∧ ∀ i, D i → Γ[i]? = Δ[i]?
mutual
theorem bind_agr : ∀ {t : CT} {p : PV} {Γ Γ' Δ : Gm} {D : Nat → Prop}, Agr D Γ Δ → bindT t p Γ = some Γ' → ∃ Δ', bindT t p Δ = some Δ' ∧ Agr (fun i => D i ∨ i ∈ t.vars) Γ' Δ'
  | .name i, p, Γ, Γ', Δ, D, a, h => by
    cases h
    refine ⟨_, rfl, by rw [List.length_set, List.length_set]; exact a.1, fun j hj => ?_⟩
    by_cases c : i = j
    · subst c
      by_cases l : i < Γ.length
      · rw [List.getElem?_set_self l, List.getElem?_set_self (by rw [← a.1]; exact l)]
      · rw [List.getElem?_eq_none (by rw [List.length_set]; omega), List.getElem?_eq_none (by rw [List.length_set, ← a.1]; omega)]
    · rw [List.getElem?_set_ne c, List.getElem?_set_ne c]
      rcases hj with hj | hj
      · exact a.2 j hj
      · exact absurd (List.mem_singleton.mp hj).symm c
  | .tup ts, .tup ps, Γ, Γ', Δ, D, a, h => binds_agr (ts := ts) (ps := ps) a h
  | .tup ts, .non, Γ, Γ', _, _, _, h => by cases h
  | .tup ts, .bl _, Γ, Γ', _, _, _, h => by cases h
  | .tup ts, .int _, Γ, Γ', _, _, _, h => by cases h
  | .tup ts, .str _, Γ, Γ', _, _, _, h => by cases h
  | .tup ts, .lst _, Γ, Γ', _, _, _, h => by cases h
theorem binds_agr : ∀ {ts : List CT} {ps : List PV} {Γ Γ' Δ : Gm} {D : Nat → Prop}, Agr D Γ Δ → bindTs ts ps Γ = some Γ' → ∃ Δ', bindTs ts ps Δ = some Δ' ∧ Agr (fun i => D i ∨ i ∈ CT.varsL ts) Γ' Δ'
  | [], [], Γ, Γ', Δ, D, a, h => by cases h; exact ⟨Δ, rfl, a.1, fun i hi => hi.elim (a.2 i) (fun q => by cases q)⟩
  | t :: ts, p :: ps, Γ, Γ', Δ, D, a, h => by
    have h : (bindT t p Γ).bind (fun Γ' => bindTs ts ps Γ') = some Γ' := h
    cases e : bindT t p Γ with
    | none => rw [e] at h; cases h
    | some Γ1 =>
      rw [e] at h
      obtain ⟨Δ1, e1, a1⟩ := bind_agr a e
      obtain ⟨Δ2, e2, a2⟩ := binds_agr (ts := ts) (ps := ps) a1 h
      refine ⟨Δ2, by show (bindT t p Δ).bind _ = _; rw [e1]; exact e2, a2.1, fun i hi => a2.2 i ?_⟩
      rcases hi with hi | hi
      · exact .inl (.inl hi)
      · rcases List.mem_append.mp hi with hi | hi
        · exact .inl (.inr hi)
        · exact .inr hi
  | [], _ :: _, Γ, Γ', _, _, _, h => by cases h
  | _ :: _, [], Γ, Γ', _, _, _, h => by cases h
end
theorem bind_wipe {t : CT} {p : PV} {Γ Γ' : Gm} {vs : List Nat} (hv : ∀ i ∈ vs, i ∈ t.vars) (h : bindT t p Γ = some Γ') : bindT t p (wipeG Γ vs) = some Γ' := by
  obtain ⟨Δ, e, a⟩ := bind_agr (Δ := wipeG Γ vs) (D := fun i => i ∉ vs) ⟨(wipeG_len Γ vs).symm, fun i hi => (wipeG_get Γ i hi).symm⟩ h
  rw [e]
  congr 1
  refine List.ext_getElem? fun i => (a.2 i ?_).symm
  by_cases c : i ∈ vs
  · exact .inr (hv i c)
  · exact .inl c
/-! ### targets -/
def RdG (F : Fr) (t : CT) : TG := fun v σ H Q => ∃ Γ R p Γ', RelR F.K F.H0 F.R0 R Γ σ H ∧ RpD F.K R p v ∧ bindT t p Γ = some Γ' ∧ ∀ σ', RelR F.K F.H0 F.R0 R Γ' σ' H → (∀ i, i ∉ t.vars → σ'[i]? = σ[i]?) → Q σ' H
def RdGs (F : Fr) (ts : List CT) : TGs := fun vs σ H Q => ∃ Γ R ps Γ', RelR F.K F.H0 F.R0 R Γ σ H ∧ RpL F.K R ps vs ∧ bindTs ts ps Γ = some Γ' ∧ ∀ σ', RelR F.K F.H0 F.R0 R Γ' σ' H → (∀ i, i ∉ CT.varsL ts → σ'[i]? = σ[i]?) → Q σ' H
theorem pgImp {X : Cx} {e : Expr} {t t' : TG} (h : PG X e t) (k : ∀ v σ H Q, t' v σ H Q → t v σ H Q) : PG X e t' := ⟨fun pins s σ H v u Q I r q => h.run pins s σ H v u Q I r (k v σ H Q q)⟩
theorem pgsImp {X : Cx} {e : List Expr} {t t' : TGs} (h : PGs X e t) (k : ∀ v σ H Q, t' v σ H Q → t v σ H Q) : PGs X e t' := ⟨fun pins s σ H v u Q I r q => h.run pins s σ H v u Q I r (k v σ H Q q)⟩
section
variable {I : Inf} {G : Ctx} {F : Fr} {X : Cx} {sc : Scope} {pos : Pos}
theorem okT_each {t : CT} {x : Expr} (h : okT I sc t x = true) (xs : List Expr) (env : PySem.Env) : assignEach (x :: xs) env = (false, assign x env) :: assignEach xs env := by
  cases t <;> cases x <;> first | (cases h; done) | rfl
theorem okTs_each {env : PySem.Env} : ∀ {ts : List CT} {xs : List Expr}, okTs I sc ts xs = true → (assignEach xs env).length = ts.length ∧ (assignEach xs env).findIdx? (·.1) = none
  | [], [], _ => ⟨rfl, rfl⟩
  | t :: ts, x :: xs, h => by
    have h : (okT I sc t x && okTs I sc ts xs) = true := h
    rw [Bool.and_eq_true] at h
    have ih := okTs_each (env := env) (ts := ts) h.2
    rw [okT_each h.1]
    refine ⟨by rw [List.length_cons, List.length_cons, ih.1], ?_⟩
    rw [List.findIdx?_cons, ih.2]; rfl
  | [], _ :: _, h => by cases h
  | _ :: _, [], h => by cases h
theorem loc_fn (C : Cok I G F X sc) {x : Str} (h : locB sc x = true) : X.fn x = true ∨ X.env.scope.names.lookup x = some .local := by
  unfold locB at h
  split at h
  · rename_i e
    rcases C.sc _ _ e with e | ⟨e, _⟩
    · exact .inr e
    · cases e
  · rename_i e
    exact .inl (C.fnc _ e)
  · cases h
mutual
theorem g_ok (C : Cok I G F X sc) : ∀ (t : CT) (x : Expr), okT I sc t x = true → PG X x (RdG F t)
  | .name i, x, h => by
    cases x <;> first | (cases h; done) | skip
    rename_i x p
    have h : (decide (I.N[i]? = some x) && locB sc x) = true := h
    rw [Bool.and_eq_true, decide_eq_true_eq] at h
    refine pgImp (pg_name (by rw [C.hN]; exact C.nd) (by rw [C.hN]; exact h.1) (loc_of C h.2) (loc_fn C h.2)) fun v σ H Q ⟨Γ, R, p, Γ', rel, rp, e, k⟩ => ?_
    have e : some (Γ.set i (.sh (.d p))) = some Γ' := e
    cases e
    exact k _ (rel.set rp) fun j hj => List.getElem?_set_ne fun c => hj (by subst c; exact List.mem_singleton.mpr rfl)
  | .tup ts, x, h => by
    cases x <;> first | (cases h; done) | skip
    rename_i xs k p
    have h : okTs I sc ts xs = true := h
    have ea := okTs_each (env := X.env) h
    refine pgImp (pg_tup C.calm (gs_ok C ts xs h) ea.1 ea.2) fun v σ H Q ⟨Γ, R, p, Γ', rel, rp, e, k⟩ => ?_
    cases p with
    | tup ps =>
      obtain ⟨a, vs, ev, sq, z, q⟩ : ∃ a vs, v = .ref a ∧ SqT F.K R a vs ∧ ps.length ≤ line ∧ RpL F.K R ps vs := rp
      have e : bindTs ts ps Γ = some Γ' := e
      refine ⟨a, vs, ev, by rw [← C.hK]; exact rel.sub.seqT sq, by rw [q.len, binds_n e], Γ, R, ps, Γ', rel, q, e, k⟩
    | _ => cases e
theorem gs_ok (C : Cok I G F X sc) : ∀ (ts : List CT) (xs : List Expr), okTs I sc ts xs = true → PGs X xs (RdGs F ts)
  | [], [], _ => pgsImp pgs_nil fun v σ H Q ⟨Γ, R, ps, Γ', rel, rp, e, k⟩ => by
    cases ps with
    | nil => cases e; exact ⟨rp, k _ rel fun _ _ => rfl⟩
    | cons _ _ => cases e
  | t :: ts, x :: xs, h => by
    have h : (okT I sc t x && okTs I sc ts xs) = true := h
    rw [Bool.and_eq_true] at h
    refine pgsImp (pgs_cons (g_ok C t x h.1) (gs_ok C ts xs h.2) (by rw [okT_each h.1]; rfl)) fun v σ H Q ⟨Γ, R, ps, Γ', rel, rp, e, k⟩ => ?_
    cases ps with
    | nil => cases e
    | cons p ps =>
      obtain ⟨w, ws, ev, r1, r2⟩ : ∃ w ws, v = w :: ws ∧ RpD F.K R p w ∧ RpL F.K R ps ws := rp
      have e : (bindT t p Γ).bind (fun Γ' => bindTs ts ps Γ') = some Γ' := e
      cases e1 : bindT t p Γ with
      | none => rw [e1] at e; cases e
      | some Γ1 =>
        rw [e1] at e
        refine ⟨w, ws, ev, Γ, R, p, Γ1, rel, r1, e1, fun σ1 rel1 k1 => ⟨Γ1, R, ps, Γ', rel1, r2, e, fun σ2 rel2 k2 => k _ rel2 fun i hi => ?_⟩⟩
        have hi : i ∉ t.vars ++ CT.varsL ts := hi
        rw [List.mem_append, not_or] at hi
        rw [k2 i hi.2, k1 i hi.1]
  | [], _ :: _, h => by cases h
  | _ :: _, [], h => by cases h
end
end
end Bw
end

section
set_option autoImplicit false
set_option linter.all false
/-! Bw U: list comprehensions. -/
namespace Bw
open PySem L2
theorem tame_ok' {α : Type} {r : Res α} {a : α} (h : r.tame = .ok a) : r = .ok a := by
  cases r with
  | ok b => exact h
  | exc c => cases h
  | bad => cases h
theorem mapR_exc {α β : Type} {f : α → Res (Option β)} {c : Nat} : ∀ {xs : List α}, mapR f xs ≠ .exc c
  | [], h => by cases h
  | x :: xs, h => by
    have h : ((f x).tame.bind fun y => (mapR f xs).bind fun ys => .ok (match y with | some z => z :: ys | none => ys)) = .exc c := h
    cases e : f x with
    | bad => rw [e] at h; cases h
    | exc k => rw [e] at h; cases h
    | ok y =>
      rw [e] at h
      have h : ((mapR f xs).bind fun ys => .ok (match y with | some z => z :: ys | none => ys)) = .exc c := h
      cases e2 : mapR f xs with
      | bad => rw [e2] at h; cases h
      | ok ys => rw [e2] at h; cases h
      | exc k => exact mapR_exc e2
theorem mapR_cons {α β : Type} {f : α → Res (Option β)} {x : α} {xs : List α} {ys : List β} (h : mapR f (x :: xs) = .ok ys) : ∃ y zs, f x = .ok y ∧ mapR f xs = .ok zs ∧ ys = match y with | some z => z :: zs | none => zs := by
  have h : ((f x).tame.bind fun y => (mapR f xs).bind fun ys => .ok (match y with | some z => z :: ys | none => ys)) = .ok ys := h
  cases e : (f x).tame with
  | bad => rw [e] at h; cases h
  | exc k => rw [e] at h; cases h
  | ok y =>
    rw [e, Res.bind_ok] at h
    cases e2 : mapR f xs with
    | bad => rw [e2] at h; cases h
    | exc k => exact absurd e2 mapR_exc
    | ok zs => rw [e2, Res.bind_ok] at h; cases h; exact ⟨y, zs, tame_ok' e, rfl, rfl⟩
theorem Grow.at {H R H' R' : Hp} {D : Addr} {o : HO} (g : Grow H R H' R') (h : H D = none) (h' : R' D = none) : Grow H R (upd H' D o) R' := by
  refine ⟨fun a u e => ?_, g.reg, fun a u e => ?_, g.old⟩
  · rw [upd_ne (ne_of_none e h)]; exact g.same _ _ e
  · rw [upd_ne (ne_of_none e h')]; exact g.sub _ _ e
/-- the hidden list, made known -/
theorem Grow.show' {H R H' R' : Hp} {D : Addr} {o : HO} (g : Grow H R H' R') (h : H D = none) (h' : H' D = some o) (hR : R' D = none) : Grow H R H' (upd R' D o) := by
  refine ⟨g.same, fun a u e => ?_, fun a u e => ?_, fun a n => ?_⟩
  · rw [upd_ne (ne_of_none (g.reg _ _ e) hR)]; exact g.reg _ _ e
  · by_cases c : a = D
    · subst c; rw [upd_same] at e; cases e; exact h'
    · rw [upd_ne c] at e; exact g.sub _ _ e
  · by_cases c : a = D
    · subst c; exact absurd h n
    · rw [upd_ne c]; exact g.old a n
theorem sub_upd {R : Hp} {D : Addr} {o : HO} (h : R D = none) : Sub R (upd R D o) := fun a u e => by rw [upd_ne (ne_of_none e h)]; exact e
/-- no error leaves -/
def Fr.calm (F : Fr) : Fr := { F with W := fun _ _ _ _ => False }
def lcF (G : Ctx) (t : CT) (cs : List CE) (e : CE) (Γ : Gm) : PV → Res (Option PV) := fun x => obind (bindT t x Γ) fun Γ' => (evC G cs Γ').bind fun c => if c then (ev G e Γ').bind fun y => (data? y).bind fun p => .ok (some p) else .ok none
theorem lcF_ok {G : Ctx} {t : CT} {cs : List CE} {e : CE} {Γ : Gm} {x : PV} {y : Option PV} (h : lcF G t cs e Γ x = .ok y) : ∃ Γ', bindT t x Γ = some Γ' ∧ ((evC G cs Γ' = .ok true ∧ ∃ q, ev G e Γ' = .ok (.d q) ∧ y = some q) ∨ (evC G cs Γ' = .ok false ∧ y = none)) := by
  unfold lcF at h
  cases e1 : bindT t x Γ with
  | none => rw [e1] at h; cases h
  | some Γ' =>
    rw [e1] at h
    refine ⟨Γ', rfl, ?_⟩
    have h : ((evC G cs Γ').bind fun c => if c then (ev G e Γ').bind fun y => (data? y).bind fun p => .ok (some p) else .ok none) = .ok y := h
    cases e2 : evC G cs Γ' with
    | bad => rw [e2] at h; cases h
    | exc k => rw [e2] at h; cases h
    | ok c =>
      rw [e2] at h
      cases c with
      | false => cases h; exact .inr ⟨rfl, rfl⟩
      | true =>
        have h : ((ev G e Γ').bind fun y => (data? y).bind fun p => .ok (some p)) = .ok y := h
        cases e3 : ev G e Γ' with
        | bad => rw [e3] at h; cases h
        | exc k => rw [e3] at h; cases h
        | ok s =>
          rw [e3] at h
          cases s with
          | d q => cases h; exact .inl ⟨rfl, q, rfl, rfl⟩
          | _ => cases h
section
variable {I : Inf} {G : Ctx} {F : Fr} {X : Cx} {sc : Scope} {pos : Pos}
/-- the turns of a comprehension: D is the new list -/
theorem lc_turns {t : CT} {cs : List CE} {e : CE} {own : List (Str × Nat)} {σ : L2.St} {Γ : Gm} {R1 H1 : Hp} {J : It} {xs ys : List PV} {D : Addr} {m : Md} {Q : VK} (hv : ∀ i ∈ own.map (·.2), i ∈ t.vars) (hw : ∀ i ∈ t.vars, i ∈ own.map (·.2))
    (rel1 : RelR F.K F.H0 F.R0 R1 Γ σ H1) (wl : Wlk F.K J xs (base m R1 H1) R1) (len : xs.length ≤ line) (hD : H1 D = none) (e2 : mapR (lcF G t cs e Γ) xs = .ok ys)
    (fin : ∀ Hh Rh acc, Grow H1 R1 Hh Rh → Hh D = some (.lst acc) → Rh D = none → RpL F.K Rh ys acc → ys.length ≤ line → Q (.ref D) Hh) :
    ∃ W : Nat → Nat → Hp → Prop, (∃ m, W 0 m (upd H1 D (.lst []))) ∧ ∀ i m H, W i m H →
      (J.stop i H ∧ Q (.ref D) H) ∨ (J.go i H ∧ ∃ Nx : Hp → Prop, (∀ H', Nx H' → ∃ m', m' < m ∧ W (i + 1) m' H') ∧ ∀ x H', J.yld i H x H' → RdG F.calm t x (wipe σ (own.map (·.2))) H' fun σ2 H2 => wipe σ2 (own.map (·.2)) = wipe σ (own.map (·.2)) ∧ RdB F.calm (evC G cs) σ2 H2 fun b H3 =>
        if b = true then Rd' F.calm .e (ev G e) σ2 H3 fun y H4 => ∃ acc, H4 D = some (.lst acc) ∧ acc.length < sizeLine ∧ Nx (upd H4 D (.lst (acc ++ [y]))) else Nx H3) := by
  have g1s : Sub R1 H1 := rel1.sub
  have R1D : R1 D = none := by
    cases q : R1 D with
    | none => rfl
    | some o => rw [g1s _ _ q] at hD; cases hD
  refine ⟨fun i mm Hh => mm = xs.length - i ∧ i ≤ xs.length ∧ ∃ Rh acc pre rest, Grow H1 R1 Hh Rh ∧ Rh D = none ∧ Hh D = some (.lst acc) ∧ RpL F.K Rh pre acc ∧ mapR (lcF G t cs e Γ) (xs.drop i) = .ok rest ∧ pre ++ rest = ys ∧ pre.length ≤ i,
    ⟨_, rfl, Nat.zero_le _, R1, [], [], ys, .hid g1s hD _, R1D, upd_same .., rfl, e2, rfl, Nat.le_refl _⟩, ?_⟩
  rintro i mm Hh ⟨hm, hi, Rh, acc, pre, rest, g, RhD, hHD, ra, em, ey, hl⟩
  have wk := wl Hh Rh ((base_sub g1s).trans g.same) g.reg g.sub i
  cases ex : xs[i]? with
  | none =>
    refine .inl ⟨wk.2 ex, ?_⟩
    have e3 : xs.drop i = [] := List.drop_eq_nil_of_le (List.getElem?_eq_none_iff.mp ex)
    rw [e3] at em
    cases em
    rw [List.append_nil] at ey
    subst ey
    exact fin Hh Rh acc g hHD RhD ra (Nat.le_trans hl (Nat.le_trans hi len))
  | some px =>
    have hlt : i < xs.length := (List.getElem?_eq_some_iff.mp ex).1
    obtain ⟨go, yl⟩ := wk.1 px ex
    have e3 : xs.drop i = px :: xs.drop (i + 1) := by
      rw [List.drop_eq_getElem_cons hlt]
      congr 1
      exact (List.getElem?_eq_some_iff.mp ex).2
    rw [e3] at em
    obtain ⟨y, zs, f1, f2, f3⟩ := mapR_cons em
    obtain ⟨Γ', b1, b2⟩ := lcF_ok f1
    refine .inr ⟨go, fun H' => xs.length - (i + 1) = xs.length - (i + 1) ∧ i + 1 ≤ xs.length ∧ ∃ Rh acc pre rest, Grow H1 R1 H' Rh ∧ Rh D = none ∧ H' D = some (.lst acc) ∧ RpL F.K Rh pre acc ∧ mapR (lcF G t cs e Γ) (xs.drop (i + 1)) = .ok rest ∧ pre ++ rest = ys ∧ pre.length ≤ i + 1, fun H' w => ⟨_, by omega, w⟩, ?_⟩
    intro x H' hy
    obtain ⟨R', g', rx⟩ := yl x H' hy
    have noD : ∀ {H2 R2 : Hp}, Grow Hh Rh H2 R2 → R2 D = none ∧ H2 D = some (.lst acc) := fun g2 => ⟨by rw [g2.old D (by rw [hHD]; simp)]; exact RhD, g2.same _ _ hHD⟩
    refine ⟨wipeG Γ (own.map Prod.snd), R', px, Γ', ((rel1.grow g).grow g').wipe (own.map Prod.snd), rx, bind_wipe hv b1, fun σ2 rel2 keep => ⟨?_, ?_⟩⟩
    · refine wipe_eq (by rw [← rel2.len, bind_len b1]; exact rel1.len) fun i hn => ?_
      rw [keep i fun q => hn (hw i q), wipe_get σ i hn]
    · refine ⟨Γ', R', rel2, ?_⟩
      rcases b2 with ⟨c1, q, c2, c3⟩ | ⟨c1, c3⟩
      · rw [c1]
        intro H3 R3 g3
        refine ⟨Γ', R3, rel2.grow g3, ?_⟩
        rw [c2]
        intro v H4 R4 g4 rv
        have gg := (g'.trans g3).trans g4
        obtain ⟨n1, n2⟩ := noD gg
        have la : acc.length = pre.length := ra.len
        refine ⟨acc, n2, by rw [la, ← line_eq]; omega, rfl, hlt, R4, acc ++ [v], pre ++ [q], zs, (g.trans gg).at hD n1, n1, upd_same .., (ra.mono gg.reg).append (.one rv), f2, ?_, by rw [List.length_append]; simp; exact hl⟩
        rw [c3] at f3
        rw [← ey, f3, List.append_assoc]; rfl
      · rw [c1]
        intro H3 R3 g3
        have gg := g'.trans g3
        obtain ⟨n1, n2⟩ := noD gg
        refine ⟨rfl, hlt, R3, acc, pre, zs, g.trans gg, n1, n2, ra.mono gg.reg, f2, ?_, Nat.le_succ_of_le hl⟩
        rw [c3] at f3
        rw [← ey, f3]
theorem rd_lc {t : CT} {it : CI} {cs : List CE} {e : CE} {own : List (Str × Nat)} {m : Md} (hv : ∀ i ∈ own.map (·.2), i ∈ t.vars) (hw : ∀ i ∈ t.vars, i ∈ own.map (·.2)) {σ : L2.St} {H : Hp} {Q : VK} (h : Rd' F .e (ev G (.lc t it cs e)) σ H Q) :
    tLc (RdI F m (evI G it)) (RdG F.calm t) (RdB F.calm (evC G cs)) (Rd' F.calm .e (ev G e)) (own.map (·.2)) σ H Q := by
  obtain ⟨Γ, R, rel, p⟩ := h
  refine ⟨Γ, R, rel, ?_⟩
  have p : Post F .e R σ H ((evI G it Γ).bind fun xs => (mapR (lcF G t cs e Γ) xs).bind fun ys => .ok (.d (.lst ys))) Q := p
  cases e1 : evI G it Γ with
  | bad => rw [e1] at p; exact p.elim
  | exc c => rw [e1] at p; exact p
  | ok xs =>
    rw [e1] at p
    intro J H1 R1 g1 wl len D hD
    have p : Post F .e R1 σ H1 ((mapR (lcF G t cs e Γ) xs).bind fun ys => .ok (.d (.lst ys))) Q := Post.grow (r := (mapR (lcF G t cs e Γ) xs).bind fun ys => .ok (.d (.lst ys))) p g1
    cases e2 : mapR (lcF G t cs e Γ) xs with
    | bad => rw [e2] at p; exact p.elim
    | exc c => exact absurd e2 mapR_exc
    | ok ys =>
      rw [e2] at p
      have p : Post F .e R1 σ H1 (.ok (.d (.lst ys))) Q := p
      exact lc_turns hv hw (rel.grow g1) wl len hD e2 fun Hh Rh acc g hHD RhD ra z => p _ _ _ (g.show' hD hHD RhD) ⟨D, acc, rfl, upd_same .., z, ra.mono (sub_upd RhD)⟩
/-- what is wanted of a new list that nothing else holds -/
def PostN (F : Fr) (R : Hp) (σ : L2.St) (H : Hp) (r : Res SV) (Q : VK) : Prop := match r with
  | .ok (.d (.lst ps)) => ∀ p H' R' vs, Grow H R H' R' → H p = none → H' p = some (.lst vs) → R' p = none → RpL F.K R' ps vs → ps.length ≤ line → Q (.ref p) H'
  | .ok (.dK ps) => ∀ p H' R' vs, Grow H R H' R' → H p = none → H' p = some (.dK vs) → R' p = none → RpK F.K R' ps vs → ps.length ≤ line → Q (.ref p) H'
  | .ok (.dX false ps) => ∀ p H' R' vs, Grow H R H' R' → H p = none → H' p = some (DX p vs) → R' p = none → RpX F.K R' ps vs → ps.length ≤ line → allX ps = true → Q (.ref p) H'
  | .ok _ => False
  | .exc c => ∀ H' R', Grow H R H' R' → F.W (F.cls c) none σ H'
  | .bad => False
def RdN (F : Fr) (g : Gm → Res SV) : TE := fun σ H Q => ∃ Γ R, RelR F.K F.H0 F.R0 R Γ σ H ∧ PostN F R σ H (g Γ) Q
theorem rn_lc {t : CT} {it : CI} {cs : List CE} {e : CE} {own : List (Str × Nat)} {m : Md} (hv : ∀ i ∈ own.map (·.2), i ∈ t.vars) (hw : ∀ i ∈ t.vars, i ∈ own.map (·.2)) {σ : L2.St} {H : Hp} {Q : VK} (h : RdN F (ev G (.lc t it cs e)) σ H Q) :
    tLc (RdI F m (evI G it)) (RdG F.calm t) (RdB F.calm (evC G cs)) (Rd' F.calm .e (ev G e)) (own.map (·.2)) σ H Q := by
  obtain ⟨Γ, R, rel, p⟩ := h
  refine ⟨Γ, R, rel, ?_⟩
  have p : PostN F R σ H ((evI G it Γ).bind fun xs => (mapR (lcF G t cs e Γ) xs).bind fun ys => .ok (.d (.lst ys))) Q := p
  cases e1 : evI G it Γ with
  | bad => rw [e1] at p; exact p.elim
  | exc c => rw [e1] at p; exact p
  | ok xs =>
    rw [e1] at p
    intro J H1 R1 g1 wl len D hD
    have p : PostN F R σ H ((mapR (lcF G t cs e Γ) xs).bind fun ys => .ok (.d (.lst ys))) Q := p
    cases e2 : mapR (lcF G t cs e Γ) xs with
    | bad => rw [e2] at p; exact p.elim
    | exc c => exact absurd e2 mapR_exc
    | ok ys =>
      rw [e2] at p
      refine lc_turns hv hw (rel.grow g1) wl len hD e2 fun Hh Rh acc g hHD RhD ra z => p D Hh Rh acc (g1.trans g) ?_ hHD RhD ra z
      cases q : H D with
      | none => rfl
      | some o => rw [g1.same _ _ q] at hD; cases hD
theorem r_lc (C : Cok I G F X sc) {t : CT} {it : CI} {cs : List CE} {e : CE} {tg iter elt : Expr} {ifs : List Expr} {scope : Scope} {own : List (Str × Nat)} {m : Md}
        (hi : PI X tg iter (RdI F m (evI G it))) (ok : BlkOk X.N X.env.scope scope own) (hv : ∀ i ∈ own.map (·.2), i ∈ t.vars) (hw : ∀ i ∈ t.vars, i ∈ own.map (·.2))
    (hg : ∀ (s : Shared) (H : Hp) (Cc : Addr) (cl : List (Str × Addr)) (fp : List Addr), PG (X.blk s H scope (compEnvC scope cl Cc X.env) fp) tg (RdG F.calm t))
    (ht : ∀ (s : Shared) (H : Hp) (Cc : Addr) (cl : List (Str × Addr)) (fp : List Addr), PTs (X.blk s H scope (compEnvC scope cl Cc X.env) fp) ifs (RdB F.calm (evC G cs)))
    (he : ∀ (s : Shared) (H : Hp) (Cc : Addr) (cl : List (Str × Addr)) (fp : List Addr), PE (X.blk s H scope (compEnvC scope cl Cc X.env) fp) elt (Rd' F.calm .e (ev G e)))
    (hs : ∀ x, foldedSetIterable iter X.env x = pure x) : PE X (.ListComp elt [⟨tg, iter, ifs, 0⟩] scope pos) (Rd' F .e (ev G (.lc t it cs e))) :=
  peImp (pe_lc C.calm (by rw [C.hN]; exact C.nd) hi ok hg ht he hs) fun σ H Q h => rd_lc hv hw h
theorem n_lc (C : Cok I G F X sc) {t : CT} {it : CI} {cs : List CE} {e : CE} {tg iter elt : Expr} {ifs : List Expr} {scope : Scope} {own : List (Str × Nat)} {m : Md}
        (hi : PI X tg iter (RdI F m (evI G it))) (ok : BlkOk X.N X.env.scope scope own) (hv : ∀ i ∈ own.map (·.2), i ∈ t.vars) (hw : ∀ i ∈ t.vars, i ∈ own.map (·.2))
    (hg : ∀ (s : Shared) (H : Hp) (Cc : Addr) (cl : List (Str × Addr)) (fp : List Addr), PG (X.blk s H scope (compEnvC scope cl Cc X.env) fp) tg (RdG F.calm t))
    (ht : ∀ (s : Shared) (H : Hp) (Cc : Addr) (cl : List (Str × Addr)) (fp : List Addr), PTs (X.blk s H scope (compEnvC scope cl Cc X.env) fp) ifs (RdB F.calm (evC G cs)))
    (he : ∀ (s : Shared) (H : Hp) (Cc : Addr) (cl : List (Str × Addr)) (fp : List Addr), PE (X.blk s H scope (compEnvC scope cl Cc X.env) fp) elt (Rd' F.calm .e (ev G e)))
    (hs : ∀ x, foldedSetIterable iter X.env x = pure x) : PE X (.ListComp elt [⟨tg, iter, ifs, 0⟩] scope pos) (RdN F (ev G (.lc t it cs e))) :=
  peImp (pe_lc C.calm (by rw [C.hN]; exact C.nd) hi ok hg ht he hs) fun σ H Q h => rn_lc hv hw h
end
end Bw
end

section
set_option autoImplicit false
set_option linter.all false
/-! Bw U2: list comprehensions of two clauses. -/
namespace Bw
open PySem L2
mutual
theorem bind_ow : ∀ {t : CT} {p : PV} {Γ Γ' : Gm} {i : Nat} {s : SV}, bindT t p Γ = some Γ' → Γ'[i]? = some (.ow s) → Γ[i]? = some (.ow s) ∧ i ∉ t.vars
  | .name j, p, Γ, Γ', i, s, h, e => by
    cases h
    by_cases c : j = i
    · subst c
      by_cases l : j < Γ.length
      · rw [List.getElem?_set_self l] at e; cases e
      · rw [List.getElem?_eq_none (by rw [List.length_set]; omega)] at e; cases e
    · rw [List.getElem?_set_ne c] at e
      exact ⟨e, fun h => c (List.mem_singleton.mp h).symm⟩
  | .tup ts, .tup ps, Γ, Γ', i, s, h, e => binds_ow (ts := ts) (ps := ps) h e
  | .tup ts, .non, _, _, _, _, h, _ => by cases h
  | .tup ts, .bl _, _, _, _, _, h, _ => by cases h
  | .tup ts, .int _, _, _, _, _, h, _ => by cases h
  | .tup ts, .str _, _, _, _, _, h, _ => by cases h
  | .tup ts, .lst _, _, _, _, _, h, _ => by cases h
theorem binds_ow : ∀ {ts : List CT} {ps : List PV} {Γ Γ' : Gm} {i : Nat} {s : SV}, bindTs ts ps Γ = some Γ' → Γ'[i]? = some (.ow s) → Γ[i]? = some (.ow s) ∧ i ∉ CT.varsL ts
  | [], [], Γ, Γ', i, s, h, e => by cases h; exact ⟨e, fun q => by cases q⟩
  | t :: ts, p :: ps, Γ, Γ', i, s, h, e => by
    have h : (bindT t p Γ).bind (fun Γ' => bindTs ts ps Γ') = some Γ' := h
    cases e1 : bindT t p Γ with
    | none => rw [e1] at h; cases h
    | some Γ1 =>
      rw [e1] at h
      obtain ⟨q1, q2⟩ := binds_ow (ts := ts) (ps := ps) (Γ := Γ1) h e
      obtain ⟨q3, q4⟩ := bind_ow e1 q1
      exact ⟨q3, fun hi => (List.mem_append.mp hi).elim q4 q2⟩
  | [], _ :: _, _, _, _, _, h, _ => by cases h
  | _ :: _, [], _, _, _, _, h, _ => by cases h
end
theorem wipeG_ow {Γ : Gm} {i : Nat} {s : SV} : ∀ {vs : List Nat}, (wipeG Γ vs)[i]? = some (.ow s) → Γ[i]? = some (.ow s) ∧ i ∉ vs
  | [], h => ⟨h, by simp⟩
  | v :: vs, h => by
    rw [wipeG] at h
    by_cases c : v = i
    · subst c
      by_cases l : v < (wipeG Γ vs).length
      · rw [List.getElem?_set_self l] at h; cases h
      · rw [List.getElem?_eq_none (by rw [List.length_set]; omega)] at h; cases h
    · rw [List.getElem?_set_ne c] at h
      obtain ⟨h1, h2⟩ := wipeG_ow h
      exact ⟨h1, by simp only [List.mem_cons, not_or]; exact ⟨fun e => c e.symm, h2⟩⟩
theorem catR_exc {α β : Type} {f : α → Res (List β)} {c : Nat} : ∀ {xs : List α}, catR f xs ≠ .exc c
  | [], h => by cases h
  | x :: xs, h => by
    have h : ((f x).tame.bind fun ys => (catR f xs).bind fun zs => .ok (ys ++ zs)) = .exc c := h
    cases e : f x with
    | bad => rw [e] at h; cases h
    | exc k => rw [e] at h; cases h
    | ok y =>
      rw [e] at h
      have h : ((catR f xs).bind fun zs => .ok (y ++ zs)) = .exc c := h
      cases e2 : catR f xs with
      | bad => rw [e2] at h; cases h
      | ok ys => rw [e2] at h; cases h
      | exc k => exact catR_exc e2
theorem catR_cons {α β : Type} {f : α → Res (List β)} {x : α} {xs : List α} {ys : List β} (h : catR f (x :: xs) = .ok ys) : ∃ y zs, f x = .ok y ∧ catR f xs = .ok zs ∧ ys = y ++ zs := by
  have h : ((f x).tame.bind fun ys => (catR f xs).bind fun zs => .ok (ys ++ zs)) = .ok ys := h
  cases e : (f x).tame with
  | bad => rw [e] at h; cases h
  | exc k => rw [e] at h; cases h
  | ok y =>
    rw [e, Res.bind_ok] at h
    cases e2 : catR f xs with
    | bad => rw [e2] at h; cases h
    | exc k => exact absurd e2 catR_exc
    | ok zs => rw [e2, Res.bind_ok] at h; cases h; exact ⟨y, zs, tame_ok' e, rfl, rfl⟩
def lc2F (G : Ctx) (t : CT) (cs : List CE) (t' : CT) (it' : CI) (cs' : List CE) (e : CE) (Γ : Gm) : PV → Res (List PV) := fun x => obind (bindT t x (wipeG Γ (t.vars ++ t'.vars))) fun Γ1 => (evC G cs Γ1).bind fun c => if c then (evI G it' Γ1).bind fun ys => mapR (lcF G t' cs' e Γ1) ys else .ok []
theorem lc2F_ok {G : Ctx} {t t' : CT} {cs cs' : List CE} {it' : CI} {e : CE} {Γ : Gm} {x : PV} {y : List PV} (h : lc2F G t cs t' it' cs' e Γ x = .ok y) : ∃ Γ1, bindT t x (wipeG Γ (t.vars ++ t'.vars)) = some Γ1 ∧ ((evC G cs Γ1 = .ok true ∧ ∃ ys, evI G it' Γ1 = .ok ys ∧ mapR (lcF G t' cs' e Γ1) ys = .ok y) ∨ (evC G cs Γ1 = .ok false ∧ y = [])) := by
  unfold lc2F at h
  cases e1 : bindT t x (wipeG Γ (t.vars ++ t'.vars)) with
  | none => rw [e1] at h; cases h
  | some Γ1 =>
    rw [e1] at h
    refine ⟨Γ1, rfl, ?_⟩
    have h : ((evC G cs Γ1).bind fun c => if c then (evI G it' Γ1).bind fun ys => mapR (lcF G t' cs' e Γ1) ys else .ok []) = .ok y := h
    cases e2 : evC G cs Γ1 with
    | bad => rw [e2] at h; cases h
    | exc k => rw [e2] at h; cases h
    | ok c =>
      rw [e2] at h
      cases c with
      | false => cases h; exact .inr ⟨rfl, rfl⟩
      | true =>
        have h : ((evI G it' Γ1).bind fun ys => mapR (lcF G t' cs' e Γ1) ys) = .ok y := h
        cases e3 : evI G it' Γ1 with
        | bad => rw [e3] at h; cases h
        | exc k => rw [e3] at h; cases h
        | ok ys => rw [e3] at h; exact .inl ⟨rfl, ys, rfl, h⟩
section
variable {I : Inf} {G : Ctx} {F : Fr} {X : Cx} {sc : Scope} {pos : Pos}
theorem lc2_turns {t t' : CT} {cs cs' : List CE} {it' : CI} {e : CE} {σ : L2.St} {Γ : Gm} {R1 H1 : Hp} {J : It} {xs ys : List PV} {D : Addr} {m : Md} {Q : VK}
    (rel1 : RelR F.K F.H0 F.R0 R1 Γ σ H1) (wl : Wlk F.K J xs (base m R1 H1) R1) (hD : H1 D = none) (e2 : catR (lc2F G t cs t' it' cs' e Γ) xs = .ok ys) (hys : ys.length ≤ line)
    (fin : ∀ Hh Rh acc, Grow H1 R1 Hh Rh → Hh D = some (.lst acc) → Rh D = none → RpL F.K Rh ys acc → Q (.ref D) Hh) :
    ∃ W : Nat → Nat → Hp → Prop, (∃ m, W 0 m (upd H1 D (.lst []))) ∧ ∀ i m H, W i m H →
      (J.stop i H ∧ Q (.ref D) H) ∨ (J.go i H ∧ ∃ Nx : Hp → Prop, (∀ H', Nx H' → ∃ m', m' < m ∧ W (i + 1) m' H') ∧ ∀ x H', J.yld i H x H' → RdG F.calm t x (wipe σ (t.vars ++ t'.vars)) H' fun σ2 H2 => wipe σ2 (t.vars ++ t'.vars) = wipe σ (t.vars ++ t'.vars) ∧ RdB F.calm (evC G cs) σ2 H2 fun b H3 =>
        if b = true then RdI F.calm .e (evI G it') σ2 H3 fun J1 H4 => ∃ W1 : Nat → Nat → Hp → Prop, (∃ m, W1 0 m H4) ∧ ∀ j k H, W1 j k H →
          (J1.stop j H ∧ Nx H) ∨ (J1.go j H ∧ ∃ Nx1 : Hp → Prop, (∀ H', Nx1 H' → ∃ k', k' < k ∧ W1 (j + 1) k' H') ∧ ∀ x H', J1.yld j H x H' → RdG F.calm t' x (wipe σ2 t'.vars) H' fun σ3 H5 => wipe σ3 t'.vars = wipe σ2 t'.vars ∧ RdB F.calm (evC G cs') σ3 H5 fun b H6 =>
            if b = true then Rd' F.calm .e (ev G e) σ3 H6 fun y H7 => ∃ acc, H7 D = some (.lst acc) ∧ acc.length < sizeLine ∧ Nx1 (upd H7 D (.lst (acc ++ [y]))) else Nx1 H6)
        else Nx H3) := by
  have g1s : Sub R1 H1 := rel1.sub
  have R1D : R1 D = none := by
    cases q : R1 D with
    | none => rfl
    | some o => rw [g1s _ _ q] at hD; cases hD
  refine ⟨fun i mm Hh => mm = xs.length - i ∧ i ≤ xs.length ∧ ∃ Rh acc pre rest, Grow H1 R1 Hh Rh ∧ Rh D = none ∧ Hh D = some (.lst acc) ∧ RpL F.K Rh pre acc ∧ catR (lc2F G t cs t' it' cs' e Γ) (xs.drop i) = .ok rest ∧ pre ++ rest = ys,
    ⟨_, rfl, Nat.zero_le _, R1, [], [], ys, .hid g1s hD _, R1D, upd_same .., rfl, e2, rfl⟩, ?_⟩
  rintro i mm Hh ⟨hm, hi, Rh, acc, pre, rest, g, RhD, hHD, ra, em, ey⟩
  have wk := wl Hh Rh ((base_sub g1s).trans g.same) g.reg g.sub i
  cases ex : xs[i]? with
  | none =>
    refine .inl ⟨wk.2 ex, ?_⟩
    rw [List.drop_eq_nil_of_le (List.getElem?_eq_none_iff.mp ex)] at em
    cases em
    rw [List.append_nil] at ey
    subst ey
    exact fin Hh Rh acc g hHD RhD ra
  | some px =>
    have hlt : i < xs.length := (List.getElem?_eq_some_iff.mp ex).1
    obtain ⟨go, yl⟩ := wk.1 px ex
    have e3 : xs.drop i = px :: xs.drop (i + 1) := by
      rw [List.drop_eq_getElem_cons hlt]
      congr 1
      exact (List.getElem?_eq_some_iff.mp ex).2
    rw [e3] at em
    obtain ⟨y, zs, f1, f2, f3⟩ := catR_cons em
    obtain ⟨Γ1, b1, b2⟩ := lc2F_ok f1
    refine .inr ⟨go, fun H' => xs.length - (i + 1) = xs.length - (i + 1) ∧ i + 1 ≤ xs.length ∧ ∃ Rh acc pre rest, Grow H1 R1 H' Rh ∧ Rh D = none ∧ H' D = some (.lst acc) ∧ RpL F.K Rh pre acc ∧ catR (lc2F G t cs t' it' cs' e Γ) (xs.drop (i + 1)) = .ok rest ∧ pre ++ rest = ys, fun H' w => ⟨_, by omega, w⟩, ?_⟩
    intro x H' hy
    obtain ⟨R', g', rx⟩ := yl x H' hy
    have noD : ∀ {Ha Ra H2 R2 : Hp} {ac : List V}, Ra D = none → Ha D = some (.lst ac) → Grow Ha Ra H2 R2 → R2 D = none ∧ H2 D = some (.lst ac) := fun hR hH g2 => ⟨by rw [g2.old D (by rw [hH]; simp)]; exact hR, g2.same _ _ hH⟩
    refine ⟨wipeG Γ (t.vars ++ t'.vars), R', px, Γ1, ((rel1.grow g).grow g').wipe _, rx, b1, fun σ2 rel2 keep => ⟨?_, ?_⟩⟩
    · refine wipe_eq (by rw [← rel2.len, bind_len b1, wipeG_len]; exact rel1.len) fun i hn => ?_
      rw [keep i fun q => hn (List.mem_append_left _ q), wipe_get σ i hn]
    · refine ⟨Γ1, R', rel2, ?_⟩
      rcases b2 with ⟨c1, yy, c2, c3⟩ | ⟨c1, c3⟩
      · rw [c1]
        intro H3 R3 g3
        refine ⟨Γ1, R3, rel2.grow g3, ?_⟩
        rw [c2]
        intro J1 H4 R4 g4 wl1 len1
        have gg := (g'.trans g3).trans g4
        obtain ⟨n1, n2⟩ := noD RhD hHD gg
        have gA := g.trans gg
        refine ⟨fun j k Hj => k = yy.length - j ∧ j ≤ yy.length ∧ ∃ Rj ac pr rs, Grow H1 R1 Hj Rj ∧ Sub R4 Rj ∧ Rj D = none ∧ Hj D = some (.lst ac) ∧ RpL F.K Rj pr ac ∧ mapR (lcF G t' cs' e Γ1) (yy.drop j) = .ok rs ∧ pr ++ (rs ++ zs) = ys ∧ RelR F.K F.H0 F.R0 Rj Γ1 σ2 Hj,
          ⟨_, rfl, Nat.zero_le _, R4, acc, pre, y, gA, .refl, n1, n2, ra.mono gg.reg, c3, by rw [← ey, f3], (rel2.grow g3).grow g4⟩, ?_⟩
        rintro j k Hj ⟨hk, hj, Rj, ac, pr, rs, gj, sj, RjD, hjD, rj, mj, ej, relj⟩
        have wj := wl1 Hj Rj (sj.trans gj.sub) sj gj.sub j
        cases ex1 : yy[j]? with
        | none =>
          refine .inl ⟨wj.2 ex1, rfl, hlt, Rj, ac, pr, zs, gj, RjD, hjD, rj, f2, ?_⟩
          rw [List.drop_eq_nil_of_le (List.getElem?_eq_none_iff.mp ex1)] at mj
          cases mj
          exact ej
        | some py =>
          have hlt1 : j < yy.length := (List.getElem?_eq_some_iff.mp ex1).1
          obtain ⟨go1, yl1⟩ := wj.1 py ex1
          have e4 : yy.drop j = py :: yy.drop (j + 1) := by
            rw [List.drop_eq_getElem_cons hlt1]
            congr 1
            exact (List.getElem?_eq_some_iff.mp ex1).2
          rw [e4] at mj
          obtain ⟨w, ws, k1, k2, k3⟩ := mapR_cons mj
          obtain ⟨Γ2, d1, d2⟩ := lcF_ok k1
          refine .inr ⟨go1, fun H' => yy.length - (j + 1) = yy.length - (j + 1) ∧ j + 1 ≤ yy.length ∧ ∃ Rj ac pr rs, Grow H1 R1 H' Rj ∧ Sub R4 Rj ∧ Rj D = none ∧ H' D = some (.lst ac) ∧ RpL F.K Rj pr ac ∧ mapR (lcF G t' cs' e Γ1) (yy.drop (j + 1)) = .ok rs ∧ pr ++ (rs ++ zs) = ys ∧ RelR F.K F.H0 F.R0 Rj Γ1 σ2 H', fun H' w => ⟨_, by omega, w⟩, ?_⟩
          intro u H5 hu
          obtain ⟨R5, g5, ru⟩ := yl1 u H5 hu
          refine ⟨wipeG Γ1 t'.vars, R5, py, Γ2, (relj.grow g5).wipe _, ru, bind_wipe (fun i hi => hi) d1, fun σ3 rel3 keep3 => ⟨?_, ?_⟩⟩
          · refine wipe_eq (by rw [← rel3.len, bind_len d1]; exact relj.len) fun i hn => ?_
            rw [keep3 i hn, wipe_get σ2 i hn]
          · refine ⟨Γ2, R5, rel3, ?_⟩
            rcases d2 with ⟨c4, q, c5, c6⟩ | ⟨c4, c6⟩
            · rw [c4]
              intro H6 R6 g6
              refine ⟨Γ2, R6, rel3.grow g6, ?_⟩
              rw [c5]
              intro v H7 R7 g7 rv
              have gB := (g5.trans g6).trans g7
              obtain ⟨m1, m2⟩ := noD RjD hjD gB
              rw [c6] at k3
              have ej' : pr ++ (q :: ws ++ zs) = ys := by rw [← ej, k3]
              have la : ac.length = pr.length := rj.len
              have lb : pr.length < ys.length := by rw [← ej', List.length_append]; simp
              refine ⟨ac, m2, by rw [la, ← line_eq]; omega, rfl, hlt1, R7, ac ++ [v], pr ++ [q], ws, (gj.trans gB).at hD m1, sj.trans gB.reg, m1, upd_same .., (rj.mono gB.reg).append (.one rv), k2, ?_, ?_⟩
              · rw [← ej', List.append_assoc]; rfl
              · have rb := relj.grow gB
                refine ⟨fun a o z => ?_, fun a o z => ?_, rb.sub0, rb.old, rb.slot, fun i s z => ?_, rb.apart, rb.len⟩
                · have : a ≠ D := fun c => by
                    subst c
                    have := rel1.same _ _ z
                    rw [this] at hD; cases hD
                  rw [upd_ne this]; exact rb.same _ _ z
                · rw [upd_ne (ne_of_none z m1)]; exact rb.sub _ _ z
                · obtain ⟨a, q1, q2, q5, q6⟩ := rb.own i s z
                  have : a ≠ D := fun c => by
                    obtain ⟨z1, z2⟩ := bind_ow b1 z
                    obtain ⟨z3, z4⟩ := wipeG_ow z1
                    rw [keep i z2, wipe_get σ i z4] at q1
                    exact rel1.ownH z3 q1 (c ▸ hD)
                  exact ⟨a, q1, q2.mono .refl fun o e => by rw [upd_ne this]; exact e, q5, q6⟩
            · rw [c4]
              intro H6 R6 g6
              have gB := g5.trans g6
              obtain ⟨m1, m2⟩ := noD RjD hjD gB
              rw [c6] at k3
              exact ⟨rfl, hlt1, R6, ac, pr, ws, gj.trans gB, sj.trans gB.reg, m1, m2, rj.mono gB.reg, k2, by rw [← ej, k3], relj.grow gB⟩
      · rw [c1]
        intro H3 R3 g3
        have gg := g'.trans g3
        obtain ⟨n1, n2⟩ := noD RhD hHD gg
        refine ⟨rfl, hlt, R3, acc, pre, zs, g.trans gg, n1, n2, ra.mono gg.reg, f2, ?_⟩
        rw [c3] at f3
        rw [← ey, f3]; rfl
def tLc2' (F : Fr) (G : Ctx) (m : Md) (t : CT) (it : CI) (cs : List CE) (t' : CT) (it' : CI) (cs' : List CE) (e : CE) : TE :=
  tLc2 (RdI F m (evI G it)) (RdG F.calm t) (RdB F.calm (evC G cs)) (RdI F.calm .e (evI G it')) (RdG F.calm t') (RdB F.calm (evC G cs')) (Rd' F.calm .e (ev G e)) (t.vars ++ t'.vars) t'.vars
theorem rd_lc2 {t t' : CT} {it it' : CI} {cs cs' : List CE} {e : CE} {m : Md} {σ : L2.St} {H : Hp} {Q : VK} (h : Rd' F .e (ev G (.lc2 t it cs t' it' cs' e)) σ H Q) : tLc2' F G m t it cs t' it' cs' e σ H Q := by
  obtain ⟨Γ, R, rel, p⟩ := h
  refine ⟨Γ, R, rel, ?_⟩
  have p : Post F .e R σ H ((evI G it Γ).bind fun xs => (catR (lc2F G t cs t' it' cs' e Γ) xs).bind fun zs => (chk zs).bind fun zs => .ok (.d (.lst zs))) Q := p
  cases e1 : evI G it Γ with
  | bad => rw [e1] at p; exact p.elim
  | exc c => rw [e1] at p; exact p
  | ok xs =>
    rw [e1] at p
    intro J H1 R1 g1 wl len D hD
    have p : Post F .e R σ H ((catR (lc2F G t cs t' it' cs' e Γ) xs).bind fun zs => (chk zs).bind fun zs => .ok (.d (.lst zs))) Q := p
    cases e2 : catR (lc2F G t cs t' it' cs' e Γ) xs with
    | bad => rw [e2] at p; exact p.elim
    | exc c => exact absurd e2 catR_exc
    | ok ys =>
      rw [e2] at p
      have p : Post F .e R σ H ((chk ys).bind fun zs => .ok (.d (.lst zs))) Q := p
      unfold chk at p
      split at p
      · rename_i hz
        have p : Post F .e R σ H (.ok (.d (.lst ys))) Q := p
        have p := p.grow g1
        exact lc2_turns (rel.grow g1) wl hD e2 hz fun Hh Rh acc g hHD RhD ra => p _ _ _ (g.show' hD hHD RhD) ⟨D, acc, rfl, upd_same .., hz, ra.mono (sub_upd RhD)⟩
      · exact p.elim
theorem rn_lc2 {t t' : CT} {it it' : CI} {cs cs' : List CE} {e : CE} {m : Md} {σ : L2.St} {H : Hp} {Q : VK} (h : RdN F (ev G (.lc2 t it cs t' it' cs' e)) σ H Q) : tLc2' F G m t it cs t' it' cs' e σ H Q := by
  obtain ⟨Γ, R, rel, p⟩ := h
  refine ⟨Γ, R, rel, ?_⟩
  have p : PostN F R σ H ((evI G it Γ).bind fun xs => (catR (lc2F G t cs t' it' cs' e Γ) xs).bind fun zs => (chk zs).bind fun zs => .ok (.d (.lst zs))) Q := p
  cases e1 : evI G it Γ with
  | bad => rw [e1] at p; exact p.elim
  | exc c => rw [e1] at p; exact p
  | ok xs =>
    rw [e1] at p
    intro J H1 R1 g1 wl len D hD
    have p : PostN F R σ H ((catR (lc2F G t cs t' it' cs' e Γ) xs).bind fun zs => (chk zs).bind fun zs => .ok (.d (.lst zs))) Q := p
    cases e2 : catR (lc2F G t cs t' it' cs' e Γ) xs with
    | bad => rw [e2] at p; exact p.elim
    | exc c => exact absurd e2 catR_exc
    | ok ys =>
      rw [e2] at p
      have p : PostN F R σ H ((chk ys).bind fun zs => .ok (.d (.lst zs))) Q := p
      unfold chk at p
      split at p
      · rename_i hz
        have p : PostN F R σ H (.ok (.d (.lst ys))) Q := p
        refine lc2_turns (rel.grow g1) wl hD e2 hz fun Hh Rh acc g hHD RhD ra => p D Hh Rh acc (g1.trans g) ?_ hHD RhD ra hz
        cases q : H D with
        | none => rfl
        | some o => rw [g1.same _ _ q] at hD; cases hD
      · exact p.elim
theorem p_lc2 (C : Cok I G F X sc) {t t' : CT} {it it' : CI} {cs cs' : List CE} {e : CE} {tg iter tg1 iter1 elt : Expr} {ifs ifs1 : List Expr} {scope : Scope} {own : List (Str × Nat)} {m : Md}
    (hi : PI X tg iter (RdI F m (evI G it))) (ok : BlkOk X.N X.env.scope scope own) (ho : own.map (·.2) = t.vars ++ t'.vars)
    (hg : ∀ (s : Shared) (H : Hp) (Cc : Addr) (cl : List (Str × Addr)) (fp : List Addr), PG (X.blk s H scope (compEnvC scope cl Cc X.env) fp) tg (RdG F.calm t))
    (ht : ∀ (s : Shared) (H : Hp) (Cc : Addr) (cl : List (Str × Addr)) (fp : List Addr), PTs (X.blk s H scope (compEnvC scope cl Cc X.env) fp) ifs (RdB F.calm (evC G cs)))
    (hi1 : ∀ (s : Shared) (H : Hp) (Cc : Addr) (cl : List (Str × Addr)) (fp : List Addr), PI (X.blk s H scope (compEnvC scope cl Cc X.env) fp) tg1 iter1 (RdI F.calm .e (evI G it')))
    (hg1 : ∀ (s : Shared) (H : Hp) (Cc : Addr) (cl : List (Str × Addr)) (fp : List Addr), PG (X.blk s H scope (compEnvC scope cl Cc X.env) fp) tg1 (RdG F.calm t'))
    (ht1 : ∀ (s : Shared) (H : Hp) (Cc : Addr) (cl : List (Str × Addr)) (fp : List Addr), PTs (X.blk s H scope (compEnvC scope cl Cc X.env) fp) ifs1 (RdB F.calm (evC G cs')))
    (he : ∀ (s : Shared) (H : Hp) (Cc : Addr) (cl : List (Str × Addr)) (fp : List Addr), PE (X.blk s H scope (compEnvC scope cl Cc X.env) fp) elt (Rd' F.calm .e (ev G e)))
    (hs : ∀ x, foldedSetIterable iter X.env x = pure x) (hs1 : ∀ env x, foldedSetIterable iter1 env x = pure x) : PE X (.ListComp elt [⟨tg, iter, ifs, 0⟩, ⟨tg1, iter1, ifs1, 0⟩] scope pos) (tLc2' F G m t it cs t' it' cs' e) := by
  have := pe_lc2 (pos := pos) (vs1 := t'.vars) C.calm (by rw [C.hN]; exact C.nd) hi ok (fun i h => by rw [ho]; exact List.mem_append_right _ h) hg ht hi1 hg1 ht1 he hs hs1
  rw [ho] at this
  exact this
end
end Bw
end

section
set_option autoImplicit false
set_option linter.all false
/-! Bw Ur: t[::-1] for a tuple t. -/
namespace Bw
open PySem L2 HT PySem.Spec PyProof.Rows
section
variable {prog : Program} {w : World} {A : Around} {E : Value → Shared → Prop} {s : Shared}
theorem applied_back {sl : Addr} {vl vu vs : Value} {n : Nat} {Q : Int × Int × Nat → Shared → Prop} (hs : s.heap.IsSliceOf sl vl vu vs) (pl : IsPart vl none) (pu : IsPart vu none) (ps : IsPart vs (some (-1)))
    (h : Q ((n : Int) - 1, -1, n) s) : wpAny (model prog w) A (Builtin.Slice.sliceApplied (.ref sl) (pure (n : Int))) Q E s := by
  obtain ⟨oz, hoz, _, hdz⟩ := id hs
  unfold Builtin.Slice.sliceApplied Builtin.Slice.sliceFields
  have rd : ∀ {j : Nat} {x : Value} {P : Value → Shared → Prop}, (#[vl, vu, vs] : Array Value)[j]? = some x → P x s → wpAny (model prog w) A (field (.ref sl) j) P E s := fun e p => wpAny_field hoz hdz e p
  refine wpAny_bind (wpAny_bind (rd (x := vl) rfl (wpAny_bind (rd (x := vu) rfl (wpAny_bind (rd (x := vs) rfl (wpAny_pure ?_)))))))
  refine wpAny_bind (slicePart_ ps ?_)
  show wpAny _ _ (if ((-1 : Int) == 0) = true then _ else _) _ _ s
  rw [if_neg (by decide)]
  refine wpAny_bind (slicePart_ pl (wpAny_bind (slicePart_ pu (wpAny_bind (wpAny_pure ?_)))))
  have e : Builtin.Slice.slicePlaces ((n : Int) - 1) (-1) (-1) = n := by
    unfold Builtin.Slice.slicePlaces
    rw [if_neg (by decide)]
    split
    · rw [show (- -1 : Int) = 1 from rfl, Int.ediv_one]; omega
    · omega
  show wpAny _ _ (pure ((n : Int) - 1, (-1 : Int), Builtin.Slice.slicePlaces ((n : Int) - 1) (-1) (-1))) _ _ s
  rw [e]
  exact wpAny_pure h
theorem fm_same {α β : Type} {f g : α → Option β} : ∀ {l : List α}, (∀ x ∈ l, f x = g x) → l.filterMap f = l.filterMap g
  | [], _ => rfl
  | x :: xs, h => by
    rw [List.filterMap_cons, List.filterMap_cons, h x (by simp), fm_same (l := xs) fun y hy => h y (List.mem_cons_of_mem _ hy)]
theorem pick_back (xs : Array Value) : ((List.range xs.size).filterMap fun (k : Nat) => xs[((xs.size : Int) - 1 + (k : Int) * -1).toNat]?).toArray = xs.toList.reverse.toArray := by
  have e : ((List.range xs.size).filterMap fun (k : Nat) => xs[((xs.size : Int) - 1 + (k : Int) * -1).toNat]?) = (List.range xs.size).filterMap ((xs[·]?) ∘ fun k => xs.size - 1 - k) := by
    refine fm_same fun k hk => ?_
    have := List.mem_range.mp hk
    show xs[((xs.size : Int) - 1 + (k : Int) * -1).toNat]? = xs[xs.size - 1 - k]?
    have e : ((xs.size : Int) - 1 + (k : Int) * -1).toNat = xs.size - 1 - k := by omega
    rw [e]
  rw [e, ← List.filterMap_map, PySem.W.krv_range, List.filterMap_reverse, PySem.W.krv_all]
theorem item_back {t sl : Addr} {items : Array Value} {vl vu vs : Value} {Q : Value → Shared → Prop} (ht : IsTup s.heap t items) (hs : s.heap.IsSliceOf sl vl vu vs) (pl : IsPart vl none) (pu : IsPart vu none) (ps : IsPart vs (some (-1)))
    (h : Q (.ref s.heap.objs.size) { s with heap := s.heap.push { cls := .type "tuple", data := .seq items.toList.reverse.toArray } })
    (hsz : items.size ≤ sizeLine) : wpAny (model prog w) A (getItem (.ref t) (.ref sl)) Q E s := by
  have fits : sizeOk (.seq items.toList.reverse.toArray) := by
    show items.toList.reverse.toArray.size ≤ sizeLine
    rw [List.size_toArray, List.length_reverse, Array.length_toList]
    exact hsz
  obtain ⟨oz, hoz, hcz, _⟩ := id hs
  have hSl : s.TypeIs (.ref sl) "slice" := ⟨oz, hoz, hcz⟩
  unfold getItem
  try with_reducible refine wpAny_holding ?_
  first | refine wpAny_bind (wpAny_pure ?_) | skip
  refine wpAny_bind (wpAny_sequenceKey ht.typeIs (by decide) ?_)
  refine wpAny_bind (wpAny_callSpecial?_slot (name := Str.ofString "__getitem__") ht.typeIs slot_tuple_getitem (wpAny_call_entry slot_tuple_getitem ht.typeIs entry_tuple_getitem ?_ (args_tuple_getitem _ _)))
  show wpAny _ _ (Builtin.Tuple.tupleItemsOf (.ref t) >>= _) _ _ s
  refine wpAny_bind (tupleItemsOf_ ht (wpAny_bind (wpAny_typeOf hSl ?_)))
  rw [if_pos (by decide)]
  refine wpAny_bind (applied_back hs pl pu ps ?_)
  have no : ¬ (((((items.size : Int) - 1) == 0) && ((-1 : Int) == 1) && (items.size == items.size)) = true) := by simp
  show wpAny _ _ (if (((((items.size : Int) - 1) == 0) && ((-1 : Int) == 1) && (items.size == items.size)) = true) then _ else _) _ _ s
  rw [if_neg no, pick_back]
  first
    | exact wpAny_bind (m := Builtin.Tuple.tupleExact _) (wpAny_newObj_type (wpAny_pure ⟨_, rfl, wpAny_pure h⟩) fits)
    | exact wpAny_bind (m := Builtin.Tuple.tupleExact _) (wpAny_newObj_type (wpAny_bind (wpAny_pure (wpAny_pure ⟨_, rfl, wpAny_pure h⟩))) fits)
    | exact wpAny_bind (wpAny_bind (m := Builtin.Tuple.tupleExact _) (wpAny_newObj_type (wpAny_pure (wpAny_pure ⟨_, rfl, wpAny_pure h⟩)) fits))
    | exact wpAny_bind (wpAny_bind (m := Builtin.Tuple.tupleExact _) (wpAny_newObj_type (wpAny_pure ⟨_, rfl, wpAny_pure h⟩) fits))
end
/-- the same, of a tuple or a list -/
def tBack (K : PySem.W.Frag) (te : TE) : TE := fun σ H Q => te σ H fun x H1 => ∃ a xs, x = .ref a ∧ ((SqL K H1 a xs ∧ ∀ p, H1 p = none → Q (.ref p) (upd H1 p (.lst xs.reverse))) ∨ (SqT K H1 a xs ∧ ∀ p, H1 p = none → Q (.ref p) (upd H1 p (.tup xs.reverse))))
theorem pe_back {X : Cx} {e : Expr} {te : TE} {k : Nat} {p1 p2 p3 pos : Pos} (he : PE X e te) : PE X (.Subscript e (.Slice none none (some (.UnaryOp .USub (.Constant (.int 1) k p1) p2)) p3) pos) (tBack X.K te) := by
  refine ⟨fun pins s σ H Q I h => ?_⟩
  refine Subscript_ (thn (he.run pins s σ H _ I h) fun v s1 ⟨x, H1, I1, r1, q1⟩ => ?_)
  obtain ⟨a, xs, ex, q1⟩ := q1
  subst ex
  cases r1
  have hst : PO X (some (.UnaryOp .USub (.Constant (.int 1) k p1) p2)) (tPart (tUn (rU fun i => .int (-i)) (tC (.int 1)))) := po_some (pe_un un_neg pe_int)
  refine wpAny_Slice (thn (po_none.run pins s1 σ H1 (fun o G => o = none ∧ G = H1) I1 ⟨rfl, rfl⟩) fun vl s2 ⟨l, H2, I2, pl, el, e2⟩ => ?_)
  subst el e2
  refine thn (po_none.run pins s2 σ H2 (fun o G => o = none ∧ G = H2) I2 ⟨rfl, rfl⟩) fun vu s3 ⟨u, H3, I3, pu, eu, e3⟩ => ?_
  subst eu e3
  refine thn (hst.run pins s3 σ H3 (fun o G => o = some (-1) ∧ G = H3) I3 ⟨1, rfl, -1, rfl, rfl, rfl⟩) fun vs s4 ⟨o, H4, I4, ps, eo, e4⟩ => ?_
  subst eo e4
  have I5 : Inv X pins σ H4 { s4 with heap := s4.heap.push { cls := .type "slice", data := .fields #[vl, vu, vs] } } := I4.kept (t' := s4.toks) fun b ob z => Heap.get?_push_of_some _ z
  have key : ∀ {T : String} {id : String}, (Shared.TypeIs { s4 with heap := s4.heap.push { cls := .type "slice", data := .fields #[vl, vu, vs] } } (.ref a) T) → (typeLookup (.type T) "__getitem__" = pure (some (.builtin id))) →
      wpAny (model X.prog X.w) X.A (getItem (.ref a) (.ref s4.heap.objs.size)) (EP X pins σ Q) X.xe { s4 with heap := s4.heap.push { cls := .type "slice", data := .fields #[vl, vu, vs] } } →
      wpAny (model X.prog X.w) X.A (subscriptTail e (.Slice none none (some (.UnaryOp .USub (.Constant (.int 1) k p1) p2)) p3) (.ref a) (.ref s4.heap.objs.size)) (EP X pins σ Q) X.xe { s4 with heap := s4.heap.push { cls := .type "slice", data := .fields #[vl, vu, vs] } } :=
    fun hT hl hg => tail_any (ops := [.ref a, .ref s4.heap.objs.size]) hT hl hg (by with_unfolding_all rfl)
  rcases q1 with ⟨hx, q⟩ | ⟨hx, q⟩
  · obtain ⟨its, r, ht, hz⟩ := I5.list hx
    have hlen := r.length
    refine key ht.isList.typeIs slot_list_getitem.lookup ?_
    refine wpAny_getItem_list_slice ht.isList (Heap.IsSliceOf.new _ vl vu vs) pl pu ps (by decide) ?_ (by rw [List.size_toArray]; omega)
    rw [PySem.W.krv_pick]
    exact ⟨.ref _, _, I5.laid (t' := s4.toks) (o := .lst xs.reverse) (fun b ob z => Heap.get?_push_of_some _ z) (Nat.le_refl _) ⟨by rw [List.length_reverse]; exact hz, _, 0, r.reverse, Heap.get?_push_size _ rfl⟩, rfl, q _ (I5.hok.fresh (Nat.le_refl _))⟩
  · obtain ⟨its, r, ht, hz⟩ := I5.tuple hx
    have hlen := r.length
    refine key ht.typeIs slot_tuple_getitem.lookup ?_
    refine item_back ht (Heap.IsSliceOf.new _ vl vu vs) pl pu ps ?_ (by rw [List.size_toArray]; omega)
    exact ⟨.ref _, _, I5.laid (t' := s4.toks) (o := .tup xs.reverse) (fun b ob z => Heap.get?_push_of_some _ z) (Nat.le_refl _) ⟨by rw [List.length_reverse]; exact hz, _, r.reverse, IsTup.new _ _⟩, rfl, q _ (I5.hok.fresh (Nat.le_refl _))⟩
end Bw
end

section
set_option autoImplicit false
set_option linter.all false
/-! Bw U3: dicts with keys ints and texts; list.index. -/
namespace Bw
open PySem L2
section
variable {I : Inf} {G : Ctx} {F : Fr} {X : Cx} {sc : Scope} {pos : Pos}
theorem r_dnew : PE X (.Dict [] [] pos) (Rd' F .e (ev G .dnew)) :=
  peImp pe_dnewK fun σ H Q ⟨Γ, R, rel, p⟩ q hq => p _ _ _ (.new rel.sub hq _) ⟨q, [], rfl, upd_same .., Nat.zero_le _, rfl⟩
theorem n_dnew : PE X (.Dict [] [] pos) (RdN F (ev G .dnew)) :=
  peImp pe_dnewK fun σ H Q ⟨Γ, R, rel, p⟩ q hq => p q _ R [] (.hid rel.sub hq _) hq (upd_same ..) (rel.sub.none hq) rfl (Nat.zero_le _)
/-- a key, and the machine's -/
theorem key_is {F : Fr} {R H : Hp} {s : SV} {x : V} (r : Rm F R H .t s x) : (∃ k, key? s = .ok k ∧ x = kV k ∧ RpD F.K R (pK k) x) ∨ key? s = .bad := by
  cases s with
  | d p =>
    cases p <;> first | exact .inr rfl | skip
    · obtain rfl := r.int; exact .inl ⟨_, rfl, rfl, rfl⟩
    · rename_i z
      obtain ⟨rfl, hz⟩ := r.str
      exact .inl ⟨_, rfl, rfl, rfl, by rw [line_eq]; exact hz⟩
  | _ => exact .inr rfl
theorem data_is {s : SV} : (∃ q, s = .d q) ∨ data? s = .bad := by
  cases s with
  | d p => exact .inl ⟨p, rfl⟩
  | _ => exact .inr rfl
theorem disp_turn {k e : CE} {σ : L2.St} {H : Hp} {Γ : Gm} {R : Hp} (rel : RelR F.K F.H0 F.R0 R Γ σ H) {p : Addr} (hp : H p = none) {Q : VK}
    (hx : ∀ c, ((ev G k Γ).bind fun y => (key? y).bind fun k => (ev G e Γ).bind fun z => (data? z).bind fun p => Res.ok (SV.dK [(k, p)])) = .exc c → ∀ H' R', Grow H R H' R' → F.W (F.cls c) none σ H')
    (hb : ((ev G k Γ).bind fun y => (key? y).bind fun k => (ev G e Γ).bind fun z => (data? z).bind fun p => Res.ok (SV.dK [(k, p)])) ≠ .bad)
    (fin : ∀ k' q H' R' v, ((ev G k Γ).bind fun y => (key? y).bind fun k => (ev G e Γ).bind fun z => (data? z).bind fun p => Res.ok (SV.dK [(k, p)])) = .ok (SV.dK [(k', q)]) → Grow H R H' R' → H' p = some (.dK []) → R' p = none → RpD F.K R' q v → Q (.ref p) (upd H' p (.dK [(k', v)]))) :
    tPairs [(Rd' F .e (ev G k), Rd' F .e (ev G e))] σ (upd H p (.dK [])) fun ps H2 => H2 p = some (.dK []) ∧ ∃ kvs : List (Key × V), ps = kvs.map (fun kv => (kV kv.1, kv.2)) ∧ kvs.length ≤ 15 ∧ Q (.ref p) (upd H2 p (.dK (mergeK [] kvs))) := by
  have Rp : R p = none := rel.sub.none hp
  have g0 : Grow H R (upd H p (.dK [])) R := .hid rel.sub hp _
  have r0 := rel.grow g0
  refine ⟨Γ, R, r0, ?_⟩
  cases e1 : ev G k Γ with
  | bad => rw [e1] at hb; exact absurd rfl hb
  | exc c => exact fun H' R' g => hx c (by rw [e1]; rfl) H' R' (g0.trans g)
  | ok s =>
    intro v H1 R1 g1 rv
    rw [e1] at hb hx fin
    rcases key_is (H := H1) (rv.le g1.sub (md_e .t)) with ⟨k', ek, ev', rk⟩ | ek
    · refine ⟨Γ, R1, r0.grow g1, ?_⟩
      have n1 : R1 p = none := by rw [g1.old p (by rw [upd_same]; simp)]; exact Rp
      have m1 : H1 p = some (.dK []) := g1.same _ _ (upd_same ..)
      rw [Res.bind_ok, ek, Res.bind_ok] at hb hx fin
      cases e2 : ev G e Γ with
      | bad => rw [e2] at hb; exact absurd rfl hb
      | exc c => exact fun H' R' g => hx c (by rw [e2]; rfl) H' R' ((g0.trans g1).trans g)
      | ok z =>
        intro w H2 R2 g2 rw'
        rw [e2] at hb fin
        rcases data_is (s := z) with ⟨q, rfl⟩ | ed
        · have n2 : R2 p = none := by rw [g2.old p (by rw [m1]; simp)]; exact n1
          have m2 : H2 p = some (.dK []) := g2.same _ _ m1
          refine ⟨m2, [(k', w)], by rw [ev']; rfl, by simp, ?_⟩
          exact fin k' q H2 R2 w rfl ((g0.trans g1).trans g2) m2 n2 rw'
        · rw [Res.bind_ok, ed] at hb; exact absurd rfl hb
    · rw [Res.bind_ok, ek] at hb; exact absurd rfl hb
theorem disp_ok {k e : CE} {Γ : Gm} {s : SV} (h : ev G (.disp1 k e) Γ = .ok s) : ∃ k' q, s = .dK [(k', q)] := by
  have h : ((ev G k Γ).bind fun y => (key? y).bind fun k => (ev G e Γ).bind fun z => (data? z).bind fun p => Res.ok (SV.dK [(k, p)])) = .ok s := h
  cases e1 : ev G k Γ with
  | bad => rw [e1] at h; cases h
  | exc c => rw [e1] at h; cases h
  | ok y =>
    rw [e1, Res.bind_ok] at h
    cases e2 : key? y with
    | bad => rw [e2] at h; cases h
    | exc c => rw [e2] at h; cases h
    | ok k' =>
      rw [e2, Res.bind_ok] at h
      cases e3 : ev G e Γ with
      | bad => rw [e3] at h; cases h
      | exc c => rw [e3] at h; cases h
      | ok z =>
        rw [e3, Res.bind_ok] at h
        cases e4 : data? z with
        | bad => rw [e4] at h; cases h
        | exc c => rw [e4] at h; cases h
        | ok q => rw [e4] at h; cases h; exact ⟨k', q, rfl⟩
theorem pe_disp1 {z y : Expr} {tk tv : TE} (hk : PE X z tk) (hv : PE X y tv) : PE X (.Dict [some z] [y] pos) (tDisp [(tk, tv)]) :=
  pe_disp (pps_cons hk hv pps_nil) rfl rfl (by simp) (by simp)
theorem r_disp1 {k e : CE} {z y : Expr} (hk : PE X z (Rd' F .e (ev G k))) (hv : PE X y (Rd' F .e (ev G e))) : PE X (.Dict [some z] [y] pos) (Rd' F .e (ev G (.disp1 k e))) :=
  peImp (pe_disp1 hk hv) fun σ H Q ⟨Γ, R, rel, p⟩ D hD => by
    refine disp_turn rel hD (fun c e1 H' R' g => ?_) (fun e1 => ?_) fun k' q H' R' v e1 g m n r => ?_
    · rw [show ev G (.disp1 k e) Γ = _ from e1] at p; exact p H' R' g
    · rw [show ev G (.disp1 k e) Γ = _ from e1] at p; exact p
    · rw [show ev G (.disp1 k e) Γ = _ from e1] at p
      refine p _ _ (upd R' D (.dK [(k', v)])) ((g.at hD n).show' hD (upd_same ..) n) ⟨D, [(k', v)], rfl, upd_same .., by unfold line; simp, v, [], rfl, r.mono (sub_upd n), rfl⟩
theorem n_disp1 {k e : CE} {z y : Expr} (hk : PE X z (Rd' F .e (ev G k))) (hv : PE X y (Rd' F .e (ev G e))) : PE X (.Dict [some z] [y] pos) (RdN F (ev G (.disp1 k e))) :=
  peImp (pe_disp1 hk hv) fun σ H Q ⟨Γ, R, rel, p⟩ D hD => by
    refine disp_turn rel hD (fun c e1 H' R' g => ?_) (fun e1 => ?_) fun k' q H' R' v e1 g m n r => ?_
    · rw [show ev G (.disp1 k e) Γ = _ from e1] at p; exact p H' R' g
    · rw [show ev G (.disp1 k e) Γ = _ from e1] at p; exact p
    · rw [show ev G (.disp1 k e) Γ = _ from e1] at p
      exact p D _ R' [(k', v)] (g.at hD n) hD (upd_same ..) n ⟨v, [], rfl, r, rfl⟩ (by unfold line; simp)
/-! ### get -/
theorem dic_is {R H : Hp} {s : SV} {x : V} (hs : Sub R H) (r : Rm F R H .t s x) : (∃ kvs a ws, s = .dK kvs ∧ x = .ref a ∧ H a = some (.dK ws) ∧ RpK F.K R kvs ws) ∨ dic? s = .bad := by
  cases s with
  | dK kvs =>
    obtain ⟨a, ws, e, h, rk, _⟩ := r.dK hs
    exact .inl ⟨kvs, a, ws, rfl, e, h, rk⟩
  | _ => exact .inr rfl
theorem base_name {n : Str} {p : Pos} {m : Str} {env : PySem.Env} : attributeBase (.Name n p) m env (eval (.Name n p) env) = eval (.Name n p) env := rfl
theorem getop_ok {kvs : List (Ky × PV)} {ws : List (Key × V)} {R H : Hp} {σ : L2.St} {y : SV} {q : PV} {x z : V} {Q : VK} (hs : Sub R H) (rk : RpK F.K R kvs ws) (ry : Rm F R H .t y x) (rz : RpD F.K R q z) (p : Post F .e R σ H (getop kvs y (.d q)) Q) :
    ∃ k, x = kV k ∧ Q ((valV ws k).getD z) H := by
  have p : Post F .e R σ H ((key? y).bind fun k => .ok (.d ((valK kvs k).getD q))) Q := p
  rcases key_is ry with ⟨k, e1, e2, _⟩ | e1
  · rw [e1] at p
    have p : Post F .e R σ H (.ok (.d ((valK kvs k).getD q))) Q := p
    refine ⟨k, e2, Post.now hs p ?_⟩
    obtain ⟨i1, i2⟩ := rk.val k
    cases e3 : valK kvs k with
    | none => rw [i2 e3]; exact rz
    | some q' => obtain ⟨w, hw, rw'⟩ := i1 q' e3; rw [hw]; exact rw'
  · rw [e1] at p; exact p.elim
theorem r_dget1 (C : Cok I G F X sc) {a k : CE} {n : Str} {p apos cpos : Pos} {z : Expr} {ma mk : Md} (la : ma.le .t = true) (lk : mk.le .t = true) (ha : PE X (.Name n p) (Rd' F ma (ev G a))) (hk : PE X z (Rd' F mk (ev G k))) (hz : tame z = true) (hl : (apos.endLine == cpos.line) = true) :
    PE X (.Call (.Attribute (.Name n p) (Str.ofString "get") apos) [z] [] cpos) (Rd' F .e (ev G (.dget1 a k))) :=
  peImp (pe_dget1 (by have := C.un; omega) (peLe ha la) (peLe hk lk) ⟨rfl, by rw [starEach_tame hz]; rfl, hl, by rw [starEach_tame hz]; rfl⟩) fun σ H Q ⟨Γ, R, rel, p⟩ => ⟨Γ, R, rel, (Post.bind (m := .t) rel.sub p).mono fun x H1 ⟨s, R1, _, g1, rx, p1⟩ => by
    rcases dic_is g1.sub rx with ⟨kvs, a, ws, rfl, e, hH, rk⟩ | eb
    · have p1 : Post F .e R1 σ H1 ((ev G k Γ).bind fun y => getop kvs y (.d .non)) Q := p1
      refine ⟨a, e, .inl ⟨ws, .inl hH⟩, Γ, R1, rel.grow g1, (Post.bind (m := .t) g1.sub p1).mono fun y H2 ⟨t, R2, _, g2, ry, p2⟩ => ?_⟩
      obtain ⟨k', e', q⟩ := getop_ok g2.sub (rk.mono g2.reg) ry (q := .non) (z := .non) rfl p2
      subst e'
      exact ⟨_, DGet.k (g2.same _ _ hH), q⟩
    · have p1 : Post F .e R1 σ H1 ((dic? s).bind fun kvs => (ev G k Γ).bind fun y => getop kvs y (.d .non)) Q := p1
      rw [eb] at p1; exact p1.elim⟩
theorem r_dget2 (C : Cok I G F X sc) {a k d : CE} {n : Str} {p apos cpos : Pos} {z w : Expr} {ma mk : Md} (la : ma.le .t = true) (lk : mk.le .t = true) (ha : PE X (.Name n p) (Rd' F ma (ev G a))) (hk : PE X z (Rd' F mk (ev G k))) (hd : PE X w (Rd' F .e (ev G d))) (hz : tame z = true) (hw : tame w = true) (hl : (apos.endLine == cpos.line) = true) :
    PE X (.Call (.Attribute (.Name n p) (Str.ofString "get") apos) [z, w] [] cpos) (Rd' F .e (ev G (.dget2 a k d))) :=
  peImp (pe_dget2 (by have := C.un; omega) (peLe ha la) (peLe hk lk) hd ⟨rfl, by rw [starEach_tame hz, starEach_tame hw]; rfl, hl, by rw [starEach_tame hz, starEach_tame hw]; rfl⟩) fun σ H Q ⟨Γ, R, rel, p⟩ => ⟨Γ, R, rel, (Post.bind (m := .t) rel.sub p).mono fun x H1 ⟨s, R1, _, g1, rx, p1⟩ => by
    rcases dic_is g1.sub rx with ⟨kvs, a, ws, rfl, e, hH, rk⟩ | eb
    · have p1 : Post F .e R1 σ H1 ((ev G k Γ).bind fun y => (ev G d Γ).bind fun z => getop kvs y z) Q := p1
      refine ⟨a, e, .inl ⟨ws, .inl hH⟩, Γ, R1, rel.grow g1, (Post.bind (m := .t) g1.sub p1).mono fun y H2 ⟨t, R2, _, g2, ry, p2⟩ => ⟨Γ, R2, (rel.grow g1).grow g2, (Post.bind (m := .e) g2.sub p2).mono fun y3 H3 ⟨t3, R3, _, g3, r3, p3⟩ => ?_⟩⟩
      cases t3 with
      | d q =>
        obtain ⟨k', e', qq⟩ := getop_ok g3.sub (rk.mono (g2.trans g3).reg) (ry.grow g3) (q := q) (z := y3) r3 p3
        subst e'
        exact ⟨_, DGet.k ((g2.trans g3).same _ _ hH), qq⟩
      | _ => exact (show False from by cases t <;> first | exact p3 | (rename_i q; cases q <;> exact p3)).elim
    · have p1 : Post F .e R1 σ H1 ((dic? s).bind fun kvs => (ev G k Γ).bind fun y => (ev G d Γ).bind fun z => getop kvs y z) Q := p1
      rw [eb] at p1; exact p1.elim⟩
end
end Bw
end

section
set_option autoImplicit false
set_option linter.all false
/-! Bw U4: list.index; dict comprehensions. -/
namespace Bw
open PySem L2 PySem.SeqAt
section
variable {I : Inf} {G : Ctx} {F : Fr} {X : Cx} {sc : Scope} {pos : Pos}
def rInd (F : Fr) : V → List V → Hp → VK → Prop := fun x xs H Q => ∃ (a : Addr) (vs : List V) (ps : List PV) (y : V) (t : SV) (R : Hp) (σ : L2.St), x = V.ref a ∧ xs = [y] ∧ Sub R H ∧ H a = some (.lst vs) ∧ RpL F.K R ps vs ∧ ps.length ≤ line ∧ Rm F R H .t t y ∧ Post F .e R σ H (indop ps t) Q
theorem mt_ind (hK : F.K = X.K) (hu : X.A.units + 100 < cLine) : MtR X "list.index" (rInd F) := by
  intro pins s σ H x xs v us Q I rx rxs ⟨a, vs, ps, y, t, R, σ', ex, exs, hs, hH, r, z, ry, p⟩
  subst ex exs
  obtain rfl : v = Value.ref a := rx
  obtain ⟨u, rfl, ru⟩ := Vals.one rxs
  cases t with
  | d q =>
    have p : Post F .e R σ' H (if sha q && ps.any (fun x => pyEq x q) then .ok (.d (.int (((ps.map fun x => pyEq x q).idxOf true : Nat) : Int))) else .bad) Q := p
    obtain ⟨c, p⟩ := post_if (c := sha q && ps.any (fun x => pyEq x q)) p
    simp only [Bool.and_eq_true] at c
    obtain ⟨its, rv, pl, hz⟩ := I.list (SqL.of hH)
    have cq := Inv.cpT I hK hs ry ru
    have cl := cpl_of I hs (by rw [← hK]; exact r) rv
    have e : ItemsEq X.A.in1 s its (ps.map fun x => pyEq x q) u true := by
      have hl : its.length = ps.length := by have := rv.length; rw [r.len] at this; omega
      refine ⟨by rw [List.length_map]; exact hl, fun j h1 h2 => ?_⟩
      have h3 : j < ps.length := by simpa using h2
      have cw := CpL.at h3 h1 cl
      have k := (eq_cp 60 (A := X.A.in1) cw cq (by show X.A.units + 1 + 60 < _; omega) (.inr c.1)).1
      rw [List.getElem_map]
      have e2 : decide (pyEq ps[j] q = true) = pyEq ps[j] q := by cases pyEq ps[j] q <;> rfl
      rw [e2]; exact k
    have mem : true ∈ ps.map fun x => pyEq x q := by
      obtain ⟨x, hx, ex⟩ := List.any_eq_true.mp c.2
      exact List.mem_map.mpr ⟨x, hx, ex⟩
    exact call_list_index pl.isList e (by rw [List.length_map, ← line_eq]; exact z) mem ⟨.int _, H, I.tok _, ⟨_, rfl⟩, Post.now hs p rfl⟩
  | _ => exact p.elim
theorem r_ind (C : Cok I G F X sc) {a k : CE} {n : Str} {p apos cpos : Pos} {z : Expr} {ma mk : Md} (la : ma.le .t = true) (lk : mk.le .t = true) (ha : PE X (.Name n p) (Rd' F ma (ev G a))) (hk : PE X z (Rd' F mk (ev G k))) (hz : tame z = true) (hl : (apos.endLine == cpos.line) = true) :
    PE X (.Call (.Attribute (.Name n p) (Str.ofString "index") apos) [z] [] cpos) (Rd' F .e (ev G (.ind a k))) :=
  peImp (pe_bm PySem.F.plainAttrs_list PySem.F.slot_list_index PySem.F.type_list_index (mt_ind C.hK C.un) (peLe ha la) (pa_one hz (peLe hk lk)) rfl (by rw [starEach_tame hz]; rfl) hl (starEach_tame hz _ _) rfl) fun σ H Q ⟨Γ, R, rel, p⟩ => ⟨Γ, R, rel, (Post.bind (m := .t) rel.sub p).mono fun x H1 ⟨s, R1, _, g1, rx, p1⟩ => by
    have p1 : Post F .e R1 σ H1 ((row? s).bind fun ps => (ev G k Γ).bind fun y => indop ps y) Q := p1
    have rl : (∃ ps, s = .d (.lst ps)) ∨ row? s = .bad := by
      cases s with
      | d q => cases q <;> first | exact .inr rfl | exact .inl ⟨_, rfl⟩
      | _ => exact .inr rfl
    rcases rl with ⟨ps, rfl⟩ | e
    · obtain ⟨a, vs, e, hH, r, z⟩ := rx.lst g1.sub
      subst e
      have p1 : Post F .e R1 σ H1 ((ev G k Γ).bind fun y => indop ps y) Q := p1
      refine ⟨.inl ⟨rfl, vs, .of hH⟩, Γ, R1, rel.grow g1, (Post.bind (m := .t) g1.sub p1).mono fun y H2 ⟨t, R2, _, g2, ry, p2⟩ => ?_⟩
      exact ⟨a, vs, ps, y, t, R2, σ, rfl, rfl, g2.sub, g2.same _ _ hH, r.mono g2.reg, z, ry, p2⟩
    · rw [e] at p1; exact p1.elim⟩
/-! ### {k: e for t in it if ..} -/
def dcF (G : Ctx) (t : CT) (cs : List CE) (k e : CE) (Γ : Gm) : PV → Res (Option (Ky × PV)) := fun x => obind (bindT t x Γ) fun Γ' => (evC G cs Γ').bind fun c => if c then (ev G k Γ').bind fun y => (key? y).bind fun k => (ev G e Γ').bind fun z => (data? z).bind fun p => .ok (some (k, p)) else .ok none
theorem dcF_ok {G : Ctx} {t : CT} {cs : List CE} {k e : CE} {Γ : Gm} {x : PV} {y : Option (Ky × PV)} (h : dcF G t cs k e Γ x = .ok y) : ∃ Γ', bindT t x Γ = some Γ' ∧ ((evC G cs Γ' = .ok true ∧ ∃ s k' q, ev G k Γ' = .ok s ∧ key? s = .ok k' ∧ ev G e Γ' = .ok (.d q) ∧ y = some (k', q)) ∨ (evC G cs Γ' = .ok false ∧ y = none)) := by
  unfold dcF at h
  cases e1 : bindT t x Γ with
  | none => rw [e1] at h; cases h
  | some Γ' =>
    rw [e1] at h
    refine ⟨Γ', rfl, ?_⟩
    have h : ((evC G cs Γ').bind fun c => if c then (ev G k Γ').bind fun y => (key? y).bind fun k => (ev G e Γ').bind fun z => (data? z).bind fun p => .ok (some (k, p)) else .ok none) = .ok y := h
    cases e2 : evC G cs Γ' with
    | bad => rw [e2] at h; cases h
    | exc k => rw [e2] at h; cases h
    | ok c =>
      rw [e2] at h
      cases c with
      | false => cases h; exact .inr ⟨rfl, rfl⟩
      | true =>
        have h : ((ev G k Γ').bind fun y => (key? y).bind fun k => (ev G e Γ').bind fun z => (data? z).bind fun p => .ok (some (k, p))) = .ok y := h
        cases e3 : ev G k Γ' with
        | bad => rw [e3] at h; cases h
        | exc k => rw [e3] at h; cases h
        | ok s =>
          rw [e3, Res.bind_ok] at h
          cases e4 : key? s with
          | bad => rw [e4] at h; cases h
          | exc k => rw [e4] at h; cases h
          | ok k' =>
            rw [e4, Res.bind_ok] at h
            cases e5 : ev G e Γ' with
            | bad => rw [e5] at h; cases h
            | exc k => rw [e5] at h; cases h
            | ok z =>
              rw [e5, Res.bind_ok] at h
              cases z with
              | d q => cases h; exact .inl ⟨rfl, s, k', q, rfl, e4, rfl, rfl⟩
              | _ => cases h
theorem merP_app (acc a b : List (Ky × PV)) : merP acc (a ++ b) = merP (merP acc a) b := by unfold merP; rw [List.foldl_append]
theorem dc_turns {t : CT} {cs : List CE} {k e : CE} {own : List (Str × Nat)} {σ : L2.St} {Γ : Gm} {R1 H1 : Hp} {J : It} {xs : List PV} {ys : List (Ky × PV)} {D : Addr} {m : Md} {Q : VK} (hv : ∀ i ∈ own.map (·.2), i ∈ t.vars) (hw : ∀ i ∈ t.vars, i ∈ own.map (·.2))
    (rel1 : RelR F.K F.H0 F.R0 R1 Γ σ H1) (wl : Wlk F.K J xs (base m R1 H1) R1) (len : xs.length ≤ line) (hD : H1 D = none) (e2 : mapR (dcF G t cs k e Γ) xs = .ok ys)
    (fin : ∀ Hh Rh acc, Grow H1 R1 Hh Rh → Hh D = some (.dK acc) → Rh D = none → RpK F.K Rh (merP [] ys) acc → (merP [] ys).length ≤ line → Q (.ref D) Hh) :
    ∃ W : Nat → Nat → Hp → Prop, (∃ m, W 0 m (upd H1 D (.dK []))) ∧ ∀ i m H, W i m H →
      (J.stop i H ∧ Q (.ref D) H) ∨ (J.go i H ∧ ∃ Nx : Hp → Prop, (∀ H', Nx H' → ∃ m', m' < m ∧ W (i + 1) m' H') ∧ ∀ x H', J.yld i H x H' → RdG F.calm t x (wipe σ (own.map (·.2))) H' fun σ2 H2 => wipe σ2 (own.map (·.2)) = wipe σ (own.map (·.2)) ∧ RdB F.calm (evC G cs) σ2 H2 fun b H3 =>
        if b = true then Rd' F.calm .e (ev G k) σ2 H3 fun y H4 => Rd' F.calm .e (ev G e) σ2 H4 fun z H5 => ∃ kvs kk, y = kV kk ∧ H5 D = some (.dK kvs) ∧ kvs.length < sizeLine ∧ Nx (upd H5 D (.dK (putK kvs kk z))) else Nx H3) := by
  have g1s : Sub R1 H1 := rel1.sub
  have R1D : R1 D = none := g1s.none hD
  refine ⟨fun i mm Hh => mm = xs.length - i ∧ i ≤ xs.length ∧ ∃ Rh acc pre rest, Grow H1 R1 Hh Rh ∧ Rh D = none ∧ Hh D = some (.dK acc) ∧ RpK F.K Rh (merP [] pre) acc ∧ mapR (dcF G t cs k e Γ) (xs.drop i) = .ok rest ∧ pre ++ rest = ys ∧ (merP [] pre).length ≤ i,
    ⟨_, rfl, Nat.zero_le _, R1, [], [], ys, .hid g1s hD _, R1D, upd_same .., rfl, e2, rfl, Nat.le_refl _⟩, ?_⟩
  rintro i mm Hh ⟨hm, hi, Rh, acc, pre, rest, g, RhD, hHD, ra, em, ey, hl⟩
  have wk := wl Hh Rh ((base_sub g1s).trans g.same) g.reg g.sub i
  cases ex : xs[i]? with
  | none =>
    refine .inl ⟨wk.2 ex, ?_⟩
    have e3 : xs.drop i = [] := List.drop_eq_nil_of_le (List.getElem?_eq_none_iff.mp ex)
    rw [e3] at em
    cases em
    rw [List.append_nil] at ey
    subst ey
    exact fin Hh Rh acc g hHD RhD ra (Nat.le_trans hl (Nat.le_trans hi len))
  | some px =>
    have hlt : i < xs.length := (List.getElem?_eq_some_iff.mp ex).1
    obtain ⟨go, yl⟩ := wk.1 px ex
    have e3 : xs.drop i = px :: xs.drop (i + 1) := by
      rw [List.drop_eq_getElem_cons hlt]
      congr 1
      exact (List.getElem?_eq_some_iff.mp ex).2
    rw [e3] at em
    obtain ⟨y, zs, f1, f2, f3⟩ := mapR_cons em
    obtain ⟨Γ', b1, b2⟩ := dcF_ok f1
    refine .inr ⟨go, fun H' => xs.length - (i + 1) = xs.length - (i + 1) ∧ i + 1 ≤ xs.length ∧ ∃ Rh acc pre rest, Grow H1 R1 H' Rh ∧ Rh D = none ∧ H' D = some (.dK acc) ∧ RpK F.K Rh (merP [] pre) acc ∧ mapR (dcF G t cs k e Γ) (xs.drop (i + 1)) = .ok rest ∧ pre ++ rest = ys ∧ (merP [] pre).length ≤ i + 1, fun H' w => ⟨_, by omega, w⟩, ?_⟩
    intro x H' hy
    obtain ⟨R', g', rx⟩ := yl x H' hy
    have noD : ∀ {H2 R2 : Hp}, Grow Hh Rh H2 R2 → R2 D = none ∧ H2 D = some (.dK acc) := fun g2 => ⟨by rw [g2.old D (by rw [hHD]; simp)]; exact RhD, g2.same _ _ hHD⟩
    refine ⟨wipeG Γ (own.map Prod.snd), R', px, Γ', ((rel1.grow g).grow g').wipe (own.map Prod.snd), rx, bind_wipe hv b1, fun σ2 rel2 keep => ⟨?_, ?_⟩⟩
    · refine wipe_eq (by rw [← rel2.len, bind_len b1]; exact rel1.len) fun i hn => ?_
      rw [keep i fun q => hn (hw i q), wipe_get σ i hn]
    · refine ⟨Γ', R', rel2, ?_⟩
      rcases b2 with ⟨c1, s, k', q, c2, c3, c4, c5⟩ | ⟨c1, c3⟩
      · rw [c1]
        intro H3 R3 g3
        refine ⟨Γ', R3, rel2.grow g3, ?_⟩
        rw [c2]
        intro v H4 R4 g4 rv
        refine ⟨Γ', R4, (rel2.grow g3).grow g4, ?_⟩
        rw [c4]
        intro w H5 R5 g5 rw'
        have gg := ((g'.trans g3).trans g4).trans g5
        obtain ⟨n1, n2⟩ := noD gg
        have la : acc.length = (merP [] pre).length := ra.len
        rcases key_is (F := F.calm) (H := H4) (rv.le g4.sub (md_e .t)) with ⟨k2, e4, e5, _⟩ | e4
        · rw [c3] at e4
          cases e4
          refine ⟨acc, k', e5, n2, by rw [la, ← line_eq]; omega, rfl, hlt, R5, putK acc k' w, pre ++ [(k', q)], zs, (g.trans gg).at hD n1, n1, upd_same .., ?_, f2, ?_, ?_⟩
          · rw [merP_app]
            exact (ra.mono gg.reg).put k' rw'
          · rw [c5] at f3
            rw [← ey, f3, List.append_assoc]; rfl
          · rw [merP_app]
            have := putP_len (merP [] pre) k' q
            show (putP (merP [] pre) k' q).length ≤ _
            omega
        · rw [c3] at e4; cases e4
      · rw [c1]
        intro H3 R3 g3
        have gg := g'.trans g3
        obtain ⟨n1, n2⟩ := noD gg
        refine ⟨rfl, hlt, R3, acc, pre, zs, g.trans gg, n1, n2, ra.mono gg.reg, f2, ?_, Nat.le_succ_of_le hl⟩
        rw [c3] at f3
        rw [← ey, f3]
theorem rd_dc {t : CT} {it : CI} {cs : List CE} {k e : CE} {own : List (Str × Nat)} {m : Md} (hv : ∀ i ∈ own.map (·.2), i ∈ t.vars) (hw : ∀ i ∈ t.vars, i ∈ own.map (·.2)) {σ : L2.St} {H : Hp} {Q : VK} (h : Rd' F .e (ev G (.dc t it cs k e)) σ H Q) :
    tDc (RdI F m (evI G it)) (RdG F.calm t) (RdB F.calm (evC G cs)) (Rd' F.calm .e (ev G k)) (Rd' F.calm .e (ev G e)) (own.map (·.2)) σ H Q := by
  obtain ⟨Γ, R, rel, p⟩ := h
  refine ⟨Γ, R, rel, ?_⟩
  have p : Post F .e R σ H ((evI G it Γ).bind fun xs => (mapR (dcF G t cs k e Γ) xs).bind fun ys => .ok (.dK (merP [] ys))) Q := p
  cases e1 : evI G it Γ with
  | bad => rw [e1] at p; exact p.elim
  | exc c => rw [e1] at p; exact p
  | ok xs =>
    rw [e1] at p
    intro J H1 R1 g1 wl len D hD
    have p : Post F .e R1 σ H1 ((mapR (dcF G t cs k e Γ) xs).bind fun ys => .ok (.dK (merP [] ys))) Q := Post.grow (r := (mapR (dcF G t cs k e Γ) xs).bind fun ys => .ok (.dK (merP [] ys))) p g1
    cases e2 : mapR (dcF G t cs k e Γ) xs with
    | bad => rw [e2] at p; exact p.elim
    | exc c => exact absurd e2 mapR_exc
    | ok ys =>
      rw [e2] at p
      have p : Post F .e R1 σ H1 (.ok (.dK (merP [] ys))) Q := p
      exact dc_turns hv hw (rel.grow g1) wl len hD e2 fun Hh Rh acc g hHD RhD ra z => p _ _ _ (g.show' hD hHD RhD) ⟨D, acc, rfl, upd_same .., z, ra.mono (sub_upd RhD)⟩
theorem rn_dc {t : CT} {it : CI} {cs : List CE} {k e : CE} {own : List (Str × Nat)} {m : Md} (hv : ∀ i ∈ own.map (·.2), i ∈ t.vars) (hw : ∀ i ∈ t.vars, i ∈ own.map (·.2)) {σ : L2.St} {H : Hp} {Q : VK} (h : RdN F (ev G (.dc t it cs k e)) σ H Q) :
    tDc (RdI F m (evI G it)) (RdG F.calm t) (RdB F.calm (evC G cs)) (Rd' F.calm .e (ev G k)) (Rd' F.calm .e (ev G e)) (own.map (·.2)) σ H Q := by
  obtain ⟨Γ, R, rel, p⟩ := h
  refine ⟨Γ, R, rel, ?_⟩
  have p : PostN F R σ H ((evI G it Γ).bind fun xs => (mapR (dcF G t cs k e Γ) xs).bind fun ys => .ok (.dK (merP [] ys))) Q := p
  cases e1 : evI G it Γ with
  | bad => rw [e1] at p; exact p.elim
  | exc c => rw [e1] at p; exact p
  | ok xs =>
    rw [e1] at p
    intro J H1 R1 g1 wl len D hD
    have p : PostN F R σ H ((mapR (dcF G t cs k e Γ) xs).bind fun ys => .ok (.dK (merP [] ys))) Q := p
    cases e2 : mapR (dcF G t cs k e Γ) xs with
    | bad => rw [e2] at p; exact p.elim
    | exc c => exact absurd e2 mapR_exc
    | ok ys =>
      rw [e2] at p
      refine dc_turns hv hw (rel.grow g1) wl len hD e2 fun Hh Rh acc g hHD RhD ra z => p D Hh Rh acc (g1.trans g) ?_ hHD RhD ra z
      cases q : H D with
      | none => rfl
      | some o => rw [g1.same _ _ q] at hD; cases hD
theorem x_dc {rt : TE} (C : Cok I G F X sc) {t : CT} {it : CI} {cs : List CE} {k e : CE} {tg iter kx vx : Expr} {ifs : List Expr} {scope : Scope} {own : List (Str × Nat)} {m : Md}
        (hi : PI X tg iter (RdI F m (evI G it))) (ok : BlkOk X.N X.env.scope scope own)
    (hg : ∀ (s : Shared) (H : Hp) (Cc : Addr) (cl : List (Str × Addr)) (fp : List Addr), PG (X.blk s H scope (compEnvC scope cl Cc X.env) fp) tg (RdG F.calm t))
    (ht : ∀ (s : Shared) (H : Hp) (Cc : Addr) (cl : List (Str × Addr)) (fp : List Addr), PTs (X.blk s H scope (compEnvC scope cl Cc X.env) fp) ifs (RdB F.calm (evC G cs)))
    (hk : ∀ (s : Shared) (H : Hp) (Cc : Addr) (cl : List (Str × Addr)) (fp : List Addr), PE (X.blk s H scope (compEnvC scope cl Cc X.env) fp) kx (Rd' F.calm .e (ev G k)))
    (he : ∀ (s : Shared) (H : Hp) (Cc : Addr) (cl : List (Str × Addr)) (fp : List Addr), PE (X.blk s H scope (compEnvC scope cl Cc X.env) fp) vx (Rd' F.calm .e (ev G e)))
    (hs : ∀ x, foldedSetIterable iter X.env x = pure x)
    (h : ∀ σ H Q, rt σ H Q → tDc (RdI F m (evI G it)) (RdG F.calm t) (RdB F.calm (evC G cs)) (Rd' F.calm .e (ev G k)) (Rd' F.calm .e (ev G e)) (own.map (·.2)) σ H Q) : PE X (.DictComp kx vx [⟨tg, iter, ifs, 0⟩] scope pos) rt :=
  peImp (pe_dc C.calm (by rw [C.hN]; exact C.nd) hi ok hg ht hk he hs) h
end
end Bw
end

section
set_option autoImplicit false
set_option linter.all false
/-! Bw U5: dicts with other keys, made: empty, by a comprehension. -/
namespace Bw
open PySem L2
def tNewX : TE := fun _ H Q => ∀ p, H p = none → Q (.ref p) (upd H p (DX p []))
theorem pe_dnx {X : Cx} {pos : Pos} : PE X (.Dict [] [] pos) tNewX := ⟨fun pins s σ H Q I h =>
  wpAny_Dict_empty ⟨.ref s.heap.objs.size, _, I.laid (a := s.heap.objs.size) (o := DX s.heap.objs.size []) (t' := s.toks) (fun _ _ q => Heap.get?_push_of_some _ q) (Nat.le_refl _) (dx_new (dx_empty (P := X.prog) (w := X.w) (H' := H) s.heap I.big)), rfl, h _ (I.hok.fresh (Nat.le_refl _))⟩⟩
/-- {k: v for tg in iter if ..}: D the new dict -/
def tDcX (K : Fr') (wi : TI) (g : TG) (tt : TT) (tk tv : TE) (vs : List Nat) : TE := fun σ H Q => wi σ H fun J H1 => ∀ D, H1 D = none → ∃ W : Nat → Nat → Hp → Prop, (∃ m, W 0 m (upd H1 D (DX D []))) ∧ ∀ i m H, W i m H →
  (J.stop i H ∧ Q (.ref D) H) ∨ (J.go i H ∧ ∃ N : Hp → Prop, (∀ H', N H' → ∃ m', m' < m ∧ W (i + 1) m' H') ∧ ∀ x H', J.yld i H x H' → g x (wipe σ vs) H' fun σ2 H2 => wipe σ2 vs = wipe σ vs ∧ tt σ2 H2 fun b H3 =>
    if b = true then tk σ2 H3 fun y H4 => tv σ2 H4 fun z H5 => ∃ es kvs R p, Sub R H5 ∧ H5 D = some (DX D es) ∧ RpX K R kvs es ∧ kyP 8 p = true ∧ kinX kvs p = true ∧ RpD K R p y ∧ kvs.length < line ∧ N (upd H5 D (DX D (putE es (nkP p) (adr y) z))) else N H3)
section
variable {X : Cx}
theorem dcx_run {pins : List (Addr × Obj)} {s : Shared} {σ : St} {H : Hp} {Q : VK} {kx vx tg iter : Expr} {ifs : List Expr} {scope : Scope} {own : List (Str × Nat)} {pos pos' : Pos} {wi : TI} {g : TG} {tt : TT} {tk tv : TE} {use : Option (Value → Sem Unit)} {Fin : Value → Shared → Prop}
    (calm : X.calm = true) (nd : X.N.Nodup) (hu : X.A.units + 100 < cLine) (I0 : Inv X pins σ H s) (src : PI X tg iter wi) (ok : BlkOk X.N X.env.scope scope own)
    (hg : ∀ (s : Shared) (H : Hp) (C : Addr) (cl : List (Str × Addr)) (fp : List Addr), PG (X.blk s H scope (compEnvC scope cl C X.env) fp) tg g)
    (ht : ∀ (s : Shared) (H : Hp) (C : Addr) (cl : List (Str × Addr)) (fp : List Addr), PTs (X.blk s H scope (compEnvC scope cl C X.env) fp) ifs tt)
    (hk : ∀ (s : Shared) (H : Hp) (C : Addr) (cl : List (Str × Addr)) (fp : List Addr), PE (X.blk s H scope (compEnvC scope cl C X.env) fp) kx tk)
    (hv : ∀ (s : Shared) (H : Hp) (C : Addr) (cl : List (Str × Addr)) (fp : List Addr), PE (X.blk s H scope (compEnvC scope cl C X.env) fp) vx tv)
    (nofold : ∀ x, foldedSetIterable iter X.env x = pure x) (h : tDcX X.K wi g tt tk tv (own.map (·.2)) σ H Q)
    (out : ∀ D C z m H', Inv X pins σ H' z → Q (.ref D) H' → z.heap.Ns C m → FpOk X pins H' C → compPost (model X.prog X.w) X.A X.xe use Fin (.ref D) C (.ok .next) z) :
    wpAny (model X.prog X.w) X.A (comprehension (.DictComp kx vx [⟨tg, iter, ifs, 0⟩] scope pos) scope X.env pos' newDict false (eval iter X.env) use) Fin X.xe s := by
  have cells : ∀ y ∈ scope.names, y.2 = .free → ∃ c, X.env.cells.lookup y.1 = some c := fun y hy e => (ok.free y hy e).elim (fun k => I0.ok.has _ (.inl k)) fun k => I0.ok.has _ (.inr k)
  refine wpAny_comprehension_free (use := use) rfl nofold (closure_ok cells) ok.kind (fun y hy e => by rw [ok.uniq y hy, e]) (thn (src.run pins s σ H _ I0 h) fun _ sA hA => thn hA fun _ sB ⟨it, fp, tn, J, HB, eIt, IB, turn, stB, fpB, body⟩ => ?_)
  subst eIt
  refine wpAny_newObj_type (newEnv_comp ?_)
  obtain ⟨D, eD⟩ : ∃ D, sB.heap.objs.size = D := ⟨_, rfl⟩
  obtain ⟨W, ⟨m0, w0⟩, step⟩ := body D (IB.hok.fresh (Nat.le_of_eq eD))
  obtain ⟨sC, eC⟩ : ∃ z : Shared, { sB with heap := sB.heap.push { cls := .type "dict", data := .dict #[] } } = z := ⟨_, rfl⟩
  have hC : sC.heap = sB.heap.push { cls := .type "dict", data := .dict #[] } := by rw [← eC]
  have IC : Inv X pins σ (upd HB D (DX D [])) sC := by
    rw [← eC]
    refine IB.laid (t' := sB.toks) (fun b o e => Heap.get?_push_of_some _ e) (Nat.le_of_eq eD) ?_
    rw [← eD]
    exact dx_new (dx_empty (P := X.prog) (w := X.w) (H' := HB) sB.heap IB.big)
  have fpC : ∀ b ∈ fp, FpOk X pins (upd HB D (DX D [])) b ∧ b < sC.heap.objs.size := fun b hb => by
    obtain ⟨o, e, _⟩ := turn.obj _ _ stB b hb
    have lt : b < sB.heap.objs.size := Heap.lt_size e
    obtain ⟨f1, f2⟩ := fpB b hb
    exact ⟨⟨(upd_ne (by rw [← eD]; exact Nat.ne_of_lt lt)).trans f1, f2⟩, by rw [hC, Heap.size_push]; exact Nat.lt_succ_of_lt lt⟩
  have stC : tn 0 sC.heap := turn.keep _ _ _ stB fun b _ o e => by rw [hC]; exact Heap.get?_push_of_some _ e
  have ID := block_start IC ok nd fpC
  rw [eD, eC]
  obtain ⟨C, eN⟩ : ∃ C, sC.heap.objs.size = C := ⟨_, rfl⟩
  obtain ⟨cl, ecl⟩ : ∃ cl, cellsFrom (C + 1) scope.names (cloFrom X.env.cells scope.names []) = cl := ⟨_, rfl⟩
  obtain ⟨HC, eHC⟩ : ∃ Z, upd HB D (DX D []) = Z := ⟨_, rfl⟩
  obtain ⟨sD, eS⟩ : ∃ z : Shared, { sC with heap := pushCells (sC.heap.push { cls := .type "dict", data := .dict #[] }) scope.names } = z := ⟨_, rfl⟩
  rw [eN] at ID
  rw [ecl] at ID
  rw [eHC] at ID w0 fpC
  rw [eS] at ID
  show codeAny _ _ (.compStart (.DictComp kx vx [⟨tg, iter, ifs, 0⟩] scope pos) 0 (.ref it) (.ref D) (compEnvC scope (cellsFrom (sC.heap.objs.size + 1) scope.names (cloFrom X.env.cells scope.names [])) sC.heap.objs.size X.env)) (compPost (model X.prog X.w) X.A X.xe use Fin (.ref D) sC.heap.objs.size) { sC with heap := pushCells (sC.heap.push { cls := .type "dict", data := .dict #[] }) scope.names }
  rw [eN, ecl, eS]
  have stD : tn 0 sD.heap := turn.keep _ _ _ stC fun b _ o e => by rw [← eS]; exact pushCells_keeps _ _ _ _ (Heap.get?_push_of_some _ e)
  obtain ⟨ce, ece⟩ : ∃ ce, compEnvC scope cl C X.env = ce := ⟨_, rfl⟩
  have pg := hg sC HC C cl fp
  have pt := ht sC HC C cl fp
  have pk := hk sC HC C cl fp
  have pv := hv sC HC C cl fp
  rw [ece] at ID pg pt pk pv ⊢
  have loc : ce.locals = C := by rw [← ece]; rfl
  have held : ∀ {τ : St} {Z : Hp} {z : Shared}, Inv (X.blk sC HC scope ce fp) [] τ Z z → (∀ b ∈ fp, Z b = none) → ∀ b ∈ fp, FpOk (X.blk sC HC scope ce fp) [] Z b := fun J' free b hb =>
    ⟨free b hb, (J'.ok.exf b hb).1, J'.ok.exfs b hb, .inl hb, fun x c e => (J'.ok.exf b hb).2 x c e, fun p hp => absurd (show p ∈ ([] : List (Addr × Obj)) ++ [] from hp) (by simp)⟩
  have loop : codeAny (model X.prog X.w) X.A (.compLoop (.DictComp kx vx [⟨tg, iter, ifs, 0⟩] scope pos) 0 (.ref it) (.ref D) ce) (compPost (model X.prog X.w) X.A X.xe use Fin (.ref D) C) sD := by
    refine compLoop_anyD (fun n z => ∃ i Z, Inv (X.blk sC HC scope ce fp) [] (wipe σ (own.map (·.2))) Z z ∧ tn i z.heap ∧ (∀ b ∈ fp, Z b = none) ∧ W i n Z) ?_ m0 ⟨0, HC, ID, stD, fun b hb => (fpC b hb).1.1, w0⟩
    rintro n z1 ⟨i, Z1, J1, st1, free1, w1⟩
    rcases step i n Z1 w1 with ⟨stop, last⟩ | ⟨go, N, less, next⟩
    · refine thnF (turn.done (X.blk sC HC scope ce fp) rfl rfl rfl calm i [] z1 _ Z1 (fun _ _ => False) J1 (held J1 free1) st1 stop) fun r z2 ⟨er, J2⟩ => ?_
      subst er
      have back : Inv X pins σ Z1 z2 := IC.call' (ch := fp) J2.os (by have := J2.base; rw [← eHC] at this; exact this) J2.hok J2.bare fun b hb => by
        have q := (fpC b hb).1.2
        exact ⟨q.2.2.1, q.1, q.2.2.2.1, q.2.2.2.2⟩
      have noC : Z1 C = none := by rw [← loc]; exact J2.free
      obtain ⟨m, ns, _⟩ := J2.loc
      have ns : z2.heap.Ns ce.locals m := ns
      rw [loc] at ns
      exact out D C z2 m Z1 back last ns (IC.fpOk (Nat.le_of_eq eN) noC)
    · refine thnF (turn.item (X.blk sC HC scope ce fp) rfl rfl rfl calm i [] z1 _ Z1 (fun _ _ => False) J1 (held J1 free1) st1 go) fun r z2 ⟨u, er, rest⟩ => ?_
      subst er
      refine thnF rest fun _ z3 ⟨x, Z3, J3, rx, yl, st3, free3⟩ => ?_
      refine thnF (pg.run _ z3 _ Z3 x u _ (J3.pinned (held J3 free3) (turn.obj _ _ st3)) rx (next x Z3 yl)) fun _ z4 ⟨σ4, Z4, J4, same4, q4⟩ => ?_
      refine thnF (pt.run _ z4 σ4 Z4 _ J4 q4) fun b z5 ⟨Z5, J5, q5⟩ => ?_
      have goOn : ∀ {z : Shared} {Z : Hp}, Inv (X.blk sC HC scope ce fp) ([] ++ pinsAt fp z3.heap) σ4 Z z → N Z → ∃ m, m < n ∧ ∃ i Z, Inv (X.blk sC HC scope ce fp) [] (wipe σ (own.map (·.2))) Z z ∧ tn i z.heap ∧ (∀ b ∈ fp, Z b = none) ∧ W i m Z := fun {z Z} J' nz => by
        obtain ⟨m', lt, w'⟩ := less Z nz
        have still : ∀ b ∈ fp, ∀ o, z3.heap.get? b = some o → z.heap.get? b = some o ∧ Z b = none := fun b hb o e => by
          have q := J'.pin (b, o) (List.mem_append_right _ (List.mem_append_right _ (mem_pinsAt hb e)))
          exact ⟨q.1, q.2.1⟩
        refine ⟨m', lt, i + 1, Z, (J'.unpinned (pins := [])).weak (by rw [← same4, wipe_length]) (fun j v e => by rw [← same4] at e; exact (wipe_some e).1), turn.keep _ _ _ st3 fun b hb o e => (still b hb o e).1, fun b hb => ?_, w'⟩
        obtain ⟨o, e, _⟩ := turn.obj _ _ st3 b hb
        exact (still b hb o e).2
      cases b with
      | false => exact goOn J5 q5
      | true =>
        refine thnF (pk.run _ z5 σ4 Z5 _ J5 q5) fun kv z6 ⟨y, Z6, J6, ry, q6⟩ => ?_
        refine thnF (pv.run _ z6 σ4 Z6 _ J6 q6) fun vv z7 ⟨v, Z7, J7, rv, es, kvs, R, p, sb, hD, rx', kp, kk, rp, lt, nz⟩ => ?_
        exact dx_dictSet (X := X.blk sC HC scope ce fp) hu J7 sb hD rx' kp kk ry rp rv lt fun z8 J8 => goOn J8 nz
  exact codeAny_compStart_dict loop (turn.self X.A 0 _ _ _ stD loop)
theorem pe_dcx {kx vx tg iter : Expr} {ifs : List Expr} {scope : Scope} {own : List (Str × Nat)} {pos : Pos} {wi : TI} {g : TG} {tt : TT} {tk tv : TE} (calm : X.calm = true) (nd : X.N.Nodup) (hu : X.A.units + 100 < cLine) (src : PI X tg iter wi) (ok : BlkOk X.N X.env.scope scope own)
    (hg : ∀ (s : Shared) (H : Hp) (C : Addr) (cl : List (Str × Addr)) (fp : List Addr), PG (X.blk s H scope (compEnvC scope cl C X.env) fp) tg g)
    (ht : ∀ (s : Shared) (H : Hp) (C : Addr) (cl : List (Str × Addr)) (fp : List Addr), PTs (X.blk s H scope (compEnvC scope cl C X.env) fp) ifs tt)
    (hk : ∀ (s : Shared) (H : Hp) (C : Addr) (cl : List (Str × Addr)) (fp : List Addr), PE (X.blk s H scope (compEnvC scope cl C X.env) fp) kx tk)
    (hv : ∀ (s : Shared) (H : Hp) (C : Addr) (cl : List (Str × Addr)) (fp : List Addr), PE (X.blk s H scope (compEnvC scope cl C X.env) fp) vx tv)
    (nofold : ∀ x, foldedSetIterable iter X.env x = pure x) : PE X (.DictComp kx vx [⟨tg, iter, ifs, 0⟩] scope pos) (tDcX X.K wi g tt tk tv (own.map (·.2))) := by
  refine ⟨fun pins s σ H Q I h => ?_⟩
  rw [arm_eval_DictComp]
  refine dcx_run calm nd hu I src ok hg ht hk hv nofold h fun D C z m H' I' q ns ⟨f0, f1, f2, f3, f4, f5⟩ => ⟨m, ns, fun h2 sb => ?_⟩
  exact ⟨.ref D, H', I'.turned (t' := z.toks) (fun b o hb e => (sb.2 b hb).trans e) f0 f1 f3 f4 f5, rfl, q⟩
end
end Bw
end

section
set_option autoImplicit false
set_option linter.all false
/-! Bw U6: dicts with other keys, read by trees. -/
namespace Bw
open PySem L2
/-! ### of one kind -/
def AllT (t : Bool) (kvs : List (PV × PV)) : Prop := ∀ kv ∈ kvs, isTup kv.1 = t
theorem allT_of : ∀ {kvs : List (PV × PV)}, allX kvs = true → ∃ t, AllT t kvs
  | [], _ => ⟨true, fun kv h => by cases h⟩
  | kv :: kvs, h => by
    have h : (kinX kvs kv.1 && allX kvs) = true := h
    rw [Bool.and_eq_true] at h
    refine ⟨isTup kv.1, fun x hx => ?_⟩
    rcases List.mem_cons.mp hx with rfl | hx
    · rfl
    · exact eq_of_beq (List.all_eq_true.mp h.1 x hx)
theorem AllT.kin {t : Bool} {kvs : List (PV × PV)} {p : PV} (h : AllT t kvs) (hp : isTup p = t) : kinX kvs p = true :=
  List.all_eq_true.mpr fun kv hk => by rw [h kv hk, hp]; simp
theorem AllT.all {t : Bool} : ∀ {kvs : List (PV × PV)}, AllT t kvs → allX kvs = true
  | [], _ => rfl
  | kv :: kvs, h => by
    have h2 : AllT t kvs := fun x hx => h x (List.mem_cons_of_mem _ hx)
    show (kinX kvs kv.1 && allX kvs) = true
    rw [h2.all, h2.kin (h kv List.mem_cons_self)]; rfl
theorem AllT.put {t : Bool} {kvs : List (PV × PV)} {p q : PV} (h : AllT t kvs) (hp : isTup p = t) : AllT t (putX kvs p q) := fun kv hk => by
  unfold putX at hk
  split at hk
  · obtain ⟨x, hx, e⟩ := List.mem_map.mp hk
    split at e <;> (subst e; exact h x hx)
  · rcases List.mem_append.mp hk with hk | hk
    · exact h kv hk
    · rw [List.mem_singleton] at hk; rw [hk]; exact hp
theorem AllT.mer {t : Bool} : ∀ {more kvs : List (PV × PV)}, AllT t kvs → AllT t more → AllT t (merX kvs more)
  | [], _, h, _ => h
  | kv :: more, kvs, h, g => by
    show AllT t (merX (putX kvs kv.1 kv.2) more)
    exact (h.put (g kv List.mem_cons_self)).mer fun x hx => g x (List.mem_cons_of_mem _ hx)
theorem merX_app (acc a b : List (PV × PV)) : merX acc (a ++ b) = merX (merX acc a) b := by unfold merX; rw [List.foldl_append]
section
variable {I : Inf} {G : Ctx} {F : Fr} {X : Cx} {sc : Scope} {pos : Pos}
theorem r_dnx : PE X (.Dict [] [] pos) (Rd' F .e (ev G .dnx)) :=
  peImp pe_dnx fun σ H Q ⟨Γ, R, rel, p⟩ q hq => p _ _ _ (.new rel.sub hq _) ⟨q, [], rfl, .inl (upd_same ..), Nat.zero_le _, rfl, rfl⟩
theorem n_dnx : PE X (.Dict [] [] pos) (RdN F (ev G .dnx)) :=
  peImp pe_dnx fun σ H Q ⟨Γ, R, rel, p⟩ q hq => p q _ R [] (.hid rel.sub hq _) hq (upd_same ..) (rel.sub.none hq) rfl (Nat.zero_le _) rfl
/-! ### comprehensions -/
def dcxF (G : Ctx) (t : CT) (cs : List CE) (k e : CE) (Γ : Gm) : PV → Res (Option (PV × PV)) := fun x => obind (bindT t x Γ) fun Γ' => (evC G cs Γ').bind fun c => if c then (ev G k Γ').bind fun y => (keyV y).bind fun k => (ev G e Γ').bind fun z => (data? z).bind fun p => .ok (some (k, p)) else .ok none
theorem keyV_ok {s : SV} {k : PV} (h : keyV s = .ok k) : s = .d k ∧ kyP 8 k = true := by
  cases s with
  | d p =>
    have h : (if kyP 8 p = true then Res.ok p else .bad) = .ok k := h
    split at h
    · cases h; exact ⟨rfl, by assumption⟩
    · cases h
  | _ => cases h
theorem keyV_exc {s : SV} {c : Nat} (h : keyV s = .exc c) : False := by
  cases s with
  | d p =>
    have h : (if kyP 8 p = true then Res.ok p else .bad) = .exc c := h
    by_cases q : kyP 8 p = true
    · rw [if_pos q] at h; cases h
    · rw [if_neg q] at h; cases h
  | _ => cases h
theorem dcxF_ok {G : Ctx} {t : CT} {cs : List CE} {k e : CE} {Γ : Gm} {x : PV} {y : Option (PV × PV)} (h : dcxF G t cs k e Γ x = .ok y) : ∃ Γ', bindT t x Γ = some Γ' ∧ ((evC G cs Γ' = .ok true ∧ ∃ k' q, ev G k Γ' = .ok (.d k') ∧ kyP 8 k' = true ∧ ev G e Γ' = .ok (.d q) ∧ y = some (k', q)) ∨ (evC G cs Γ' = .ok false ∧ y = none)) := by
  unfold dcxF at h
  cases e1 : bindT t x Γ with
  | none => rw [e1] at h; cases h
  | some Γ' =>
    rw [e1, obind_some] at h
    refine ⟨Γ', rfl, ?_⟩
    cases e2 : evC G cs Γ' with
    | bad => rw [e2] at h; cases h
    | exc k => rw [e2] at h; cases h
    | ok c =>
      rw [e2, Res.bind_ok] at h
      cases c with
      | false => cases h; exact .inr ⟨rfl, rfl⟩
      | true =>
        rw [if_pos rfl] at h
        cases e3 : ev G k Γ' with
        | bad => rw [e3] at h; cases h
        | exc k => rw [e3] at h; cases h
        | ok s =>
          rw [e3, Res.bind_ok] at h
          cases e4 : keyV s with
          | bad => rw [e4] at h; cases h
          | exc k => rw [e4] at h; cases h
          | ok k' =>
            rw [e4, Res.bind_ok] at h
            obtain ⟨rfl, e5⟩ := keyV_ok e4
            cases e6 : ev G e Γ' with
            | bad => rw [e6] at h; cases h
            | exc k => rw [e6] at h; cases h
            | ok z =>
              rw [e6, Res.bind_ok] at h
              cases z with
              | d q => cases h; exact .inl ⟨rfl, k', q, rfl, e5, rfl, rfl⟩
              | _ => cases h
theorem dcx_turns {t : CT} {cs : List CE} {k e : CE} {own : List (Str × Nat)} {σ : L2.St} {Γ : Gm} {R1 H1 : Hp} {J : It} {xs : List PV} {ys : List (PV × PV)} {tt : Bool} {D : Addr} {m : Md} {Q : VK} (hv : ∀ i ∈ own.map (·.2), i ∈ t.vars) (hw : ∀ i ∈ t.vars, i ∈ own.map (·.2))
    (rel1 : RelR F.K F.H0 F.R0 R1 Γ σ H1) (wl : Wlk F.K J xs (base m R1 H1) R1) (len : xs.length ≤ line) (hD : H1 D = none) (e2 : mapR (dcxF G t cs k e Γ) xs = .ok ys) (al : AllT tt ys)
    (fin : ∀ Hh Rh acc, Grow H1 R1 Hh Rh → Hh D = some (DX D acc) → Rh D = none → RpX F.K Rh (merX [] ys) acc → (merX [] ys).length ≤ line → Q (.ref D) Hh) :
    ∃ W : Nat → Nat → Hp → Prop, (∃ m, W 0 m (upd H1 D (DX D []))) ∧ ∀ i m H, W i m H →
      (J.stop i H ∧ Q (.ref D) H) ∨ (J.go i H ∧ ∃ N : Hp → Prop, (∀ H', N H' → ∃ m', m' < m ∧ W (i + 1) m' H') ∧ ∀ x H', J.yld i H x H' → RdG F.calm t x (wipe σ (own.map (·.2))) H' fun σ2 H2 => wipe σ2 (own.map (·.2)) = wipe σ (own.map (·.2)) ∧ RdB F.calm (evC G cs) σ2 H2 fun b H3 =>
        if b = true then Rd' F.calm .e (ev G k) σ2 H3 fun y H4 => Rd' F.calm .e (ev G e) σ2 H4 fun z H5 => ∃ es kvs R p, Sub R H5 ∧ H5 D = some (DX D es) ∧ RpX F.K R kvs es ∧ kyP 8 p = true ∧ kinX kvs p = true ∧ RpD F.K R p y ∧ kvs.length < line ∧ N (upd H5 D (DX D (putE es (nkP p) (adr y) z))) else N H3) := by
  have g1s : Sub R1 H1 := rel1.sub
  have R1D : R1 D = none := g1s.none hD
  let P : Nat → Hp → Prop := fun i Hh => i ≤ xs.length ∧ ∃ Rh acc pre rest, Grow H1 R1 Hh Rh ∧ Rh D = none ∧ Hh D = some (DX D acc) ∧ RpX F.K Rh (merX [] pre) acc ∧ mapR (dcxF G t cs k e Γ) (xs.drop i) = .ok rest ∧ pre ++ rest = ys ∧ (merX [] pre).length ≤ i
  refine ⟨fun i mm Hh => mm = xs.length - i ∧ P i Hh, ⟨_, rfl, Nat.zero_le _, R1, [], [], ys, .hid g1s hD _, R1D, upd_same .., rfl, e2, rfl, Nat.le_refl _⟩, ?_⟩
  rintro i mm Hh ⟨hm, hi, Rh, acc, pre, rest, g, RhD, hHD, ra, em, ey, hl⟩
  have wk := wl Hh Rh ((base_sub g1s).trans g.same) g.reg g.sub i
  cases ex : xs[i]? with
  | none =>
    refine .inl ⟨wk.2 ex, ?_⟩
    rw [List.drop_eq_nil_of_le (List.getElem?_eq_none_iff.mp ex)] at em
    cases em
    rw [List.append_nil] at ey
    subst ey
    exact fin Hh Rh acc g hHD RhD ra (Nat.le_trans hl (Nat.le_trans hi len))
  | some px =>
    have hlt : i < xs.length := (List.getElem?_eq_some_iff.mp ex).1
    obtain ⟨go, yl⟩ := wk.1 px ex
    have e3 : xs.drop i = px :: xs.drop (i + 1) := by
      rw [List.drop_eq_getElem_cons hlt]
      congr 1
      exact (List.getElem?_eq_some_iff.mp ex).2
    rw [e3] at em
    obtain ⟨y, zs, f1, f2, f3⟩ := mapR_cons em
    obtain ⟨Γ', b1, b2⟩ := dcxF_ok f1
    refine .inr ⟨go, fun H' => P (i + 1) H', fun H' w => ⟨xs.length - (i + 1), by omega, rfl, w⟩, fun x H' hy => ?_⟩
    obtain ⟨R', g', rx⟩ := yl x H' hy
    have noD : ∀ {H2 R2 : Hp}, Grow Hh Rh H2 R2 → R2 D = none ∧ H2 D = some (DX D acc) := fun g2 => ⟨by rw [g2.old D (by rw [hHD]; simp)]; exact RhD, g2.same _ _ hHD⟩
    refine ⟨wipeG Γ (own.map Prod.snd), R', px, Γ', ((rel1.grow g).grow g').wipe (own.map Prod.snd), rx, bind_wipe hv b1, fun σ2 rel2 keep => ⟨?_, ?_⟩⟩
    · refine wipe_eq (by rw [← rel2.len, bind_len b1]; exact rel1.len) fun i hn => ?_
      rw [keep i fun q => hn (hw i q), wipe_get σ i hn]
    · refine ⟨Γ', R', rel2, ?_⟩
      rcases b2 with ⟨c1, k', q, c2, c3, c4, c5⟩ | ⟨c1, c3⟩
      · rw [c5] at f3
        have ey' : (pre ++ [(k', q)]) ++ zs = ys := by rw [← ey, f3, List.append_assoc]; rfl
        have at1 : AllT tt (merX [] pre) := AllT.mer (fun kv h => by cases h) fun kv h => al kv (by rw [← ey']; simp [h])
        have at2 : isTup k' = tt := al (k', q) (by rw [← ey']; simp)
        rw [c1]
        intro H3 R3 g3
        refine ⟨Γ', R3, rel2.grow g3, ?_⟩
        rw [c2]
        intro v H4 R4 g4 rv
        refine ⟨Γ', R4, (rel2.grow g3).grow g4, ?_⟩
        rw [c4]
        intro w H5 R5 g5 rw'
        have gg := ((g'.trans g3).trans g4).trans g5
        obtain ⟨n1, n2⟩ := noD gg
        have rk : RpD F.K R5 k' v := RpD.mono g5.reg rv
        refine ⟨acc, merX [] pre, R5, k', gg.sub, n2, ra.mono gg.reg, c3, at1.kin at2, rk, by omega, hlt, R5, _, pre ++ [(k', q)], zs, (g.trans gg).at hD n1, n1, upd_same .., ?_, f2, ey', ?_⟩
        · rw [merX_app]
          exact rx_put (ra.mono gg.reg) (rpq_of rk c3) rw'
        · rw [merX_app]
          have := putX_len (merX [] pre) k' q
          show (putX (merX [] pre) k' q).length ≤ _
          omega
      · rw [c1]
        intro H3 R3 g3
        have gg := g'.trans g3
        obtain ⟨n1, n2⟩ := noD gg
        rw [c3] at f3
        exact ⟨hlt, R3, acc, pre, zs, g.trans gg, n1, n2, ra.mono gg.reg, f2, by rw [← ey, f3], Nat.le_succ_of_le hl⟩
theorem rd_dcx {t : CT} {it : CI} {cs : List CE} {k e : CE} {own : List (Str × Nat)} {m : Md} (hv : ∀ i ∈ own.map (·.2), i ∈ t.vars) (hw : ∀ i ∈ t.vars, i ∈ own.map (·.2)) {σ : L2.St} {H : Hp} {Q : VK} (h : Rd' F .e (ev G (.dcx t it cs k e)) σ H Q) :
    tDcX F.K (RdI F m (evI G it)) (RdG F.calm t) (RdB F.calm (evC G cs)) (Rd' F.calm .e (ev G k)) (Rd' F.calm .e (ev G e)) (own.map (·.2)) σ H Q := by
  obtain ⟨Γ, R, rel, p⟩ := h
  refine ⟨Γ, R, rel, ?_⟩
  have p : Post F .e R σ H ((evI G it Γ).bind fun xs => (mapR (dcxF G t cs k e Γ) xs).bind fun ys => if allX ys then .ok (.dX false (merX [] ys)) else .bad) Q := p
  cases e1 : evI G it Γ with
  | bad => rw [e1] at p; exact p.elim
  | exc c => rw [e1] at p; exact p
  | ok xs =>
    rw [e1] at p
    intro J H1 R1 g1 wl len D hD
    have p : Post F .e R1 σ H1 ((mapR (dcxF G t cs k e Γ) xs).bind fun ys => if allX ys then .ok (.dX false (merX [] ys)) else .bad) Q := Post.grow (r := (mapR (dcxF G t cs k e Γ) xs).bind fun ys => if allX ys then .ok (.dX false (merX [] ys)) else .bad) p g1
    cases e2 : mapR (dcxF G t cs k e Γ) xs with
    | bad => rw [e2] at p; exact p.elim
    | exc c => exact absurd e2 mapR_exc
    | ok ys =>
      rw [e2, Res.bind_ok] at p
      obtain ⟨al, p⟩ := post_if (c := allX ys) (r := .dX false (merX [] ys)) p
      obtain ⟨tt, al⟩ := allT_of al
      exact dcx_turns hv hw (rel.grow g1) wl len hD e2 al fun Hh Rh acc g hHD RhD ra z => p _ _ _ (g.show' hD hHD RhD) ⟨D, acc, rfl, .inl (upd_same ..), z, (AllT.mer (fun kv h => by cases h) al).all, ra.mono (sub_upd RhD)⟩
theorem rn_dcx {t : CT} {it : CI} {cs : List CE} {k e : CE} {own : List (Str × Nat)} {m : Md} (hv : ∀ i ∈ own.map (·.2), i ∈ t.vars) (hw : ∀ i ∈ t.vars, i ∈ own.map (·.2)) {σ : L2.St} {H : Hp} {Q : VK} (h : RdN F (ev G (.dcx t it cs k e)) σ H Q) :
    tDcX F.K (RdI F m (evI G it)) (RdG F.calm t) (RdB F.calm (evC G cs)) (Rd' F.calm .e (ev G k)) (Rd' F.calm .e (ev G e)) (own.map (·.2)) σ H Q := by
  obtain ⟨Γ, R, rel, p⟩ := h
  refine ⟨Γ, R, rel, ?_⟩
  have p : PostN F R σ H ((evI G it Γ).bind fun xs => (mapR (dcxF G t cs k e Γ) xs).bind fun ys => if allX ys then .ok (.dX false (merX [] ys)) else .bad) Q := p
  cases e1 : evI G it Γ with
  | bad => rw [e1] at p; exact p.elim
  | exc c => rw [e1] at p; exact p
  | ok xs =>
    rw [e1] at p
    intro J H1 R1 g1 wl len D hD
    cases e2 : mapR (dcxF G t cs k e Γ) xs with
    | bad => rw [Res.bind_ok, e2] at p; exact p.elim
    | exc c => exact absurd e2 mapR_exc
    | ok ys =>
      rw [Res.bind_ok, e2, Res.bind_ok] at p
      by_cases c : allX ys = true
      · rw [if_pos c] at p
        obtain ⟨tt, al⟩ := allT_of c
        refine dcx_turns hv hw (rel.grow g1) wl len hD e2 al fun Hh Rh acc g hHD RhD ra z => p D Hh Rh acc (g1.trans g) ?_ hHD RhD ra z (AllT.mer (fun kv h => by cases h) al).all
        cases q : H D with
        | none => rfl
        | some o => rw [g1.same _ _ q] at hD; cases hD
      · rw [if_neg c] at p; exact p.elim
/-! ### a display of one entry -/
def tDisX (K : Fr') (tk tv : TE) : TE := fun σ H Q => ∀ p, H p = none → tk σ (upd H p (DX p [])) fun y H1 => tv σ H1 fun z H2 => H2 p = some (DX p []) ∧ ∃ R k, Sub R H2 ∧ kyP 8 k = true ∧ RpD K R k y ∧ Q (.ref p) (upd H2 p (DX p [(nkP k, adr y, z)]))
theorem pe_disx {z y : Expr} {tk tv : TE} (hu : X.A.units + 100 < cLine) (hk : PE X z tk) (hv : PE X y tv) : PE X (.Dict [some z] [y] pos) (tDisX X.K tk tv) := by
  refine ⟨fun pins s σ H Q I q => ?_⟩
  have hn := I.hok.fresh (Nat.le_refl s.heap.objs.size)
  have I1 := I.laid (a := s.heap.objs.size) (o := DX s.heap.objs.size []) (h' := s.heap.push { cls := .type "dict", data := .dict #[] }) (t' := s.toks) (fun _ _ q => Heap.get?_push_of_some _ q) (Nat.le_refl _) (dx_new (dx_empty (P := X.prog) (w := X.w) (H' := H) s.heap I.big))
  have pp : PPs X pos [some z] [y] [(tk, tv)] := pps_cons hk hv pps_nil
  refine wpAny_Dict_any rfl rfl (by simp) (by simp) (thn (pp.run pins _ σ _ (fun ps H2 => match ps with
    | [(a, b)] => H2 s.heap.objs.size = some (DX s.heap.objs.size []) ∧ ∃ R k, Sub R H2 ∧ kyP 8 k = true ∧ RpD X.K R k a ∧ Q (.ref s.heap.objs.size) (upd H2 s.heap.objs.size (DX s.heap.objs.size [(nkP k, adr a, b)]))
    | _ => False) I1 (q _ hn)) fun ws s2 ⟨ps, H2, I2, rel, fin⟩ => ?_)
  cases rel with
  | nil => exact fin.elim
  | @cons p0 c0 ps ws h t =>
    cases t with
    | cons _ _ => exact fin.elim
    | nil =>
      obtain ⟨ra, rb⟩ := h
      obtain ⟨e, R, k, sb, kp, rk, fin⟩ := fin
      unfold storeAll
      rw [List.forIn_cons]
      refine wpAny_bind (wpAny_bind (dx_dictSet (kvs := []) hu I2 sb e rfl kp rfl ra rk rb (by unfold line; decide) fun s3 I3 => wpAny_pure ?_))
      show wpAny _ _ (forIn [] _ _) _ _ _
      rw [List.forIn_nil]
      exact wpAny_pure ⟨.ref s.heap.objs.size, _, I3, rfl, fin⟩
theorem disx_turn {k e : CE} {σ : L2.St} {H : Hp} {Γ : Gm} {R : Hp} (rel : RelR F.K F.H0 F.R0 R Γ σ H) {p : Addr} (hp : H p = none) {Q : VK}
    (hx : ∀ c, ev G (.disx k e) Γ = .exc c → ∀ H' R', Grow H R H' R' → F.W (F.cls c) none σ H') (hb : ev G (.disx k e) Γ ≠ .bad)
    (fin : ∀ k' q H' R' b v, ev G (.disx k e) Γ = .ok (.dX false [(k', q)]) → Grow H R H' R' → H' p = some (DX p []) → R' p = none → RpQ F.K R' k' b → RpD F.K R' q v → Q (.ref p) (upd H' p (DX p [(nkP k', b, v)]))) :
    Rd' F .e (ev G k) σ (upd H p (DX p [])) fun y H1 => Rd' F .e (ev G e) σ H1 fun z H2 => H2 p = some (DX p []) ∧ ∃ R k, Sub R H2 ∧ kyP 8 k = true ∧ RpD F.K R k y ∧ Q (.ref p) (upd H2 p (DX p [(nkP k, adr y, z)])) := by
  have Rp : R p = none := rel.sub.none hp
  have g0 : Grow H R (upd H p (DX p [])) R := .hid rel.sub hp _
  have r0 := rel.grow g0
  have E : ev G (.disx k e) Γ = (ev G k Γ).bind fun y => (keyV y).bind fun k => (ev G e Γ).bind fun z => (data? z).bind fun p => .ok (.dX false [(k, p)]) := rfl
  rw [E] at hb
  rw [E] at hx fin
  refine ⟨Γ, R, r0, ?_⟩
  cases e1 : ev G k Γ with
  | bad => rw [e1] at hb; exact absurd rfl hb
  | exc c => exact fun H' R' g => hx c (by rw [e1]; rfl) H' R' (g0.trans g)
  | ok s =>
    intro v H1 R1 g1 rv
    rw [e1, Res.bind_ok] at hb hx fin
    cases ek : keyV s with
    | bad => rw [ek] at hb; exact absurd rfl hb
    | exc c => exact (keyV_exc ek).elim
    | ok k' =>
      obtain ⟨rfl, kp⟩ := keyV_ok ek
      refine ⟨Γ, R1, r0.grow g1, ?_⟩
      have n1 : R1 p = none := by rw [g1.old p (by rw [upd_same]; simp)]; exact Rp
      have m1 : H1 p = some (DX p []) := g1.same _ _ (upd_same ..)
      rw [ek, Res.bind_ok] at hb hx fin
      cases e2 : ev G e Γ with
      | bad => rw [e2] at hb; exact absurd rfl hb
      | exc c => exact fun H' R' g => hx c (by rw [e2]; rfl) H' R' ((g0.trans g1).trans g)
      | ok z =>
        intro w H2 R2 g2 rw'
        rw [e2, Res.bind_ok] at hb fin
        rcases data_is (s := z) with ⟨q, rfl⟩ | ed
        · have n2 : R2 p = none := by rw [g2.old p (by rw [m1]; simp)]; exact n1
          have m2 : H2 p = some (DX p []) := g2.same _ _ m1
          have rk : RpD F.K R2 k' v := RpD.mono g2.reg rv
          exact ⟨m2, R2, k', g2.sub, kp, rk, fin k' q H2 R2 (adr v) w rfl ((g0.trans g1).trans g2) m2 n2 (rpq_of rk kp) rw'⟩
        · rw [ed] at hb; exact absurd rfl hb
theorem disx_ok {k e : CE} {Γ : Gm} {s : SV} (h : ev G (.disx k e) Γ = .ok s) : ∃ k' q, s = .dX false [(k', q)] := by
  have h : ((ev G k Γ).bind fun y => (keyV y).bind fun k => (ev G e Γ).bind fun z => (data? z).bind fun p => Res.ok (SV.dX false [(k, p)])) = .ok s := h
  cases e1 : ev G k Γ with
  | bad => rw [e1] at h; cases h
  | exc c => rw [e1] at h; cases h
  | ok y =>
    rw [e1, Res.bind_ok] at h
    cases e2 : keyV y with
    | bad => rw [e2] at h; cases h
    | exc c => rw [e2] at h; cases h
    | ok k' =>
      rw [e2, Res.bind_ok] at h
      cases e3 : ev G e Γ with
      | bad => rw [e3] at h; cases h
      | exc c => rw [e3] at h; cases h
      | ok z =>
        rw [e3, Res.bind_ok] at h
        cases e4 : data? z with
        | bad => rw [e4] at h; cases h
        | exc c => rw [e4] at h; cases h
        | ok q => rw [e4] at h; cases h; exact ⟨k', q, rfl⟩
theorem r_disx (C : Cok I G F X sc) {k e : CE} {z y : Expr} (hk : PE X z (Rd' F .e (ev G k))) (hv : PE X y (Rd' F .e (ev G e))) : PE X (.Dict [some z] [y] pos) (Rd' F .e (ev G (.disx k e))) :=
  peImp (pe_disx C.un hk hv) fun σ H Q ⟨Γ, R, rel, p⟩ D hD => by
    rw [← C.hK]
    refine disx_turn rel hD (fun c e1 H' R' g => ?_) (fun e1 => ?_) fun k' q H' R' b v e1 g m n r r' => ?_
    · rw [e1] at p; exact p H' R' g
    · rw [e1] at p; exact p
    · rw [e1] at p
      exact p _ _ (upd R' D (DX D [(nkP k', b, v)])) ((g.at hD n).show' hD (upd_same ..) n) ⟨D, _, rfl, .inl (upd_same ..), by unfold line; simp, rfl, b, v, [], rfl, r.mono (sub_upd n), r'.mono (sub_upd n), rfl⟩
theorem n_disx (C : Cok I G F X sc) {k e : CE} {z y : Expr} (hk : PE X z (Rd' F .e (ev G k))) (hv : PE X y (Rd' F .e (ev G e))) : PE X (.Dict [some z] [y] pos) (RdN F (ev G (.disx k e))) :=
  peImp (pe_disx C.un hk hv) fun σ H Q ⟨Γ, R, rel, p⟩ D hD => by
    rw [← C.hK]
    refine disx_turn rel hD (fun c e1 H' R' g => ?_) (fun e1 => ?_) fun k' q H' R' b v e1 g m n r r' => ?_
    · rw [e1] at p; exact p H' R' g
    · rw [e1] at p; exact p
    · rw [e1] at p
      exact p D _ R' [(nkP k', b, v)] (g.at hD n) hD (upd_same ..) n ⟨b, v, [], rfl, r, r', rfl⟩ (by unfold line; simp) rfl
/-! ### get -/
def tGetX (K : Fr') (td ty tx : TE) : TE := fun σ H Q => td σ H fun x H1 => ∃ a es, x = .ref a ∧ Rd H1 a (DX a es) ∧ ty σ H1 fun y H2 => tx σ H2 fun z H3 => ∃ R kvs p q, Sub R H3 ∧ Rd H3 a (DX a es) ∧ RpX K R kvs es ∧ kyP 8 p = true ∧ kinX kvs p = true ∧ RpD K R p y ∧ RpD K R q z ∧ ∀ v, RpD K R ((valX kvs p).getD q) v → Q v H3
theorem pe_getx {o e f : Expr} {apos cpos : Pos} {td ty tx : TE} (hu : X.A.units + 100 < cLine) (ho : PE X o td) (he : PE X e ty) (hf : PE X f tx) (m : M2 X o "get" apos e f cpos) : PE X (.Call (.Attribute o "get" apos) [e, f] [] cpos) (tGetX X.K td ty tx) := by
  refine ⟨fun pins s σ H Q I h => wpAny_Call_method m.base m.few m.line PySem.F.plainAttrs_dict PySem.F.slot_dict_get PySem.F.type_dict_get (thn (ho.run pins s σ H _ I h) fun u s1 ⟨x, H1, I1, rx, a, es, ex, d, q1⟩ => ?_)⟩
  subst ex
  obtain rfl : u = Value.ref a := rx
  obtain ⟨t1, t2, _⟩ := dx_type I1 d
  refine ⟨t1, t2, ?_⟩
  rw [m.trees]
  refine Calls.callWith_builtin rfl (Calls.evalArgs_plain (Calls.spliced_cons (thn (he.run pins s1 σ H1 _ I1 q1) fun iv s2 ⟨y, H2, I2, ry, q2⟩ =>
    Calls.spliced_cons (thn (hf.run pins s2 σ H2 _ I2 q2) fun fv s3 ⟨z, H3, I3, rz, R, kvs, p, q, sb, d3, rx', kp, kk, rp, rq, q3⟩ => Calls.spliced_nil ?_))))
  exact dx_get2 hu I3 sb d3 rx' kp kk (cp_of I3 sb rp ry) rq rz fun v w' s4 rv rw' I4 => ⟨v, H3, I4, rw', q3 v rv⟩
theorem ky_rp {R H : Hp} {p : PV} {x : V} (r : Rm F R H .t (.d p) x) (k : kyP 8 p = true) : RpD F.K R p x := by
  rcases r with r | ⟨a, _, t, _⟩
  · exact r
  · cases p <;> first | exact t.elim | cases k
theorem r_getx (C : Cok I G F X sc) {a k d : CE} {n : Str} {p apos cpos : Pos} {z w : Expr} {ma mk : Md} (la : ma.le .t = true) (lk : mk.le .t = true) (ha : PE X (.Name n p) (Rd' F ma (ev G a))) (hk : PE X z (Rd' F mk (ev G k))) (hd : PE X w (Rd' F .e (ev G d))) (hz : tame z = true) (hw : tame w = true) (hl : (apos.endLine == cpos.line) = true) :
    PE X (.Call (.Attribute (.Name n p) (Str.ofString "get") apos) [z, w] [] cpos) (Rd' F .e (ev G (.getx a k d))) :=
  peImp (pe_getx C.un (peLe ha la) (peLe hk lk) hd ⟨rfl, by rw [starEach_tame hz, starEach_tame hw]; rfl, hl, by rw [starEach_tame hz, starEach_tame hw]; rfl⟩) fun σ H Q ⟨Γ, R, rel, p⟩ => ⟨Γ, R, rel, (Post.bind (m := .t) rel.sub p).mono fun x H1 ⟨s, R1, _, g1, rx, p1⟩ => by
    have p1 : Post F .e R1 σ H1 ((dicX? s).bind fun kvs => (ev G k Γ).bind fun y => (ev G d Γ).bind fun z => getopX kvs y z) Q := p1
    have ds : (∃ b kvs, s = .dX b kvs) ∨ dicX? s = .bad := by
      cases s with
      | dX b kvs => exact .inl ⟨b, kvs, rfl⟩
      | _ => exact .inr rfl
    rcases ds with ⟨b, kvs, rfl⟩ | e
    · obtain ⟨a, es, e, hH, rk, _, _⟩ := rx.dX g1.sub
      have p1 : Post F .e R1 σ H1 ((ev G k Γ).bind fun y => (ev G d Γ).bind fun z => getopX kvs y z) Q := p1
      refine ⟨a, es, e, hH, Γ, R1, rel.grow g1, (Post.bind (m := .t) g1.sub p1).mono fun y H2 ⟨t, R2, _, g2, ry, p2⟩ => ⟨Γ, R2, (rel.grow g1).grow g2, (Post.bind (m := .e) g2.sub p2).mono fun y3 H3 ⟨t3, R3, _, g3, r3, p3⟩ => ?_⟩⟩
      cases t3 with
      | d q =>
        have p3 : Post F .e R3 σ H3 ((keyX kvs t).bind fun k => .ok (.d ((valX kvs k).getD q))) Q := p3
        cases t with
        | d p0 =>
          rcases keyX_d kvs p0 with ⟨e1, e2, e3⟩ | e3
          · rw [e3] at p3
            have p3 : Post F .e R3 σ H3 (.ok (.d ((valX kvs p0).getD q))) Q := p3
            have r0 := ky_rp (ry.grow g3) e1
            rw [C.hK] at rk r0
            refine ⟨R3, kvs, p0, q, g3.sub, (g2.trans g3).same.rd hH, rk.mono (g2.trans g3).reg, e1, e2, r0, ?_, fun v rv => Post.now g3.sub p3 (show RpD F.K R3 _ v by rw [C.hK]; exact rv)⟩
            have r3 : RpD F.K R3 q y3 := r3
            rw [← C.hK]; exact r3
          · rw [e3] at p3; exact p3.elim
        | _ => exact p3.elim
      | _ => cases t <;> exact p3.elim
    · rw [e] at p1; exact p1.elim⟩
end
/-! ### the keys of a locked dict -/
def ItX (d : Addr) (o : Obj) (es : List En) : It :=
  ⟨fun i H => H d = some (.frz o (DX d es)) ∧ i < es.length, fun i H x H' => H' = H ∧ ∃ e, es[i]? = some e ∧ x = kyV e, fun i H => H d = some (.frz o (DX d es)) ∧ es.length ≤ i⟩
section
variable {X : Cx} {pins : List (Addr × Obj)} {σ : St} {H : Hp} {s : Shared} {d : Addr} {o : Obj} {es : List En}
theorem frzX (I : Inv X pins σ H s) (h : H d = some (.frz o (DX d es))) : (d == sysModules) = false ∧ s.heap.get? d = some o ∧ o.ExactDict ∧ ∃ (en : Array DictEntry) (ep : Nat), o.data = .dict en ep ∧ en.size = es.length ∧ Paired EnR es en.toList := by
  obtain ⟨h1, x, _⟩ := I.hok d _ h
  obtain ⟨a1, a2, _, o', en, ep, b1, b2, b3, b4⟩ := x
  rw [h1] at b1
  cases b1
  exact ⟨a1, h1, b2, en, ep, b3, by rw [Paired.length b4, Array.length_toList], b4⟩
theorem turn_keysX {P : Program} {w : World} {K : PySem.W.Frag} {tg : Expr} {en : Array DictEntry} {ep : Nat} (it : Addr) (hod : o.data = .dict en ep) (hb : ∀ e ∈ es, ∃ b, e.2.1 = some b) :
    Turn P w K tg (ItX d o es) [it] it (fun i h => h.IsKeyIter it d i es.length ep) where
  mem := List.mem_singleton.mpr rfl
  obj := fun i h st b hb => by
    rw [List.mem_singleton.mp hb]
    obtain ⟨oi, e, c, dd⟩ := st
    exact ⟨oi, e, fun v z => by rw [dd] at z; cases z⟩
  keep := fun i h h' st k => st.at fun oi e => k it (List.mem_singleton.mpr rfl) oi e
  item := by
    intro X hP hw hK hc i pins s σ H E I hf st hg
    subst hP hw hK
    obtain ⟨hd, hi⟩ := hg
    obtain ⟨f0, f1, f2, f3, f4, f5⟩ := hf it (List.mem_singleton.mpr rfl)
    obtain ⟨hs, hgd, hx, en', ep', hdt, hsz, pr⟩ := frzX I hd
    obtain ⟨rfl, rfl⟩ := dict_ep hod hdt
    obtain ⟨e, he⟩ : ∃ e, es[i]? = some e := ⟨es[i], List.getElem?_eq_getElem hi⟩
    obtain ⟨dn, h1, h2⟩ := paired_get pr he
    rw [Array.getElem?_toList] at h1
    obtain ⟨b, eb⟩ := hb e (List.mem_of_getElem? he)
    have kb : dn.key = .ref b := by
      obtain ⟨_, _, h2⟩ := h2
      rw [eb] at h2; exact h2
    refine next_key_item st hgd hdt hsz h1 fun h' st' sb => ?_
    have I1 : Inv X pins σ H { s with heap := h' } := I.turned (t' := s.toks) (fun b ob hb e => (sb.2 b hb).trans e) f0 f1 f3 f4 f5
    obtain ⟨oi, e', c, dd⟩ := id st'
    exact ⟨dn.key, rfl, go_of (s := { s with heap := h' }) e' c dd (by decide) ⟨kyV e, H, I1, by unfold kyV; rw [eb]; exact kb, ⟨rfl, e, he, rfl⟩, st', fun b hb => (hf b hb).1⟩⟩
  done := by
    intro X hP hw hK hc i pins s σ H E I hf st hg
    subst hP hw hK
    obtain ⟨hd, hi⟩ := hg
    obtain ⟨f0, f1, f2, f3, f4, f5⟩ := hf it (List.mem_singleton.mpr rfl)
    obtain ⟨hs, hgd, hx, en', ep', hdt, hsz, pr⟩ := frzX I hd
    obtain ⟨rfl, rfl⟩ := dict_ep hod hdt
    exact next_key_end (I.ok.hd hc) st hgd hdt hsz hi fun h' eb => ⟨rfl, I.turned (t' := s.toks) (fun b ob hb e => eb b ob hb e) f0 f1 f3 f4 f5⟩
  self := fun A i s Q E st h => wpAny_pyIter_keyiter st h
def iKeysX (td : TE) : TI := fun σ H R => td σ H fun x H1 => ∃ d o es, x = .ref d ∧ H1 d = some (.frz o (DX d es)) ∧ (∀ e ∈ es, ∃ b, e.2.1 = some b) ∧ R (ItX d o es) H1
theorem pi_keysX {tg e : Expr} {td : TE} (he : PE X e td) : PI X tg e (iKeysX td) := by
  refine ⟨fun pins s σ H R I h => thn (he.run pins s σ H _ I h) fun u s1 ⟨x, H1, I1, rx, d, o, es, ex, hd, hb, q⟩ => ?_⟩
  subst ex
  obtain rfl : u = Value.ref d := rx
  obtain ⟨hs, hgd, hx, en, ep, hdt, hsz, _⟩ := frzX I1 hd
  refine iter_keys hs hgd hx hdt (pi_one (tk := s1.toks) I1 _ (turn_keysX _ hdt hb) ⟨_, Heap.get?_push_size _ rfl, rfl, ?_⟩ q)
  rw [hsz]; rfl
end
section
variable {I : Inf} {G : Ctx} {F : Fr} {X : Cx} {sc : Scope}
theorem i_keys (C : Cok I G F X sc) {e : CE} {tg y : Expr} (h : PE X y (Rd' F .e (ev G e))) : PI X tg y (RdI F .e (evI G (.keys e))) :=
  piImp (piOr (pi_keysX h) (i_seq (m := .e) C rfl h)) fun σ H Q ⟨Γ, R, rel, p⟩ => by
    have p : PostI F .e R σ H ((ev G e Γ).bind itr?) Q := p
    by_cases dx : ∃ b kvs, ev G e Γ = .ok (.dX b kvs)
    · obtain ⟨b, kvs, e1⟩ := dx
      refine .inl ⟨Γ, R, rel, ?_⟩
      rw [e1, Res.bind_ok] at p
      rw [e1]
      intro v H1 R1 g1 rv
      cases b with
      | false => exact p.elim
      | true =>
        have p : PostI F .e R σ H (keysT kvs) Q := p
        rcases keysT_ok (kvs := kvs) with ⟨e2, ht⟩ | e2
        · rw [e2] at p
          obtain ⟨d, es, ev', ⟨o, hR⟩, z, _, rk⟩ := rv
          obtain ⟨k1, k2⟩ := rx_keys rk ht
          have l1 := rk.len
          refine ⟨d, o, es, ev', g1.sub _ _ hR, k2, p _ H1 R1 g1 (fun H2 R2 hB h1 h2 i => ⟨fun q eq => ?_, fun eq => ?_⟩) (by rw [List.length_map]; exact z)⟩
          · obtain ⟨v', a1, a2⟩ := k1.get' eq
            rw [List.getElem?_map] at a1
            obtain ⟨e3, a3, a4⟩ := Option.map_eq_some_iff.mp a1
            refine ⟨⟨hB _ _ hR, (List.getElem?_eq_some_iff.mp a3).1⟩, fun x H' ⟨eH, e4, a5, a6⟩ => ⟨R2, ?_, ?_⟩⟩
            · rw [eH]; exact .refl h2
            · rw [a3] at a5; cases a5
              rw [a6, a4]; exact a2.mono h1
          · refine ⟨hB _ _ hR, ?_⟩
            have := List.getElem?_eq_none_iff.mp eq
            rw [List.length_map] at this
            omega
        · rw [e2] at p; exact p.elim
    · refine .inr ⟨Γ, R, rel, ?_⟩
      show PostI F .e R σ H ((ev G e Γ).bind fun x => seq? x) Q
      cases e1 : ev G e Γ with
      | bad => rw [e1] at p; exact p
      | exc c => rw [e1] at p; exact p
      | ok s =>
        rw [e1] at p
        cases s with
        | dX b kvs => exact absurd ⟨b, kvs, e1⟩ dx
        | _ => exact p
end
end Bw
end

section
set_option autoImplicit false
set_option linter.all false
/-! Bw V: every expression of the core language that the checker takes is read by its meaning. -/
namespace Bw
open PySem L2
section
variable {I : Inf} {G : Ctx} {F : Fr} {X : Cx} {sc : Scope} {pos : Pos}
theorem free_relS {sc : Scope} : ∀ {names : List (Str × NameKind)} {x : Str}, names.lookup x = some .free →
    (names.map fun (n, k) => if (k == NameKind.free && sc.kind == .function && sc.names.lookup n == some .cell) then (n, NameKind.cell) else (n, k)).lookup x = some .free ∨
    (names.map fun (n, k) => if (k == NameKind.free && sc.kind == .function && sc.names.lookup n == some .cell) then (n, NameKind.cell) else (n, k)).lookup x = some .cell
  | [], _, h => by simp at h
  | (n, k₀) :: r, x, h => by
    have ih := @free_relS sc r x
    rw [List.map_cons]
    cases hx : x == n with
    | true =>
      simp only [List.lookup_cons, hx] at h
      cases h
      by_cases hc : (NameKind.free == NameKind.free && sc.kind == .function && sc.names.lookup n == some .cell) = true
      · right; simp only [if_pos hc, List.lookup_cons, hx]
      · left; simp only [if_neg hc, List.lookup_cons, hx]
    | false =>
      simp only [List.lookup_cons, hx] at h
      by_cases hc : (k₀ == NameKind.free && sc.kind == .function && sc.names.lookup n == some .cell) = true
      · simp only [if_pos hc, List.lookup_cons, hx]; exact ih h
      · simp only [if_neg hc, List.lookup_cons, hx]; exact ih h
/-- the context of a block -/
theorem Cok.blk (C : Cok I G F X sc) (s : Shared) (H : Hp) (scope : Scope) (cl : List (Str × Addr)) (Cc : Addr) (fp : List Addr) : Cok I G F.calm (X.blk s H scope (compEnvC scope cl Cc X.env) fp) scope where
  hK := C.hK
  hN := C.hN
  nd := C.nd
  calm := C.calm
  un := C.un
  fnc := fun x h => by show (scope.names.lookup x == some .cell) = true; rw [h]; rfl
  sc := fun x k h => by
    show (relS scope X.env.scope).names.lookup x = some k ∨ (k = .free ∧ (relS scope X.env.scope).names.lookup x = some .cell)
    by_cases c : k = .free
    · subst c
      rcases free_relS (sc := X.env.scope) h with e | e
      · exact .inl e
      · exact .inr ⟨rfl, e⟩
    · exact .inl (lookup_relS_keep c h)
  bl := C.bl
  cons := C.cons
  fns := C.fns
  takes := fun u s' ⟨a, B, sI, pins, σ, H, cls, d, e, I, nb, up, sky, na, os, ag, w⟩ => w.elim
  exs := C.exs
  sub := C.sub
theorem blk_ok (C : Cok I G F X sc) {scope : Scope} {own : List (Str × Nat)} (h : blkC I.N sc scope own = true) : BlkOk X.N X.env.scope scope own := by
  have B := blkOk_by h
  rw [C.hN]
  refine ⟨B.kind, B.uniq, B.ix, fun y hy e => ?_, B.own⟩
  rcases B.free y hy e with q | q
  · rcases C.sc _ _ q with q | ⟨q, _⟩
    · exact .inl q
    · cases q
  · rcases C.sc _ _ q with q | ⟨_, q⟩
    · exact .inr q
    · exact .inl q
theorem okL_tame : ∀ {es : List CE} {xs : List Expr}, okL I sc es xs = true → xs.all tame = true
  | [], [], _ => rfl
  | e :: es, x :: xs, h => by
    have h : (okE I sc e x && tame x && okL I sc es xs) = true := h
    simp only [Bool.and_eq_true] at h
    rw [List.all_cons, h.1.2, okL_tame (es := es) h.2]; rfl
  | [], _ :: _, h => by cases h
  | _ :: _, [], h => by cases h
def Both (F : Fr) (X : Cx) (x : Expr) (m : Md) (g : Gm → Res SV) : Prop := PE X x (Rd' F m g) ∧ PT X x (RdB F fun Γ => (g Γ).bind isBl?)
theorem both {x : Expr} {m : Md} {g : Gm → Res SV} (h : PE X x (Rd' F m g)) (he : ∀ whole, PySem.isTrue x X.env whole = (do let v ← whole; standAt x.pos; holding [v] (truthy v))) : Both F X x m g := ⟨h, ptB h he⟩
theorem rv_lst (C : Cok I G F X sc) {a : CE} {y : Expr} {m : Md} {p1 p2 p3 : Pos} {k : Nat} (l : m.le .t = true) (h : PE X y (Rd' F m (ev G a))) :
    PE X (.Subscript y (.Slice none none (some (.UnaryOp .USub (.Constant (.int 1) k p1) p2)) p3) pos) (Rd' F .e (ev G (.rev a))) :=
  peImp (pe_back (peLe h l)) fun σ H Q ⟨Γ, R, rel, p⟩ => ⟨Γ, R, rel, (Post.bind (m := .t) rel.sub p).mono fun x H1 ⟨s, R1, _, g1, rx, p1⟩ => by
    cases s with
    | d q =>
      cases q with
      | lst ps =>
        obtain ⟨a, vs, e, sq, r, z⟩ := rx.lst g1.sub
        have p1 : Post F .e R1 σ H1 (.ok (.d (.lst ps.reverse))) Q := p1
        exact ⟨a, vs, e, .inl ⟨.of sq, fun q hq => Post.newL g1.sub p1 hq r.rev (by rw [List.length_reverse]; exact z)⟩⟩
      | tup ps =>
        obtain ⟨a, vs, e, sq, z, r⟩ := src_tup (K := F.K) (m := .t) rfl g1.sub rx
        have p1 : Post F .e R1 σ H1 (.ok (.d (.tup ps.reverse))) Q := p1
        have r1 : ∃ a vs, x = .ref a ∧ SqT F.K H1 a vs ∧ RpL F.K R1 ps vs ∧ ps.length ≤ line := ⟨a, vs, e, sq H1 .refl, r, z⟩
        exact ⟨a, vs, e, .inr ⟨by rw [← C.hK]; exact sq H1 .refl, fun q hq => Post.newT g1.sub p1 hq r.rev (by rw [List.length_reverse]; exact z)⟩⟩
      | _ => exact p1.elim
    | _ => exact p1.elim⟩
theorem one_test (r : Res SV) : (r.bind fun x => (isBl? x).bind fun c => if c then .ok true else .ok false) = r.bind isBl? := by
  cases r with
  | bad => rfl
  | exc c => rfl
  | ok s =>
    cases s with
    | d q =>
      cases q <;> first | rfl | skip
      rename_i b
      cases b <;> rfl
    | _ => rfl
mutual
theorem ev_ok (G : Ctx) (I : Inf) : ∀ (e : CE) {F : Fr} {X : Cx} {sc : Scope} (C : Cok I G F X sc) (x : Expr), okE I sc e x = true → Both F X x (md e) (ev G e)
  | .int i, F, X, sc, C, x, h => by
    unfold okE at h
    split at h
    · rw [decide_eq_true_eq] at h
      subst h
      exact both (r_const pe_int fun R => rfl) fun _ => rfl
    · cases h
  | .str s, F, X, sc, C, x, h => by
    unfold okE at h
    split at h
    · rw [Bool.and_eq_true, decide_eq_true_eq, decide_eq_true_eq] at h
      obtain ⟨rfl, h⟩ := h
      exact both (r_const pe_str fun R => ⟨rfl, h⟩) fun _ => rfl
    · cases h
  | .bl b, F, X, sc, C, x, h => by
    unfold okE at h
    split at h
    · have h := eq_of_beq h
      subst h
      exact both (r_const pe_bl fun R => rfl) fun _ => rfl
    · cases h
  | .non, F, X, sc, C, x, h => by
    unfold okE at h
    split at h
    · exact both (r_const pe_non fun R => rfl) fun _ => rfl
    · cases h
  | .var i, F, X, sc, C, x, h => by
    unfold okE at h
    split at h
    · simp only [Bool.and_eq_true, decide_eq_true_eq] at h
      exact both (r_var C h.1.1 h.1.2 h.2) fun _ => rfl
    · cases h
  | .own i, F, X, sc, C, x, h => by
    unfold okE at h
    split at h
    · simp only [Bool.and_eq_true, decide_eq_true_eq] at h
      exact both (r_own C h.1.1 h.1.2 h.2) fun _ => rfl
    · cases h
  | .glob k, F, X, sc, C, x, h => by
    unfold okE at h
    split at h
    · simp only [Bool.and_eq_true, decide_eq_true_eq] at h
      exact both (r_glob C h.1.1 h.1.2 h.2) fun _ => rfl
    · cases h
  | .flat e, F, X, sc, C, x, h => by
    unfold okE at h
    have ih := ev_ok G I e C x h
    refine ⟨r_flat ih.1, ?_⟩
    rw [(funext fun Γ => bl_flat (ev G e Γ) : (fun Γ => (ev G (.flat e) Γ).bind isBl?) = _)]
    exact ih.2
  | .tup es, F, X, sc, C, x, h => by
    unfold okE at h
    split at h
    · simp only [Bool.and_eq_true, decide_eq_true_eq] at h
      exact both (r_tup h.2 (evL_ok G I es C _ h.1)) fun _ => rfl
    · cases h
  | .lst es, F, X, sc, C, x, h => by
    unfold okE at h
    split at h
    · simp only [Bool.and_eq_true, decide_eq_true_eq] at h
      exact both (r_lst h.2 (evL_ok G I es C _ h.1)) fun _ => rfl
    · cases h
  | .bin op a b, F, X, sc, C, x, h => by
    unfold okE at h
    split at h
    · simp only [Bool.and_eq_true, decide_eq_true_eq] at h
      obtain ⟨⟨rfl, h1⟩, h2⟩ := h
      exact both (r_bin C op (ev_ok G I a C _ h1).1 (ev_ok G I b C _ h2).1) fun _ => rfl
    · cases h
  | .neg a, F, X, sc, C, x, h => by
    unfold okE at h
    split at h
    · exact both (r_neg C (ev_ok G I a C _ h).1) fun _ => rfl
    · cases h
  | .not a, F, X, sc, C, x, h => by
    unfold okE at h
    split at h
    · exact ⟨r_not C (ev_ok G I a C _ h).1, t_not (ev_ok G I a C _ h).2⟩
    · cases h
  | .and a b, F, X, sc, C, x, h => by
    unfold okE at h
    split at h
    · simp only [Bool.and_eq_true] at h
      have ha := ev_ok G I a C _ h.1
      have hb := ev_ok G I b C _ h.2
      refine ⟨r_and C ha.1 (pe_one hb.1), ?_⟩
      rw [(funext fun Γ => bl_and (ev G a Γ) (ev G b Γ) : (fun Γ => (ev G (.and a b) Γ).bind isBl?) = _)]
      exact (w_and ha.2 (pw_and1 hb.2)).pt
    · simp only [Bool.and_eq_true] at h
      have ha := ev_ok G I a C _ h.1
      have hb := ev_ok G I b C _ h.2
      refine ⟨r_and C ha.1 hb.1, ?_⟩
      rw [(funext fun Γ => bl_and (ev G a Γ) (ev G b Γ) : (fun Γ => (ev G (.and a b) Γ).bind isBl?) = _)]
      exact (w_and ha.2 (PW.of hb.2)).pt
    · cases h
  | .or a b, F, X, sc, C, x, h => by
    unfold okE at h
    split at h
    · simp only [Bool.and_eq_true] at h
      have ha := ev_ok G I a C _ h.1
      have hb := ev_ok G I b C _ h.2
      refine ⟨r_or C ha.1 (pe_one hb.1), ?_⟩
      rw [(funext fun Γ => bl_or (ev G a Γ) (ev G b Γ) : (fun Γ => (ev G (.or a b) Γ).bind isBl?) = _)]
      exact (w_or ha.2 (pw_or1 hb.2)).pt
    · simp only [Bool.and_eq_true] at h
      have ha := ev_ok G I a C _ h.1
      have hb := ev_ok G I b C _ h.2
      refine ⟨r_or C ha.1 hb.1, ?_⟩
      rw [(funext fun Γ => bl_or (ev G a Γ) (ev G b Γ) : (fun Γ => (ev G (.or a b) Γ).bind isBl?) = _)]
      exact (w_or ha.2 (PW.of hb.2)).pt
    · cases h
  | .cmp op a b, F, X, sc, C, x, h => by
    unfold okE at h
    split at h
    · simp only [Bool.and_eq_true, decide_eq_true_eq] at h
      obtain ⟨⟨⟨rfl, h1⟩, h2⟩, h3⟩ := h
      have ha := (ev_ok G I a C _ h1).1
      have hb := (ev_ok G I b C _ h2).1
      exact ⟨r_cmp C op h3 ha hb, t_cmp C op h3 ha hb⟩
    · cases h
  | .chain op op' a b c, F, X, sc, C, x, h => by
    unfold okE at h
    split at h
    · simp only [Bool.and_eq_true, decide_eq_true_eq, le_t] at h
      obtain ⟨⟨⟨⟨⟨⟨⟨⟨rfl, rfl⟩, h1⟩, h2⟩, h3⟩, l1⟩, l2⟩, l3⟩, h4⟩ := h
      have ha := (ev_ok G I a C _ h1).1
      have hb := (ev_ok G I b C _ h2).1
      have hc := (ev_ok G I c C _ h3).1
      exact ⟨r_chain C op op' l1 l2 l3 h4 ha hb hc, t_chain C op op' l1 l2 l3 h4 ha hb hc⟩
    · cases h
  | .ife c a b, F, X, sc, C, x, h => by
    unfold okE at h
    split at h
    · simp only [Bool.and_eq_true] at h
      have hc := ev_ok G I c C _ h.1.1
      have ha := ev_ok G I a C _ h.1.2
      have hb := ev_ok G I b C _ h.2
      refine ⟨r_ife (sup_l _ _) (sup_r _ _) hc.2 ha.1 hb.1, ?_⟩
      exact (funext fun Γ => bl_ife (ev G c Γ) (ev G a Γ) (ev G b Γ) : (fun Γ => (ev G (.ife c a b) Γ).bind isBl?) = _) ▸ t_ife hc.2 ha.2 hb.2
    · cases h
  | .idx a b, F, X, sc, C, x, h => by
    unfold okE at h
    split at h
    · simp only [Bool.and_eq_true] at h
      exact both (r_idx C h.2 (ev_ok G I a C _ h.1.1).1 (ev_ok G I b C _ h.1.2).1) fun _ => rfl
    · cases h
  | .sl a lo hi, F, X, sc, C, x, h => by
    unfold okE at h
    split at h
    · simp only [Bool.and_eq_true] at h
      exact both (r_sl C h.1.1.2 (ev_ok G I a C _ h.1.1.1).1 (evO_ok G I lo C _ h.1.2) (evO_ok G I hi C _ h.2)) fun _ => rfl
    · cases h
  | .rev a, F, X, sc, C, x, h => by
    unfold okE at h
    split at h
    · simp only [Bool.and_eq_true] at h
      exact both (rv_lst C h.2 (ev_ok G I a C _ h.1).1) fun _ => rfl
    · cases h
  | .call k es, F, X, sc, C, x, h => by
    unfold okE at h
    split at h
    · simp only [Bool.and_eq_true, decide_eq_true_eq] at h
      have tm := okL_tame h.2
      rw [List.all_cons, Bool.and_eq_true] at tm
      exact both (r_call C h.1.1.1 h.1.1.2 h.1.2 tm.1 tm.2 (evL_ok G I es C _ h.2)) fun _ => rfl
    · cases h
  | .f1 f a, F, X, sc, C, x, h => by
    unfold okE at h
    split at h
    · simp only [Bool.and_eq_true, decide_eq_true_eq] at h
      obtain ⟨⟨⟨⟨⟨rfl, h1⟩, h2⟩, h3⟩, h4⟩, h5⟩ := h
      exact both (r_f1 C ⟨h1, h2⟩ h3 h5 (ev_ok G I a C _ h4).1) fun _ => rfl
    · cases h
  | .f2 f a b, F, X, sc, C, x, h => by
    unfold okE at h
    split at h
    · simp only [Bool.and_eq_true, decide_eq_true_eq] at h
      obtain ⟨⟨⟨⟨⟨⟨rfl, h1⟩, h2⟩, h3⟩, h4⟩, h5⟩, h6⟩ := h
      exact both (r_f2 C h1 h2 h4 h6 (ev_ok G I a C _ h3).1 (ev_ok G I b C _ h5).1) fun _ => rfl
    · cases h
  | .isa a t, F, X, sc, C, x, h => by
    unfold okE at h
    split at h
    · simp only [Bool.and_eq_true, decide_eq_true_eq] at h
      obtain ⟨⟨⟨⟨⟨rfl, rfl⟩, h1⟩, h2⟩, h3⟩, h4⟩ := h
      exact both (r_isa C h1 h2 h4 (ev_ok G I a C _ h3).1) fun _ => rfl
    · cases h
  | .col b it, F, X, sc, C, x, h => by
    unfold okE at h
    split at h
    · simp only [Bool.and_eq_true, decide_eq_true_eq] at h
      obtain ⟨⟨⟨⟨rfl, h1⟩, h2⟩, h3⟩, h4⟩ := h
      have key : PRg X _ (RdP F (evI G it)) := evP_ok G I it C _ _ h3 h4
      cases b with
      | true => exact both (r_colT C h1 h2 key) fun _ => rfl
      | false => exact both (r_colL C h1 h2 key) fun _ => rfl
    · cases h
  | .dst b a, F, X, sc, C, x, h => by
    unfold okE at h
    split at h
    · simp only [Bool.and_eq_true, decide_eq_true_eq] at h
      obtain ⟨⟨⟨⟨⟨⟨rfl, rfl⟩, h1⟩, h2⟩, h3⟩, h4⟩, h5⟩ := h
      exact both (r_dst C h1 h2 h3 h4 (ev_ok G I a C _ h5).1) fun _ => rfl
    · cases h
  | .dc t it cs k e, F, X, sc, C, x, h => by
    unfold okE at h
    split at h
    · simp only [Bool.and_eq_true] at h
      obtain ⟨⟨⟨⟨⟨⟨⟨⟨⟨⟨h1, h2⟩, h3⟩, h4⟩, h5⟩, h6⟩, h7⟩, k1⟩, k2⟩, h8⟩, h9⟩ := h
      have h5 := eq_of_beq h5
      have h9 : md e = .e := by simpa using h9
      have k2 : md k = .e := by simpa using k2
      refine both (x_dc C (evI_ok G I it C _ _ h1) (blk_ok C h4) (fun s H Cc cl fp => g_ok (C.blk s H _ cl Cc fp) t _ h6)
        (fun s H Cc cl fp => evC_ok G I cs (C.blk s H _ cl Cc fp) _ h7) (fun s H Cc cl fp => ?_) (fun s H Cc cl fp => ?_) (fun x => folded_tame h3 _ x) fun σ H Q h => rd_dc (fun i hi => by rw [← h5]; exact hi) (fun i hi => by rw [h5]; exact hi) h) fun _ => rfl
      · have := (ev_ok G I k (C.blk s H _ cl Cc fp) _ k1).1
        rwa [k2] at this
      · have := (ev_ok G I e (C.blk s H _ cl Cc fp) _ h8).1
        rwa [h9] at this
    · cases h
  | .dnew, F, X, sc, C, x, h => by
    unfold okE at h
    split at h
    · exact both r_dnew fun _ => rfl
    · cases h
  | .disp1 k e, F, X, sc, C, x, h => by
    unfold okE at h
    split at h
    · simp only [Bool.and_eq_true] at h
      have m1 : md k = .e := by simpa using h.1.1.2
      have m2 : md e = .e := by simpa using h.2
      have hk := (ev_ok G I k C _ h.1.1.1).1
      have he := (ev_ok G I e C _ h.1.2).1
      rw [m1] at hk
      rw [m2] at he
      exact both (r_disp1 hk he) fun _ => rfl
    · cases h
  | .dget1 a k, F, X, sc, C, x, h => by
    unfold okE at h
    split at h
    · simp only [Bool.and_eq_true, decide_eq_true_eq, le_t] at h
      obtain ⟨⟨⟨⟨⟨⟨rfl, h1⟩, l1⟩, h2⟩, l2⟩, h3⟩, h4⟩ := h
      exact both (r_dget1 C l1 l2 (ev_ok G I a C _ h1).1 (ev_ok G I k C _ h2).1 h3 h4) fun _ => rfl
    · cases h
  | .dget2 a k d, F, X, sc, C, x, h => by
    unfold okE at h
    split at h
    · simp only [Bool.and_eq_true, decide_eq_true_eq, le_t] at h
      obtain ⟨⟨⟨⟨⟨⟨⟨⟨⟨rfl, h1⟩, l1⟩, h2⟩, l2⟩, h3⟩, k1⟩, k2⟩, k3⟩, h4⟩ := h
      have m2 : md d = .e := by simpa using k2
      have hd := (ev_ok G I d C _ k1).1
      rw [m2] at hd
      exact both (r_dget2 C l1 l2 (ev_ok G I a C _ h1).1 (ev_ok G I k C _ h2).1 hd h3 k3 h4) fun _ => rfl
    · cases h
  | .ind a k, F, X, sc, C, x, h => by
    unfold okE at h
    split at h
    · simp only [Bool.and_eq_true, decide_eq_true_eq, le_t] at h
      obtain ⟨⟨⟨⟨⟨⟨rfl, h1⟩, l1⟩, h2⟩, l2⟩, h3⟩, h4⟩ := h
      exact both (r_ind C l1 l2 (ev_ok G I a C _ h1).1 (ev_ok G I k C _ h2).1 h3 h4) fun _ => rfl
    · cases h
  | .dcx t it cs k e, F, X, sc, C, x, h => by
    unfold okE at h
    split at h
    · simp only [Bool.and_eq_true] at h
      obtain ⟨⟨⟨⟨⟨⟨⟨⟨⟨⟨h1, h2⟩, h3⟩, h4⟩, h5⟩, h6⟩, h7⟩, k1⟩, k2⟩, h8⟩, h9⟩ := h
      have h5 := eq_of_beq h5
      have h9 : md e = .e := by simpa using h9
      have k2 : md k = .e := by simpa using k2
      refine both (peImp (pe_dcx C.calm (by rw [C.hN]; exact C.nd) C.un (evI_ok G I it C _ _ h1) (blk_ok C h4) (fun s H Cc cl fp => g_ok (C.blk s H _ cl Cc fp) t _ h6)
        (fun s H Cc cl fp => evC_ok G I cs (C.blk s H _ cl Cc fp) _ h7) (fun s H Cc cl fp => ?_) (fun s H Cc cl fp => ?_) (fun x => folded_tame h3 _ x)) fun σ H Q h => by rw [← C.hK]; exact rd_dcx (fun i hi => by rw [← h5]; exact hi) (fun i hi => by rw [h5]; exact hi) h) fun _ => rfl
      · have := (ev_ok G I k (C.blk s H _ cl Cc fp) _ k1).1
        rwa [k2] at this
      · have := (ev_ok G I e (C.blk s H _ cl Cc fp) _ h8).1
        rwa [h9] at this
    · cases h
  | .dnx, F, X, sc, C, x, h => by
    unfold okE at h
    split at h
    · exact both r_dnx fun _ => rfl
    · cases h
  | .disx k e, F, X, sc, C, x, h => by
    unfold okE at h
    split at h
    · simp only [Bool.and_eq_true] at h
      have m1 : md k = .e := by simpa using h.1.1.2
      have m2 : md e = .e := by simpa using h.2
      have hk := (ev_ok G I k C _ h.1.1.1).1
      have he := (ev_ok G I e C _ h.1.2).1
      rw [m1] at hk
      rw [m2] at he
      exact both (r_disx C hk he) fun _ => rfl
    · cases h
  | .getx a k d, F, X, sc, C, x, h => by
    unfold okE at h
    split at h
    · simp only [Bool.and_eq_true, decide_eq_true_eq, le_t] at h
      obtain ⟨⟨⟨⟨⟨⟨⟨⟨⟨rfl, h1⟩, l1⟩, h2⟩, l2⟩, h3⟩, k1⟩, k2⟩, k3⟩, h4⟩ := h
      have m2 : md d = .e := by simpa using k2
      have hd := (ev_ok G I d C _ k1).1
      rw [m2] at hd
      exact both (r_getx C l1 l2 (ev_ok G I a C _ h1).1 (ev_ok G I k C _ h2).1 hd h3 k3 h4) fun _ => rfl
    · cases h
  | .lc t it cs e, F, X, sc, C, x, h => by
    unfold okE at h
    split at h
    · simp only [Bool.and_eq_true] at h
      obtain ⟨⟨⟨⟨⟨⟨⟨⟨h1, h2⟩, h3⟩, h4⟩, h5⟩, h6⟩, h7⟩, h8⟩, h9⟩ := h
      have h5 := eq_of_beq h5
      have h9 : md e = .e := by simpa using h9
      refine both (r_lc C (evI_ok G I it C _ _ h1) (blk_ok C h4) (fun i hi => by rw [← h5]; exact hi) (fun i hi => by rw [h5]; exact hi) (fun s H Cc cl fp => g_ok (C.blk s H _ cl Cc fp) t _ h6)
        (fun s H Cc cl fp => evC_ok G I cs (C.blk s H _ cl Cc fp) _ h7) (fun s H Cc cl fp => ?_) (fun x => folded_tame h3 _ x)) fun _ => rfl
      have := (ev_ok G I e (C.blk s H _ cl Cc fp) _ h8).1
      rwa [h9] at this
    · cases h
  | .lc2 t it cs t' it' cs' e, F, X, sc, C, x, h => by
    unfold okE at h
    split at h
    · simp only [Bool.and_eq_true] at h
      obtain ⟨⟨⟨⟨⟨⟨⟨⟨⟨⟨⟨⟨⟨h1, h2⟩, h3⟩, h4⟩, h5⟩, h6⟩, h7⟩, k1⟩, k2⟩, k3⟩, k4⟩, k5⟩, h8⟩, h9⟩ := h
      have h5 := eq_of_beq h5
      have h9 : md e = .e := by simpa using h9
      have k2 : mdI it' = .e := by simpa using k2
      refine both (peImp (p_lc2 C (evI_ok G I it C _ _ h1) (blk_ok C h4) h5 (fun s H Cc cl fp => g_ok (C.blk s H _ cl Cc fp) t _ h6) (fun s H Cc cl fp => evC_ok G I cs (C.blk s H _ cl Cc fp) _ h7)
        (fun s H Cc cl fp => ?_) (fun s H Cc cl fp => g_ok (C.blk s H _ cl Cc fp) t' _ k4) (fun s H Cc cl fp => evC_ok G I cs' (C.blk s H _ cl Cc fp) _ k5) (fun s H Cc cl fp => ?_) (fun x => folded_tame h3 _ x) (fun _ x => folded_tame k3 _ x)) fun σ H Q h => rd_lc2 h) fun _ => rfl
      · have := evI_ok G I it' (C.blk s H _ cl Cc fp) _ _ k1
        rwa [k2] at this
      · have := (ev_ok G I e (C.blk s H _ cl Cc fp) _ h8).1
        rwa [h9] at this
    · cases h
theorem evL_ok (G : Ctx) (I : Inf) : ∀ (es : List CE) {F : Fr} {X : Cx} {sc : Scope} (C : Cok I G F X sc) (xs : List Expr), okL I sc es xs = true → PA X xs (RdL F (mdL es) (evL G es))
  | [], F, X, sc, C, xs, h => by
    cases xs with
    | nil => exact pl_nil
    | cons _ _ => unfold okL at h; cases h
  | e :: es, F, X, sc, C, xs, h => by
    cases xs with
    | nil => unfold okL at h; cases h
    | cons x xs =>
      unfold okL at h
      simp only [Bool.and_eq_true] at h
      exact pl_cons h.1.2 (ev_ok G I e C _ h.1.1).1 (evL_ok G I es C _ h.2)
theorem evO_ok (G : Ctx) (I : Inf) : ∀ (o : Option CE) {F : Fr} {X : Cx} {sc : Scope} (C : Cok I G F X sc) (x : Option Expr), okO I sc o x = true → PO X x (RdO F (evO G o))
  | none, F, X, sc, C, x, h => by
    cases x with
    | none => exact po_no
    | some _ => unfold okO at h; cases h
  | some e, F, X, sc, C, x, h => by
    cases x with
    | none => unfold okO at h; cases h
    | some x =>
      unfold okO at h
      simp only [Bool.and_eq_true] at h
      exact po_so h.1.2 (ev_ok G I e C _ h.1.1).1
theorem evC_ok (G : Ctx) (I : Inf) : ∀ (es : List CE) {F : Fr} {X : Cx} {sc : Scope} (C : Cok I G F X sc) (xs : List Expr), okC I sc es xs = true → PTs X xs (RdB F (evC G es))
  | [], F, X, sc, C, xs, h => by
    unfold okC at h
    cases xs with
    | nil => exact ⟨fun pins s σ H Q I ⟨Γ, R, rel, p⟩ => pts_nil.run pins s σ H Q I (p H R (.refl rel.sub))⟩
    | cons _ _ => cases h
  | e :: es, F, X, sc, C, xs, h => by
    unfold okC at h
    rw [Bool.and_eq_true] at h
    obtain ⟨h1, h2⟩ := h
    cases es with
    | cons _ _ => cases h1
    | nil =>
    split at h2
    · have t1 := pts_one (ev_ok G I e C _ h2).2
      refine ⟨fun pins s σ H Q I q => t1.run pins s σ H Q I ?_⟩
      obtain ⟨Γ, R, rel, p⟩ := q
      refine ⟨Γ, R, rel, ?_⟩
      have p : PostB F R σ H ((ev G e Γ).bind fun x => (isBl? x).bind fun c => if c then .ok true else .ok false) Q := p
      show PostB F R σ H ((ev G e Γ).bind isBl?) Q
      rw [← one_test]; exact p
    · cases h2
theorem evP_ok (G : Ctx) (I : Inf) : ∀ (it : CI) {F : Fr} {X : Cx} {sc : Scope} (C : Cok I G F X sc) (tg x : Expr), isRng it = true → okI I sc it tg x = true → PRg X x (RdP F (evI G it))
  | .rng1 b, F, X, sc, C, tg, x, _, h => by
    unfold okI at h
    split at h
    · simp only [Bool.and_eq_true, decide_eq_true_eq] at h
      obtain ⟨⟨⟨rfl, h1⟩, h2⟩, h3⟩ := h
      exact g_rng1 C h1 h3 (ev_ok G I b C _ h2).1
    · cases h
  | .rng2 a b, F, X, sc, C, tg, x, _, h => by
    unfold okI at h
    split at h
    · simp only [Bool.and_eq_true, decide_eq_true_eq] at h
      obtain ⟨⟨⟨⟨⟨rfl, h1⟩, h2⟩, h3⟩, h4⟩, h5⟩ := h
      exact g_rng2 C h1 h3 h5 (ev_ok G I a C _ h2).1 (ev_ok G I b C _ h4).1
    · cases h
  | .seq _, F, X, sc, C, tg, x, q, h => by cases q
  | .rng3 _ _ _, F, X, sc, C, tg, x, q, h => by cases q
  | .enum _, F, X, sc, C, tg, x, q, h => by cases q
  | .zip _ _, F, X, sc, C, tg, x, q, h => by cases q
  | .enumzip _ _, F, X, sc, C, tg, x, q, h => by cases q
  | .keys _, F, X, sc, C, tg, x, q, h => by cases q
theorem evI_ok (G : Ctx) (I : Inf) : ∀ (it : CI) {F : Fr} {X : Cx} {sc : Scope} (C : Cok I G F X sc) (tg x : Expr), okI I sc it tg x = true → PI X tg x (RdI F (mdI it) (evI G it))
  | .keys e, F, X, sc, C, tg, x, h => by
    unfold okI at h
    rw [Bool.and_eq_true] at h
    have m1 : md e = .e := by simpa using h.2
    have := (ev_ok G I e C _ h.1).1
    rw [m1] at this
    exact i_keys C this
  | .seq e, F, X, sc, C, tg, x, h => by
    unfold okI at h
    simp only [Bool.and_eq_true] at h
    exact i_seq C h.2 (ev_ok G I e C _ h.1).1
  | .rng1 b, F, X, sc, C, tg, x, h => by
    unfold okI at h
    split at h
    · simp only [Bool.and_eq_true, decide_eq_true_eq] at h
      obtain ⟨⟨⟨rfl, h1⟩, h2⟩, h3⟩ := h
      exact i_rng1 C h1 h3 (ev_ok G I b C _ h2).1
    · cases h
  | .rng2 a b, F, X, sc, C, tg, x, h => by
    unfold okI at h
    split at h
    · simp only [Bool.and_eq_true, decide_eq_true_eq] at h
      obtain ⟨⟨⟨⟨⟨rfl, h1⟩, h2⟩, h3⟩, h4⟩, h5⟩ := h
      exact i_rng2 C h1 h3 h5 (ev_ok G I a C _ h2).1 (ev_ok G I b C _ h4).1
    · cases h
  | .rng3 a b st, F, X, sc, C, tg, x, h => by
    unfold okI at h
    split at h
    · simp only [Bool.and_eq_true, decide_eq_true_eq] at h
      obtain ⟨⟨⟨⟨⟨⟨rfl, h1⟩, h2⟩, h3⟩, h4⟩, h5⟩, rfl⟩ := h
      exact i_rng3 C (c := .int _) (m := .e) h1 h3 h5 rfl (ev_ok G I a C _ h2).1 (ev_ok G I b C _ h4).1 (r_const pe_int fun R => rfl) fun Γ => rfl
    · simp only [Bool.and_eq_true, decide_eq_true_eq] at h
      obtain ⟨⟨⟨⟨⟨⟨rfl, h1⟩, h2⟩, h3⟩, h4⟩, h5⟩, rfl⟩ := h
      exact i_rng3 C (c := .neg (.int _)) (m := .e) h1 h3 h5 rfl (ev_ok G I a C _ h2).1 (ev_ok G I b C _ h4).1 (r_neg C (ga := ev G (.int _)) (r_const pe_int fun R => rfl)) fun Γ => rfl
    · cases h
  | .enum e, F, X, sc, C, tg, x, h => by
    unfold okI at h
    rw [Bool.and_eq_true] at h
    obtain ⟨ht, h⟩ := h
    split at h
    · simp only [Bool.and_eq_true, decide_eq_true_eq] at h
      obtain ⟨⟨⟨⟨rfl, h1⟩, h2⟩, h3⟩, h4⟩ := h
      cases tg <;> first | (cases ht; done) | skip
      exact i_enum C h1 h3 h4 (ev_ok G I e C _ h2).1
    · cases h
  | .zip a b, F, X, sc, C, tg, x, h => by
    unfold okI at h
    rw [Bool.and_eq_true] at h
    obtain ⟨ht, h⟩ := h
    split at h
    · simp only [Bool.and_eq_true, decide_eq_true_eq] at h
      obtain ⟨⟨⟨⟨⟨⟨rfl, h1⟩, h2⟩, h3⟩, h4⟩, h5⟩, h6⟩ := h
      cases tg <;> first | (cases ht; done) | skip
      exact i_zip C h1 h3 h5 (sup_l _ _) (sup_r _ _) h6 (ev_ok G I a C _ h2).1 (ev_ok G I b C _ h4).1
    · cases h
  | .enumzip _ _, F, X, sc, C, tg, x, h => by unfold okI at h; cases h
end
end
end Bw
end

section
set_option autoImplicit false
set_option linter.all false
/-! Bw W: statements. -/
namespace Bw
open PySem L2
structure Sok (I : Inf) (G : Ctx) (F : Fr) (X : Cx) (sc : Scope) : Prop extends Cok I G F X sc where
  bk : X.env.blockKind = .function
  pass : PassesOwn (model X.prog X.w) X.A X.env X.xe
  stk : X.stack = X.env :: X.outer
  frm : X.env.frame = some X.env.locals
/-- what is wanted behind a suite -/
def PostS (F : Fr) (D : Ends) (R : Hp) (o : Out) : Prop := match o with
  | .nx Γ => ∀ σ H R', RelR F.K F.H0 F.R0 R' Γ σ H → Sub R R' → D.nx σ H
  | .brk Γ => ∀ σ H R', RelR F.K F.H0 F.R0 R' Γ σ H → Sub R R' → D.bk σ H
  | .cont Γ => ∀ σ H R', RelR F.K F.H0 F.R0 R' Γ σ H → Sub R R' → D.ct σ H
  | .ret s => ∀ v Γ σ H R', RelR F.K F.H0 F.R0 R' Γ σ H → Sub R R' → Rm F R' H .f s v → D.rt v H
  | .exc c Γ => ∀ σ H R', RelR F.K F.H0 F.R0 R' Γ σ H → Sub R R' → F.W (F.cls c) none σ H
  | .bad => False
theorem PostS.sub {F : Fr} {D : Ends} {R R1 : Hp} {o : Out} (h : PostS F D R o) (g : Sub R R1) : PostS F D R1 o := by
  cases o with
  | nx Γ => exact fun σ H R' r s => h σ H R' r (g.trans s)
  | brk Γ => exact fun σ H R' r s => h σ H R' r (g.trans s)
  | cont Γ => exact fun σ H R' r s => h σ H R' r (g.trans s)
  | ret x => exact fun v Γ σ H R' r s q => h v Γ σ H R' r (g.trans s) q
  | exc c Γ => exact fun σ H R' r s => h σ H R' r (g.trans s)
  | bad => exact h
theorem PostS.next {F : Fr} {D : Ends} {R : Hp} {o : Out} {k : Gm → Out} (h : PostS F D R (o.next k)) : PostS F { D with nx := fun σ H => ∃ Γ R', RelR F.K F.H0 F.R0 R' Γ σ H ∧ PostS F D R' (k Γ) } R o := by
  cases o with
  | nx Γ => exact fun σ H R' r s => ⟨Γ, R', r, PostS.sub (o := k Γ) h s⟩
  | _ => exact h
theorem PostS.loop {F : Fr} {D : Ends} {R : Hp} {o : Out} {k : Gm → Out} {N : L2.St → Hp → Prop} (h : PostS F D R (o.loop k)) (hN : ∀ σ H Γ R', RelR F.K F.H0 F.R0 R' Γ σ H → Sub R R' → PostS F D R' (k Γ) → N σ H) : PostS F { D with nx := N, ct := N, bk := D.nx } R o := by
  cases o with
  | nx Γ => exact fun σ H R' r s => hN σ H Γ R' r s (PostS.sub (o := k Γ) h s)
  | cont Γ => exact fun σ H R' r s => hN σ H Γ R' r s (PostS.sub (o := k Γ) h s)
  | _ => exact h
/-- the reading of a suite -/
def RdS (F : Fr) (g : Gm → Out) : TS := fun D σ H => ∃ Γ R, RelR F.K F.H0 F.R0 R Γ σ H ∧ PostS F D R (g Γ)
theorem psImp {X : Cx} {e : Stmt} {t t' : TS} (h : PS X e t) (k : ∀ D σ H, t' D σ H → t D σ H) : PS X e t' := ⟨fun pins s σ H D I q => h.run pins s σ H D I (k D σ H q)⟩
theorem pssImp {X : Cx} {e : List Stmt} {t t' : TS} (h : PSs X e t) (k : ∀ D σ H, t' D σ H → t D σ H) : PSs X e t' := ⟨fun pins s σ H D I q => h.run pins s σ H D I (k D σ H q)⟩
/-- an expression, then what is done with its value -/
theorem out_post {F : Fr} {D : Ends} {R H : Hp} {σ : L2.St} {Γ : Gm} {m : Md} {r : Res SV} {k : SV → Out} (rel : RelR F.K F.H0 F.R0 R Γ σ H) (h : PostS F D R (r.out Γ k)) :
    Post F m R σ H r (fun v H1 => ∃ s R1, Grow H R H1 R1 ∧ Rm F R1 H1 m s v ∧ PostS F D R1 (k s)) := by
  cases r with
  | ok s => exact fun v H1 R1 g rv => ⟨s, R1, g, rv, PostS.sub (o := k s) h g.reg⟩
  | exc c => exact fun H1 R1 g => h σ H1 R1 (rel.grow g) g.reg
  | bad => exact h
theorem out_postL {F : Fr} {D : Ends} {R H : Hp} {σ : L2.St} {Γ : Gm} {m : Md} {r : Res (List SV)} {k : List SV → Out} (rel : RelR F.K F.H0 F.R0 R Γ σ H) (h : PostS F D R (r.out Γ k)) :
    PostL F m R σ H r (fun v H1 => ∃ s R1, r = .ok s ∧ Grow H R H1 R1 ∧ Rms F R1 H1 m s v ∧ PostS F D R1 (k s)) := by
  cases r with
  | ok s => exact fun v H1 R1 g rv => ⟨s, R1, rfl, g, rv, PostS.sub (o := k s) h g.reg⟩
  | exc c => exact fun H1 R1 g => h σ H1 R1 (rel.grow g) g.reg
  | bad => exact h
theorem out_postB {F : Fr} {D : Ends} {R H : Hp} {σ : L2.St} {Γ : Gm} {r : Res Bool} {k : Bool → Out} (rel : RelR F.K F.H0 F.R0 R Γ σ H) (h : PostS F D R (r.out Γ k)) :
    PostB F R σ H r (fun b H1 => ∃ R1, Grow H R H1 R1 ∧ PostS F D R1 (k b)) := by
  cases r with
  | ok s => exact fun H1 R1 g => ⟨R1, g, PostS.sub (o := k s) h g.reg⟩
  | exc c => exact fun H1 R1 g => h σ H1 R1 (rel.grow g) g.reg
  | bad => exact h
theorem out_bl {r : Res SV} {Γ : Gm} {k : Bool → Out} : (r.out Γ fun x => (isBl? x).out Γ k) = (r.bind isBl?).out Γ k := by
  cases r with
  | ok s => rfl
  | exc c => rfl
  | bad => rfl
/-- a new own list in the place i -/
theorem RelR.ownNew {K : Fr'} {H0 R0 R : Hp} {Γ : Gm} {σ : L2.St} {H : Hp} {i : Nat} {w : SV} {p : Addr} (r : RelR K H0 R0 R Γ σ H) (h1 : TopAt K R H p w) (h4 : R p = none) (h5 : H0 p = none)
    (h6 : ∀ (j : Nat) (s : SV), j ≠ i → Γ[j]? = some (.ow s) → σ[j]? = some (some (.ref p)) → False) : RelR K H0 R0 R (Γ.set i (.ow w)) (σ.set i (some (.ref p))) H := by
  have ne : ∀ {j : Nat} {b : Bx}, (Γ.set i (.ow w))[j]? = some b → (j = i ∧ b = .ow w ∧ i < Γ.length) ∨ (i ≠ j ∧ Γ[j]? = some b) := fun {j b} e => by
    by_cases c : i = j
    · subst c
      by_cases l : i < Γ.length
      · rw [List.getElem?_set_self l] at e; cases e; exact .inl ⟨rfl, rfl, l⟩
      · rw [List.getElem?_eq_none (by rw [List.length_set]; omega)] at e; cases e
    · rw [List.getElem?_set_ne c] at e; exact .inr ⟨c, e⟩
  refine ⟨r.same, r.sub, r.sub0, r.old, fun j t e => ?_, fun j t e => ?_, fun j k t u a n e1 e2 e3 e4 => ?_, by rw [List.length_set, List.length_set]; exact r.len⟩
  · rcases ne e with ⟨rfl, e1, l⟩ | ⟨c, e1⟩
    · cases e1
    · rw [List.getElem?_set_ne c]; exact r.slot j t e1
  · rcases ne e with ⟨rfl, e1, l⟩ | ⟨c, e1⟩
    · cases e1; exact ⟨p, List.getElem?_set_self (by rw [← r.len]; exact l), h1, h4, h5⟩
    · rw [List.getElem?_set_ne c]; exact r.own j t e1
  · rcases ne e1 with ⟨q1, _, l1⟩ | ⟨c, q⟩
    · rcases ne e2 with ⟨q2, _, _⟩ | ⟨c2, q2⟩
      · exact n (q1.trans q2.symm)
      · subst q1
        rw [List.getElem?_set_self (by rw [← r.len]; exact l1)] at e3
        rw [List.getElem?_set_ne c2] at e4
        cases e3
        exact h6 k u (Ne.symm c2) q2 e4
    · rcases ne e2 with ⟨q2, _, l2⟩ | ⟨c2, q2⟩
      · subst q2
        rw [List.getElem?_set_self (by rw [← r.len]; exact l2)] at e4
        rw [List.getElem?_set_ne c] at e3
        cases e4
        exact h6 j t (Ne.symm c) q e3
      · rw [List.getElem?_set_ne c] at e3
        rw [List.getElem?_set_ne c2] at e4
        exact r.apart j k t u a n q q2 e3 e4
/-- what is own in the place i, changed -/
theorem RelR.ownSetX {K : Fr'} {H0 R0 R : Hp} {Γ : Gm} {σ : L2.St} {H : Hp} {i : Nat} {q w : SV} {o : HO} {a : Addr} (r : RelR K H0 R0 R Γ σ H) (hi : Γ[i]? = some (.ow q)) (hs : σ[i]? = some (some (.ref a))) (h2 : TopAt K R (upd H a o) a w) : RelR K H0 R0 R (Γ.set i (.ow w)) σ (upd H a o) := by
  obtain ⟨b, e1, e2, e5, e6⟩ := r.own i _ hi
  rw [hs] at e1
  cases e1
  have hil : i < Γ.length := (List.getElem?_eq_some_iff.mp hi).1
  have ne : ∀ {j : Nat} {b : Bx}, (Γ.set i (.ow w))[j]? = some b → (j = i ∧ b = .ow w) ∨ (i ≠ j ∧ Γ[j]? = some b) := fun {j b} e => by
    by_cases c : i = j
    · subst c; rw [List.getElem?_set_self hil] at e; cases e; exact .inl ⟨rfl, rfl⟩
    · rw [List.getElem?_set_ne c] at e; exact .inr ⟨c, e⟩
  have own : ∀ {j : Nat} {t : SV}, (Γ.set i (.ow w))[j]? = some (.ow t) → ∃ t', Γ[j]? = some (.ow t') := fun {j t} e => by
    rcases ne e with ⟨rfl, _⟩ | ⟨_, q⟩
    · exact ⟨_, hi⟩
    · exact ⟨_, q⟩
  refine ⟨fun x o e => ?_, fun x o e => ?_, r.sub0, r.old, fun j t e => ?_, fun j t e => ?_, fun j k t u x n q1 q2 q3 q4 => ?_, by rw [List.length_set]; exact r.len⟩
  · rw [upd_ne (ne_of_none e e6)]; exact r.same _ _ e
  · rw [upd_ne (ne_of_none e e5)]; exact r.sub _ _ e
  · rcases ne e with ⟨rfl, q⟩ | ⟨c, q⟩
    · cases q
    · exact r.slot j t q
  · rcases ne e with ⟨rfl, q⟩ | ⟨c, q⟩
    · cases q; exact ⟨a, hs, h2, e5, e6⟩
    · obtain ⟨b, f1, f2, f5, f6⟩ := r.own j t q
      have nb : b ≠ a := fun z => by
        subst z
        exact r.apart i j _ _ _ c hi q hs f1
      exact ⟨b, f1, f2.mono .refl fun o e => by rw [upd_ne nb]; exact e, f5, f6⟩
  · obtain ⟨t', q1'⟩ := own q1
    obtain ⟨u', q2'⟩ := own q2
    exact r.apart j k _ _ x n q1' q2' q3 q4
theorem RelR.ownSet {K : Fr'} {H0 R0 R : Hp} {Γ : Gm} {σ : L2.St} {H : Hp} {i : Nat} {qs ps : List PV} {vs : List V} {a : Addr} (r : RelR K H0 R0 R Γ σ H) (hi : Γ[i]? = some (.ow (.d (.lst qs)))) (hs : σ[i]? = some (some (.ref a))) (h2 : RpL K R ps vs) (h3 : ps.length ≤ line) : RelR K H0 R0 R (Γ.set i (.ow (.d (.lst ps)))) σ (upd H a (.lst vs)) :=
  r.ownSetX hi hs ⟨vs, upd_same .., h2, h3⟩
/-- what is own in the place i becomes known, as o' -/
theorem RelR.frzG {K : Fr'} {H0 R0 R : Hp} {Γ : Gm} {σ : L2.St} {H : Hp} {i : Nat} {s s' : SV} {a : Addr} {o' : HO} (r : RelR K H0 R0 R Γ σ H) (hi : Γ[i]? = some (.ow s)) (e1 : σ[i]? = some (some (.ref a))) (e5 : R a = none) (e6 : H0 a = none) (kn : RpS K (upd R a o') s' (.ref a)) :
    Sub R (upd R a o') ∧ RelR K H0 R0 (upd R a o') (Γ.set i (.sh s')) σ (upd H a o') := by
  have hil : i < Γ.length := (List.getElem?_eq_some_iff.mp hi).1
  have sb : Sub R (upd R a o') := sub_upd e5
  have ne : ∀ {j : Nat} {b : Bx}, (Γ.set i (.sh s'))[j]? = some b → (j = i ∧ b = .sh s') ∨ (i ≠ j ∧ Γ[j]? = some b) := fun {j b} e => by
    by_cases c : i = j
    · subst c; rw [List.getElem?_set_self hil] at e; cases e; exact .inl ⟨rfl, rfl⟩
    · rw [List.getElem?_set_ne c] at e; exact .inr ⟨c, e⟩
  refine ⟨sb, fun x u e => ?_, fun x u e => ?_, r.sub0.trans sb, fun x n => ?_, fun j t e => ?_, fun j t e => ?_, fun j k t u x n q1 q2 q3 q4 => ?_, by rw [List.length_set]; exact r.len⟩
  · rw [upd_ne (fun c => by rw [c, e6] at e; cases e)]; exact r.same _ _ e
  · by_cases c : x = a
    · subst c; rw [upd_same] at e ⊢; exact e
    · rw [upd_ne c] at e ⊢; exact r.sub _ _ e
  · have c : x ≠ a := fun c => n (c ▸ e6)
    rw [upd_ne c]; exact r.old x n
  · rcases ne e with ⟨rfl, q⟩ | ⟨c, q⟩
    · cases q; exact ⟨_, e1, kn⟩
    · obtain ⟨v, f1, f2⟩ := r.slot j t q; exact ⟨v, f1, f2.mono sb⟩
  · rcases ne e with ⟨rfl, q⟩ | ⟨c, q⟩
    · cases q
    · obtain ⟨b, f1, f2, f5, f6⟩ := r.own j t q
      have nb : b ≠ a := fun z => by
        subst z
        exact r.apart i j _ _ _ c hi q e1 f1
      refine ⟨b, f1, f2.mono sb fun o e => by rw [upd_ne nb]; exact e, ?_, f6⟩
      rw [upd_ne nb]; exact f5
  · rcases ne q1 with ⟨_, z⟩ | ⟨c, z⟩
    · cases z
    rcases ne q2 with ⟨_, z2⟩ | ⟨c2, z2⟩
    · cases z2
    exact r.apart j k t u x n z z2 q3 q4
/-- what is own in the place i becomes known -/
theorem RelR.frz {K : Fr'} {H0 R0 R : Hp} {Γ : Gm} {σ : L2.St} {H : Hp} {i : Nat} {s : SV} (r : RelR K H0 R0 R Γ σ H) (hi : Γ[i]? = some (.ow s)) : ∃ R', Sub R R' ∧ RelR K H0 R0 R' (Γ.set i (.sh s)) σ H := by
  obtain ⟨a, e1, e2, e5, e6⟩ := r.own i _ hi
  obtain ⟨o, ho, kn⟩ := e2.obj
  obtain ⟨sb, q⟩ := r.frzG (o' := o) hi e1 e5 e6 (kn _ (sub_upd e5) (upd_same ..))
  have e : upd H a o = H := by
    funext x
    unfold upd
    split
    · rename_i c; rw [c, ho]
    · rfl
  rw [e] at q
  exact ⟨_, sb, q⟩
/-- a dict with other keys is locked -/
theorem RelR.frzX {K : Fr'} {H0 R0 R : Hp} {Γ : Gm} {σ : L2.St} {H : Hp} {i : Nat} {b : Bool} {kvs : List (PV × PV)} (r : RelR K H0 R0 R Γ σ H) (hi : Γ[i]? = some (.ow (.dX b kvs))) :
    ∃ a es, H a = some (DX a es) ∧ ∀ od, ∃ R', Sub R R' ∧ RelR K H0 R0 R' (Γ.set i (.sh (.dX true kvs))) σ (upd H a (.frz od (DX a es))) := by
  obtain ⟨a, e1, e2, e5, e6⟩ := r.own i _ hi
  cases b with
  | true => exact e2.elim
  | false =>
    obtain ⟨es, h, q, z, y⟩ := e2
    exact ⟨a, es, h, fun od => ⟨_, r.frzG (o' := .frz od (DX a es)) hi e1 e5 e6 ⟨a, es, rfl, ⟨od, upd_same ..⟩, z, y, q.mono (sub_upd e5)⟩⟩⟩
section
variable {I : Inf} {G : Ctx} {F : Fr} {X : Cx} {sc : Scope} {pos : Pos}
/-- a list display as a new list -/
theorem n_lst {es : List CE} {xs : List Expr} (he : es.length ≤ 1000) (h : PA X xs (RdL F .e (evL G es))) : PE X (.List xs pos) (RdN F (ev G (.lst es))) :=
  peImp (pe_lst h) fun σ H Q ⟨Γ, R, rel, p⟩ => ⟨Γ, R, rel, by
    have p : PostN F R σ H ((evL G es Γ).bind fun ss => (datas? ss).bind fun ps => .ok (.d (.lst ps))) Q := p
    cases e : evL G es Γ with
    | bad => rw [e] at p; exact p.elim
    | exc c => rw [e] at p; exact p
    | ok ss =>
      rw [e] at p
      have p : PostN F R σ H ((datas? ss).bind fun ps => .ok (.d (.lst ps))) Q := p
      rcases datas_exc ss with ⟨ps, e2⟩ | e2
      · rw [e2] at p
        intro vs H1 R1 g1 rv
        have hl : vs.length = es.length := by rw [rms_len rv, evL_len e]
        refine ⟨by rw [hl]; exact Nat.le_trans he (by decide), fun q hq => ?_⟩
        have gg := Grow.hid g1.sub hq (HO.lst vs)
        refine p q _ R1 vs (g1.trans gg) ?_ (upd_same ..) ?_ (rms_data rv e2) (by rw [data_len e2, evL_len e]; unfold line; omega)
        · cases z : H q with
          | none => rfl
          | some o => rw [g1.same _ _ z] at hq; cases hq
        · cases z : R1 q with
          | none => rfl
          | some o => rw [g1.sub _ _ z] at hq; cases hq
      · rw [e2] at p; exact p.elim⟩
theorem PostN.grow {R R1 H H1 : Hp} {σ : L2.St} {r : Res SV} {Q : VK} (h : PostN F R σ H r Q) (g : Grow H R H1 R1) : PostN F R1 σ H1 r Q := by
  cases r with
  | ok s =>
    cases s with
    | d q =>
      cases q <;> first | exact False.elim h | skip
      refine fun p H' R' vs g' e => h p H' R' vs (g.trans g') ?_
      cases z : H p with
      | none => rfl
      | some o => rw [g.same _ _ z] at e; cases e
    | dK q =>
      refine fun p H' R' vs g' e => h p H' R' vs (g.trans g') ?_
      cases z : H p with
      | none => rfl
      | some o => rw [g.same _ _ z] at e; cases e
    | dX b q =>
      cases b with
      | true => exact False.elim h
      | false =>
        refine fun p H' R' vs g' e => h p H' R' vs (g.trans g') ?_
        cases z : H p with
        | none => rfl
        | some o => rw [g.same _ _ z] at e; cases e
    | _ => exact False.elim h
  | exc c => exact fun H' R' g' => h H' R' (g.trans g')
  | bad => exact h
theorem postn_bind {m : Md} {R H : Hp} {σ : L2.St} {r : Res SV} {f : SV → Res SV} {Q : VK} (h : PostN F R σ H (r.bind f) Q) :
    Post F m R σ H r (fun x H1 => ∃ s R1, Grow H R H1 R1 ∧ Rm F R1 H1 m s x ∧ PostN F R1 σ H1 (f s) Q) := by
  cases r with
  | ok s => exact fun v H1 R1 g rv => ⟨s, R1, g, rv, PostN.grow (r := f s) h g⟩
  | exc c => exact h
  | bad => exact h
/-- xs + ys as a new list -/
theorem n_add (C : Cok I G F X sc) {ga gb : Gm → Res SV} {y z : Expr} {ma mb : Md} (la : ma.le .t = true) (lb : mb.le .t = true) (ha : PE X y (Rd' F ma ga)) (hb : PE X z (Rd' F mb gb)) :
    PE X (.BinOp y .Add z pos) (RdN F fun Γ => (ga Γ).bind fun x => (gb Γ).bind fun y => binop .add x y) := by
  refine peImp (pe_op op_cat (peLe ha la) (peLe hb lb)) fun σ H Q ⟨Γ, R, rel, p⟩ => ⟨Γ, R, rel, (postn_bind (m := .t) p).mono fun x H1 ⟨s, R1, g1, rx, p1⟩ => ⟨Γ, R1, rel.grow g1, (postn_bind (m := .t) p1).mono fun w H2 ⟨t, R2, g2, rw', p2⟩ => ?_⟩⟩
  have rx := rx.grow g2
  clear p1 p
  cases s with
  | d q1 =>
    cases t with
    | d q2 =>
      cases q1 with
      | str a =>
        cases q2 with
        | str b =>
          have p2 : PostN F R2 σ H2 (if a.length + b.length ≤ line then .ok (.d (.str (a ++ b))) else .bad) Q := p2
          split at p2 <;> exact False.elim p2
        | _ => exact False.elim p2
      | tup xs =>
        cases q2 with
        | tup ys =>
          have p2 : PostN F R2 σ H2 ((chk (xs ++ ys)).bind fun zs => .ok (.d (.tup zs))) Q := p2
          unfold chk at p2
          split at p2 <;> exact False.elim p2
        | _ => exact False.elim p2
      | lst xs =>
        cases q2 with
        | lst ys =>
          obtain ⟨a1, vs1, rfl, s1, r1, z1⟩ := rx.lst g2.sub
          obtain ⟨a2, vs2, rfl, s2, r2, z2⟩ := rw'.lst g2.sub
          have p2 : PostN F R2 σ H2 ((chk (xs ++ ys)).bind fun zs => .ok (.d (.lst zs))) Q := p2
          unfold chk at p2
          by_cases c : (xs ++ ys).length ≤ line
          · rw [if_pos c] at p2
            have l1 := r1.len
            have l2 := r2.len
            have c' : xs.length + ys.length ≤ line := by simpa using c
            refine ⟨a1, a2, vs1, vs2, rfl, rfl, s1, s2, by rw [← line_eq]; omega, fun q hq => ?_⟩
            refine p2 q _ R2 (vs1 ++ vs2) (Grow.hid g2.sub hq _) hq (upd_same ..) ?_ (r1.append r2) c
            cases e : R2 q with
            | none => rfl
            | some o => rw [g2.sub _ _ e] at hq; cases hq
          · rw [if_neg c] at p2; exact False.elim p2
        | _ => exact False.elim p2
      | _ => cases q2 <;> exact False.elim p2
    | _ => cases q1 <;> exact False.elim p2
  | _ => cases t <;> exact False.elim p2
def isComp : Expr → Bool
  | .ListComp _ _ _ _ => true
  | .SetComp _ _ _ _ => true
  | .DictComp _ _ _ _ _ => true
  | _ => false
theorem swaps_no {e : Expr} (h : isComp e = false) (t : Option Expr) (n : Nat) (env : PySem.Env) : swapsWith e t n env = pure false := by
  cases e <;> first | (cases h; done) | rfl
/-- a comprehension on the line of the local name that it is stored in -/
def swB (sc : Scope) (t : Str) (tp : Pos) : Expr → Bool
  | .ListComp _ _ s p => sc.names.lookup t == some .local && tp.line == p.line && !(s.names.any fun (n, k) => n == t && (k == .local || k == .cell))
  | .SetComp _ s _ p => true
  | .DictComp _ _ _ s p => true
  | _ => false
theorem swaps_lc (C : Sok I G F X sc) {elt : Expr} {gs : List Comprehension} {s : Scope} {p tp : Pos} {t : Str} {n : Nat} (h : locB sc t = true) : swapsWith (.ListComp elt gs s p) (some (.Name t tp)) n X.env = pure (swB sc t tp (.ListComp elt gs s p)) := by
  have hk : (X.env.kindOf t == some NameKind.local) = (sc.names.lookup t == some NameKind.local) := by
    unfold locB at h
    show (X.env.scope.names.lookup t == some NameKind.local) = _
    split at h
    · rename_i e
      rcases C.sc _ _ e with q | ⟨q, _⟩
      · rw [q, e]
      · cases q
    · rename_i e
      rcases C.sc _ _ e with q | ⟨q, _⟩
      · rw [q, e]
      · cases q
    · cases h
  show (pure (X.env.blockKind == .function && X.env.kindOf t == some .local && tp.line == p.line && !(s.names.any fun (n, k) => n == t && (k == .local || k == .cell))) : Sem Bool) = _
  rw [C.bk, hk]
  rfl
def swD (sc : Scope) (t : Str) (tp : Pos) : Expr → Bool
  | .DictComp _ _ _ s p => sc.names.lookup t == some .local && tp.line == p.line && !(s.names.any fun (n, k) => n == t && (k == .local || k == .cell))
  | _ => false
theorem swaps_dc (C : Sok I G F X sc) {kx vx : Expr} {gs : List Comprehension} {s : Scope} {p tp : Pos} {t : Str} {n : Nat} (h : locB sc t = true) : swapsWith (.DictComp kx vx gs s p) (some (.Name t tp)) n X.env = pure (swD sc t tp (.DictComp kx vx gs s p)) := by
  have hk : (X.env.kindOf t == some NameKind.local) = (sc.names.lookup t == some NameKind.local) := by
    unfold locB at h
    show (X.env.scope.names.lookup t == some NameKind.local) = _
    split at h
    · rename_i e
      rcases C.sc _ _ e with q | ⟨q, _⟩
      · rw [q, e]
      · cases q
    · rename_i e
      rcases C.sc _ _ e with q | ⟨q, _⟩
      · rw [q, e]
      · cases q
    · cases h
  show (pure (X.env.blockKind == .function && X.env.kindOf t == some .local && tp.line == p.line && !(s.names.any fun (n, k) => n == t && (k == .local || k == .cell))) : Sem Bool) = _
  rw [C.bk, hk]
  rfl
end
end Bw
end

section
set_option autoImplicit false
set_option linter.all false
/-! Bw W2: raise, try. -/
namespace Bw
open PySem L2
section
variable {I : Inf} {G : Ctx} {F : Fr} {X : Cx} {sc : Scope} {pos : Pos}
theorem s_raise (C : Sok I G F X sc) {k j : Nat} {n m : Str} {p1 p2 p3 : Pos} (h1 : I.exs[k]? = some n) (h2 : glB sc n = true) (h3 : nmB n = true) : PS X (.Raise (some (.Call (.Name n p1) [.Constant (.str m) j p2] [] p3)) none pos) (RdS F (run G (.raise k))) := by
  obtain ⟨Ca, e1, e2, e3, e4, e5, e6⟩ := C.exs k n h1
  refine psImp (ps_raise C.calm C.takes (pmk_own PySem.F.excBase_ValueError e6 e2 e3 (raises_own e4 e5) (gl_of C.toCok h2) (nm_dest h3).1)) fun D σ H ⟨Γ, R, rel, p⟩ => ?_
  have q := p σ H R rel .refl
  rw [e1] at q
  exact q
/-- what a clause does, told alone -/
noncomputable def hbR (G : Ctx) : HB → Gm → Out
  | .retc e, Γ => (ev G e Γ).out Γ fun s => .ret s
  | .cont, Γ => .cont Γ
  | _, _ => .bad
/-- a value written out -/
def okK : CE → Expr → Bool
  | .int i, .Constant (.int j) _ _ => decide (i = j)
  | .str s, .Constant (.str z) _ _ => decide (s = z) && decide (s.length ≤ line)
  | .bl b, .Constant (.bool c) _ _ => b == c
  | .non, .Constant .none _ _ => true
  | _, _ => false
theorem okK_ok {e : CE} {y : Expr} (h : okK e y = true) : PE X y (Rd' F .e (ev G e)) := by
  unfold okK at h
  split at h
  · rw [decide_eq_true_eq] at h; subst h; exact r_const pe_int fun R => rfl
  · rw [Bool.and_eq_true, decide_eq_true_eq, decide_eq_true_eq] at h
    obtain ⟨rfl, h⟩ := h
    exact r_const pe_str fun R => ⟨rfl, h⟩
  · have h := eq_of_beq h; subst h; exact r_const pe_bl fun R => rfl
  · exact r_const pe_non fun R => rfl
  · cases h
def okHB : HB → List Stmt → Bool
  | .retc e, [.Return (some y) _] => okK e y
  | .cont, [.Continue _] => true
  | _, _ => false
theorem hb_ok {h : HB} {b : List Stmt} (k : okHB h b = true) : (∃ s ss, b = s :: ss) ∧ PSs X b (RdS F (hbR G h)) := by
  unfold okHB at k
  split at k
  · refine ⟨⟨_, _, rfl⟩, pssImp (pss_cons (ps_ret (okK_ok (F := F) (G := G) k)) pss_nil) fun D σ H ⟨Γ, R, rel, p⟩ => ⟨Γ, R, rel, ?_⟩⟩
    exact (out_post (m := .e) rel p).mono fun v H1 ⟨s, R1, g, rv, q⟩ => q _ _ _ _ R1 (rel.grow g) .refl (rv.le g.sub (le_f _))
  · exact ⟨⟨_, _, rfl⟩, pssImp (pss_cons ps_continue pss_nil) fun D σ H ⟨Γ, R, rel, p⟩ => p σ H R rel .refl⟩
  · cases k
def okHs (I : Inf) (sc : Scope) : List (Nat × HB) → List ExceptHandler → Bool
  | [], [] => true
  | (k, h) :: hs, .ExceptHandler (some (.Name x _)) none b _ :: xs => decide (I.exs[k]? = some x) && glB sc x && nmB x && okHB h b && okHs I sc hs xs
  | _, _ => false
def hbTs (F : Fr) (G : Ctx) (hs : List (Nat × HB)) : List (Value × (Addr → Value → Option Addr → TS)) := hs.map fun h => (F.cls h.1, fun _ _ _ => RdS F (hbR G h.2))
theorem hds_ok (C : Sok I G F X sc) : ∀ {hs : List (Nat × HB)} {xs : List ExceptHandler}, okHs I sc hs xs = true → HdsOk X xs (hbTs F G hs)
  | [], [], _ => .nil
  | (k, h) :: hs, xs, q => by
    unfold okHs at q
    split at q
    · rename_i e1 e2; cases e2
    · rename_i k' h' hs' x np b p' xs' e1
      cases e1
      simp only [Bool.and_eq_true, decide_eq_true_eq] at q
      obtain ⟨⟨⟨⟨q1, q2⟩, q3⟩, q4⟩, q5⟩ := q
      obtain ⟨Ca, e1, e2, e3, e4, e5, e6⟩ := C.exs _ _ q1
      obtain ⟨⟨s, ss, rfl⟩, _⟩ := hb_ok (X := X) (F := F) (G := G) q4
      exact .cons ⟨gl_of C.toCok q2, (nm_dest q3).1, .inl (by rw [e2, e1])⟩ (fun a oe cls d pn _ _ => (hb_ok q4).2) (hds_ok C q5)
    · cases q
  | [], _ :: _, q => by cases q
def HB.ris : HB → Bool
  | .risa _ _ => true
  | .rife _ _ _ _ => true
  | _ => false
theorem okHs_ris : ∀ {hs : List (Nat × HB)} {xs : List ExceptHandler}, okHs I sc hs xs = true → (hs.all fun h => !h.2.ris) = true
  | [], _, _ => rfl
  | (k, h) :: hs, xs, q => by
    unfold okHs at q
    split at q
    · rename_i e1 e2; cases e2
    · rename_i k' h' hs' x np b p' xs' e1
      cases e1
      simp only [Bool.and_eq_true, decide_eq_true_eq] at q
      obtain ⟨⟨⟨⟨q1, q2⟩, q3⟩, q4⟩, q5⟩ := q
      rw [List.all_cons, okHs_ris q5, Bool.and_true]
      cases h <;> first | rfl | (unfold okHB at q4; split at q4 <;> simp_all)
    · cases q
theorem caught_ok (C : Sok I G F X sc) {c : Nat} {Γ : Gm} {D : Ends} {R H : Hp} {σ : L2.St} (rel : RelR F.K F.H0 F.R0 R Γ σ H) : ∀ {hs : List (Nat × HB)}, (hs.all fun h => !h.2.ris) = true → PostS F D R (caught G c Γ hs) → wMany X.K F.W D (hbTs F G hs) (F.cls c) none σ H
  | [], _, p => p σ H R rel .refl
  | (k, h) :: hs, hq, p => by
    rw [List.all_cons, Bool.and_eq_true] at hq
    have ih := @caught_ok C c Γ D R H σ rel hs
    unfold caught at p
    cases e : G.sub c k with
    | none => rw [e] at p; exact p.elim
    | some b =>
      refine ⟨b, (C.sub c k b e).1, fun hb a _ => ?_, fun hb => ?_⟩
      · subst hb
        rw [e] at p
        refine ⟨Γ, R, rel, ?_⟩
        cases h with
        | retc e => exact p
        | cont => exact p
        | risa i k' => exact absurd hq.1 (by simp [HB.ris])
        | rife i k' a b => exact absurd hq.1 (by simp [HB.ris])
      · subst hb
        rw [e] at p
        exact ih hq.2 p
theorem Sok.tr (C : Sok I G F X sc) {W : WX} {pn : List (Addr × Obj)} {xe : Value → Shared → Prop} (tk : Takes (X.tr pn xe) W) (ps : PassesOwn (model X.prog X.w) X.A X.env xe) : Sok I G { F with W := W } (X.tr pn xe) sc where
  hK := C.hK
  hN := C.hN
  nd := C.nd
  calm := C.calm
  un := C.un
  fnc := C.fnc
  sc := C.sc
  bl := C.bl
  cons := C.cons
  fns := C.fns
  takes := tk
  exs := C.exs
  sub := C.sub
  bk := C.bk
  pass := ps
  stk := C.stk
  frm := C.frm
theorem s_try (C : Sok I G F X sc) {body : List CS} {hs : List (Nat × HB)} {b : List Stmt} {x : ExceptHandler} {xs : List ExceptHandler} (hb : ∀ {F' : Fr} {X' : Cx}, Sok I G F' X' sc → PSs X' b (RdS F' (runs G body))) (hh : okHs I sc hs (x :: xs) = true) :
    PS X (.Try b (x :: xs) [] [] pos) (RdS F (run G (.try body hs))) := by
  refine psImp (ps_try_many (tb := fun W => RdS { F with W := W } (runs G body)) C.stk C.frm C.takes (fun W pn xe tk ps => hb (C.tr tk ps)) (hds_ok C hh)) fun D σ H ⟨Γ, R, rel, p⟩ => ⟨Γ, R, rel, ?_⟩
  have p : PostS F D R (match runs G body Γ with
    | .exc c Γ' => caught G c Γ' hs
    | o => o) := p
  cases e : runs G body Γ with
  | exc c Γ' =>
    rw [e] at p
    exact fun σ' H' R' r s => caught_ok C r (okHs_ris hh) (PostS.sub (o := caught G c Γ' hs) p s)
  | nx Γ' => rw [e] at p; exact p
  | brk Γ' => rw [e] at p; exact p
  | cont Γ' => rw [e] at p; exact p
  | ret s => rw [e] at p; exact p
  | bad => rw [e] at p; exact p.elim
def okAs (I : Inf) (sc : Scope) : List (Nat × HB) → List ExceptHandler → Bool
  | [(k, .risa i k')], [.ExceptHandler (some (.Name x _)) (some n) [.Return (some (.Call (.Name f _) [.Name n' _, .Name y _] [] _)) _] _] =>
    decide (I.exs[k]? = some x) && glB sc x && nmB x && decide (I.exs[k']? = some y) && glB sc y && nmB y && decide (I.N[i]? = some n) && decide (n' = n) && decide (sc.names.lookup n = some .local) && nmB n && decide (f = Str.ofString "isinstance") && glB sc (Str.ofString "isinstance")
  | _, _ => false
/-- try: .. except x as n: return isinstance(n, y) -/
theorem s_try_as (C : Sok I G F X sc) {body : List CS} {k k' i : Nat} {x y n : Str} {b : List Stmt} {np p1 p2 p3 p4 p5 pos' : Pos} (hb : ∀ {F' : Fr} {X' : Cx}, Sok I G F' X' sc → PSs X' b (RdS F' (runs G body)))
    (h1 : I.exs[k]? = some x) (g1 : glB sc x = true) (m1 : nmB x = true) (h2 : I.exs[k']? = some y) (g2 : glB sc y = true) (m2 : nmB y = true)
    (hn : I.N[i]? = some n) (ln : sc.names.lookup n = some .local) (m3 : nmB n = true) (gi : glB sc (Str.ofString "isinstance") = true) :
    PS X (.Try b [.ExceptHandler (some (.Name x np)) (some n) [.Return (some (.Call (.Name (Str.ofString "isinstance") p1) [.Name n p2, .Name y p3] [] p4)) p5] pos'] [] [] pos) (RdS F (run G (.try body [(k, .risa i k')]))) := by
  obtain ⟨Ca, e1, e2, e3, e4, e5, e6⟩ := C.exs _ _ h1
  obtain ⟨Cb, f1, f2, f3, f4, f5, f6⟩ := C.exs _ _ h2
  have mi : "isinstance" ∈ builtins := by decide
  have vn : visB sc n = true := by unfold visB; rw [ln]
  refine psImp (ps_try_as (c := F.cls k) (i := i) (n := n) (tb := fun W => RdS { F with W := W } (runs G body)) (ts := fun a cls d D σ H => (∃ Dd, cls = .ref Dd ∧ d = none ∧ ExcC X.K Dd) ∧ σ[i]? = some (some (.ref a)) ∧ ∃ r, PySem.W.kitOne X.K cls (F.cls k') = some r ∧ D.rt (.bl r) H)
    C.stk C.frm (by rw [C.hN]; exact C.nd) (by rw [C.hN]; exact hn) (show X.env.scope.names.lookup n = some .local from by
      rcases C.sc _ _ ln with q | ⟨q, _⟩
      · exact q
      · cases q) ⟨gl_of C.toCok g1, (nm_dest m1).1, .inl (by rw [e2, e1])⟩ C.takes (fun W pn xe tk ps => hb (C.tr tk ps)) fun a oe cls d pn hz hf => ?_) fun D σ H ⟨Γ, R, rel, p⟩ => ⟨Γ, R, rel, ?_⟩
  · by_cases q : ∃ Dd, cls = .ref Dd ∧ d = none ∧ ExcC X.K Dd
    · obtain ⟨Dd, rfl, rfl, E⟩ := q
      refine pssImp (pss_cons (ps_ret (pe_callB (X := X.suite a ((a, oe) :: pn)) (call_isE E hz hf) (gl_of C.toCok gi) (C.bl _ mi) boot_isa' (pa_cons (pe_var (i := i) (by show X.N[i]? = _; rw [C.hN]; exact hn) (vis_of C.toCok vn) (nm_dest m3).1 (nm_dest m3).2.1) (pa_one rfl (pe_glob (v := .ref Cb) (gl_of C.toCok g2) f2 rfl (nm_dest m2).1)) rfl) (bt_nm mi).1 (bt_nm mi).2 rfl rfl)) pss_nil) fun D σ H ⟨_, h3, r, h4, h5⟩ => ?_
      exact ⟨.ref a, h3, .ref Cb, F.cls k', r, rfl, fun u hu => by rw [f1]; exact hu, h4, h5⟩
    · exact ⟨fun pins s σ H D I h => absurd h.1 q⟩
  · have p : PostS F D R (match runs G body Γ with
      | .exc c Γ' => caught G c Γ' [(k, .risa i k')]
      | o => o) := p
    cases e : runs G body Γ with
    | exc c Γ' =>
      rw [e] at p
      intro σ' H' R' r s
      have p : PostS F D R (caught G c Γ' [(k, .risa i k')]) := p
      unfold caught at p
      cases e9 : G.sub c k with
      | none => rw [e9] at p; exact p.elim
      | some v =>
        refine ⟨v, (C.sub c k v e9).1, fun hv a ha => ?_, fun hv => ?_⟩
        · subst hv
          rw [e9] at p
          have p : PostS F D R (if i < Γ'.length then (match G.sub c k' with
            | some b => .ret (.d (.bl b))
            | none => .bad) else .bad) := p
          split at p
          · rename_i hl
            cases e8 : G.sub c k' with
            | none => rw [e8] at p; exact p.elim
            | some v' =>
              rw [e8] at p
              obtain ⟨_, q2, Dd, q3, q4⟩ := C.sub c k' v' e8
              refine ⟨⟨Dd, q3, rfl, q4⟩, ?_, v', q2, ?_⟩
              · rw [List.getElem?_set_self (by rw [← r.len]; exact hl)]
              · exact p (.bl v') Γ' σ' H' R' r s rfl
          · exact p.elim
        · subst hv
          rw [e9] at p
          exact p σ' H' R' r s
    | nx Γ' => rw [e] at p; exact p
    | brk Γ' => rw [e] at p; exact p
    | cont Γ' => rw [e] at p; exact p
    | ret s => rw [e] at p; exact p
    | bad => rw [e] at p; exact p.elim
theorem s_try_as' (C : Sok I G F X sc) {body : List CS} {hs : List (Nat × HB)} {b : List Stmt} {xs : List ExceptHandler} (hb : ∀ {F' : Fr} {X' : Cx}, Sok I G F' X' sc → PSs X' b (RdS F' (runs G body))) (hh : okAs I sc hs xs = true) :
    PS X (.Try b xs [] [] pos) (RdS F (run G (.try body hs))) := by
  unfold okAs at hh
  split at hh
  · simp only [Bool.and_eq_true, decide_eq_true_eq] at hh
    obtain ⟨⟨⟨⟨⟨⟨⟨⟨⟨⟨⟨h1, h2⟩, h3⟩, h4⟩, h5⟩, h6⟩, h7⟩, rfl⟩, h9⟩, h10⟩, rfl⟩, h12⟩ := hh
    exact s_try_as C hb h1 h2 h3 h4 h5 h6 h7 h9 h10 h12
  · cases hh
end
end Bw
end

section
set_option autoImplicit false
set_option linter.all false
/-! Bw W3: names from a display, some of them own lists. -/
namespace Bw
open PySem L2
/-- values of a display: an own one is a list made since Hs, not yet known -/
def RmO (F : Fr) (R H : Hp) : Hp → List Bool → List SV → List V → Prop
  | _, [], ss, vs => ss = [] ∧ vs = []
  | Hs, true :: os, ss, vs => ∃ ps ss' p vs' ws H1, ss = SV.d (.lst ps) :: ss' ∧ vs = V.ref p :: vs' ∧ Hs p = none ∧ H p = some (.lst ws) ∧ R p = none ∧ RpL F.K R ps ws ∧ ps.length ≤ line ∧ H1 p ≠ none ∧ (∀ a, Hs a ≠ none → H1 a ≠ none) ∧ RmO F R H H1 os ss' vs'
  | Hs, false :: os, ss, vs => ∃ s ss' v vs' H1, ss = s :: ss' ∧ vs = v :: vs' ∧ RpS F.K R s v ∧ (∀ a, Hs a ≠ none → H1 a ≠ none) ∧ RmO F R H H1 os ss' vs'
def PostOw (F : Fr) (os : List Bool) (R : Hp) (σ : L2.St) (H : Hp) (r : Res (List SV)) (Q : List V → Hp → Prop) : Prop :=
  match r with
  | .ok ss => ∀ vs H' R', Grow H R H' R' → RmO F R' H' H os ss vs → Q vs H'
  | .exc c => ∀ H' R', Grow H R H' R' → F.W (F.cls c) none σ H'
  | .bad => False
def RdOw (F : Fr) (os : List Bool) (g : Gm → Res (List SV)) : TA := fun σ H Q => ∃ Γ R, RelR F.K F.H0 F.R0 R Γ σ H ∧ PostOw F os R σ H (g Γ) Q
def isDisp' : CE → Bool
  | .lst _ => true
  | .lc _ _ _ _ => true
  | _ => false
theorem disp_lst' {G : Ctx} {Γ : Gm} {b : CE} {s : SV} (h : isDisp' b = true) (e : ev G b Γ = .ok s) : ∃ ps, s = .d (.lst ps) := by
  have key : ∀ {α : Type} {r : Res α} {f : α → Res SV}, r.bind f = .ok s → ∃ a, f a = .ok s := fun {α r f} q => by
    cases r with
    | ok a => exact ⟨a, q⟩
    | exc c => cases q
    | bad => cases q
  cases b <;> first | (cases h; done) | skip
  · obtain ⟨ss, e⟩ := key (show ((evL G _ Γ).bind fun ss => (datas? ss).bind fun ps => .ok (.d (.lst ps))) = .ok s from e)
    obtain ⟨ps, e⟩ := key e
    cases e; exact ⟨_, rfl⟩
  · obtain ⟨xs, e⟩ := key (show ((evI G _ Γ).bind fun xs => _) = .ok s from e)
    obtain ⟨ps, e⟩ := key e
    cases e; exact ⟨_, rfl⟩
section
variable {I : Inf} {G : Ctx} {F : Fr} {X : Cx} {sc : Scope} {pos : Pos}
theorem dom_grow {H R H' R' : Hp} (g : Grow H R H' R') : ∀ a, H a ≠ none → H' a ≠ none := fun a h => by
  cases e : H a with
  | none => exact absurd e h
  | some o => rw [g.same _ _ e]; simp
theorem po_nil : PA X [] (RdOw F [] (evL G [])) := paImp pa_nil fun σ H Q ⟨Γ, R, rel, p⟩ => p [] H R (.refl rel.sub) ⟨rfl, rfl⟩
def PostE (F : Fr) (os : List Bool) (σ : L2.St) (H H1 R1 : Hp) (f : List SV → Res (List SV)) (Q : List V → Hp → Prop) : Res (List SV) → Prop
  | .ok ss => ∀ vs H' R', Grow H1 R1 H' R' → ∀ zs, f ss = .ok zs → RmO F R' H' H os zs vs → Q vs H'
  | .exc c => ∀ H' R', Grow H1 R1 H' R' → F.W (F.cls c) none σ H'
  | .bad => False
theorem po_exc {os : List Bool} {σ : L2.St} {R H H1 R1 : Hp} {r : Res (List SV)} {f : List SV → Res (List SV)} {Q : List V → Hp → Prop} (h : PostOw F os R σ H (r.bind f) Q) (g : Grow H R H1 R1) :
    PostE F os σ H H1 R1 f Q r := by
  cases r with
  | ok ss =>
    intro vs H' R' g' zs e rm
    have h : PostOw F os R σ H (f ss) Q := h
    rw [e] at h
    exact h vs H' R' (g.trans g') rm
  | exc c => exact fun H' R' g' => h H' R' (g.trans g')
  | bad => exact h
theorem po_own {a : CE} {as : List CE} {x : Expr} {xs : List Expr} {os : List Bool} (ht : tame x = true) (hd : isDisp' a = true) (ha : PE X x (RdN F (ev G a))) (hr : PA X xs (RdOw F os (evL G as))) : PA X (x :: xs) (RdOw F (true :: os) (evL G (a :: as))) := by
  refine paImp (pa_cons ha hr (starEach_tame ht _ _)) fun σ H Q ⟨Γ, R, rel, p⟩ => ⟨Γ, R, rel, ?_⟩
  have p : PostOw F (true :: os) R σ H ((ev G a Γ).bind fun x => (evL G as Γ).bind fun xs => .ok (x :: xs)) Q := p
  cases e : ev G a Γ with
  | bad => rw [e] at p; exact p.elim
  | exc c => rw [e] at p; exact p
  | ok s =>
    obtain ⟨ps, rfl⟩ := disp_lst' hd e
    rw [e] at p
    intro q H1 R1 ws g1 hn hs hR hv hz
    refine ⟨Γ, R1, rel.grow g1, ?_⟩
    have p : PostOw F (true :: os) R σ H ((evL G as Γ).bind fun xs => .ok (SV.d (.lst ps) :: xs)) Q := p
    have p := po_exc p g1
    cases e2 : evL G as Γ with
    | bad => rw [e2] at p; exact p.elim
    | exc c => rw [e2] at p; exact p
    | ok ss =>
      rw [e2] at p
      intro vs H2 R2 g2 rm
      refine p _ H2 R2 g2 _ rfl ⟨ps, ss, q, vs, ws, H1, rfl, rfl, hn, g2.same _ _ hs, ?_, hv.mono g2.reg, hz, by rw [hs]; simp, dom_grow g1, rm⟩
      rw [g2.old q (by rw [hs]; simp)]; exact hR
theorem po_sh {a : CE} {as : List CE} {x : Expr} {xs : List Expr} {os : List Bool} (ht : tame x = true) (ha : PE X x (Rd' F .e (ev G a))) (hr : PA X xs (RdOw F os (evL G as))) : PA X (x :: xs) (RdOw F (false :: os) (evL G (a :: as))) := by
  refine paImp (pa_cons ha hr (starEach_tame ht _ _)) fun σ H Q ⟨Γ, R, rel, p⟩ => ⟨Γ, R, rel, ?_⟩
  have p : PostOw F (false :: os) R σ H ((ev G a Γ).bind fun x => (evL G as Γ).bind fun xs => .ok (x :: xs)) Q := p
  cases e : ev G a Γ with
  | bad => rw [e] at p; exact p.elim
  | exc c => rw [e] at p; exact p
  | ok s =>
    rw [e] at p
    intro v H1 R1 g1 rv
    refine ⟨Γ, R1, rel.grow g1, ?_⟩
    have p : PostOw F (false :: os) R σ H ((evL G as Γ).bind fun xs => .ok (s :: xs)) Q := p
    have p := po_exc p g1
    cases e2 : evL G as Γ with
    | bad => rw [e2] at p; exact p.elim
    | exc c => rw [e2] at p; exact p
    | ok ss =>
      rw [e2] at p
      intro vs H2 R2 g2 rm
      have rv : RpS F.K R1 s v := rv
      exact p _ H2 R2 g2 _ rfl ⟨s, ss, v, vs, H1, rfl, rfl, rv.mono g2.reg, dom_grow g1, rm⟩
/-- every own place's list is there in Hs -/
def KnownO (Hs : Hp) (Γ : Gm) (σ : L2.St) : Prop := ∀ (j : Nat) (s : SV) (a : Addr), Γ[j]? = some (.ow s) → σ[j]? = some (some (.ref a)) → Hs a ≠ none
def setsV : List Nat → List V → L2.St → L2.St
  | i :: is, v :: vs, σ => setsV is vs (σ.set i (some v))
  | _, _, σ => σ
theorem set_get {α : Type} {l : List α} {i j : Nat} {x y : α} (h : (l.set i x)[j]? = some y) : (i = j ∧ y = x) ∨ (i ≠ j ∧ l[j]? = some y) := by
  by_cases c : i = j
  · subst c
    by_cases l' : i < l.length
    · rw [List.getElem?_set_self l'] at h; cases h; exact .inl ⟨rfl, rfl⟩
    · rw [List.getElem?_eq_none (by rw [List.length_set]; omega)] at h; cases h
  · rw [List.getElem?_set_ne c] at h; exact .inr ⟨c, h⟩
theorem rel_setO {K : Fr'} (hK : F.K = K) {H0 R0 R H : Hp} (h0 : Sub H0 H) : ∀ {is : List Nat} {os : List Bool} {ss : List SV} {vs : List V} {Hs : Hp} {Γ : Gm} {σ : L2.St}, is.length = os.length → (∀ a, H0 a ≠ none → Hs a ≠ none) → RelR K H0 R0 R Γ σ H → KnownO Hs Γ σ → RmO F R H Hs os ss vs → RelR K H0 R0 R (setsO is os ss Γ) (setsV is vs σ) H
  | [], [], ss, vs, Hs, Γ, σ, _, _, r, _, ⟨e1, e2⟩ => by subst e1 e2; exact r
  | i :: is, true :: os, ss, vs, Hs, Γ, σ, hl, hd, r, kn, ⟨ps, ss', p, vs', ws, H1, e1, e2, h1, h2, h3, h4, h5, h6, h7, rm⟩ => by
    subst e1 e2
    subst hK
    have n0 : H0 p = none := by
      cases z : H0 p with
      | none => rfl
      | some o => exact absurd h1 (hd p (by rw [z]; simp))
    refine rel_setO (Γ := Γ.set i (.ow (.d (.lst ps)))) (σ := σ.set i (some (.ref p))) rfl h0 (by simpa using hl) (fun a z => h7 a (hd a z)) (r.ownNew (i := i) (w := .d (.lst ps)) ⟨_, h2, h4, h5⟩ h3 n0 fun j s nj q1 q2 => kn j s p q1 q2 h1) (fun j s a q1 q2 => ?_) rm
    rcases set_get q1 with ⟨rfl, z⟩ | ⟨c, q1⟩
    · have l : i < σ.length := by
        have := (List.getElem?_eq_some_iff.mp q2).1
        rwa [List.length_set] at this
      rw [List.getElem?_set_self l] at q2
      cases q2
      exact h6
    · rw [List.getElem?_set_ne c] at q2
      exact h7 a (kn j s a q1 q2)
  | i :: is, false :: os, ss, vs, Hs, Γ, σ, hl, hd, r, kn, ⟨s, ss', v, vs', H1, e1, e2, h1, h7, rm⟩ => by
    subst e1 e2
    subst hK
    refine rel_setO (Γ := Γ.set i (.sh s)) (σ := σ.set i (some v)) rfl h0 (by simpa using hl) (fun a z => h7 a (hd a z)) (r.set (i := i) h1) (fun j t a q1 q2 => ?_) rm
    rcases set_get q1 with ⟨rfl, z⟩ | ⟨c, q1⟩
    · cases z
    · rw [List.getElem?_set_ne c] at q2
      exact h7 a (kn j t a q1 q2)
  | [], _ :: _, _, _, _, _, _, hl, _, _, _, _ => by cases hl
  | _ :: _, [], _, _, _, _, _, hl, _, _, _, _ => by cases hl
theorem known_rel {K : Fr'} {H0 R0 R H : Hp} {Γ : Gm} {σ : L2.St} (r : RelR K H0 R0 R Γ σ H) : KnownO H Γ σ := fun j s a q1 q2 => by
  exact r.ownH q1 q2
theorem rmo_len {R H : Hp} : ∀ {os : List Bool} {Hs : Hp} {ss : List SV} {vs : List V}, RmO F R H Hs os ss vs → vs.length = os.length
  | [], _, _, _, ⟨_, e⟩ => by rw [e]; rfl
  | true :: os, _, _, _, ⟨_, _, _, _, _, _, _, e, _, _, _, _, _, _, _, rm⟩ => by rw [e, List.length_cons, List.length_cons, rmo_len rm]
  | false :: os, _, _, _, ⟨_, _, _, _, _, _, e, _, _, rm⟩ => by rw [e, List.length_cons, List.length_cons, rmo_len rm]
end
end Bw
end

section
set_option autoImplicit false
set_option linter.all false
/-! Bw W4: own lists from a repeat. -/
namespace Bw
open PySem L2
theorem RpL.set {K : Fr'} {R : Hp} {p : PV} {v : V} (rp : RpD K R p v) : ∀ {ps : List PV} {vs : List V} (m : Nat), RpL K R ps vs → RpL K R (ps.set m p) (vs.set m v)
  | [], vs, m, r => by
    have r : vs = [] := r
    subst r; exact rfl
  | q :: ps, vs, 0, ⟨w, ws, e, r1, r2⟩ => by
    subst e
    exact ⟨v, ws, rfl, rp, r2⟩
  | q :: ps, vs, m + 1, ⟨w, ws, e, r1, r2⟩ => by
    subst e
    exact ⟨w, ws.set m v, rfl, r1, RpL.set rp m r2⟩
section
variable {I : Inf} {G : Ctx} {F : Fr} {X : Cx} {sc : Scope} {pos : Pos}
/-- [..] * n as a new list -/
theorem n_mul (C : Cok I G F X sc) {es : List CE} {gb : Gm → Res SV} {y z : Expr} {ma mb : Md} (la : ma.le .t = true) (lb : mb.le .t = true) (ha : PE X y (Rd' F ma (ev G (.lst es)))) (hb : PE X z (Rd' F mb gb)) :
    PE X (.BinOp y .Mult z pos) (RdN F fun Γ => (ev G (.lst es) Γ).bind fun x => (gb Γ).bind fun y => binop .mul x y) := by
  refine peImp (pe_op op_rep (peLe ha la) (peLe hb lb)) fun σ H Q ⟨Γ, R, rel, p⟩ => ?_
  have hl : ∀ s, ev G (.lst es) Γ = .ok s → ∃ ps, s = .d (.lst ps) := fun s e => disp_lst' (b := .lst es) rfl e
  have p : PostN F R σ H ((ev G (.lst es) Γ).bind fun x => (gb Γ).bind fun y => binop .mul x y) Q := p
  cases e1 : ev G (.lst es) Γ with
  | bad => rw [e1] at p; exact p.elim
  | exc c =>
    refine ⟨Γ, R, rel, ?_⟩
    rw [e1] at p ⊢; exact p
  | ok s0 =>
    obtain ⟨ps0, rfl⟩ := hl _ e1
    refine ⟨Γ, R, rel, (postn_bind (m := .t) p).mono fun x H1 ⟨s, R1, g1, rx, p1⟩ => ⟨Γ, R1, rel.grow g1, (postn_bind (m := .t) p1).mono fun w H2 ⟨t, R2, g2, rw', p2⟩ => ?_⟩⟩
    have rx := rx.grow g2
    clear p1 p
    cases s with
    | d q1 =>
      cases t with
      | d q2 =>
        cases q1 with
        | lst xs =>
          cases q2 with
          | int n =>
            obtain ⟨a1, vs1, rfl, s1, r1, z1⟩ := rx.lst g2.sub
            obtain rfl := rw'.int
            have p2 : PostN F R2 σ H2 (if n.natAbs < 2 ^ 62 ∧ xs.length * n.toNat ≤ line then Res.ok (.d (.lst (rep n.toNat xs))) else .bad) Q := p2
            by_cases c : n.natAbs < 2 ^ 62 ∧ xs.length * n.toNat ≤ line
            · rw [if_pos c] at p2
              have l1 := r1.len
              have hr : ∀ m : Nat, RpL F.K R2 (List.replicate m xs).flatten (List.replicate m vs1).flatten := fun m => by
                induction m with
                | zero => exact rfl
                | succ m ih => rw [List.replicate_succ, List.replicate_succ, List.flatten_cons, List.flatten_cons]; exact r1.append ih
              refine ⟨a1, n, vs1, rfl, rfl, s1, by omega, by omega, by rw [l1, ← line_eq]; exact c.2, fun q hq => ?_⟩
              refine p2 q _ R2 _ (Grow.hid g2.sub hq _) hq (upd_same ..) ?_ (hr _) ?_
              · cases e : R2 q with
                | none => rfl
                | some o => rw [g2.sub _ _ e] at hq; cases hq
              · show (List.replicate n.toNat xs).flatten.length ≤ line
                rw [List.length_flatten, List.map_replicate, List.sum_replicate_nat, Nat.mul_comm]
                exact c.2
            · rw [if_neg c] at p2; exact False.elim p2
          | _ => exact False.elim p2
        | int i =>
          cases q2 with
          | int j =>
            have p2 : PostN F R2 σ H2 (if i.natAbs < 2 ^ 64 ∨ j.natAbs < 2 ^ 64 then .ok (.d (.int (i * j))) else .bad) Q := p2
            split at p2 <;> exact False.elim p2
          | _ => exact False.elim p2
        | tup xs =>
          cases q2 with
          | int j =>
            have p2 : PostN F R2 σ H2 (if 1 ≤ j ∧ j ≤ 1000 ∧ xs.length ≤ 1000 ∧ xs.length ≠ 0 then .ok (.d (.tup (rep j.toNat xs))) else .bad) Q := p2
            split at p2 <;> exact False.elim p2
          | _ => exact False.elim p2
        | _ => cases q2 <;> exact False.elim p2
      | _ => cases q1 <;> exact False.elim p2
    | _ => cases t <;> exact False.elim p2
end
end Bw
end

section
set_option autoImplicit false
set_option linter.all false
/-! Bw W5: except clauses, the last of which may give the error a name. -/
namespace Bw
open PySem L2 PySem.Spec PyProof.Rows
/-- what a clause's suite is wished to do, the name's slot (if any) stored ahead and gone behind -/
abbrev Cl := Value × Option Nat × (Addr → Value → Option Addr → TS)
def goneD (D : Ends) (i : Nat) : Ends := { nx := fun σ H => D.nx (σ.set i none) H, rt := D.rt, bk := fun σ H => D.bk (σ.set i none) H, ct := fun σ H => D.ct (σ.set i none) H }
def clD (o : Option Nat) (D : Ends) : Ends := match o with
  | none => D
  | some i => goneD D i
def clS (o : Option Nat) (a : Addr) (σ : L2.St) : L2.St := match o with
  | none => σ
  | some i => σ.set i (some (.ref a))
def wMix (K : PySem.W.Frag) (Wout : WX) (D : Ends) : List Cl → WX
  | [] => Wout
  | (c, o, ts) :: r => fun cls d σ H => ∃ b, PySem.W.exmOne K cls c = some b ∧ (b = true → ∀ a, H a = none → ts a cls d (clD o D) (clS o a σ) H) ∧ (b = false → wMix K Wout D r cls d σ H)
def SuOk (X : Cx) (suite : List Stmt) (ts : Addr → Value → Option Addr → TS) : Prop :=
  ∀ (a : Addr) (oe : Obj) (cls : Value) (d : Option Addr) (pn : List (Addr × Obj)), Zc cls d oe → (∃ vs, oe.data = .fields vs) → PSs (X.suite a ((a, oe) :: pn)) suite (ts a cls d)
inductive MixOk (X : Cx) : List ExceptHandler → List Cl → Prop
  | nil : MixOk X [] []
  | cons {x : Str} {c : Value} {ts : Addr → Value → Option Addr → TS} {b₀ : Stmt} {suite : List Stmt} {np q : Pos} {hds : List ExceptHandler} {l : List Cl} (hc : Names X x c) (hsu : SuOk X (b₀ :: suite) ts) (r : MixOk X hds l) :
      MixOk X (.ExceptHandler (some (.Name x np)) none (b₀ :: suite) q :: hds) ((c, none, ts) :: l)
  | as {x n : Str} {c : Value} {i : Nat} {ts : Addr → Value → Option Addr → TS} {b₀ : Stmt} {suite : List Stmt} {np q : Pos} {hds : List ExceptHandler} {l : List Cl} (hc : Names X x c) (hi : X.N[i]? = some n) (hln : X.env.kindOf n = some .local) (hsu : SuOk X (b₀ :: suite) ts) (r : MixOk X hds l) :
      MixOk X (.ExceptHandler (some (.Name x np)) (some n) (b₀ :: suite) q :: hds) ((c, some i, ts) :: l)
section
variable {X : Cx} {body : List Stmt} {h₀ : ExceptHandler} {hds : List ExceptHandler} {l : List Cl} {pos : Pos} {tb : WX → TS} {Wout : WX}
theorem ps_try_mix (hs : X.stack = X.env :: X.outer) (hf : X.env.frame = some X.env.locals) (hN : X.N.Nodup) (tk : Takes X Wout)
    (hb : ∀ (W : WX) (pn : List (Addr × Obj)) (xe : Value → Shared → Prop), Takes (X.tr pn xe) W → PassesOwn (model X.prog X.w) X.A X.env xe → PSs (X.tr pn xe) body (tb W)) (hh : MixOk X (h₀ :: hds) l) :
    PS X (.Try body (h₀ :: hds) [] [] pos) (fun D σ H => tb (wMix X.K Wout D l) D σ H) := by
  refine ⟨fun pins s σ H D I h => ?_⟩
  have ok := I.ok
  have hfr : X.A.frames = some (X.env :: X.outer) := by rw [ok.frames, hs]
  refine wpAny_Try_except ?_
  refine wpAny_mono ((hb (wMix X.K Wout D l) (X.pn ++ pins) (fun e s₁ => wpAny (model X.prog X.w) X.A (noteFrame e X.env) (fun _ s₂ => wpAny (model X.prog X.w) X.A (setFlight e none) (fun _ s₃ =>
    wpAny (model X.prog X.w) X.A (handleBy e X.env (h₀ :: hds)) (SP X pins D) X.xe s₃) X.xe s₂) X.xe s₁) (fun u s' xx => ?_) PassesOwn.looking).run [] s σ H D (I.toTry _) h) (fun f s1 hsp => ?_) (fun e s1 he => he)
  · obtain ⟨a, B, sI, pins', σ', H', cls, d, rfl, J', nb, up, sky, na, os, ag, w⟩ := xx
    have J : Inv X pins σ' H' sI := J'.ofTry ok
    have sk : Sky B (X.env :: X.outer) a (Zc cls d) X.env.locals s'.heap := by rw [← hs]; exact sky
    show wpAny (model X.prog X.w) X.A (noteFrame (.ref a) X.env) _ _ _
    refine Sky.land Zc.steady hfr hf sk fun g3 fl3 up3 => ?_
    have J3 : Inv X pins σ' H' { s' with heap := g3 } := J.landed nb fl3.1 (up.trans up3) os ag
    obtain ⟨oe3, vs3, he3, hz3, hd3⟩ := fl3.there
    have notFr : ∀ {g : Heap} {o : Obj} {vs : Array Value}, g.FunFrames B (X.env :: X.outer) → g.get? a = some o → o.data = .fields vs → a ∉ frs (X.env :: X.outer) := fun {g o vs} ff e dd hm => by
      obtain ⟨_, o', e', hnf⟩ := ff.mem hm
      rw [e] at e'; cases e'; exact hnf _ dd
    have nfr := notFr fl3.2.2.1 he3 hd3
    have nL : a ≠ X.env.locals := fun z => nfr (List.mem_filterMap.mpr ⟨X.env, List.mem_cons_self, by rw [hf, z]⟩)
    have nF : a ∉ X.fs := fun hm => by
      obtain ⟨e, he, q⟩ := List.mem_filterMap.mp hm
      exact nfr (List.mem_filterMap.mpr ⟨e, List.mem_cons_of_mem _ he, q⟩)
    have S3 := J3.suite he3 hd3 na nL nF
    have tst : ∀ {x : Str} {c : Value} {np : Pos} {Q E : Value → Shared → Prop}, Names X x c → Q c { s' with heap := g3 } → wpAny (model X.prog X.w) (X.A.mark (some (.ref a))) (eval (.Name x np) X.env) Q E { s' with heap := g3 } := fun {x c np Q E} hc q => by
      obtain ⟨hg, hdbg, hm | ⟨hm, hv, hnn⟩⟩ := hc
      · exact ld_glob (X := X.suite a ((a, oe3) :: (X.pn ++ pins))) S3 hg hm q hdbg
      · exact ld_blt (X := X.suite a ((a, oe3) :: (X.pn ++ pins))) S3 hg hm hv q hnn hdbg
    have LT : PySem.W.Looks (model X.prog X.w) g3 (typeOf (.ref a)) cls := fun A Q E s k q => wpAny_typeOf_ref (k _ _ he3) (by rw [hz3.1]; exact q)
    have go : ∀ {hds' : List ExceptHandler} {l' : List Cl}, MixOk X hds' l' → wMix X.K Wout D l' cls d σ' H' → wpAny (model X.prog X.w) X.A (handleBy (.ref a) X.env hds') (SP X pins D) X.xe { s' with heap := g3 } := by
      intro hds' l' hk
      induction hk with
      | nil =>
        intro w
        refine wpAny_handleBy_nil ?_
        obtain ⟨k1, k2, k3, oe, vs, T, oT, tz, he, hz, hd, h1, hr⟩ := id fl3
        unfold PySem.passOn
        refine wpAny_bind (wpAny_field he hd h1 ?_)
        rw [if_neg (show ¬ ((Value.ref T == Value.none) = true) from by simp)]
        have fin : wpAny (model X.prog X.w) X.A (setFlight (.ref a) X.env.frame) (fun _ s4 => wpAny (model X.prog X.w) X.A (throw (.ref a) : Sem Flow) (SP X pins D) X.xe s4) X.xe { s' with heap := g3 } := by
          rw [hf]
          refine HandSPX.setFlight_upZ fl3 fun h4 hh4 up4 => wpAny_throw (tk _ _ ?_)
          exact ⟨a, B, sI, pins, σ', H', cls, d, rfl, J, nb, (up.trans up3).trans up4, .inr (.inr (by rw [hs]; exact hh4)), na, os, ag, w⟩
        first
          | exact wpAny_bind (wpAny_pure (wpAny_bind fin))
          | exact wpAny_bind fin
      | @cons x c ts b₀ suite np q hds2 l2 hc hsu r ih =>
        intro w
        obtain ⟨b, hb1, hyes, hno⟩ := w
        refine wpAny_handleBy_cons (codeAny_handlers_test (tst hc ((PySem.W.exm_one (M := model X.prog X.w) (J3.kIn) LT hb1).here ?_))) (by intro q; cases q)
        cases b with
        | true =>
          refine codeAny_handlers_suite (HandSPX.lands_againZ fl3 fun h4 fl4 up4 => ?_)
          have J4 : Inv X pins σ' H' { s' with heap := h4 } := J.landed nb fl4.1 ((up.trans up3).trans up4) os ag
          obtain ⟨oe4, vs4, he4, hz4, hd4⟩ := fl4.there
          refine wpAny_mono ((hsu a oe4 cls d (X.pn ++ pins) hz4 ⟨_, hd4⟩).run [] _ _ H' _ (J4.suite he4 hd4 na nL nF) (hyes rfl a na)) (fun f s6 hsp => ?_) (fun _ _ z => False.elim z)
          cases f with
          | next => obtain ⟨σ6, H6, S6, q6⟩ := hsp; exact ⟨_, _, S6.unsuite ok, q6⟩
          | brk => obtain ⟨σ6, H6, S6, q6⟩ := hsp; exact ⟨_, _, S6.unsuite ok, q6⟩
          | cont => obtain ⟨σ6, H6, S6, q6⟩ := hsp; exact ⟨_, _, S6.unsuite ok, q6⟩
          | ret u => obtain ⟨v6, σ6, H6, S6, r6, q6⟩ := hsp; exact ⟨_, _, _, S6.unsuite ok, r6, q6⟩
        | false => exact ih (hno rfl)
      | @as x n c i ts b₀ suite np q hds2 l2 hc hi hln hsu r ih =>
        intro w
        obtain ⟨b, hb1, hyes, hno⟩ := w
        refine wpAny_handleBy_cons (codeAny_handlers_test (tst hc ((PySem.W.exm_one (M := model X.prog X.w) (J3.kIn) LT hb1).here ?_))) (by intro q; cases q)
        cases b with
        | true =>
          refine codeAny_handlers_suite_as (HandSPX.lands_againZ fl3 fun h4 fl4 up4 => ?_)
          have J4 : Inv X pins σ' H' { s' with heap := h4 } := J.landed nb fl4.1 ((up.trans up3).trans up4) os ag
          obtain ⟨oe4, vs4, he4, hz4, hd4⟩ := fl4.there
          refine store_ok (X := X.suite a ((a, oe4) :: (X.pn ++ pins))) (v := .ref a) (J4.suite he4 hd4 na nL nF) hN hi (.inl hln) rfl (fun s5 S5 => ?_) (.inr hln)
          refine wpAny_mono ((hsu a oe4 cls d (X.pn ++ pins) hz4 ⟨_, hd4⟩).run [] s5 _ H' _ S5 (hyes rfl a na)) (fun f s6 hsp => ?_) (fun _ _ z => False.elim z)
          have end_ : ∀ {σ6 : L2.St} {H6 : Hp} {Q : Shared → Prop}, Inv (X.suite a ((a, oe4) :: (X.pn ++ pins))) [] σ6 H6 s6 → (∀ s7, Inv X pins (σ6.set i none) H6 s7 → Q s7) →
              wpAny (model X.prog X.w) X.A (do bindName X.env n .none; unbindBehindTheSuite X.env n q) (fun _ s7 => Q s7) X.xe s6 := fun {σ6 H6 Q} S6 hq => gone_ok (S6.unsuite ok) hN hi hln hq
          cases f with
          | next => obtain ⟨σ6, H6, S6, q6⟩ := hsp; exact end_ S6 fun s7 J7 => ⟨_, _, J7, q6⟩
          | brk => obtain ⟨σ6, H6, S6, q6⟩ := hsp; exact end_ S6 fun s7 J7 => ⟨_, _, J7, q6⟩
          | cont => obtain ⟨σ6, H6, S6, q6⟩ := hsp; exact end_ S6 fun s7 J7 => ⟨_, _, J7, q6⟩
          | ret u => obtain ⟨v6, σ6, H6, S6, r6, q6⟩ := hsp; exact end_ S6 fun s7 J7 => ⟨_, _, _, J7, r6, q6⟩
        | false => exact ih (hno rfl)
    exact go hh w
  · cases f with
    | next => obtain ⟨σ', H', J', q⟩ := hsp; exact wpAny_execs_nil ⟨σ', H', J'.ofTry ok, q⟩
    | brk => obtain ⟨σ', H', J', q⟩ := hsp; exact ⟨σ', H', J'.ofTry ok, q⟩
    | cont => obtain ⟨σ', H', J', q⟩ := hsp; exact ⟨σ', H', J'.ofTry ok, q⟩
    | ret u => obtain ⟨v, σ', H', J', r, q⟩ := hsp; exact ⟨v, σ', H', J'.ofTry ok, r, q⟩
end
/-! ### the core's clauses -/
section
variable {I : Inf} {G : Ctx} {F : Fr} {X : Cx} {sc : Scope} {pos : Pos}
/-- clauses, the last of them may name the error -/
def okMx (I : Inf) (sc : Scope) : List (Nat × HB) → List ExceptHandler → Bool
  | [], [] => true
  | (k, .rife i k' a b) :: hs, .ExceptHandler (some (.Name x _)) (some n) [.Return (some (.IfExp (.Call (.Name f _) [.Name n' _, .Name y _] [] _) u v _)) _] _ :: xs =>
    decide (I.exs[k]? = some x) && glB sc x && nmB x && decide (I.exs[k']? = some y) && glB sc y && nmB y && decide (I.N[i]? = some n) && decide (n' = n) && decide (sc.names.lookup n = some .local) && nmB n && decide (f = Str.ofString "isinstance") && glB sc (Str.ofString "isinstance") && okK a u && okK b v && okMx I sc hs xs
  | (k, h) :: hs, .ExceptHandler (some (.Name x _)) none b _ :: xs => decide (I.exs[k]? = some x) && glB sc x && nmB x && okHB h b && okMx I sc hs xs
  | _, _ => false
/-- .. e if isinstance(n, y) else e' -/
def ifTs (F : Fr) (G : Ctx) (i k' : Nat) (a b : CE) (K : PySem.W.Frag) : Addr → Value → Option Addr → TS := fun ad cls d D σ H =>
  (∃ Dd, cls = .ref Dd ∧ d = none ∧ ExcC K Dd) ∧ σ[i]? = some (some (.ref ad)) ∧ ∃ r, PySem.W.kitOne K cls (F.cls k') = some r ∧ Rd' F .e (ev G (if r then a else b)) σ H fun v H' => D.rt v H'
def mixTs (F : Fr) (G : Ctx) (K : PySem.W.Frag) (hs : List (Nat × HB)) : List Cl := hs.map fun h => (F.cls h.1, match h.2 with
  | .rife i k' a b => (some i, ifTs F G i k' a b K)
  | h => (none, fun _ _ _ => RdS F (hbR G h)))
theorem suite_if (C : Sok I G F X sc) {i k' : Nat} {a b : CE} {n y : Str} {u v : Expr} {p1 p2 p3 p4 p5 p6 : Pos} (h2 : I.exs[k']? = some y) (g2 : glB sc y = true) (m2 : nmB y = true) (hn : I.N[i]? = some n) (ln : sc.names.lookup n = some .local) (m3 : nmB n = true) (gi : glB sc (Str.ofString "isinstance") = true)
    (ha : okK a u = true) (hb : okK b v = true) : SuOk X [.Return (some (.IfExp (.Call (.Name (Str.ofString "isinstance") p1) [.Name n p2, .Name y p3] [] p4) u v p5)) p6] (ifTs F G i k' a b X.K) := by
  intro ad oe cls d pn hz hf
  obtain ⟨Cb, f1, f2, f3, f4, f5, f6⟩ := C.exs _ _ h2
  have mi : "isinstance" ∈ builtins := by decide
  have vn : visB sc n = true := by unfold visB; rw [ln]
  by_cases q : ∃ Dd, cls = .ref Dd ∧ d = none ∧ ExcC X.K Dd
  · obtain ⟨Dd, rfl, rfl, E⟩ := q
    have hc := pe_callB (X := X.suite ad ((ad, oe) :: pn)) (p := p1) (pos := p4) (call_isE E hz hf) (gl_of C.toCok gi) (C.bl _ mi) boot_isa' (pa_cons (pe_var (i := i) (pos := p2) (by show X.N[i]? = _; rw [C.hN]; exact hn) (vis_of C.toCok vn) (nm_dest m3).1 (nm_dest m3).2.1) (pa_one rfl (pe_glob (v := .ref Cb) (pos := p3) (gl_of C.toCok g2) f2 rfl (nm_dest m2).1)) rfl) (bt_nm mi).1 (bt_nm mi).2 rfl rfl
    refine pssImp (pss_cons (ps_ret (pe_ifExp (pt_truth hc (fun _ => rfl)) (okK_ok (F := F) (G := G) ha) (okK_ok (F := F) (G := G) hb))) pss_nil) fun D σ H ⟨_, h3, r, h4, h5⟩ => ?_
    refine ⟨.ref ad, h3, .ref Cb, F.cls k', r, rfl, fun u hu => by rw [f1]; exact hu, h4, r, rfl, ?_⟩
    cases r with
    | true => exact h5
    | false => exact h5
  · exact ⟨fun pins s σ H D I h => absurd h.1 q⟩
theorem mix_ok (C : Sok I G F X sc) : ∀ {hs : List (Nat × HB)} {xs : List ExceptHandler}, okMx I sc hs xs = true → MixOk X xs (mixTs F G X.K hs)
  | [], xs, q => by
    cases xs with
    | nil => exact .nil
    | cons _ _ => cases q
  | (k, h) :: hs, xs, q => by
    unfold okMx at q
    split at q
    · rename_i e; cases e
    · rename_i k1 i k' a b hs' x np n f p1 n' p2 y p3 p4 u v p5 p6 p7 xs' e
      cases e
      simp only [Bool.and_eq_true, decide_eq_true_eq] at q
      obtain ⟨⟨⟨⟨⟨⟨⟨⟨⟨⟨⟨⟨⟨⟨h1, h2⟩, h3⟩, h4⟩, h5⟩, h6⟩, h7⟩, rfl⟩, h9⟩, h10⟩, rfl⟩, h12⟩, ha⟩, hb⟩, r⟩ := q
      obtain ⟨Ca, e1, e2, e3, e4, e5, e6⟩ := C.exs _ _ h1
      refine .as ⟨gl_of C.toCok h2, (nm_dest h3).1, .inl (by rw [e2, e1])⟩ (by rw [C.hN]; exact h7) (show X.env.scope.names.lookup _ = some .local from ?_) (suite_if C h4 h5 h6 h7 h9 h10 h12 ha hb) (mix_ok C r)
      rcases C.sc _ _ h9 with q | ⟨q, _⟩
      · exact q
      · cases q
    · rename_i k1 h1 hs1 x np b p' xs' hne e
      cases e
      simp only [Bool.and_eq_true, decide_eq_true_eq] at q
      obtain ⟨⟨⟨⟨q1, q2⟩, q3⟩, q4⟩, q5⟩ := q
      obtain ⟨Ca, e1, e2, e3, e4, e5, e6⟩ := C.exs _ _ q1
      obtain ⟨⟨s, ss, rfl⟩, _⟩ := hb_ok (X := X) (F := F) (G := G) q4
      have e9 : mixTs F G X.K ((k, h) :: hs) = (F.cls k, none, fun _ _ _ => RdS F (hbR G h)) :: mixTs F G X.K hs := by
        cases h with
        | rife i k' a b => unfold okHB at q4; split at q4 <;> simp_all
        | _ => rfl
      rw [e9]
      exact .cons ⟨gl_of C.toCok q2, (nm_dest q3).1, .inl (by rw [e2, e1])⟩ (fun a oe cls d pn _ _ => (hb_ok q4).2) (mix_ok C q5)
    · cases q
theorem RelR.kill {K : Fr'} {H0 R0 R : Hp} {Γ : Gm} {σ : L2.St} {H : Hp} (r : RelR K H0 R0 R Γ σ H) (i : Nat) (v : Option V) : RelR K H0 R0 R (Γ.set i .no) (σ.set i v) H := by
  have ne : ∀ {j : Nat} {b : Bx}, (Γ.set i .no)[j]? = some b → b ≠ .no → i ≠ j ∧ Γ[j]? = some b := fun {j b} e nb => by
    by_cases c : i = j
    · subst c
      by_cases l : i < Γ.length
      · rw [List.getElem?_set_self l] at e; cases e; exact absurd rfl nb
      · rw [List.getElem?_eq_none (by rw [List.length_set]; omega)] at e; cases e
    · rw [List.getElem?_set_ne c] at e; exact ⟨c, e⟩
  refine ⟨r.same, r.sub, r.sub0, r.old, fun j t e => ?_, fun j t e => ?_, fun j k t u a n e1 e2 e3 e4 => ?_, by rw [List.length_set, List.length_set]; exact r.len⟩
  · obtain ⟨c, e⟩ := ne e (fun z => by cases z)
    rw [List.getElem?_set_ne c]; exact r.slot j t e
  · obtain ⟨c, e⟩ := ne e (fun z => by cases z)
    rw [List.getElem?_set_ne c]; exact r.own j t e
  · obtain ⟨c1, e1⟩ := ne e1 (fun z => by cases z)
    obtain ⟨c2, e2⟩ := ne e2 (fun z => by cases z)
    rw [List.getElem?_set_ne c1] at e3
    rw [List.getElem?_set_ne c2] at e4
    exact r.apart j k t u a n e1 e2 e3 e4
/-- a value written out is the same whatever the state -/
theorem okK_ev {e : CE} {y : Expr} (h : okK e y = true) (Γ : Gm) : ∃ p, (∀ Γ', ev G e Γ' = .ok (.d p)) := by
  unfold okK at h
  split at h
  · exact ⟨_, fun _ => rfl⟩
  · exact ⟨_, fun _ => rfl⟩
  · exact ⟨_, fun _ => rfl⟩
  · exact ⟨_, fun _ => rfl⟩
  · cases h
theorem mix_caught (C : Sok I G F X sc) {c : Nat} {Γ : Gm} {D : Ends} {R H : Hp} {σ : L2.St} (rel : RelR F.K F.H0 F.R0 R Γ σ H) : ∀ {hs : List (Nat × HB)} {xs : List ExceptHandler}, okMx I sc hs xs = true → PostS F D R (caught G c Γ hs) → wMix X.K F.W D (mixTs F G X.K hs) (F.cls c) none σ H
  | [], _, _, p => p σ H R rel .refl
  | (k, h) :: hs, xs, hq, p => by
    unfold caught at p
    have fl : PostS F D R (caught G c Γ hs) → okMx I sc hs xs.tail = true → wMix X.K F.W D (mixTs F G X.K hs) (F.cls c) none σ H := fun p q => mix_caught C rel q p
    unfold okMx at hq
    split at hq
    · rename_i e; cases e
    · rename_i k1 i k' a b hs' x np n f p1 n' p2 y p3 p4 u v p5 p6 p7 xs' e
      cases e
      simp only [Bool.and_eq_true, decide_eq_true_eq] at hq
      obtain ⟨⟨⟨⟨⟨⟨⟨⟨⟨⟨⟨⟨⟨⟨h1, h2⟩, h3⟩, h4⟩, h5⟩, h6⟩, h7⟩, rfl⟩, h9⟩, h10⟩, rfl⟩, h12⟩, ha⟩, hb⟩, r⟩ := hq
      cases e : G.sub c k with
      | none => rw [e] at p; exact p.elim
      | some t =>
        refine ⟨t, (C.sub c k t e).1, fun ht ad _ => ?_, fun ht => ?_⟩
        · subst ht
          rw [e] at p
          have p : PostS F D R (if i < Γ.length then (match G.sub c k' with
            | some true => (ev G a Γ).out Γ fun s => .ret s
            | some false => (ev G b Γ).out Γ fun s => .ret s
            | none => .bad) else .bad) := p
          split at p
          · rename_i hl
            cases e8 : G.sub c k' with
            | none => rw [e8] at p; exact p.elim
            | some v' =>
              rw [e8] at p
              obtain ⟨_, q2, Dd, q3, q4⟩ := C.sub c k' v' e8
              have hil : i < σ.length := by rw [← rel.len]; exact hl
              refine ⟨⟨Dd, q3, rfl, q4⟩, by show (σ.set i _)[i]? = _; rw [List.getElem?_set_self hil], v', q2, Γ.set i .no, R, rel.kill i _, ?_⟩
              obtain ⟨pa, ea⟩ := okK_ev (G := G) ha Γ
              obtain ⟨pb, eb⟩ := okK_ev (G := G) hb Γ
              cases v' with
              | true =>
                have p : PostS F D R ((ev G a Γ).out Γ fun s => .ret s) := p
                rw [ea] at p
                show Post F .e R _ H (ev G a _) _
                rw [ea]
                intro v H1 R1 g rv
                exact p v Γ σ H1 R1 (rel.grow g) g.reg (rv.le g.sub (le_f _))
              | false =>
                have p : PostS F D R ((ev G b Γ).out Γ fun s => .ret s) := p
                rw [eb] at p
                show Post F .e R _ H (ev G b _) _
                rw [eb]
                intro v H1 R1 g rv
                exact p v Γ σ H1 R1 (rel.grow g) g.reg (rv.le g.sub (le_f _))
          · exact p.elim
        · subst ht
          rw [e] at p
          exact fl p r
    · rename_i k1 h1 hs1 x np b p' xs' hne e
      cases e
      simp only [Bool.and_eq_true, decide_eq_true_eq] at hq
      obtain ⟨⟨⟨⟨q1, q2⟩, q3⟩, q4⟩, q5⟩ := hq
      have e9 : mixTs F G X.K ((k, h) :: hs) = (F.cls k, none, fun _ _ _ => RdS F (hbR G h)) :: mixTs F G X.K hs := by
        cases h with
        | rife i k' a b => unfold okHB at q4; split at q4 <;> simp_all
        | _ => rfl
      rw [e9]
      cases e : G.sub c k with
      | none => rw [e] at p; exact p.elim
      | some t =>
        refine ⟨t, (C.sub c k t e).1, fun ht ad _ => ?_, fun ht => ?_⟩
        · subst ht
          rw [e] at p
          refine ⟨Γ, R, rel, ?_⟩
          cases h with
          | retc e => exact p
          | cont => exact p
          | risa i k' => unfold okHB at q4; split at q4 <;> simp_all
          | rife i k' a b => unfold okHB at q4; split at q4 <;> simp_all
        · subst ht
          rw [e] at p
          exact fl p q5
    · cases hq
theorem s_try_mix (C : Sok I G F X sc) {body : List CS} {hs : List (Nat × HB)} {b : List Stmt} {x : ExceptHandler} {xs : List ExceptHandler} (hb : ∀ {F' : Fr} {X' : Cx}, Sok I G F' X' sc → PSs X' b (RdS F' (runs G body))) (hh : okMx I sc hs (x :: xs) = true) :
    PS X (.Try b (x :: xs) [] [] pos) (RdS F (run G (.try body hs))) := by
  refine psImp (ps_try_mix (tb := fun W => RdS { F with W := W } (runs G body)) C.stk C.frm (by rw [C.hN]; exact C.nd) C.takes (fun W pn xe tk ps => hb (C.tr tk ps)) (mix_ok C hh)) fun D σ H ⟨Γ, R, rel, p⟩ => ⟨Γ, R, rel, ?_⟩
  have p : PostS F D R (match runs G body Γ with
    | .exc c Γ' => caught G c Γ' hs
    | o => o) := p
  cases e : runs G body Γ with
  | exc c Γ' =>
    rw [e] at p
    exact fun σ' H' R' r s => mix_caught C r hh (PostS.sub (o := caught G c Γ' hs) p s)
  | nx Γ' => rw [e] at p; exact p
  | brk Γ' => rw [e] at p; exact p
  | cont Γ' => rw [e] at p; exact p
  | ret s => rw [e] at p; exact p
  | bad => rw [e] at p; exact p.elim
end
end Bw
end

section
set_option autoImplicit false
set_option linter.all false
/-! Bw X: every statement of the core language that the checker takes is read by its meaning. -/
namespace Bw
open PySem L2
def isDc : CE → Bool
  | .dc _ _ _ _ _ => true
  | _ => false
def isLc : CE → Bool
  | .lc _ _ _ _ => true
  | .lc2 _ _ _ _ _ _ _ => true
  | _ => false
/-- stores of a display that are not swapped -/
def noSwap (sc : Scope) (xs : List Expr) : Bool := !(xs.length == 2 || xs.length == 3) || xs.any fun
  | .Name n _ => sc.names.lookup n == some .cell
  | _ => false
def foldsE (e : List Expr) : Bool := e.all (foldedForSure 8) || e.all (constantsAlone 8)
def isLstE : CE → Bool
  | .lst _ => true
  | _ => false
def isDisp : CE → Bool
  | .lst _ => true
  | .lc _ _ _ _ => true
  | .lc2 _ _ _ _ _ _ _ => true
  | _ => false
theorem disp_lst {G : Ctx} {Γ : Gm} {b : CE} {s : SV} (h : isDisp b = true) (e : ev G b Γ = .ok s) : ∃ ps, s = .d (.lst ps) := by
  have key : ∀ {α : Type} {r : Res α} {f : α → Res SV}, r.bind f = .ok s → ∃ a, f a = .ok s := fun {α r f} q => by
    cases r with
    | ok a => exact ⟨a, q⟩
    | exc c => cases q
    | bad => cases q
  cases b <;> first | (cases h; done) | skip
  · obtain ⟨ss, e⟩ := key (show ((evL G _ Γ).bind fun ss => (datas? ss).bind fun ps => .ok (.d (.lst ps))) = .ok s from e)
    obtain ⟨ps, e⟩ := key e
    cases e; exact ⟨_, rfl⟩
  · obtain ⟨xs, e⟩ := key (show ((evI G _ Γ).bind fun xs => _) = .ok s from e)
    obtain ⟨ps, e⟩ := key e
    cases e; exact ⟨_, rfl⟩
  · obtain ⟨xs, e⟩ := key (show ((evI G _ Γ).bind fun xs => _) = .ok s from e)
    obtain ⟨ps, e⟩ := key e
    obtain ⟨ps, e⟩ := key e
    cases e; exact ⟨_, rfl⟩
/-- a list made here: what an own place may be set to -/
def okN (I : Inf) (sc : Scope) (n : Str) (tp : Pos) : CE → Expr → Bool
  | .lst es, x => (match x with
    | .List xs _ => okL I sc es xs && decide (es.length ≤ 1000) && (mdL es == .e)
    | _ => false)
  | .lc t it cs e, x => okE I sc (.lc t it cs e) x
  | .lc2 t it cs t' it' cs' e, x => okE I sc (.lc2 t it cs t' it' cs' e) x
  | .dnew, x => okE I sc .dnew x
  | .disp1 k e, x => okE I sc (.disp1 k e) x
  | .dc t it cs k e, x => okE I sc (.dc t it cs k e) x
  | .dnx, x => okE I sc .dnx x
  | .disx k e, x => okE I sc (.disx k e) x
  | .dcx t it cs k e, x => okE I sc (.dcx t it cs k e) x
  | .bin op a b, x => (match x with
    | .BinOp y o z _ => (decide (op = .add) && decide (o = .Add) && isDisp b && okE I sc a y && okE I sc b z && le_t (md a) && le_t (md b)) ||
        (decide (op = .mul) && decide (o = .Mult) && isLstE a && okE I sc a y && okE I sc b z && le_t (md a) && le_t (md b))
    | _ => false)
  | _, _ => false
/-- an element that is to be an own list -/
def okOw (I : Inf) (sc : Scope) : CE → Expr → Bool
  | .lst es, x => (match x with
    | .List xs _ => okL I sc es xs && decide (es.length ≤ 1000) && (mdL es == .e)
    | _ => false)
  | .lc t it cs e, x => okE I sc (.lc t it cs e) x
  | _, _ => false
def okLO (I : Inf) (sc : Scope) : List Bool → List CE → List Expr → Bool
  | [], [], [] => true
  | true :: os, a :: as, x :: xs => okOw I sc a x && okLO I sc os as xs
  | false :: os, a :: as, x :: xs => okE I sc a x && (md a == .e) && tame x && okLO I sc os as xs
  | _, _, _ => false
def nmTs (is : List Nat) : List CT := is.map .name
def oneT (is : List Nat) : Bool := !(is.length == 2 || is.length == 3)
def okPop : Bool → List Expr → Bool
  | false, [] => true
  | true, [.Constant (.int i) _ _] => decide (i = 0)
  | _, _ => false
mutual
def okS (I : Inf) (sc : Scope) : CS → Stmt → Bool
  | .expr e, x => (match x with
    | .Expr y _ => okE I sc e y && !isComp y
    | _ => false)
  | .set t e, x => (match t with
    | .name i => (match x with
      | .Assign [.Name n tp] y _ => decide (I.N[i]? = some n) && locB sc n && okE I sc e y && (md e == .e) && (isLc e || isDc e || !isComp y)
      | _ => false)
    | .tup ts => (match x with
      | .Assign [.Tuple xs k p] y _ => okTs I sc ts xs && okE I sc e y && (md e == .e) && (!isTupE y || noSwap sc xs)
      | _ => false))
  | .par is es, x => (match is, es, x with
    | [i, j], [a, b], .Assign [.Tuple [.Name n px, .Name m py] _ _] (.Tuple [y, z] _ _) _ => decide (I.N[i]? = some n) && decide (I.N[j]? = some m) && decide (n ≠ m) && decide (i ≠ j) && (sc.names.lookup n == some .local) && (sc.names.lookup m == some .local) &&
        (px.line == py.line) && !(foldsE [y, z]) && okL I sc [a, b] [y, z] && (mdL [a, b] == .e)
    | [i, j, l], [a, b, c], .Assign [.Tuple [.Name n px, .Name m py, .Name o pz] _ _] (.Tuple [y, z, w] _ _) _ => decide (I.N[i]? = some n) && decide (I.N[j]? = some m) && decide (I.N[l]? = some o) && decide (n ≠ m) && decide (n ≠ o) && decide (m ≠ o) && decide (i ≠ j) && decide (i ≠ l) && decide (j ≠ l) &&
        (sc.names.lookup n == some .local) && (sc.names.lookup m == some .local) && (sc.names.lookup o == some .local) && (px.line == py.line) && (px.line == pz.line) && !(foldsE [y, z, w]) && okL I sc [a, b, c] [y, z, w] && (mdL [a, b, c] == .e)
    | _, _, _ => false)
  | .parO is os es, x => (match is, os, es, x with
    | [i, j], [o1, o2], [a, b], .Assign [.Tuple [.Name n px, .Name m py] _ _] (.Tuple [y, z] _ _) _ => decide (I.N[i]? = some n) && decide (I.N[j]? = some m) && decide (n ≠ m) && decide (i ≠ j) && (sc.names.lookup n == some .local) && (sc.names.lookup m == some .local) &&
        (px.line == py.line) && !(foldsE [y, z]) && okLO I sc [o1, o2] [a, b] [y, z] && (tame y && tame z)
    | [i, j, l], [o1, o2, o3], [a, b, c], .Assign [.Tuple [.Name n px, .Name m py, .Name o pz] _ _] (.Tuple [y, z, w] _ _) _ => decide (I.N[i]? = some n) && decide (I.N[j]? = some m) && decide (I.N[l]? = some o) && decide (n ≠ m) && decide (n ≠ o) && decide (m ≠ o) && decide (i ≠ j) && decide (i ≠ l) && decide (j ≠ l) &&
        (sc.names.lookup n == some .local) && (sc.names.lookup m == some .local) && (sc.names.lookup o == some .local) && (px.line == py.line) && (px.line == pz.line) && !(foldsE [y, z, w]) && okLO I sc [o1, o2, o3] [a, b, c] [y, z, w] && (tame y && tame z && tame w)
    | _, _, _, _ => false) || (match x with
      | .Assign [.Tuple xs _ _] (.Tuple ys _ _) _ => okTs I sc (nmTs is) xs && okLO I sc os es ys && noSwap sc xs && decide (is.length = os.length) && decide (os.length ≤ 1000)
      | _ => false)
  | .own i e, x => (match x with
    | .Assign [.Name n tp] y _ => decide (I.N[i]? = some n) && locB sc n && okN I sc n tp e y
    | _ => false)
  | .frz _, _ => false
  | .aug i op e, x => (match x with
    | .AugAssign (.Name n _) o y _ => decide (I.N[i]? = some n) && locB sc n && decide (o = opOf op) && (decide (op = .add) || decide (op = .sub)) && okE I sc e y
    | _ => false)
  | .augs i op k e, x => (match x with
    | .AugAssign (.Subscript (.Name n _) z _) o y _ => decide (I.N[i]? = some n) && visB sc n && nmB n && okE I sc k z && (md k == .e) && okE I sc e y && (md e == .e) && decide (o = opOf op) && (decide (op = .add) || decide (op = .sub)) && tame z
    | _ => false)
  | .app i e, x => (match x with
    | .Expr (.Call (.Attribute (.Name n _) a apos) [y] [] cpos) _ => decide (I.N[i]? = some n) && visB sc n && nmB n && decide (a = Str.ofString "append") && okE I sc e y && (md e == .e) && tame y && (apos.endLine == cpos.line)
    | _ => false)
  | .ext i e, x => (match x with
    | .Expr (.Call (.Attribute (.Name n _) a apos) [y] [] cpos) _ => decide (I.N[i]? = some n) && visB sc n && nmB n && decide (a = Str.ofString "extend") && okE I sc e y && (md e == .e) && tame y && (apos.endLine == cpos.line)
    | _ => false)
  | .upd i e, x => (match x with
    | .Expr (.Call (.Attribute (.Name n _) a apos) [y] [] cpos) _ => decide (I.N[i]? = some n) && visB sc n && nmB n && decide (a = Str.ofString "update") && okE I sc e y && (md e == .e) && tame y && (apos.endLine == cpos.line)
    | _ => false)
  | .pop f t i, x => (match t, x with
    | .name j, .Assign [.Name m _] (.Call (.Attribute (.Name n _) a apos) ys [] cpos) _ => decide (I.N[j]? = some m) && locB sc m && decide (I.N[i]? = some n) && visB sc n && nmB n && decide (a = Str.ofString "pop") && okPop f ys && (apos.endLine == cpos.line)
    | .tup ts, .Assign [.Tuple xs _ _] (.Call (.Attribute (.Name n _) a apos) ys [] cpos) _ => okTs I sc ts xs && true && decide (I.N[i]? = some n) && visB sc n && nmB n && decide (a = Str.ofString "pop") && okPop f ys && (apos.endLine == cpos.line)
    | _, _ => false)
  | .sto i k e, x => (match x with
    | .Assign [.Subscript (.Name n _) z _] y _ => decide (I.N[i]? = some n) && visB sc n && nmB n && okE I sc k z && (md k == .e) && okE I sc e y && (md e == .e) && !isComp y && tame z
    | _ => false)
  | .ife c a b, x => (match x with
    | .If z p q _ => okE I sc c z && okSs I sc a p && okSs I sc b q
    | _ => false)
  | .for t it body, x => (match x with
    | .For tg iter b [] _ => okI I sc it tg iter && (mdI it == .e) && okT I sc t tg && okSs I sc body b && tame iter
    | _ => false)
  | .while c body, x => (match x with
    | .While z b [] _ => okE I sc c z && okSs I sc body b
    | _ => false)
  | .ret e, x => (match x with
    | .Return (some y) _ => okE I sc e y
    | _ => false)
  | .retN, x => (match x with
    | .Return none _ => true
    | _ => false)
  | .brk, x => (match x with
    | .Break _ => true
    | _ => false)
  | .cont, x => (match x with
    | .Continue _ => true
    | _ => false)
  | .pass, x => (match x with
    | .Pass _ => true
    | _ => false)
  | .never, _ => true
  | .raise k, x => (match x with
    | .Raise (some (.Call (.Name n _) [.Constant (.str _) _ _] [] _)) none _ => decide (I.exs[k]? = some n) && glB sc n && nmB n
    | _ => false)
  | .try body hs, x => (match x with
    | .Try b (h :: xs) [] [] _ => okSs I sc body b && (okHs I sc hs (h :: xs) || okAs I sc hs (h :: xs) || okMx I sc hs (h :: xs))
    | _ => false)
def okSs (I : Inf) (sc : Scope) : List CS → List Stmt → Bool
  | [], xs => xs.isEmpty
  | s :: ss, xs => (match s with
    | .frz _ => okSs I sc ss xs
    | s => (match xs with
      | [] => false
      | x :: xs => okS I sc s x && okSs I sc ss xs))
end
section
variable {I : Inf} {G : Ctx} {F : Fr} {X : Cx} {sc : Scope} {pos : Pos}
theorem loc_env (C : Cok I G F X sc) {x : Str} (h : sc.names.lookup x = some .local) : X.env.scope.names.lookup x = some .local := by
  rcases C.sc _ _ h with q | ⟨q, _⟩
  · exact q
  · cases q
theorem xN {X : Cx} (C : Cok I G F X sc) : X.N.Nodup := by rw [C.hN]; exact C.nd
theorem xi (C : Cok I G F X sc) {i : Nat} {n : Str} (h : I.N[i]? = some n) : X.N[i]? = some n := by rw [C.hN]; exact h
/-- name = [..] -/
theorem s_lc (C : Sok I G F X sc) {i : Nat} {n : Str} {tp : Pos} {t : CT} {it : CI} {cs : List CE} {e : CE} {y : Expr} {rt : TE} (h1 : I.N[i]? = some n) (h2 : locB sc n = true) (hy : okE I sc (.lc t it cs e) y = true)
    (hpe : ∀ {own : List (Str × Nat)} {m : Md}, (∀ i ∈ own.map (·.2), i ∈ t.vars) → (∀ i ∈ t.vars, i ∈ own.map (·.2)) → ∀ σ H Q, rt σ H Q → tLc (RdI F m (evI G it)) (RdG F.calm t) (RdB F.calm (evC G cs)) (Rd' F.calm .e (ev G e)) (own.map (·.2)) σ H Q) :
    PS X (.Assign [.Name n tp] y pos) (tAsg rt (gName i)) := by
  unfold okE at hy
  split at hy
  · rename_i elt tg iter ifs scope p
    simp only [Bool.and_eq_true] at hy
    obtain ⟨⟨⟨⟨⟨⟨⟨⟨h1', h2'⟩, h3⟩, h4⟩, h5⟩, h6⟩, h7⟩, h8⟩, h9⟩ := hy
    have h5 := eq_of_beq h5
    have h9 : md e = .e := by simpa using h9
    have hv : ∀ i ∈ (ownOf I.N t.vars).map (·.2), i ∈ t.vars := fun i hi => by rw [← h5]; exact hi
    have hw : ∀ i ∈ t.vars, i ∈ (ownOf I.N t.vars).map (·.2) := fun i hi => by rw [h5]; exact hi
    have Cc := C.toCok
    have hi := evI_ok G I it Cc _ _ h1'
    have hg := fun (s : Shared) (H : Hp) (Ca : Addr) (cl : List (Str × Addr)) (fp : List Addr) => g_ok (Cc.blk s H scope cl Ca fp) t _ h6
    have ht := fun (s : Shared) (H : Hp) (Ca : Addr) (cl : List (Str × Addr)) (fp : List Addr) => evC_ok G I cs (Cc.blk s H scope cl Ca fp) _ h7
    have he : ∀ (s : Shared) (H : Hp) (Ca : Addr) (cl : List (Str × Addr)) (fp : List Addr), PE (X.blk s H scope (compEnvC scope cl Ca X.env) fp) elt (Rd' F.calm .e (ev G e)) := fun s H Ca cl fp => by
      have := (ev_ok G I e (Cc.blk s H scope cl Ca fp) _ h8).1
      rwa [h9] at this
    cases sw : swB sc n tp (.ListComp elt [⟨tg, iter, ifs, 0⟩] scope p) with
    | false =>
      exact psImp (ps_set (xN Cc) (xi Cc h1) (loc_of Cc h2) (pe_lc C.calm (xN Cc) hi (blk_ok Cc h4) hg ht he (fun x => folded_tame h3 _ x)) (by rw [swaps_lc C h2, sw]) (loc_fn Cc h2)) fun D σ H h => hpe hv hw σ H _ h
    | true =>
      have hl : sc.names.lookup n = some .local := by
        unfold swB at sw
        simp only [Bool.and_eq_true, beq_iff_eq] at sw
        exact sw.1.1
      exact psImp (ps_setLc C.calm (xN Cc) (xi Cc h1) (loc_env Cc hl) (by rw [swaps_lc C h2, sw]) hi (blk_ok Cc h4) hg ht he (fun x => folded_tame h3 _ x)) fun D σ H h => hpe hv hw σ H _ h
  · cases hy
/-- name = {k: v for ..} on one line, the name a local -/
theorem ps_setDc {i : Nat} {y : Str} {py : Pos} {kx vx tg iter : Expr} {ifs : List Expr} {scope : Scope} {own : List (Str × Nat)} {pos spos : Pos} {wi : TI} {g : TG} {tt : TT} {tk tv : TE} (hc : X.calm = true) (hN : X.N.Nodup) (hy : X.N[i]? = some y) (hyl : X.env.scope.names.lookup y = some .local)
    (hsw : swapsWith (.DictComp kx vx [⟨tg, iter, ifs, 0⟩] scope pos) (some (.Name y py)) spos.line X.env = pure true) (hi : PI X tg iter wi) (ok : BlkOk X.N X.env.scope scope own)
    (hg : ∀ (s : Shared) (H : Hp) (C : Addr) (cl : List (Str × Addr)) (fp : List Addr), PG (X.blk s H scope (compEnvC scope cl C X.env) fp) tg g) (ht : ∀ (s : Shared) (H : Hp) (C : Addr) (cl : List (Str × Addr)) (fp : List Addr), PTs (X.blk s H scope (compEnvC scope cl C X.env) fp) ifs tt)
    (hk : ∀ (s : Shared) (H : Hp) (C : Addr) (cl : List (Str × Addr)) (fp : List Addr), PE (X.blk s H scope (compEnvC scope cl C X.env) fp) kx tk)
    (he : ∀ (s : Shared) (H : Hp) (C : Addr) (cl : List (Str × Addr)) (fp : List Addr), PE (X.blk s H scope (compEnvC scope cl C X.env) fp) vx tv) (hs : ∀ x, foldedSetIterable iter X.env x = pure x) :
    PS X (.Assign [.Name y py] (.DictComp kx vx [⟨tg, iter, ifs, 0⟩] scope pos) spos) (tAsg (tDc wi g tt tk tv (own.map (·.2))) (gName i)) := by
  refine ⟨fun pins s σ H D I h => ?_⟩
  rw [exec_Assign_Name_used _ _ _ _ hsw]
  refine wpAny_bind (wpAny_standAt (wpAny_bind ?_))
  show wpAny _ X.A (do let _ ← comprehension (.DictComp kx vx [⟨tg, iter, ifs, 0⟩] scope pos) scope X.env (firstIterPos [⟨tg, iter, ifs, 0⟩] pos) newDict false (eval iter X.env) (some (assign (.Name y py) X.env))) _ _ s
  have h : tDc wi g tt tk tv (own.map (·.2)) σ H (fun x H1 => gName i x σ H1 D.nx) := h
  refine wpAny_bind (thn (dc_core (Qf := fun _ s' => SP X pins D .next s') hc hN I hi ok hg ht hk he hs h fun L C s' m H' I' q hn f => ?_) fun _ s' hq => wpAny_pure (wpAny_pure hq))
  show wpAny _ _ (assign (.Name y py) X.env (.ref L)) _ _ _
  refine wpAny_assign_Name (store_ok2 (v := V.ref L) I' hN hy (.inl hyl) rfl (fun s2 I2 ⟨a, sb, ha⟩ => ?_) (.inr hyl))
  obtain ⟨f0, f1, f2, f3, f4, f5⟩ := f
  have haC : C ≠ a := by
    rcases ha with z | z
    · rw [z]; exact f1
    · exact fun e => f4 y a z e.symm
  refine ⟨m, hn.sameBut sb haC, fun h3 sb3 => ?_⟩
  exact ⟨_, H', I2.turned (t' := s2.toks) (fun b o hb e => (sb3.2 b hb).trans e) f0 f1 f3 f4 f5, q⟩
theorem s_dc (C : Sok I G F X sc) {i : Nat} {n : Str} {tp : Pos} {t : CT} {it : CI} {cs : List CE} {k e : CE} {y : Expr} {rt : TE} (h1 : I.N[i]? = some n) (h2 : locB sc n = true) (hy : okE I sc (.dc t it cs k e) y = true)
    (hpe : ∀ {own : List (Str × Nat)} {m : Md}, (∀ i ∈ own.map (·.2), i ∈ t.vars) → (∀ i ∈ t.vars, i ∈ own.map (·.2)) → ∀ σ H Q, rt σ H Q → tDc (RdI F m (evI G it)) (RdG F.calm t) (RdB F.calm (evC G cs)) (Rd' F.calm .e (ev G k)) (Rd' F.calm .e (ev G e)) (own.map (·.2)) σ H Q) :
    PS X (.Assign [.Name n tp] y pos) (tAsg rt (gName i)) := by
  unfold okE at hy
  split at hy
  · rename_i kx vx tg iter ifs scope p
    simp only [Bool.and_eq_true] at hy
    obtain ⟨⟨⟨⟨⟨⟨⟨⟨⟨⟨h1', h2'⟩, h3⟩, h4⟩, h5⟩, h6⟩, h7⟩, k1⟩, k2⟩, h8⟩, h9⟩ := hy
    have h5 := eq_of_beq h5
    have h9 : md e = .e := by simpa using h9
    have k2 : md k = .e := by simpa using k2
    have hv : ∀ i ∈ (ownOf I.N t.vars).map (·.2), i ∈ t.vars := fun i hi => by rw [← h5]; exact hi
    have hw : ∀ i ∈ t.vars, i ∈ (ownOf I.N t.vars).map (·.2) := fun i hi => by rw [h5]; exact hi
    have Cc := C.toCok
    have hi := evI_ok G I it Cc _ _ h1'
    have hg := fun (s : Shared) (H : Hp) (Ca : Addr) (cl : List (Str × Addr)) (fp : List Addr) => g_ok (Cc.blk s H scope cl Ca fp) t _ h6
    have ht := fun (s : Shared) (H : Hp) (Ca : Addr) (cl : List (Str × Addr)) (fp : List Addr) => evC_ok G I cs (Cc.blk s H scope cl Ca fp) _ h7
    have hk : ∀ (s : Shared) (H : Hp) (Ca : Addr) (cl : List (Str × Addr)) (fp : List Addr), PE (X.blk s H scope (compEnvC scope cl Ca X.env) fp) kx (Rd' F.calm .e (ev G k)) := fun s H Ca cl fp => by
      have := (ev_ok G I k (Cc.blk s H scope cl Ca fp) _ k1).1
      rwa [k2] at this
    have he : ∀ (s : Shared) (H : Hp) (Ca : Addr) (cl : List (Str × Addr)) (fp : List Addr), PE (X.blk s H scope (compEnvC scope cl Ca X.env) fp) vx (Rd' F.calm .e (ev G e)) := fun s H Ca cl fp => by
      have := (ev_ok G I e (Cc.blk s H scope cl Ca fp) _ h8).1
      rwa [h9] at this
    cases sw : swD sc n tp (.DictComp kx vx [⟨tg, iter, ifs, 0⟩] scope p) with
    | false =>
      exact psImp (ps_set (xN Cc) (xi Cc h1) (loc_of Cc h2) (pe_dc C.calm (xN Cc) hi (blk_ok Cc h4) hg ht hk he (fun x => folded_tame h3 _ x)) (by rw [swaps_dc C h2, sw]) (loc_fn Cc h2)) fun D σ H h => hpe hv hw σ H _ h
    | true =>
      have hl : sc.names.lookup n = some .local := by
        unfold swD at sw
        simp only [Bool.and_eq_true, beq_iff_eq] at sw
        exact sw.1.1
      exact psImp (ps_setDc C.calm (xN Cc) (xi Cc h1) (loc_env Cc hl) (by rw [swaps_dc C h2, sw]) hi (blk_ok Cc h4) hg ht hk he (fun x => folded_tame h3 _ x)) fun D σ H h => hpe hv hw σ H _ h
  · cases hy
theorem ps_setDcX {i : Nat} {y : Str} {py : Pos} {kx vx tg iter : Expr} {ifs : List Expr} {scope : Scope} {own : List (Str × Nat)} {pos spos : Pos} {wi : TI} {g : TG} {tt : TT} {tk tv : TE} (hc : X.calm = true) (hN : X.N.Nodup) (hu : X.A.units + 100 < cLine) (hy : X.N[i]? = some y) (hyl : X.env.scope.names.lookup y = some .local)
    (hsw : swapsWith (.DictComp kx vx [⟨tg, iter, ifs, 0⟩] scope pos) (some (.Name y py)) spos.line X.env = pure true) (hi : PI X tg iter wi) (ok : BlkOk X.N X.env.scope scope own)
    (hg : ∀ (s : Shared) (H : Hp) (C : Addr) (cl : List (Str × Addr)) (fp : List Addr), PG (X.blk s H scope (compEnvC scope cl C X.env) fp) tg g) (ht : ∀ (s : Shared) (H : Hp) (C : Addr) (cl : List (Str × Addr)) (fp : List Addr), PTs (X.blk s H scope (compEnvC scope cl C X.env) fp) ifs tt)
    (hk : ∀ (s : Shared) (H : Hp) (C : Addr) (cl : List (Str × Addr)) (fp : List Addr), PE (X.blk s H scope (compEnvC scope cl C X.env) fp) kx tk)
    (he : ∀ (s : Shared) (H : Hp) (C : Addr) (cl : List (Str × Addr)) (fp : List Addr), PE (X.blk s H scope (compEnvC scope cl C X.env) fp) vx tv) (hs : ∀ x, foldedSetIterable iter X.env x = pure x) :
    PS X (.Assign [.Name y py] (.DictComp kx vx [⟨tg, iter, ifs, 0⟩] scope pos) spos) (tAsg (tDcX X.K wi g tt tk tv (own.map (·.2))) (gName i)) := by
  refine ⟨fun pins s σ H D I h => ?_⟩
  rw [exec_Assign_Name_used _ _ _ _ hsw]
  refine wpAny_bind (wpAny_standAt (wpAny_bind ?_))
  show wpAny _ X.A (do let _ ← comprehension (.DictComp kx vx [⟨tg, iter, ifs, 0⟩] scope pos) scope X.env (firstIterPos [⟨tg, iter, ifs, 0⟩] pos) newDict false (eval iter X.env) (some (assign (.Name y py) X.env))) _ _ s
  have h : tDcX X.K wi g tt tk tv (own.map (·.2)) σ H (fun x H1 => gName i x σ H1 D.nx) := h
  refine wpAny_bind (thn (dcx_run (Fin := fun _ s' => SP X pins D .next s') hc hN hu I hi ok hg ht hk he hs h fun L C s' m H' I' q hn f => ?_) fun _ s' hq => wpAny_pure (wpAny_pure hq))
  show wpAny _ _ (assign (.Name y py) X.env (.ref L)) _ _ _
  refine wpAny_assign_Name (store_ok2 (v := V.ref L) I' hN hy (.inl hyl) rfl (fun s2 I2 ⟨a, sb, ha⟩ => ?_) (.inr hyl))
  obtain ⟨f0, f1, f2, f3, f4, f5⟩ := f
  have haC : C ≠ a := by
    rcases ha with z | z
    · rw [z]; exact f1
    · exact fun e => f4 y a z e.symm
  refine ⟨m, hn.sameBut sb haC, fun h3 sb3 => ?_⟩
  exact ⟨_, H', I2.turned (t' := s2.toks) (fun b o hb e => (sb3.2 b hb).trans e) f0 f1 f3 f4 f5, q⟩
theorem s_dcx (C : Sok I G F X sc) {i : Nat} {n : Str} {tp : Pos} {t : CT} {it : CI} {cs : List CE} {k e : CE} {y : Expr} {rt : TE} (h1 : I.N[i]? = some n) (h2 : locB sc n = true) (hy : okE I sc (.dcx t it cs k e) y = true)
    (hpe : ∀ {own : List (Str × Nat)} {m : Md}, (∀ i ∈ own.map (·.2), i ∈ t.vars) → (∀ i ∈ t.vars, i ∈ own.map (·.2)) → ∀ σ H Q, rt σ H Q → tDcX F.K (RdI F m (evI G it)) (RdG F.calm t) (RdB F.calm (evC G cs)) (Rd' F.calm .e (ev G k)) (Rd' F.calm .e (ev G e)) (own.map (·.2)) σ H Q) :
    PS X (.Assign [.Name n tp] y pos) (tAsg rt (gName i)) := by
  unfold okE at hy
  split at hy
  · rename_i kx vx tg iter ifs scope p
    simp only [Bool.and_eq_true] at hy
    obtain ⟨⟨⟨⟨⟨⟨⟨⟨⟨⟨h1', h2'⟩, h3⟩, h4⟩, h5⟩, h6⟩, h7⟩, k1⟩, k2⟩, h8⟩, h9⟩ := hy
    have h5 := eq_of_beq h5
    have h9 : md e = .e := by simpa using h9
    have k2 : md k = .e := by simpa using k2
    have hv : ∀ i ∈ (ownOf I.N t.vars).map (·.2), i ∈ t.vars := fun i hi => by rw [← h5]; exact hi
    have hw : ∀ i ∈ t.vars, i ∈ (ownOf I.N t.vars).map (·.2) := fun i hi => by rw [h5]; exact hi
    have Cc := C.toCok
    rw [Cc.hK] at hpe
    have hi := evI_ok G I it Cc _ _ h1'
    have hg := fun (s : Shared) (H : Hp) (Ca : Addr) (cl : List (Str × Addr)) (fp : List Addr) => g_ok (Cc.blk s H scope cl Ca fp) t _ h6
    have ht := fun (s : Shared) (H : Hp) (Ca : Addr) (cl : List (Str × Addr)) (fp : List Addr) => evC_ok G I cs (Cc.blk s H scope cl Ca fp) _ h7
    have hk : ∀ (s : Shared) (H : Hp) (Ca : Addr) (cl : List (Str × Addr)) (fp : List Addr), PE (X.blk s H scope (compEnvC scope cl Ca X.env) fp) kx (Rd' F.calm .e (ev G k)) := fun s H Ca cl fp => by
      have := (ev_ok G I k (Cc.blk s H scope cl Ca fp) _ k1).1
      rwa [k2] at this
    have he : ∀ (s : Shared) (H : Hp) (Ca : Addr) (cl : List (Str × Addr)) (fp : List Addr), PE (X.blk s H scope (compEnvC scope cl Ca X.env) fp) vx (Rd' F.calm .e (ev G e)) := fun s H Ca cl fp => by
      have := (ev_ok G I e (Cc.blk s H scope cl Ca fp) _ h8).1
      rwa [h9] at this
    cases sw : swD sc n tp (.DictComp kx vx [⟨tg, iter, ifs, 0⟩] scope p) with
    | false =>
      exact psImp (ps_set (xN Cc) (xi Cc h1) (loc_of Cc h2) (pe_dcx C.calm (xN Cc) Cc.un hi (blk_ok Cc h4) hg ht hk he (fun x => folded_tame h3 _ x)) (by rw [swaps_dc C h2, sw]) (loc_fn Cc h2)) fun D σ H h => hpe hv hw σ H _ h
    | true =>
      have hl : sc.names.lookup n = some .local := by
        unfold swD at sw
        simp only [Bool.and_eq_true, beq_iff_eq] at sw
        exact sw.1.1
      exact psImp (ps_setDcX C.calm (xN Cc) Cc.un (xi Cc h1) (loc_env Cc hl) (by rw [swaps_dc C h2, sw]) hi (blk_ok Cc h4) hg ht hk he (fun x => folded_tame h3 _ x)) fun D σ H h => hpe hv hw σ H _ h
  · cases hy
theorem s_lc2 (C : Sok I G F X sc) {i : Nat} {n : Str} {tp : Pos} {t t' : CT} {it it' : CI} {cs cs' : List CE} {e : CE} {y : Expr} {rt : TE} (h1 : I.N[i]? = some n) (h2 : locB sc n = true) (hy : okE I sc (.lc2 t it cs t' it' cs' e) y = true)
    (hpe : ∀ {m : Md}, ∀ σ H Q, rt σ H Q → tLc2' F G m t it cs t' it' cs' e σ H Q) : PS X (.Assign [.Name n tp] y pos) (tAsg rt (gName i)) := by
  unfold okE at hy
  split at hy
  · rename_i elt tg iter ifs tg1 iter1 ifs1 scope p
    simp only [Bool.and_eq_true] at hy
    obtain ⟨⟨⟨⟨⟨⟨⟨⟨⟨⟨⟨⟨⟨h1', h2'⟩, h3⟩, h4⟩, h5⟩, h6⟩, h7⟩, k1⟩, k2⟩, k3⟩, k4⟩, k5⟩, h8⟩, h9⟩ := hy
    have h5 := eq_of_beq h5
    have h9 : md e = .e := by simpa using h9
    have k2 : mdI it' = .e := by simpa using k2
    have Cc := C.toCok
    have hi := evI_ok G I it Cc _ _ h1'
    have hg := fun (s : Shared) (H : Hp) (Ca : Addr) (cl : List (Str × Addr)) (fp : List Addr) => g_ok (Cc.blk s H scope cl Ca fp) t _ h6
    have ht := fun (s : Shared) (H : Hp) (Ca : Addr) (cl : List (Str × Addr)) (fp : List Addr) => evC_ok G I cs (Cc.blk s H scope cl Ca fp) _ h7
    have hi1 : ∀ (s : Shared) (H : Hp) (Ca : Addr) (cl : List (Str × Addr)) (fp : List Addr), PI (X.blk s H scope (compEnvC scope cl Ca X.env) fp) tg1 iter1 (RdI F.calm .e (evI G it')) := fun s H Ca cl fp => by
      have := evI_ok G I it' (Cc.blk s H scope cl Ca fp) _ _ k1
      rwa [k2] at this
    have hg1 := fun (s : Shared) (H : Hp) (Ca : Addr) (cl : List (Str × Addr)) (fp : List Addr) => g_ok (Cc.blk s H scope cl Ca fp) t' _ k4
    have ht1 := fun (s : Shared) (H : Hp) (Ca : Addr) (cl : List (Str × Addr)) (fp : List Addr) => evC_ok G I cs' (Cc.blk s H scope cl Ca fp) _ k5
    have he : ∀ (s : Shared) (H : Hp) (Ca : Addr) (cl : List (Str × Addr)) (fp : List Addr), PE (X.blk s H scope (compEnvC scope cl Ca X.env) fp) elt (Rd' F.calm .e (ev G e)) := fun s H Ca cl fp => by
      have := (ev_ok G I e (Cc.blk s H scope cl Ca fp) _ h8).1
      rwa [h9] at this
    cases sw : swB sc n tp (.ListComp elt [⟨tg, iter, ifs, 0⟩, ⟨tg1, iter1, ifs1, 0⟩] scope p) with
    | false =>
      exact psImp (ps_set (xN Cc) (xi Cc h1) (loc_of Cc h2) (p_lc2 Cc hi (blk_ok Cc h4) h5 hg ht hi1 hg1 ht1 he (fun x => folded_tame h3 _ x) (fun _ x => folded_tame k3 _ x)) (by rw [swaps_lc C h2, sw]) (loc_fn Cc h2)) fun D σ H h => hpe σ H _ h
    | true =>
      have hl : sc.names.lookup n = some .local := by
        unfold swB at sw
        simp only [Bool.and_eq_true, beq_iff_eq] at sw
        exact sw.1.1
      have q := ps_setLc2 (spos := pos) (vs1 := t'.vars) C.calm (xN Cc) (xi Cc h1) (loc_env Cc hl) (by rw [swaps_lc C h2, sw]) hi (blk_ok Cc h4) (fun i h => by rw [h5]; exact List.mem_append_right _ h) hg ht hi1 hg1 ht1 he (fun x => folded_tame h3 _ x) (fun _ x => folded_tame k3 _ x)
      rw [h5] at q
      exact psImp q fun D σ H h => hpe σ H _ h
  · cases hy
theorem ow_pe (C : Cok I G F X sc) {a : CE} {x : Expr} (h : okOw I sc a x = true) : PE X x (RdN F (ev G a)) ∧ tame x = true ∧ isDisp' a = true := by
  unfold okOw at h
  split at h
  · split at h
    · rename_i es _ xs p
      simp only [Bool.and_eq_true, decide_eq_true_eq] at h
      have hm : mdL es = .e := by simpa using h.2
      have ha := evL_ok G I es C _ h.1.1
      rw [hm] at ha
      exact ⟨n_lst h.1.2 ha, rfl, rfl⟩
    · cases h
  · rename_i t it cs e
    unfold okE at h
    split at h
    · rename_i elt tg iter ifs scope p
      simp only [Bool.and_eq_true] at h
      obtain ⟨⟨⟨⟨⟨⟨⟨⟨h1', h2'⟩, h3⟩, h4⟩, h5⟩, h6⟩, h7⟩, h8⟩, h9⟩ := h
      have h5 := eq_of_beq h5
      have h9 : md e = .e := by simpa using h9
      have hv : ∀ i ∈ (ownOf I.N t.vars).map (·.2), i ∈ t.vars := fun i hi => by rw [← h5]; exact hi
      have hw : ∀ i ∈ t.vars, i ∈ (ownOf I.N t.vars).map (·.2) := fun i hi => by rw [h5]; exact hi
      have hi := evI_ok G I it C _ _ h1'
      have hg := fun (s : Shared) (H : Hp) (Ca : Addr) (cl : List (Str × Addr)) (fp : List Addr) => g_ok (C.blk s H scope cl Ca fp) t _ h6
      have ht := fun (s : Shared) (H : Hp) (Ca : Addr) (cl : List (Str × Addr)) (fp : List Addr) => evC_ok G I cs (C.blk s H scope cl Ca fp) _ h7
      have he : ∀ (s : Shared) (H : Hp) (Ca : Addr) (cl : List (Str × Addr)) (fp : List Addr), PE (X.blk s H scope (compEnvC scope cl Ca X.env) fp) elt (Rd' F.calm .e (ev G e)) := fun s H Ca cl fp => by
        have := (ev_ok G I e (C.blk s H scope cl Ca fp) _ h8).1
        rwa [h9] at this
      exact ⟨n_lc C hi (blk_ok C h4) hv hw hg ht he (fun x => folded_tame h3 _ x), rfl, rfl⟩
    · cases h
  · cases h
theorem po_ok (C : Cok I G F X sc) : ∀ {os : List Bool} {as : List CE} {xs : List Expr}, okLO I sc os as xs = true → PA X xs (RdOw F os (evL G as))
  | [], [], [], _ => po_nil
  | true :: os, a :: as, x :: xs, h => by
    unfold okLO at h
    rw [Bool.and_eq_true] at h
    obtain ⟨k1, k2, k3⟩ := ow_pe C (G := G) h.1
    exact po_own k2 k3 k1 (po_ok C h.2)
  | false :: os, a :: as, x :: xs, h => by
    unfold okLO at h
    simp only [Bool.and_eq_true] at h
    have hm : md a = .e := by simpa using h.1.1.2
    have he := (ev_ok G I a C x h.1.1.1).1
    rw [hm] at he
    exact po_sh h.1.2 he (po_ok C h.2)
  | [], [], _ :: _, h => by simp [okLO] at h
  | [], _ :: _, _, h => by simp [okLO] at h
  | true :: _, [], _, h => by simp [okLO] at h
  | true :: _, _ :: _, [], h => by simp [okLO] at h
  | false :: _, [], _, h => by simp [okLO] at h
  | false :: _, _ :: _, [], h => by simp [okLO] at h
def gNames : List Nat → TGs
  | [] => gNil
  | i :: is => gCons (gName i) (gNames is)
theorem gn_of {Q : L2.St → Hp → Prop} {H : Hp} : ∀ {is : List Nat} {vs : List V} {σ : L2.St}, vs.length = is.length → Q (setsV is vs σ) H → gNames is vs σ H Q
  | [], [], σ, _, h => ⟨rfl, h⟩
  | i :: is, v :: vs, σ, hl, h => ⟨v, vs, rfl, gn_of (is := is) (by simpa using hl) h⟩
  | [], _ :: _, _, hl, _ => by cases hl
  | _ :: _, [], _, hl, _ => by cases hl
theorem gn_ok (C : Cok I G F X sc) : ∀ (is : List Nat) (xs : List Expr), okTs I sc (nmTs is) xs = true → PGs X xs (gNames is)
  | [], [], _ => pgs_nil
  | i :: is, x :: xs, h => by
    have h : (okT I sc (.name i) x && okTs I sc (nmTs is) xs) = true := h
    rw [Bool.and_eq_true] at h
    refine pgs_cons ?_ (gn_ok C is xs h.2) (by rw [okT_each h.1]; rfl)
    obtain ⟨h1, _⟩ := h
    cases x <;> first | (cases h1; done) | skip
    rename_i x p
    have h1 : (decide (I.N[i]? = some x) && locB sc x) = true := h1
    rw [Bool.and_eq_true, decide_eq_true_eq] at h1
    exact pg_name (by rw [C.hN]; exact C.nd) (by rw [C.hN]; exact h1.1) (loc_of C h1.2) (loc_fn C h1.2)
  | [], _ :: _, h => by cases h
  | _ :: _, [], h => by cases h
theorem parO_post (is : List Nat) {os : List Bool} {as : List CE} {D : Ends} {σ : L2.St} {H : Hp} (hl : is.length = os.length) (h : RdS F (run G (.parO is os as)) D σ H) : RdOw F os (evL G as) σ H fun vs H1 => vs.length = os.length ∧ D.nx (setsV is vs σ) H1 := by
  obtain ⟨Γ, R, rel, p⟩ := h
  refine ⟨Γ, R, rel, ?_⟩
  have p : PostS F D R ((evL G as Γ).out Γ fun ss => .nx (setsO is os ss Γ)) := p
  cases e : evL G as Γ with
  | bad => rw [e] at p; exact p
  | exc c => rw [e] at p; exact fun H1 R1 g => p σ H1 R1 (rel.grow g) g.reg
  | ok ss =>
    rw [e] at p
    intro vs H' R' g rm
    have r2 := rel.grow g
    exact ⟨rmo_len rm, p _ H' R' (rel_setO rfl r2.same hl (fun a z => by
      cases c : F.H0 a with
      | none => exact absurd c z
      | some o => rw [rel.same _ _ c]; simp) r2 (known_rel rel) rm) g.reg⟩
theorem parO_postT (is : List Nat) {os : List Bool} {as : List CE} {D : Ends} {σ : L2.St} {H : Hp} (hl : is.length = os.length) (h : RdS F (run G (.parO is os as)) D σ H) : RdOw F os (evL G as) σ H fun vs H1 => vs.length = os.length ∧ ∀ q, H1 q = none → D.nx (setsV is vs σ) (upd H1 q (.tup vs)) := by
  obtain ⟨Γ, R, rel, p⟩ := h
  refine ⟨Γ, R, rel, ?_⟩
  have p : PostS F D R ((evL G as Γ).out Γ fun ss => .nx (setsO is os ss Γ)) := p
  cases e : evL G as Γ with
  | bad => rw [e] at p; exact p
  | exc c => rw [e] at p; exact fun H1 R1 g => p σ H1 R1 (rel.grow g) g.reg
  | ok ss =>
    rw [e] at p
    intro vs H' R' g rm
    have r2 := rel.grow g
    refine ⟨rmo_len rm, fun q hq => ?_⟩
    have r3 := rel_setO rfl r2.same hl (fun a z => by
      cases c : F.H0 a with
      | none => exact absurd c z
      | some o => rw [rel.same _ _ c]; simp) r2 (known_rel rel) rm
    exact p _ _ R' (r3.grow (Grow.hid r3.sub hq _)) g.reg
/-- name = value -/
theorem s_set (C : Sok I G F X sc) {i : Nat} {n : Str} {tp : Pos} {e : CE} {y : Expr} (h1 : I.N[i]? = some n) (h2 : locB sc n = true) (hy : okE I sc e y = true) (hm : md e = .e) (hl : (isLc e || isDc e || !isComp y) = true) : PS X (.Assign [.Name n tp] y pos) (RdS F (run G (.set (.name i) e))) := by
  have he := (ev_ok G I e C.toCok y hy).1
  rw [hm] at he
  have rd : ∀ D σ H, RdS F (run G (.set (.name i) e)) D σ H → tAsg (Rd' F .e (ev G e)) (gName i) D σ H := fun D σ H ⟨Γ, R, rel, p⟩ => by
    have p : PostS F D R ((ev G e Γ).out Γ fun s => .nx (Γ.set i (.sh s))) := p
    exact ⟨Γ, R, rel, (out_post rel p).mono fun v H1 ⟨s, R1, g, rv, q⟩ => q _ _ R1 ((rel.grow g).set rv) .refl⟩
  cases c : isComp y with
  | false => exact psImp (ps_set (xN C.toCok) (xi C.toCok h1) (loc_of C.toCok h2) he (swaps_no c _ _ _) (loc_fn C.toCok h2)) rd
  | true =>
    rw [c] at hl
    cases e <;> try (cases hl; done)
    · exact psImp (s_lc C h1 h2 hy fun hv hw σ H Q h => rd_lc hv hw h) rd
    · exact psImp (s_lc2 C h1 h2 hy fun σ H Q h => rd_lc2 h) rd
    · exact psImp (s_dc C h1 h2 hy fun hv hw σ H Q h => rd_dc hv hw h) rd
/-- name = a new list -/
theorem s_own (C : Sok I G F X sc) {i : Nat} {n : Str} {tp : Pos} {e : CE} {y : Expr} (h1 : I.N[i]? = some n) (h2 : locB sc n = true) (hy : okN I sc n tp e y = true) : PS X (.Assign [.Name n tp] y pos) (RdS F (run G (.own i e))) := by
  have Cc := C.toCok
  have rd : ∀ D σ H, RdS F (run G (.own i e)) D σ H → (∀ Γ s, ev G e Γ = .ok s → ∃ ps, s = .d (.lst ps)) → tAsg (RdN F (ev G e)) (gName i) D σ H := fun D σ H ⟨Γ, R, rel, p⟩ hl => by
    have p : PostS F D R ((ev G e Γ).out Γ fun s => .nx (Γ.set i (.ow s))) := p
    refine ⟨Γ, R, rel, ?_⟩
    cases e1 : ev G e Γ with
    | bad => rw [e1] at p; exact p
    | exc c => rw [e1] at p; exact fun H1 R1 g => p σ H1 R1 (rel.grow g) g.reg
    | ok s =>
      obtain ⟨ps, rfl⟩ := hl Γ s e1
      rw [e1] at p
      intro a H1 R1 vs g hn hs hR hv hz
      have h0 : F.H0 a = none := by
        cases z : F.H0 a with
        | none => rfl
        | some o => rw [rel.same _ _ z] at hn; cases hn
      exact p _ H1 R1 ((rel.grow g).ownNew (w := .d (.lst ps)) ⟨_, hs, hv, hz⟩ hR h0 fun j t _ q1 q2 => rel.ownH q1 q2 hn) g.reg
  have rdK : ∀ D σ H, RdS F (run G (.own i e)) D σ H → (∀ Γ s, ev G e Γ = .ok s → ∃ ps, s = .dK ps) → tAsg (RdN F (ev G e)) (gName i) D σ H := fun D σ H ⟨Γ, R, rel, p⟩ hl => by
    have p : PostS F D R ((ev G e Γ).out Γ fun s => .nx (Γ.set i (.ow s))) := p
    refine ⟨Γ, R, rel, ?_⟩
    cases e1 : ev G e Γ with
    | bad => rw [e1] at p; exact p
    | exc c => rw [e1] at p; exact fun H1 R1 g => p σ H1 R1 (rel.grow g) g.reg
    | ok s =>
      obtain ⟨ps, rfl⟩ := hl Γ s e1
      rw [e1] at p
      intro a H1 R1 vs g hn hs hR hv hz
      have h0 : F.H0 a = none := by
        cases z : F.H0 a with
        | none => rfl
        | some o => rw [rel.same _ _ z] at hn; cases hn
      exact p _ H1 R1 ((rel.grow g).ownNew (w := .dK ps) ⟨_, hs, hv, hz⟩ hR h0 fun j t _ q1 q2 => rel.ownH q1 q2 hn) g.reg
  have rdX : ∀ D σ H, RdS F (run G (.own i e)) D σ H → (∀ Γ s, ev G e Γ = .ok s → ∃ ps, s = .dX false ps) → tAsg (RdN F (ev G e)) (gName i) D σ H := fun D σ H ⟨Γ, R, rel, p⟩ hl => by
    have p : PostS F D R ((ev G e Γ).out Γ fun s => .nx (Γ.set i (.ow s))) := p
    refine ⟨Γ, R, rel, ?_⟩
    cases e1 : ev G e Γ with
    | bad => rw [e1] at p; exact p
    | exc c => rw [e1] at p; exact fun H1 R1 g => p σ H1 R1 (rel.grow g) g.reg
    | ok s =>
      obtain ⟨ps, rfl⟩ := hl Γ s e1
      rw [e1] at p
      intro a H1 R1 vs g hn hs hR hv hz ha
      have h0 : F.H0 a = none := by
        cases z : F.H0 a with
        | none => rfl
        | some o => rw [rel.same _ _ z] at hn; cases hn
      exact p _ H1 R1 ((rel.grow g).ownNew (w := .dX false ps) ⟨_, hs, hv, hz, ha⟩ hR h0 fun j t _ q1 q2 => rel.ownH q1 q2 hn) g.reg
  unfold okN at hy
  split at hy
  · split at hy
    · rename_i es _ xs p
      simp only [Bool.and_eq_true, decide_eq_true_eq] at hy
      have hm : mdL es = .e := by simpa using hy.2
      have ha := evL_ok G I es Cc _ hy.1.1
      rw [hm] at ha
      refine psImp (ps_set (xN Cc) (xi Cc h1) (loc_of Cc h2) (n_lst hy.1.2 ha) rfl (loc_fn Cc h2)) fun D σ H h => rd D σ H h fun Γ s hs => ?_
      have hs : ((evL G es Γ).bind fun ss => (datas? ss).bind fun ps => .ok (.d (.lst ps))) = .ok s := hs
      cases e1 : evL G es Γ with
      | bad => rw [e1] at hs; cases hs
      | exc c => rw [e1] at hs; cases hs
      | ok ss =>
        rw [e1] at hs
        rcases datas_exc ss with ⟨ps, e2⟩ | e2
        · have hs : ((datas? ss).bind fun ps => .ok (.d (.lst ps))) = .ok s := hs
          rw [e2] at hs; cases hs; exact ⟨ps, rfl⟩
        · have hs : ((datas? ss).bind fun ps => .ok (.d (.lst ps))) = .ok s := hs
          rw [e2] at hs; cases hs
    · cases hy
  · rename_i t it cs e
    refine psImp (s_lc C h1 h2 hy fun hv hw σ H Q h => rn_lc hv hw h) fun D σ H h => rd D σ H h fun Γ s hs => ?_
    have hs : ((evI G it Γ).bind fun xs => (mapR (lcF G t cs e Γ) xs).bind fun ys => .ok (.d (.lst ys))) = .ok s := hs
    cases e1 : evI G it Γ with
    | bad => rw [e1] at hs; cases hs
    | exc c => rw [e1] at hs; cases hs
    | ok xs =>
      rw [e1] at hs
      have hs : ((mapR (lcF G t cs e Γ) xs).bind fun ys => .ok (.d (.lst ys))) = .ok s := hs
      cases e2 : mapR (lcF G t cs e Γ) xs with
      | bad => rw [e2] at hs; cases hs
      | exc c => rw [e2] at hs; cases hs
      | ok ys => rw [e2] at hs; cases hs; exact ⟨ys, rfl⟩
  · rename_i t it cs t' it' cs' e
    refine psImp (s_lc2 C h1 h2 hy fun σ H Q h => rn_lc2 h) fun D σ H h => rd D σ H h fun Γ s hs => ?_
    have hs : ((evI G it Γ).bind fun xs => (catR (lc2F G t cs t' it' cs' e Γ) xs).bind fun ys => (chk ys).bind fun ys => .ok (.d (.lst ys))) = .ok s := hs
    cases e1 : evI G it Γ with
    | bad => rw [e1] at hs; cases hs
    | exc c => rw [e1] at hs; cases hs
    | ok xs =>
      rw [e1] at hs
      have hs : ((catR (lc2F G t cs t' it' cs' e Γ) xs).bind fun ys => (chk ys).bind fun ys => .ok (.d (.lst ys))) = .ok s := hs
      cases e2 : catR (lc2F G t cs t' it' cs' e Γ) xs with
      | bad => rw [e2] at hs; cases hs
      | exc c => rw [e2] at hs; cases hs
      | ok ys =>
        rw [e2] at hs
        have hs : ((chk ys).bind fun ys => .ok (.d (.lst ys))) = .ok s := hs
        unfold chk at hs
        split at hs
        · cases hs; exact ⟨ys, rfl⟩
        · cases hs
  · unfold okE at hy
    split at hy
    · exact psImp (ps_set (xN Cc) (xi Cc h1) (loc_of Cc h2) n_dnew rfl (loc_fn Cc h2)) fun D σ H h => rdK D σ H h fun Γ s hs => by cases hs; exact ⟨_, rfl⟩
    · cases hy
  · unfold okE at hy
    split at hy
    · simp only [Bool.and_eq_true] at hy
      rename_i k e _ z y p
      have m1 : md k = .e := by simpa using hy.1.1.2
      have m2 : md e = .e := by simpa using hy.2
      have hk := (ev_ok G I k Cc _ hy.1.1.1).1
      have he := (ev_ok G I e Cc _ hy.1.2).1
      rw [m1] at hk
      rw [m2] at he
      exact psImp (ps_set (xN Cc) (xi Cc h1) (loc_of Cc h2) (n_disp1 hk he) rfl (loc_fn Cc h2)) fun D σ H h => rdK D σ H h fun Γ s hs => let ⟨_, _, e⟩ := disp_ok hs; ⟨_, e⟩
    · cases hy
  · rename_i t it cs k e
    refine psImp (s_dc C h1 h2 hy fun hv hw σ H Q h => rn_dc hv hw h) fun D σ H h => rdK D σ H h fun Γ s hs => ?_
    have hs : ((evI G it Γ).bind fun xs => (mapR (dcF G t cs k e Γ) xs).bind fun ys => .ok (.dK (merP [] ys))) = .ok s := hs
    cases e1 : evI G it Γ with
    | bad => rw [e1] at hs; cases hs
    | exc c => rw [e1] at hs; cases hs
    | ok xs =>
      rw [e1] at hs
      have hs : ((mapR (dcF G t cs k e Γ) xs).bind fun ys => .ok (.dK (merP [] ys))) = .ok s := hs
      cases e2 : mapR (dcF G t cs k e Γ) xs with
      | bad => rw [e2] at hs; cases hs
      | exc c => rw [e2] at hs; cases hs
      | ok ys => rw [e2] at hs; cases hs; exact ⟨_, rfl⟩
  · unfold okE at hy
    split at hy
    · exact psImp (ps_set (xN Cc) (xi Cc h1) (loc_of Cc h2) n_dnx rfl (loc_fn Cc h2)) fun D σ H h => rdX D σ H h fun Γ s hs => by cases hs; exact ⟨_, rfl⟩
    · cases hy
  · unfold okE at hy
    split at hy
    · simp only [Bool.and_eq_true] at hy
      rename_i k e _ z y p
      have m1 : md k = .e := by simpa using hy.1.1.2
      have m2 : md e = .e := by simpa using hy.2
      have hk := (ev_ok G I k Cc _ hy.1.1.1).1
      have he := (ev_ok G I e Cc _ hy.1.2).1
      rw [m1] at hk
      rw [m2] at he
      exact psImp (ps_set (xN Cc) (xi Cc h1) (loc_of Cc h2) (n_disx Cc hk he) rfl (loc_fn Cc h2)) fun D σ H h => rdX D σ H h fun Γ s hs => let ⟨_, _, e⟩ := disx_ok hs; ⟨_, e⟩
    · cases hy
  · rename_i t it cs k e
    refine psImp (s_dcx C h1 h2 hy fun hv hw σ H Q h => rn_dcx hv hw h) fun D σ H h => rdX D σ H h fun Γ s hs => ?_
    have hs : ((evI G it Γ).bind fun xs => (mapR (dcxF G t cs k e Γ) xs).bind fun ys => if allX ys then .ok (.dX false (merX [] ys)) else .bad) = .ok s := hs
    cases e1 : evI G it Γ with
    | bad => rw [e1] at hs; cases hs
    | exc c => rw [e1] at hs; cases hs
    | ok xs =>
      rw [e1, Res.bind_ok] at hs
      cases e2 : mapR (dcxF G t cs k e Γ) xs with
      | bad => rw [e2] at hs; cases hs
      | exc c => rw [e2] at hs; cases hs
      | ok ys =>
        rw [e2, Res.bind_ok] at hs
        split at hs
        · cases hs; exact ⟨_, rfl⟩
        · cases hs
  · split at hy
    · rename_i op a b _ z o z' p
      simp only [Bool.or_eq_true, Bool.and_eq_true, decide_eq_true_eq] at hy
      rcases hy with hy | hy
      rotate_left
      · obtain ⟨⟨⟨⟨⟨⟨rfl, rfl⟩, hd⟩, h3⟩, h4⟩, l1⟩, l2⟩ := hy
        cases a <;> try (cases hd; done)
        rename_i es
        refine psImp (ps_set (xN Cc) (xi Cc h1) (loc_of Cc h2) (n_mul Cc l1 l2 (ev_ok G I (.lst es) Cc _ h3).1 (ev_ok G I b Cc _ h4).1) rfl (loc_fn Cc h2)) fun D σ H h => rd D σ H h fun Γ s hs => ?_
        have hs : ((ev G (.lst es) Γ).bind fun x => (ev G b Γ).bind fun y => binop .mul x y) = .ok s := hs
        cases e1 : ev G (.lst es) Γ with
        | bad => rw [e1] at hs; cases hs
        | exc c => rw [e1] at hs; cases hs
        | ok x =>
          obtain ⟨ps, rfl⟩ := disp_lst (b := .lst es) rfl e1
          rw [e1] at hs
          have hs : ((ev G b Γ).bind fun y => binop .mul (.d (.lst ps)) y) = .ok s := hs
          cases e2 : ev G b Γ with
          | bad => rw [e2] at hs; cases hs
          | exc c => rw [e2] at hs; cases hs
          | ok y =>
            rw [e2] at hs
            have hs : binop .mul (.d (.lst ps)) y = .ok s := hs
            cases y with
            | d q =>
              cases q with
              | int n =>
                have hs : (if n.natAbs < 2 ^ 62 ∧ ps.length * n.toNat ≤ line then Res.ok (SV.d (.lst (rep n.toNat ps))) else .bad) = .ok s := hs
                split at hs
                · cases hs; exact ⟨_, rfl⟩
                · cases hs
              | _ => cases hs
            | _ => cases hs
      obtain ⟨⟨⟨⟨⟨⟨rfl, rfl⟩, hd⟩, h3⟩, h4⟩, l1⟩, l2⟩ := hy
      refine psImp (ps_set (xN Cc) (xi Cc h1) (loc_of Cc h2) (n_add Cc l1 l2 (ev_ok G I a Cc _ h3).1 (ev_ok G I b Cc _ h4).1) rfl (loc_fn Cc h2)) fun D σ H h => rd D σ H h fun Γ s hs => ?_
      have hs : ((ev G a Γ).bind fun x => (ev G b Γ).bind fun y => binop .add x y) = .ok s := hs
      cases e1 : ev G a Γ with
      | bad => rw [e1] at hs; cases hs
      | exc c => rw [e1] at hs; cases hs
      | ok x =>
        rw [e1] at hs
        have hs : ((ev G b Γ).bind fun y => binop .add x y) = .ok s := hs
        cases e2 : ev G b Γ with
        | bad => rw [e2] at hs; cases hs
        | exc c => rw [e2] at hs; cases hs
        | ok y =>
          obtain ⟨ys, rfl⟩ := disp_lst hd e2
          rw [e2] at hs
          have hs : binop .add x (.d (.lst ys)) = .ok s := hs
          cases x with
          | d q =>
            cases q with
            | lst xs =>
              have hs : ((chk (xs ++ ys)).bind fun zs => .ok (.d (.lst zs))) = .ok s := hs
              unfold chk at hs
              split at hs
              · cases hs; exact ⟨_, rfl⟩
              · cases hs
            | _ => cases hs
          | _ => cases hs
    · cases hy
  · cases hy
end
end Bw
end

section
set_option autoImplicit false
set_option linter.all false
/-! Bw Y: every suite of the core language that the checker takes is read by its meaning. -/
namespace Bw
open PySem L2
section
variable {I : Inf} {G : Ctx} {F : Fr} {X : Cx} {sc : Scope} {pos : Pos}
theorem fm_lt {α β : Type} {f : α → Option β} : ∀ {l : List α}, (∃ x ∈ l, f x = none) → (l.filterMap f).length < l.length
  | [], ⟨x, h, _⟩ => by cases h
  | y :: ys, ⟨x, h, e⟩ => by
    have le := List.length_filterMap_le f ys
    rw [List.filterMap_cons]
    cases ey : f y with
    | none => simp only [List.length_cons]; omega
    | some z =>
      rcases List.mem_cons.mp h with q | q
      · subst q; rw [ey] at e; cases e
      · have := fm_lt (l := ys) ⟨x, q, e⟩
        simp only [List.length_cons]; omega
theorem swap_none (C : Sok I G F X sc) {xs : List Expr} {k : Nat} {p : Pos} {y : Expr} (h : (!isTupE y || noSwap sc xs) = true) : swappedStores [.Tuple xs k p] y X.env = pure none := by
  cases y <;> first | rfl | skip
  rename_i vs kk pp
  have h : noSwap sc xs = true := h
  unfold swappedStores
  simp only []
  by_cases c1 : (!(xs.length == 2 || xs.length == 3) || vs.length != xs.length || X.env.blockKind != .function) = true
  · rw [if_pos c1]
  · rw [if_neg c1]
    split
    · rfl
    · unfold noSwap at h
      rw [Bool.or_eq_true] at h
      have h : (xs.any fun | .Name n _ => sc.names.lookup n == some .cell | _ => false) = true := by
        rcases h with h | h
        · simp only [h, Bool.true_or, not_true_eq_false] at c1
        · exact h
      rw [List.any_eq_true] at h
      obtain ⟨x, hx, hn⟩ := h
      rw [if_pos]
      rw [Bool.or_eq_true]
      left
      refine bne_iff_ne.mpr (Nat.ne_of_lt (fm_lt ⟨x, hx, ?_⟩))
      cases x <;> first | (cases hn; done) | skip
      rename_i n np
      have e : X.env.scope.names.lookup n = some .cell := by
        rcases C.sc _ _ (by simpa using hn) with q | ⟨q, _⟩
        · exact q
        · cases q
      show (if (X.env.scope.names.lookup n == some .local && _) = true then some n else none) = none
      rw [e]; rfl
theorem s_tup (C : Sok I G F X sc) {ts : List CT} {xs : List Expr} {k : Nat} {p : Pos} {e : CE} {y : Expr} (h1 : okTs I sc ts xs = true) (hy : okE I sc e y = true) (hm : md e = .e) (ht : (!isTupE y || noSwap sc xs) = true) : PS X (.Assign [.Tuple xs k p] y pos) (RdS F (run G (.set (.tup ts) e))) := by
  have Cc := C.toCok
  have he := (ev_ok G I e Cc y hy).1
  rw [hm] at he
  refine psImp (ps_asg he (g_ok Cc (.tup ts) _ h1) (by cases y <;> rfl) (swap_none C ht)) fun D σ H ⟨Γ, R, rel, q⟩ => ?_
  have q : PostS F D R ((ev G e Γ).out Γ fun s => setR Γ (.tup ts) s) := q
  refine ⟨Γ, R, rel, (out_post rel q).mono fun v H1 ⟨s, R1, g, rv, q⟩ => ?_⟩
  cases s with
  | d q1 =>
    have q : PostS F D R1 (oout (bindT (.tup ts) q1 Γ) fun Γ' => .nx Γ') := q
    cases e1 : bindT (.tup ts) q1 Γ with
    | none => rw [e1] at q; exact q.elim
    | some Γ' =>
      rw [e1] at q
      exact ⟨Γ, R1, q1, Γ', rel.grow g, rv, e1, fun σ' rel' _ => q σ' H1 R1 rel' .refl⟩
  | _ => exact q.elim
theorem s_expr (C : Sok I G F X sc) {e : CE} {y : Expr} (hy : okE I sc e y = true) (hc : isComp y = false) : PS X (.Expr y pos) (RdS F (run G (.expr e))) :=
  psImp (ps_expr (ev_ok G I e C.toCok y hy).1 (swaps_no hc _ _ _)) fun D σ H ⟨Γ, R, rel, p⟩ => ⟨Γ, R, rel, (out_post rel p).mono fun v H1 ⟨s, R1, g, rv, q⟩ => q _ _ R1 (rel.grow g) .refl⟩
theorem s_ret (C : Sok I G F X sc) {e : CE} {y : Expr} (hy : okE I sc e y = true) : PS X (.Return (some y) pos) (RdS F (run G (.ret e))) :=
  psImp (ps_ret (ev_ok G I e C.toCok y hy).1) fun D σ H ⟨Γ, R, rel, p⟩ => ⟨Γ, R, rel, (out_post rel p).mono fun v H1 ⟨s, R1, g, rv, q⟩ => q _ _ _ _ R1 (rel.grow g) .refl (rv.le g.sub (le_f _))⟩
theorem s_retN : PS X (.Return none pos) (RdS F (run G .retN)) :=
  psImp ps_retN fun D σ H ⟨Γ, R, rel, p⟩ => p .non Γ σ H R rel .refl rfl
theorem s_if (C : Sok I G F X sc) {c : CE} {a b : List CS} {z : Expr} {p q : List Stmt} (hc : okE I sc c z = true) (ha : PSs X p (RdS F (runs G a))) (hb : PSs X q (RdS F (runs G b))) : PS X (.If z p q pos) (RdS F (run G (.ife c a b))) :=
  psImp (ps_if (ev_ok G I c C.toCok z hc).2 ha hb) fun D σ H ⟨Γ, R, rel, p⟩ => by
    have p : PostS F D R ((ev G c Γ).out Γ fun x => (isBl? x).out Γ fun r => if r then runs G a Γ else runs G b Γ) := p
    rw [out_bl] at p
    refine ⟨Γ, R, rel, (out_postB rel p).mono fun b H1 ⟨R1, g, q⟩ => ?_⟩
    cases b with
    | true => exact ⟨Γ, R1, rel.grow g, q⟩
    | false => exact ⟨Γ, R1, rel.grow g, q⟩
theorem s_aug (C : Sok I G F X sc) {i : Nat} {n : Str} {p : Pos} {op : BOp} {e : CE} {y : Expr} (h1 : I.N[i]? = some n) (h2 : locB sc n = true) (ho : op = .add ∨ op = .sub) (hy : okE I sc e y = true) : PS X (.AugAssign (.Name n p) (opOf op) y pos) (RdS F (run G (.aug i op e))) := by
  have Cc := C.toCok
  have he := (ev_ok G I e Cc y hy).1
  have key : ∀ {f : Int → Int → Int}, PIp X (opOf op) (ipI f) → (∀ a b, augop op (.d (.int a)) (.d (.int b)) = .ok (.d (.int (f a b)))) → PS X (.AugAssign (.Name n p) (opOf op) y pos) (RdS F (run G (.aug i op e))) := fun {f} hp hf =>
    psImp (ps_aug (xN Cc) (xi Cc h1) (loc_of Cc h2) he hp (loc_fn Cc h2)) fun D σ H ⟨Γ, R, rel, p⟩ => by
      have p : PostS F D R (shO Γ[i]? fun x => (ev G e Γ).out Γ fun y => (augop op x y).out Γ fun z => .nx (Γ.set i (.sh z))) := p
      cases e1 : Γ[i]? with
      | none => rw [e1] at p; exact p.elim
      | some b =>
      cases b with
      | no => rw [e1] at p; exact p.elim
      | ow _ => rw [e1] at p; exact p.elim
      | sh x =>
        rw [e1] at p
        have p : PostS F D R ((ev G e Γ).out Γ fun y => (augop op x y).out Γ fun z => .nx (Γ.set i (.sh z))) := p
        obtain ⟨v, e2, rv⟩ := rel.slot i x e1
        have sb := rel.sub
        refine ⟨v, e2, Γ, R, rel, (out_post rel p).mono fun w H1 ⟨s, R1, g, rw', q⟩ => ?_⟩
        have bad : ∀ {α : Prop}, PostS F D R1 ((Res.bad : Res SV).out Γ fun z => .nx (Γ.set i (.sh z))) → α := fun h => h.elim
        have cs : (augop op x s = .bad) ∨ ∃ a b, x = .d (.int a) ∧ s = .d (.int b) := by
          cases x with
          | d q1 =>
            cases s with
            | d q2 => cases q1 <;> cases q2 <;> first | exact .inr ⟨_, _, rfl, rfl⟩ | (left; cases op <;> rfl)
            | _ => cases q1 <;> (left; cases op <;> rfl)
          | _ => cases s <;> (left; cases op <;> rfl)
        rcases cs with e3 | ⟨a, b, rfl, rfl⟩
        · rw [e3] at q; exact q.elim
        · rw [hf] at q
          obtain rfl : v = .int a := rv
          obtain rfl := rw'.fint
          exact ⟨a, b, rfl, rfl, q _ _ R1 ((rel.grow g).set rfl) .refl⟩
  rcases ho with rfl | rfl
  · exact key ip_add fun _ _ => rfl
  · exact key ip_sub fun _ _ => rfl
theorem ow_cases {D : Ends} {R : Hp} {o : Option Bx} {k : List PV → Out} (p : PostS F D R (owL o k)) : ∃ xs, o = some (.ow (.d (.lst xs))) ∧ PostS F D R (k xs) := by
  cases o with
  | none => exact p.elim
  | some b =>
    cases b with
    | no => exact p.elim
    | sh _ => exact p.elim
    | ow s =>
      cases s with
      | d q =>
        cases q <;> first | exact p.elim | exact ⟨_, rfl, p⟩
      | _ => exact p.elim
theorem s_app (C : Sok I G F X sc) {i : Nat} {n : Str} {np apos cpos : Pos} {e : CE} {y : Expr} (h1 : I.N[i]? = some n) (h2 : visB sc n = true) (h3 : nmB n = true) (hy : okE I sc e y = true) (hm : md e = .e) (ht : tame y = true) (hl : (apos.endLine == cpos.line) = true) :
    PS X (.Expr (.Call (.Attribute (.Name n np) (Str.ofString "append") apos) [y] [] cpos) pos) (RdS F (run G (.app i e))) := by
  have Cc := C.toCok
  have he := (ev_ok G I e Cc y hy).1
  rw [hm] at he
  refine psImp (ps_expr (pe_bm PySem.F.plainAttrs_list PySem.F.slot_list_append PySem.F.type_list_append mt_append (pe_var (i := i) (xi Cc h1) (vis_of Cc h2) (nm_dest h3).1 (nm_dest h3).2.1) (pa_one ht he) rfl (by rw [starEach_tame ht]; rfl) hl (starEach_tame ht _ _) rfl)) fun D σ H ⟨Γ, R, rel, p⟩ => ?_
  obtain ⟨xs, e1, p⟩ := ow_cases p
  · obtain ⟨a, vs, f1, f2, f3, f4, f5, f6⟩ := rel.ownL e1
    refine ⟨.ref a, f1, .inl ⟨rfl, vs, .of f2⟩, Γ, R, rel, (out_post rel p).mono fun w H1 ⟨s, R1, g, rw', q⟩ => ?_⟩
    cases s with
    | d z =>
      have q : PostS F D R1 (if xs.length < line then .nx (Γ.set i (.ow (.d (.lst (xs ++ [z]))))) else .bad) := q
      split at q
      · rename_i hz
        have r1 := rel.grow g
        refine ⟨a, vs, w, rfl, rfl, g.same _ _ f2, by rw [f3.len, ← line_eq]; exact hz, ?_⟩
        exact q _ _ R1 (r1.ownSet e1 f1 ((f3.mono g.reg).append (.one rw')) (by rw [List.length_append]; exact hz)) .refl
      · exact q.elim
    | _ => exact q.elim
theorem s_ext (C : Sok I G F X sc) {i : Nat} {n : Str} {np apos cpos : Pos} {e : CE} {y : Expr} (h1 : I.N[i]? = some n) (h2 : visB sc n = true) (h3 : nmB n = true) (hy : okE I sc e y = true) (hm : md e = .e) (ht : tame y = true) (hl : (apos.endLine == cpos.line) = true) :
    PS X (.Expr (.Call (.Attribute (.Name n np) (Str.ofString "extend") apos) [y] [] cpos) pos) (RdS F (run G (.ext i e))) := by
  have Cc := C.toCok
  have he := (ev_ok G I e Cc y hy).1
  rw [hm] at he
  refine psImp (ps_expr (pe_bm PySem.F.plainAttrs_list PySem.F.slot_list_extend PySem.F.type_list_extend mt_extend (pe_var (i := i) (xi Cc h1) (vis_of Cc h2) (nm_dest h3).1 (nm_dest h3).2.1) (pa_one ht he) rfl (by rw [starEach_tame ht]; rfl) hl (starEach_tame ht _ _) rfl)) fun D σ H ⟨Γ, R, rel, p⟩ => ?_
  obtain ⟨xs, e1, p⟩ := ow_cases p
  · obtain ⟨a, vs, f1, f2, f3, f4, f5, f6⟩ := rel.ownL e1
    refine ⟨.ref a, f1, .inl ⟨rfl, vs, .of f2⟩, Γ, R, rel, (out_post rel p).mono fun w H1 ⟨s, R1, g, rw', q⟩ => ?_⟩
    cases s with
    | d z =>
      cases z with
      | lst zs =>
        have q : PostS F D R1 (if xs.length + zs.length ≤ line then .nx (Γ.set i (.ow (.d (.lst (xs ++ zs))))) else .bad) := q
        split at q
        · rename_i hz
          have r1 := rel.grow g
          obtain ⟨b, ws, rfl, k1, k2, k3⟩ : ∃ b ws, w = .ref b ∧ R1 b = some (.lst ws) ∧ zs.length ≤ line ∧ RpL F.K R1 zs ws := rw'
          refine ⟨a, b, vs, ws, rfl, rfl, g.same _ _ f2, g.sub _ _ k1, by rw [f3.len, k3.len, ← line_eq]; exact hz, ?_⟩
          exact q _ _ R1 (r1.ownSet e1 f1 ((f3.mono g.reg).append k3) (by rw [List.length_append]; exact hz)) .refl
        · exact q.elim
      | _ => exact q.elim
    | _ => exact q.elim
/-! ### pop -/
theorem RpL.snoc {K : Fr'} {R : Hp} {p : PV} : ∀ {rest : List PV} {vs : List V}, RpL K R (rest ++ [p]) vs → ∃ ws y, vs = ws ++ [y] ∧ RpL K R rest ws ∧ RpD K R p y
  | [], _, ⟨v, ws, e, r, rs⟩ => by
    rw [show ws = [] from rs] at e
    exact ⟨[], v, e, rfl, r⟩
  | _ :: _, _, ⟨v, ws, e, r, rs⟩ => by
    obtain ⟨us, y, e1, r1, r2⟩ := RpL.snoc rs
    subst e1 e
    exact ⟨v :: us, y, rfl, ⟨v, us, rfl, r, r1⟩, r2⟩
def tPop (F : Fr) (f : Bool) (i : Nat) : TE := fun σ H Q => ∃ Γ R xs p r, RelR F.K F.H0 F.R0 R Γ σ H ∧ Γ[i]? = some (.ow (.d (.lst xs))) ∧ popP f xs = some (p, r) ∧ ∀ v H1, RelR F.K F.H0 F.R0 R (Γ.set i (.ow (.d (.lst r)))) σ H1 → Sub R H1 → RpD F.K R p v → Q v H1
theorem e_pop (C : Sok I G F X sc) {f : Bool} {i : Nat} {n : Str} {np apos cpos : Pos} {ys : List Expr} (h1 : I.N[i]? = some n) (h2 : visB sc n = true) (h3 : nmB n = true) (hy : okPop f ys = true) (hl : (apos.endLine == cpos.line) = true) :
    PE X (.Call (.Attribute (.Name n np) (Str.ofString "pop") apos) ys [] cpos) (tPop F f i) := by
  have Cc := C.toCok
  unfold okPop at hy
  split at hy
  · refine peImp (pe_bm0 PySem.F.plainAttrs_list PySem.F.slot_list_pop PySem.F.type_list_pop mt_pop (pe_var (i := i) (xi Cc h1) (vis_of Cc h2) (nm_dest h3).1 (nm_dest h3).2.1) rfl hl) fun σ H Q ⟨Γ, R, xs, p, r, rel, e1, e2, q⟩ => ?_
    obtain ⟨a, vs, f1, f2, f3, f4, f5, f6⟩ := rel.ownL e1
    have e3 : xs = r ++ [p] := by
      cases xs with
      | nil => cases e2
      | cons z zs =>
        have e2 : some ((z :: zs).getLast (by simp), (z :: zs).dropLast) = some (p, r) := e2
        cases e2
        exact (List.dropLast_concat_getLast (by simp)).symm
    subst e3
    obtain ⟨ws, y, e4, r1, r2⟩ := RpL.snoc f3
    subst e4
    refine ⟨.ref a, f1, .inl ⟨rfl, _, .of f2⟩, a, _, y, rfl, rfl, f2, by simp, ?_⟩
    rw [List.dropLast_concat]
    have rel' := rel.ownSet (ps := r) e1 f1 r1 (by rw [List.length_append] at f4; omega)
    exact q y _ rel' rel'.sub r2
  · rename_i j k pp
    rw [decide_eq_true_eq] at hy
    subst hy
    refine peImp (pe_bm PySem.F.plainAttrs_list PySem.F.slot_list_pop PySem.F.type_list_pop mt_popAt (pe_var (i := i) (xi Cc h1) (vis_of Cc h2) (nm_dest h3).1 (nm_dest h3).2.1) (pa_one (t := tC (.int 0)) rfl pe_int) rfl rfl hl rfl rfl) fun σ H Q ⟨Γ, R, xs, p, r, rel, e1, e2, q⟩ => ?_
    obtain ⟨a, vs, f1, f2, f3, f4, f5, f6⟩ := rel.ownL e1
    cases xs with
    | nil => cases e2
    | cons z zs =>
      have e2 : some (z, zs) = some (p, r) := e2
      cases e2
      obtain ⟨y, ws, e4, r2, r1⟩ := f3
      subst e4
      refine ⟨.ref a, f1, .inl ⟨rfl, _, .of f2⟩, a, _, 0, 0, y, rfl, rfl, f2, by decide, by decide, ?_, rfl, ?_⟩
      · simp [seqIndex?]
      · have rel' := rel.ownSet (ps := r) e1 f1 r1 (by rw [List.length_cons] at f4; omega)
        exact q y _ rel' rel'.sub r2
  · cases hy
theorem s_popN (C : Sok I G F X sc) {f : Bool} {j i : Nat} {m n : Str} {mp np apos cpos : Pos} {ys : List Expr} (g1 : I.N[j]? = some m) (g2 : locB sc m = true) (h1 : I.N[i]? = some n) (h2 : visB sc n = true) (h3 : nmB n = true) (hy : okPop f ys = true) (hl : (apos.endLine == cpos.line) = true) :
    PS X (.Assign [.Name m mp] (.Call (.Attribute (.Name n np) (Str.ofString "pop") apos) ys [] cpos) pos) (RdS F (run G (.pop f (.name j) i))) := by
  refine psImp (ps_set (xN C.toCok) (xi C.toCok g1) (loc_of C.toCok g2) (e_pop C h1 h2 h3 hy hl) (swaps_no rfl _ _ _) (loc_fn C.toCok g2)) fun D σ H ⟨Γ, R, rel, p⟩ => ?_
  obtain ⟨xs, e1, p⟩ := ow_cases p
  cases e2 : popP f xs with
  | none => rw [e2] at p; exact p.elim
  | some pr =>
    obtain ⟨p0, r⟩ := pr
    rw [e2] at p
    refine ⟨Γ, R, xs, p0, r, rel, e1, e2, fun v H1 rel' _ rv => ?_⟩
    have p : PostS F D R (.nx ((Γ.set i (.ow (.d (.lst r)))).set j (.sh (.d p0)))) := p
    exact p _ H1 R (rel'.set (s := .d p0) rv) .refl
theorem s_popT (C : Sok I G F X sc) {f : Bool} {ts : List CT} {xs : List Expr} {k : Nat} {tp : Pos} {i : Nat} {n : Str} {np apos cpos : Pos} {ys : List Expr} (g1 : okTs I sc ts xs = true) (h1 : I.N[i]? = some n) (h2 : visB sc n = true) (h3 : nmB n = true) (hy : okPop f ys = true) (hl : (apos.endLine == cpos.line) = true) :
    PS X (.Assign [.Tuple xs k tp] (.Call (.Attribute (.Name n np) (Str.ofString "pop") apos) ys [] cpos) pos) (RdS F (run G (.pop f (.tup ts) i))) := by
  refine psImp (ps_asg (e_pop C h1 h2 h3 hy hl) (g_ok (G := G) C.toCok (.tup ts) _ g1) rfl (swap_none C rfl)) fun D σ H ⟨Γ, R, rel, p⟩ => ?_
  obtain ⟨xs, e1, p⟩ := ow_cases p
  cases e2 : popP f xs with
  | none => rw [e2] at p; exact p.elim
  | some pr =>
    obtain ⟨p0, r⟩ := pr
    rw [e2] at p
    refine ⟨Γ, R, xs, p0, r, rel, e1, e2, fun v H1 rel' _ rv => ?_⟩
    have p : PostS F D R (oout (bindT (.tup ts) p0 (Γ.set i (.ow (.d (.lst r))))) fun Γ' => .nx Γ') := p
    cases e3 : bindT (.tup ts) p0 (Γ.set i (.ow (.d (.lst r)))) with
    | none => rw [e3] at p; exact p.elim
    | some Γ' =>
      rw [e3] at p
      exact ⟨_, R, p0, Γ', rel', rv, e3, fun σ' rel' _ => p σ' H1 R rel' .refl⟩
/-- d.update(e), two dicts -/
def rUpd : V → List V → Hp → VK → Prop := fun x vs H Q => ∃ l b xs zs, l ≠ b ∧ x = .ref l ∧ vs = [.ref b] ∧ H l = some (.dK xs) ∧ H b = some (.dK zs) ∧ xs.length + zs.length ≤ sizeLine ∧ Q .non (L2.upd H l (.dK (mergeK xs zs)))
theorem mt_update {X : Cx} : MtR X "dict.update" rUpd := by
  intro pins s σ H x vs v us Q I rx rv h
  obtain ⟨l, b, xs, zs, hne, rfl, rfl, hH, hB, hz, q⟩ := h
  cases rx
  obtain ⟨u, rfl, ru⟩ := rv.one
  cases ru
  obtain ⟨z, hd, vs1, rel, dd⟩ := dk_of I.hok hH
  obtain ⟨z2, hd2, vs2, rel2, dd2⟩ := dk_of I.hok hB
  refine call_meetsIn PySem.F.slot_dict_update dd.typeIs PySem.F.entry_dict_update (PySem.F.args_dict_update_2 _ _) (meets_dict_update (mixKind X.prog X.w) l b hne hd2)
    ⟨vs1, vs2, dd, dd2, by rw [← rel.length, ← rel2.length]; exact hz, fun h' dd' _ hs => ?_⟩
  have he : ∃ q, h'.get? l = some q := let ⟨q, _, _, hq, _⟩ := dd'; ⟨q, hq⟩
  exact ⟨.non, _, d_write (t' := s.toks) I (by rw [hH]; exact True.intro) hs he (dk_new (Nat.le_trans (length_mergeK zs xs) hz) hd (rel2.merge rel) dd'), rfl, q⟩
theorem RpK.merge {K : Fr'} {R : Hp} : ∀ {more : List (Ky × PV)} {rs : List (Key × V)} {kvs : List (Ky × PV)} {vs : List (Key × V)}, RpK K R more rs → RpK K R kvs vs → RpK K R (merP kvs more) (mergeK vs rs)
  | [], _, _, _, r, s => by rw [show _ = [] from r]; exact s
  | kp :: ps, _, kvs, vs, ⟨x, ws, e, r, rs⟩, s => by
    subst e
    have := RpK.merge (kvs := putP kvs kp.1 kp.2) (vs := putK vs kp.1 x) rs (s.put _ r)
    exact this
theorem merP_len : ∀ (more kvs : List (Ky × PV)), (merP kvs more).length ≤ kvs.length + more.length
  | [], kvs => Nat.le_refl _
  | p :: r, kvs => by
    have h1 := merP_len r (putP kvs p.1 p.2)
    have h2 := putP_len kvs p.1 p.2
    show (merP (putP kvs p.1 p.2) r).length ≤ _
    rw [List.length_cons]; omega
theorem owK_cases {D : Ends} {R : Hp} {o : Option Bx} {k : List (Ky × PV) → Out} (p : PostS F D R (owK o k)) : ∃ xs, o = some (.ow (.dK xs)) ∧ PostS F D R (k xs) := by
  cases o with
  | none => exact p.elim
  | some b =>
    cases b with
    | no => exact p.elim
    | sh _ => exact p.elim
    | ow s =>
      cases s with
      | dK q => exact ⟨_, rfl, p⟩
      | _ => exact p.elim
theorem s_upd (C : Sok I G F X sc) {i : Nat} {n : Str} {np apos cpos : Pos} {e : CE} {y : Expr} (h1 : I.N[i]? = some n) (h2 : visB sc n = true) (h3 : nmB n = true) (hy : okE I sc e y = true) (hm : md e = .e) (ht : tame y = true) (hl : (apos.endLine == cpos.line) = true) :
    PS X (.Expr (.Call (.Attribute (.Name n np) (Str.ofString "update") apos) [y] [] cpos) pos) (RdS F (run G (.upd i e))) := by
  have Cc := C.toCok
  have he := (ev_ok G I e Cc y hy).1
  rw [hm] at he
  refine psImp (ps_expr (pe_bm PySem.F.plainAttrs_dict PySem.F.slot_dict_update PySem.F.type_dict_update mt_update (pe_var (i := i) (xi Cc h1) (vis_of Cc h2) (nm_dest h3).1 (nm_dest h3).2.1) (pa_one ht he) rfl (by rw [starEach_tame ht]; rfl) hl (starEach_tame ht _ _) rfl)) fun D σ H ⟨Γ, R, rel, p⟩ => ?_
  obtain ⟨xs, e1, p⟩ := owK_cases p
  obtain ⟨a, vs, f1, f2, f3, f4, f5, f6⟩ := rel.ownK e1
  refine ⟨.ref a, f1, .inr (.inr (.inl ⟨rfl, .inl ⟨vs, f2⟩⟩)), Γ, R, rel, (out_post rel p).mono fun w H1 ⟨s, R1, g, rw', q⟩ => ?_⟩
  cases s with
  | dK zs =>
    have q : PostS F D R1 (if xs.length + zs.length ≤ line then .nx (Γ.set i (.ow (.dK (merP xs zs)))) else .bad) := q
    split at q
    · rename_i hz
      have r1 := rel.grow g
      obtain ⟨b, ws, rfl, k1, k2, k3⟩ : ∃ b ws, w = .ref b ∧ R1 b = some (.dK ws) ∧ zs.length ≤ line ∧ RpK F.K R1 zs ws := rw'
      have hab : a ≠ b := fun z => by
        subst z
        rw [g.old a (by rw [f2]; simp), f5] at k1; cases k1
      refine ⟨a, b, vs, ws, hab, rfl, rfl, g.same _ _ f2, g.sub _ _ k1, by rw [f3.len, k3.len, ← line_eq]; exact hz, ?_⟩
      exact q _ _ R1 (r1.ownSetX e1 f1 ⟨_, upd_same .., RpK.merge k3 (f3.mono g.reg), by have := merP_len zs xs; omega⟩) .refl
    · exact q.elim
  | _ => exact q.elim
theorem s_stoL (C : Sok I G F X sc) {i : Nat} {n : Str} {np tpos : Pos} {k e : CE} {z y : Expr} (h1 : I.N[i]? = some n) (h2 : visB sc n = true) (h3 : nmB n = true) (hk : okE I sc k z = true) (mk : md k = .e) (hy : okE I sc e y = true) (hm : md e = .e) (hc : isComp y = false) (hz : tame z = true) :
    PS X (.Assign [.Subscript (.Name n np) z tpos] y pos) (RdS F fun Γ => (ev G e Γ).out Γ fun s => owL Γ[i]? fun xs => (ev G k Γ).out Γ fun z => stoR Γ i xs z s) := by
  have Cc := C.toCok
  have he := (ev_ok G I e Cc y hy).1
  rw [hm] at he
  have hk := (ev_ok G I k Cc z hk).1
  rw [mk] at hk
  have sw : swapsWithSole [.Subscript (.Name n np) z tpos] y pos.line X.env = pure false := by cases y <;> first | rfl | cases hc
  refine psImp (ps_asg he (pg_sub (pe_var (i := i) (xi Cc h1) (vis_of Cc h2) (nm_dest h3).1 (nm_dest h3).2.1) hk set_list (by cases z <;> first | (intro _; rfl) | cases hz)) sw rfl rfl) fun D σ H ⟨Γ, R, rel, p⟩ => ?_
  have p : PostS F D R ((ev G e Γ).out Γ fun s => owL Γ[i]? fun xs => (ev G k Γ).out Γ fun z => stoR Γ i xs z s) := p
  refine ⟨Γ, R, rel, (out_post rel p).mono fun v H1 ⟨s, R1, g, rv, q⟩ => ?_⟩
  obtain ⟨xs, e1, q⟩ := ow_cases q
  have r1 := rel.grow g
  obtain ⟨a, vs, f1, f2, f3, f4, f5, f6⟩ := r1.ownL e1
  refine ⟨.ref a, f1, Γ, R1, r1, (out_post r1 q).mono fun w H2 ⟨z', R2, g2, rz, q2⟩ => ?_⟩
  cases z' with
  | d zz =>
    cases zz with
    | int j =>
      cases s with
      | d sp =>
        obtain rfl : w = .int j := rz
        have q2 : PostS F D R2 (match ixP xs.length j with
          | some m => .nx (Γ.set i (.ow (.d (.lst (xs.set m sp)))))
          | none => .bad) := q2
        cases ei : ixP xs.length j with
        | none => rw [ei] at q2; exact q2.elim
        | some m =>
          rw [ei] at q2
          have rv : RpD F.K R1 sp v := rv
          refine ⟨a, vs, j, m, rfl, rfl, g2.same _ _ f2, by rw [f3.len]; exact ei, ?_⟩
          exact q2 _ _ R2 ((r1.grow g2).ownSet e1 f1 (RpL.set (rv.mono g2.reg) m (f3.mono g2.reg)) (by rw [List.length_set]; exact f4)) .refl
      | _ => exact q2.elim
    | _ => cases s <;> exact q2.elim
  | _ => cases s <;> exact q2.elim
theorem s_stoK (C : Sok I G F X sc) {i : Nat} {n : Str} {np tpos : Pos} {k e : CE} {z y : Expr} (h1 : I.N[i]? = some n) (h2 : visB sc n = true) (h3 : nmB n = true) (hk : okE I sc k z = true) (mk : md k = .e) (hy : okE I sc e y = true) (hm : md e = .e) (hc : isComp y = false) (hz : tame z = true) :
    PS X (.Assign [.Subscript (.Name n np) z tpos] y pos) fun D σ H => ∃ Γ R kvs, RelR F.K F.H0 F.R0 R Γ σ H ∧ Γ[i]? = some (.ow (.dK kvs)) ∧ PostS F D R ((ev G e Γ).out Γ fun s => (ev G k Γ).out Γ fun z => stoX Γ i (.dK kvs) z s) := by
  have Cc := C.toCok
  have he := (ev_ok G I e Cc y hy).1
  rw [hm] at he
  have hk := (ev_ok G I k Cc z hk).1
  rw [mk] at hk
  have sw : swapsWith y (some (.Subscript (.Name n np) z tpos)) pos.line X.env = pure false := swaps_no hc _ _ _
  refine psImp (ps_dput (by have := Cc.un; omega) (pe_var (i := i) (xi Cc h1) (vis_of Cc h2) (nm_dest h3).1 (nm_dest h3).2.1) hk he sw) fun D σ H ⟨Γ, R, kvs, rel, e1, p⟩ => ?_
  refine ⟨Γ, R, rel, (out_post rel p).mono fun v H1 ⟨s, R1, g, rv, q⟩ => ?_⟩
  have r1 := rel.grow g
  obtain ⟨a, ws, f1, f2, f3, f4, f5, f6⟩ := r1.ownK e1
  refine ⟨.ref a, f1, Γ, R1, r1, (out_post r1 q).mono fun w H2 ⟨z', R2, g2, rz, q2⟩ => ?_⟩
  cases s with
  | d sp =>
    have q2 : PostS F D R2 ((key? z').out Γ fun k => if kvs.length < line then .nx (Γ.set i (.ow (.dK (putP kvs k sp)))) else .bad) := q2
    rcases key_is (F := F) (H := H2) (rz.le g2.sub (md_e .t)) with ⟨k', e4, e5, _⟩ | e4
    · rw [e4] at q2
      have q2 : PostS F D R2 (if kvs.length < line then .nx (Γ.set i (.ow (.dK (putP kvs k' sp)))) else .bad) := q2
      split at q2
      · rename_i hl
        have rv : RpD F.K R1 sp v := rv
        subst e5
        refine ⟨a, _, rfl, DPut.k (g2.same _ _ f2) (by rw [f3.len, ← line_eq]; exact hl), ?_⟩
        exact q2 _ _ R2 ((r1.grow g2).ownSetX e1 f1 ⟨_, upd_same .., (f3.mono g2.reg).put k' (rv.mono g2.reg), by have := putP_len kvs k' sp; omega⟩) .refl
      · exact q2.elim
    · rw [e4] at q2; exact q2.elim
  | _ => exact q2.elim
def sXPut (K : Fr') (td ty tv : TE) : TS := fun D σ H => tv σ H fun v H1 => td σ H1 fun x H2 => ty σ H2 fun y H3 => ∃ a es kvs R p, x = .ref a ∧ Sub R H3 ∧ H3 a = some (DX a es) ∧ RpX K R kvs es ∧ kyP 8 p = true ∧ kinX kvs p = true ∧ RpD K R p y ∧ kvs.length < line ∧ D.nx σ (upd H3 a (DX a (putE es (nkP p) (adr y) v)))
theorem ps_xput {X : Cx} {o i value : Expr} {pos pos' : Pos} {td ty tv : TE} (hu : X.A.units + 100 < cLine) (ho : PE X o td) (hi : PE X i ty) (hv : PE X value tv) (hs : swapsWith value (some (.Subscript o i pos')) pos.line X.env = pure false) :
    PS X (.Assign [.Subscript o i pos'] value pos) (sXPut X.K td ty tv) := by
  refine ⟨fun pins s σ H D I h => wpAny_Assign_Subscript (thn (hv.run pins s σ H _ I h) fun r s1 ⟨v, H1, I1, rv, q1⟩ => thn (ho.run pins s1 σ H1 _ I1 q1) fun u s2 ⟨x, H2, I2, rx, q2⟩ => thn (hi.run pins s2 σ H2 _ I2 q2) fun iv s3 ⟨y, H3, I3, ry, a, es, kvs, R, p, ex, sb, hd, rk, kp, kk, rp, lt, q3⟩ => ?_) hs⟩
  subst ex
  obtain rfl : u = Value.ref a := rx
  exact dx_setItem hu I3 sb hd rk kp kk ry rp rv lt fun s4 I4 => ⟨σ, _, I4, q3⟩
theorem s_stoX (C : Sok I G F X sc) {i : Nat} {n : Str} {np tpos : Pos} {k e : CE} {z y : Expr} (h1 : I.N[i]? = some n) (h2 : visB sc n = true) (h3 : nmB n = true) (hk : okE I sc k z = true) (mk : md k = .e) (hy : okE I sc e y = true) (hm : md e = .e) (hc : isComp y = false) (hz : tame z = true) :
    PS X (.Assign [.Subscript (.Name n np) z tpos] y pos) fun D σ H => ∃ Γ R kvs, RelR F.K F.H0 F.R0 R Γ σ H ∧ Γ[i]? = some (.ow (.dX false kvs)) ∧ PostS F D R ((ev G e Γ).out Γ fun s => (ev G k Γ).out Γ fun z => stoX Γ i (.dX false kvs) z s) := by
  have Cc := C.toCok
  have he := (ev_ok G I e Cc y hy).1
  rw [hm] at he
  have hk := (ev_ok G I k Cc z hk).1
  rw [mk] at hk
  have sw : swapsWith y (some (.Subscript (.Name n np) z tpos)) pos.line X.env = pure false := swaps_no hc _ _ _
  refine psImp (ps_xput Cc.un (pe_var (i := i) (xi Cc h1) (vis_of Cc h2) (nm_dest h3).1 (nm_dest h3).2.1) hk he sw) fun D σ H ⟨Γ, R, kvs, rel, e1, p⟩ => ?_
  refine ⟨Γ, R, rel, (out_post rel p).mono fun v H1 ⟨s, R1, g, rv, q⟩ => ?_⟩
  have r1 := rel.grow g
  obtain ⟨a, f1, ⟨es, f2, f3, f4, f5⟩, f6, f7⟩ := r1.own i _ e1
  refine ⟨.ref a, f1, Γ, R1, r1, (out_post r1 q).mono fun w H2 ⟨z', R2, g2, rz, q2⟩ => ?_⟩
  cases s with
  | d sp =>
    have q2 : PostS F D R2 ((keyX kvs z').out Γ fun k => if kvs.length < line then .nx (Γ.set i (.ow (.dX false (putX kvs k sp)))) else .bad) := q2
    cases z' with
    | d p0 =>
      rcases keyX_d kvs p0 with ⟨k1, k2, e4⟩ | e4
      · rw [e4] at q2
        have q2 : PostS F D R2 (if kvs.length < line then .nx (Γ.set i (.ow (.dX false (putX kvs p0 sp)))) else .bad) := q2
        split at q2
        · rename_i hl
          have rv : RpD F.K R1 sp v := rv
          have rz : RpD F.K R2 p0 w := rz
          have f3' := f3.mono g2.reg
          have rk := rx_put f3' (rpq_of rz k1) (rv.mono g2.reg)
          refine ⟨a, es, kvs, R2, p0, rfl, g2.sub, g2.same _ _ f2, by rw [← Cc.hK]; exact f3', k1, k2, by rw [← Cc.hK]; exact rz, hl, ?_⟩
          exact q2 _ _ R2 ((r1.grow g2).ownSetX e1 f1 ⟨_, upd_same .., rk, by have := putX_len kvs p0 sp; omega, kin_put k2 f5⟩) .refl
        · exact q2.elim
      · rw [e4] at q2; exact q2.elim
    | _ => exact q2.elim
  | _ => exact q2.elim
theorem s_sto (C : Sok I G F X sc) {i : Nat} {n : Str} {np tpos : Pos} {k e : CE} {z y : Expr} (h1 : I.N[i]? = some n) (h2 : visB sc n = true) (h3 : nmB n = true) (hk : okE I sc k z = true) (mk : md k = .e) (hy : okE I sc e y = true) (hm : md e = .e) (hc : isComp y = false) (hz : tame z = true) :
    PS X (.Assign [.Subscript (.Name n np) z tpos] y pos) (RdS F (run G (.sto i k e))) := by
  have sl := s_stoL (pos := pos) (np := np) (tpos := tpos) C h1 h2 h3 hk mk hy hm hc hz
  have sk := s_stoK (pos := pos) (np := np) (tpos := tpos) C h1 h2 h3 hk mk hy hm hc hz
  refine ⟨fun pins s σ H D I0 ⟨Γ, R, rel, p⟩ => ?_⟩
  have p : PostS F D R ((ev G e Γ).out Γ fun s => owO Γ[i]? fun o => (ev G k Γ).out Γ fun z => stoX Γ i o z s) := p
  by_cases dx : ∃ kvs, Γ[i]? = some (.ow (.dX false kvs))
  · obtain ⟨kvs, e1⟩ := dx
    rw [e1] at p
    exact (s_stoX (pos := pos) (np := np) (tpos := tpos) C h1 h2 h3 hk mk hy hm hc hz).run pins s σ H D I0 ⟨Γ, R, kvs, rel, e1, p⟩
  by_cases dk : ∃ kvs, Γ[i]? = some (.ow (.dK kvs))
  · obtain ⟨kvs, e1⟩ := dk
    rw [e1] at p
    exact sk.run pins s σ H D I0 ⟨Γ, R, kvs, rel, e1, p⟩
  · refine sl.run pins s σ H D I0 ⟨Γ, R, rel, ?_⟩
    show PostS F D R ((ev G e Γ).out Γ fun s => owL Γ[i]? fun xs => (ev G k Γ).out Γ fun z => stoR Γ i xs z s)
    cases ee : ev G e Γ with
    | bad => rw [ee] at p; exact p
    | exc c => rw [ee] at p; exact p
    | ok v =>
      rw [ee] at p
      have p : PostS F D R (owO Γ[i]? fun o => (ev G k Γ).out Γ fun z => stoX Γ i o z v) := p
      show PostS F D R (owL Γ[i]? fun xs => (ev G k Γ).out Γ fun z => stoR Γ i xs z v)
      cases e2 : Γ[i]? with
      | none => rw [e2] at p; exact p.elim
      | some b =>
        rw [e2] at p
        cases b with
        | no => exact p.elim
        | sh _ => exact p.elim
        | ow o =>
          obtain ⟨a, t1, t2, _⟩ := rel.own i _ e2
          cases o with
          | d q =>
            cases q <;> first | exact t2.elim | skip
            have p : PostS F D R ((ev G k Γ).out Γ fun z => stoX Γ i (.d (.lst _)) z v) := p
            simp only [stoX_lst] at p
            exact p
          | dK kvs => exact absurd ⟨kvs, e2⟩ dk
          | dX b kvs => cases b with
            | false => exact absurd ⟨kvs, e2⟩ dx
            | true => exact t2.elim
          | _ => exact t2.elim
/-- own[k] op= e -/
theorem get_lst {X : Cx} : PGet X (fun o i H Q => ∃ p xs k j v, o = .ref p ∧ i = .int k ∧ H p = some (.lst xs) ∧ ixN xs.length k = some j ∧ xs[j]? = some v ∧ Q v H) := by
  intro pins s σ H o i ov iv Q I ro ri h
  obtain ⟨p, xs, k, j, v, rfl, rfl, hp, hj, hv, q⟩ := h
  cases ro
  obtain ⟨t, rfl⟩ := ri
  obtain ⟨its, n, r, ho, hz⟩ := I.lst hp
  obtain ⟨h1, h2, h3, h4⟩ := ixN_seq hj
  have hl := r.length
  have hn := line63
  obtain ⟨u, hu, rv⟩ := r.get hv
  have pl : s.heap.IsList p its.toArray := ⟨_, ho, rfl, n, rfl⟩
  by_cases h0 : 0 ≤ k
  · have hk : k.toNat = j := by
      rw [seqIndex_of h0 h4] at h1
      exact Option.some.inj h1
    exact wpAny_getItem_list pl h0 (by omega) (by rw [hk]; simpa using hu) ⟨v, H, I, rv, q⟩
  · have hk : (k + (its.toArray.size : Int)).toNat = j := by
      rw [seqIndex_neg (by omega) h3] at h1
      rw [List.size_toArray, ← hl]
      exact Option.some.inj h1
    exact wpAny_getItem_list_neg pl (by omega) (by rw [List.size_toArray, ← hl]; omega) (by omega) (by rw [hk]; simpa using hu) ⟨v, H, I, rv, q⟩
theorem s_augs (C : Sok I G F X sc) {i : Nat} {n : Str} {np tpos : Pos} {op : BOp} {k e : CE} {z y : Expr} (h1 : I.N[i]? = some n) (h2 : visB sc n = true) (h3 : nmB n = true) (hk : okE I sc k z = true) (mk : md k = .e) (hy : okE I sc e y = true) (hm : md e = .e) (ho : op = .add ∨ op = .sub) (hz : tame z = true) :
    PS X (.AugAssign (.Subscript (.Name n np) z tpos) (opOf op) y pos) (RdS F (run G (.augs i op k e))) := by
  have Cc := C.toCok
  have he := (ev_ok G I e Cc y hy).1
  rw [hm] at he
  have hk := (ev_ok G I k Cc z hk).1
  rw [mk] at hk
  have key : ∀ {f : Int → Int → Int}, PIp X (opOf op) (ipI f) → (∀ a b, augop op (.d (.int a)) (.d (.int b)) = .ok (.d (.int (f a b)))) → PS X (.AugAssign (.Subscript (.Name n np) z tpos) (opOf op) y pos) (RdS F (run G (.augs i op k e))) := fun {f} hp hf => by
    refine psImp (ps_augS (pe_var (i := i) (pos := np) (xi Cc h1) (vis_of Cc h2) (nm_dest h3).1 (nm_dest h3).2.1) hk get_lst he hp set_list (by cases z <;> first | (intros; rfl) | cases hz)) fun D σ H ⟨Γ, R, rel, p⟩ => ?_
    have p : PostS F D R (owL Γ[i]? fun xs => (ev G k Γ).out Γ fun z => atR xs z fun o => (ev G e Γ).out Γ fun y => (augop op (.d o) y).out Γ fun w => stoR Γ i xs z w) := p
    obtain ⟨xs, e1, p⟩ := ow_cases p
    obtain ⟨a, vs, f1, f2, f3, f4, f5, f6⟩ := rel.ownL e1
    refine ⟨.ref a, f1, Γ, R, rel, (out_post rel p).mono fun w H1 ⟨z', R1, g, rz, q⟩ => ?_⟩
    have r1 := rel.grow g
    cases z' with
    | d zz =>
      cases zz with
      | int j =>
        obtain rfl : w = .int j := rz
        have q : PostS F D R1 (match (ixP xs.length j).bind fun m => xs[m]? with
          | some o => (ev G e Γ).out Γ fun y => (augop op (.d o) y).out Γ fun w => stoR Γ i xs (.d (.int j)) w
          | none => .bad) := q
        cases ei : ixP xs.length j with
        | none => rw [ei] at q; exact q.elim
        | some m =>
          rw [ei] at q
          have q : PostS F D R1 (match xs[m]? with
            | some o => (ev G e Γ).out Γ fun y => (augop op (.d o) y).out Γ fun w => stoR Γ i xs (.d (.int j)) w
            | none => .bad) := q
          cases eo : xs[m]? with
          | none => rw [eo] at q; exact q.elim
          | some o =>
            rw [eo] at q
            have q : PostS F D R1 ((ev G e Γ).out Γ fun y => (augop op (.d o) y).out Γ fun w => stoR Γ i xs (.d (.int j)) w) := q
            obtain ⟨v, hv, rv⟩ := f3.get' eo
            refine ⟨a, vs, j, m, v, rfl, rfl, g.same _ _ f2, by rw [f3.len]; exact ei, hv, Γ, R1, r1, (out_post r1 q).mono fun u H2 ⟨s, R2, g2, ru, q2⟩ => ?_⟩
            have cs : (augop op (.d o) s = .bad) ∨ ∃ x y, o = .int x ∧ s = .d (.int y) := by
              cases s with
              | d q9 => cases o <;> cases q9 <;> first | exact .inr ⟨_, _, rfl, rfl⟩ | (left; cases op <;> rfl)
              | _ => cases o <;> (left; cases op <;> rfl)
            rcases cs with e3 | ⟨x, y, rfl, rfl⟩
            · rw [e3] at q2; exact q2.elim
            · rw [hf] at q2
              obtain rfl : v = .int x := rv
              obtain rfl : u = .int y := ru
              have q2 : PostS F D R2 (match ixP xs.length j with
                | some m => .nx (Γ.set i (.ow (.d (.lst (xs.set m (.int (f x y)))))))
                | none => .bad) := q2
              rw [ei] at q2
              refine ⟨x, y, rfl, rfl, a, vs, j, m, rfl, rfl, g2.same _ _ (g.same _ _ f2), by rw [f3.len]; exact ei, ?_⟩
              exact q2 _ _ R2 ((r1.grow g2).ownSet e1 f1 (RpL.set (show RpD F.K R2 (.int (f x y)) (.int (f x y)) from rfl) m ((f3.mono g.reg).mono g2.reg)) (by rw [List.length_set]; exact f4)) .refl
      | _ => exact q.elim
    | _ => exact q.elim
  rcases ho with rfl | rfl
  · exact key ip_add fun _ _ => rfl
  · exact key ip_sub fun _ _ => rfl
/-! ### loops -/
noncomputable def forF (G : Ctx) (t : CT) (body : List CS) : PV → Gm → Out := fun x Γ => oout (bindT t x Γ) fun Γ' => runs G body Γ'
theorem s_for (C : Sok I G F X sc) {t : CT} {it : CI} {body : List CS} {tg iter : Expr} {b : List Stmt} (hi : okI I sc it tg iter = true) (hm : mdI it = .e) (ht : okT I sc t tg = true) (hb : PSs X b (RdS F (runs G body))) (htm : tame iter = true) :
    PS X (.For tg iter b [] pos) (RdS F (run G (.for t it body))) := by
  have Cc := C.toCok
  have hI := evI_ok G I it Cc _ _ hi
  rw [hm] at hI
  refine psImp (ps_for C.pass C.calm hI (g_ok Cc t _ ht) hb (fun x => folded_tame htm _ x)) fun D σ H ⟨Γ, R, rel, p⟩ => ⟨Γ, R, rel, ?_⟩
  have p : PostS F D R ((evI G it Γ).out Γ fun xs => forR (forF G t body) xs Γ) := p
  cases e1 : evI G it Γ with
  | bad => rw [e1] at p; exact p.elim
  | exc c => rw [e1] at p; exact fun H1 R1 g => p σ H1 R1 (rel.grow g) g.reg
  | ok xs =>
    rw [e1] at p
    have p : PostS F D R (forR (forF G t body) xs Γ) := p
    intro J H1 R1 g1 wl len
    refine ⟨fun i m σ' H' => m = xs.length - i ∧ i ≤ xs.length ∧ ∃ Γ' R', RelR F.K F.H0 F.R0 R' Γ' σ' H' ∧ Sub R1 R' ∧ PostS F D R' (forR (forF G t body) (xs.drop i) Γ'), ⟨_, rfl, Nat.zero_le _, Γ, R1, rel.grow g1, .refl, p.sub g1.reg⟩, ?_⟩
    rintro i m σ' H' ⟨hm, hi, Γ', R', rel', sb, q⟩
    have wk := wl H' R' (sb.trans rel'.sub) sb rel'.sub i
    cases ex : xs[i]? with
    | none =>
      rw [List.drop_eq_nil_of_le (List.getElem?_eq_none_iff.mp ex)] at q
      exact .inl ⟨wk.2 ex, q σ' H' R' rel' .refl⟩
    | some px =>
      have hlt : i < xs.length := (List.getElem?_eq_some_iff.mp ex).1
      obtain ⟨go, yl⟩ := wk.1 px ex
      have e3 : xs.drop i = px :: xs.drop (i + 1) := by
        rw [List.drop_eq_getElem_cons hlt]
        congr 1
        exact (List.getElem?_eq_some_iff.mp ex).2
      rw [e3] at q
      have q : PostS F D R' ((forF G t body px Γ').loop fun Γ' => forR (forF G t body) (xs.drop (i + 1)) Γ') := q
      refine .inr ⟨go, fun σ' H' => xs.length - (i + 1) = xs.length - (i + 1) ∧ i + 1 ≤ xs.length ∧ ∃ Γ' R', RelR F.K F.H0 F.R0 R' Γ' σ' H' ∧ Sub R1 R' ∧ PostS F D R' (forR (forF G t body) (xs.drop (i + 1)) Γ'), fun σ' H' w => ⟨_, by omega, w⟩, ?_⟩
      intro x H2 hy
      obtain ⟨R2, g2, rx⟩ := yl x H2 hy
      have q := q.sub g2.reg
      unfold forF at q
      cases e4 : bindT t px Γ' with
      | none => rw [e4] at q; exact q.elim
      | some Γ2 =>
        rw [e4] at q
        refine ⟨Γ', R2, px, Γ2, rel'.grow g2, rx, e4, fun σ2 rel2 _ => ⟨Γ2, R2, rel2, ?_⟩⟩
        exact PostS.loop (o := runs G body Γ2) q fun σ3 H3 Γ3 R3 r3 s3 q3 => ⟨rfl, hlt, Γ3, R3, r3, (sb.trans g2.reg).trans s3, q3⟩
theorem s_while (C : Sok I G F X sc) {c : CE} {body : List CS} {z : Expr} {b : List Stmt} (hc : okE I sc c z = true) (hb : PSs X b (RdS F (runs G body))) : PS X (.While z b [] pos) (RdS F (run G (.while c body))) := by
  have Cc := C.toCok
  refine psImp (ps_while C.pass (ev_ok G I c Cc z hc).2 hb) fun D σ H ⟨Γ, R, rel, p⟩ => ?_
  have p : PostS F D R (whileR (fun Γ => (ev G c Γ).bind isBl?) (fun Γ => runs G body Γ) Γ) := p
  obtain ⟨n, hn⟩ : ∃ n, wit (fun Γ => (ev G c Γ).bind isBl?) (fun Γ => runs G body Γ) n Γ ≠ .bad := by
    refine Classical.byContradiction fun h => ?_
    unfold whileR at p
    rw [dif_neg h] at p
    exact p
  rw [while_of hn] at p
  refine ⟨fun m σ' H' => ∃ Γ' R', RelR F.K F.H0 F.R0 R' Γ' σ' H' ∧ PostS F D R' (wit (fun Γ => (ev G c Γ).bind isBl?) (fun Γ => runs G body Γ) m Γ'), ⟨n, Γ, R, rel, p⟩, ?_⟩
  rintro m σ' H' ⟨Γ', R', rel', q⟩
  cases m with
  | zero => exact q.elim
  | succ m =>
    have q : PostS F D R' (((ev G c Γ').bind isBl?).out Γ' fun b => if b then (runs G body Γ').loop fun Γ' => wit (fun Γ => (ev G c Γ).bind isBl?) (fun Γ => runs G body Γ) m Γ' else .nx Γ') := q
    refine ⟨Γ', R', rel', (out_postB rel' q).mono fun b H1 ⟨R1, g, q⟩ => ?_⟩
    cases b with
    | false => exact q σ' H1 R1 (rel'.grow g) .refl
    | true =>
      exact ⟨fun σ3 H3 => ∃ Γ' R', RelR F.K F.H0 F.R0 R' Γ' σ3 H3 ∧ PostS F D R' (wit (fun Γ => (ev G c Γ).bind isBl?) (fun Γ => runs G body Γ) m Γ'), fun σ3 H3 w => ⟨m, Nat.lt_succ_self m, w⟩, Γ', R1, rel'.grow g,
        PostS.loop (o := runs G body Γ') q fun σ3 H3 Γ3 R3 r3 s3 q3 => ⟨Γ3, R3, r3, q3⟩⟩
/-! ### stores from the right -/
theorem kind_loc (C : Cok I G F X sc) {n : Str} (h : (sc.names.lookup n == some .local) = true) : X.env.scope.names.lookup n = some .local := loc_env C (by simpa using h)
theorem star_no {y : Expr} (h : tame y = true) : ((fun | .Starred .. => true | _ => false : Expr → Bool) y) = false := by
  cases y <;> first | rfl | cases h
theorem sw2 {env : PySem.Env} {n m : Str} {px py pt p2 : Pos} {kt k2 : Nat} {y z : Expr} (hb : env.blockKind = .function) (k1 : env.kindOf n = some .local) (k2' : env.kindOf m = some .local) (hne : n ≠ m) (hl : py.line = px.line) (ty : tame y = true) (tz : tame z = true) (hf : foldsE [y, z] = false) :
    swappedStores [.Tuple [.Name n px, .Name m py] kt pt] (.Tuple [y, z] k2 p2) env = pure (some [n, m]) := by
  unfold foldsE at hf
  rw [Bool.or_eq_false_iff] at hf
  have st : ([y, z].any fun | .Starred .. => true | _ => false) = false := by
    rw [List.any_cons, List.any_cons, List.any_nil]
    exact Bool.or_eq_false_iff.mpr ⟨star_no ty, Bool.or_eq_false_iff.mpr ⟨star_no tz, rfl⟩⟩
  have nd : [n, m].eraseDups = [n, m] := by
    have : (m == n) = false := by simpa using Ne.symm hne
    simp [List.eraseDups_cons, this]
  have hh : ((Option.map (fun x : Expr => x.pos.line) [Expr.Name n px, Expr.Name m py].head?).getD 0) = px.line := rfl
  unfold swappedStores
  simp only [List.length_cons, List.length_nil]
  rw [hb, if_neg (by decide), if_neg (by rw [Bool.not_eq_true]; exact st)]
  simp only [hh, List.filterMap_cons, List.filterMap_nil, k1, k2', hl, beq_self_eq_true, Bool.and_self, if_true, nd, hf.1, hf.2]
  rw [if_neg (by simp), if_neg (by simp), if_neg (by simp)]
theorem sw3 {env : PySem.Env} {n m o : Str} {px py pz pt p2 : Pos} {kt k2 : Nat} {y z w : Expr} (hb : env.blockKind = .function) (k1 : env.kindOf n = some .local) (k2' : env.kindOf m = some .local) (k3 : env.kindOf o = some .local) (hne : n ≠ m) (hno : n ≠ o) (hmo : m ≠ o) (hl : py.line = px.line) (hl2 : pz.line = px.line) (ty : tame y = true) (tz : tame z = true) (tw : tame w = true) (hf : foldsE [y, z, w] = false) :
    swappedStores [.Tuple [.Name n px, .Name m py, .Name o pz] kt pt] (.Tuple [y, z, w] k2 p2) env = pure (some [n, m, o]) := by
  unfold foldsE at hf
  rw [Bool.or_eq_false_iff] at hf
  have st : ([y, z, w].any fun | .Starred .. => true | _ => false) = false := by
    rw [List.any_cons, List.any_cons, List.any_cons, List.any_nil]
    exact Bool.or_eq_false_iff.mpr ⟨star_no ty, Bool.or_eq_false_iff.mpr ⟨star_no tz, Bool.or_eq_false_iff.mpr ⟨star_no tw, rfl⟩⟩⟩
  have nd : [n, m, o].eraseDups = [n, m, o] := by
    have e1 : (m == n) = false := by simpa using Ne.symm hne
    have e2 : (o == n) = false := by simpa using Ne.symm hno
    have e3 : (o == m) = false := by simpa using Ne.symm hmo
    simp [List.eraseDups_cons, e1, e2, e3]
  have hh : ((Option.map (fun x : Expr => x.pos.line) [Expr.Name n px, Expr.Name m py, Expr.Name o pz].head?).getD 0) = px.line := rfl
  unfold swappedStores
  simp only [List.length_cons, List.length_nil]
  rw [hb, if_neg (by decide), if_neg (by rw [Bool.not_eq_true]; exact st)]
  simp only [hh, List.filterMap_cons, List.filterMap_nil, k1, k2', k3, hl, hl2, beq_self_eq_true, Bool.and_self, if_true, nd, hf.1, hf.2]
  rw [if_neg (by simp), if_neg (by simp), if_neg (by simp)]
theorem rms_data2 {R H : Hp} {ss : List SV} {v : List V} (h : Rms F R H .e ss v) : RpSs F.K R ss v := rms_e h
theorem s_par2 (C : Sok I G F X sc) {i j : Nat} {a b : CE} {n m : Str} {px py pt p2 : Pos} {kt k2 : Nat} {y z : Expr} (h1 : I.N[i]? = some n) (h2 : I.N[j]? = some m) (h3 : n ≠ m) (h4 : i ≠ j) (h5 : (sc.names.lookup n == some .local) = true) (h6 : (sc.names.lookup m == some .local) = true) (h7 : (px.line == py.line) = true)
    (h8 : foldsE [y, z] = false) (h9 : okL I sc [a, b] [y, z] = true) (hm : mdL [a, b] = .e) : PS X (.Assign [.Tuple [.Name n px, .Name m py] kt pt] (.Tuple [y, z] k2 p2) pos) (RdS F (run G (.par [i, j] [a, b]))) := by
  have Cc := C.toCok
  have ha := evL_ok G I [a, b] Cc _ h9
  rw [hm] at ha
  have tm := okL_tame h9
  simp only [List.all_cons, List.all_nil, Bool.and_eq_true, Bool.and_true] at tm
  have k1 := kind_loc Cc h5
  have k2' := kind_loc Cc h6
  refine psImp (ps_par C.calm (xN Cc) (xi Cc h1) (xi Cc h2) h4 k1 k2' ha (sw2 C.bk k1 k2' h3 (eq_of_beq h7).symm tm.1 tm.2 h8)) fun D σ H ⟨Γ, R, rel, p⟩ => ⟨Γ, R, rel, ?_⟩
  have p : PostS F D R ((evL G [a, b] Γ).out Γ fun ss => .nx (sets [i, j] ss Γ)) := p
  have q := out_postL (m := .e) rel p
  cases e1 : evL G [a, b] Γ with
  | bad => rw [e1] at q; exact q
  | exc c => rw [e1] at q; exact q
  | ok ss =>
    rw [e1] at q
    intro vs H1 R1 g rv
    obtain ⟨ss', R2, e2, g2, rv2, q⟩ := q vs H1 R1 g rv
    cases e2
    have hl := evL_len e1
    match ss, hl, rv2, q with
    | [s, t], _, ⟨v, _, ev, rs, w, _, ew, rt, en⟩, q =>
      subst ew
      rw [show _ = [] from en] at ev
      exact ⟨v, w, ev, q _ H1 R2 (((rel.grow g2).set rs).set rt) .refl⟩
theorem s_par3 (C : Sok I G F X sc) {i j l : Nat} {a b c : CE} {n m o : Str} {px py pz pt p2 : Pos} {kt k2 : Nat} {y z w : Expr} (h1 : I.N[i]? = some n) (h2 : I.N[j]? = some m) (h2' : I.N[l]? = some o) (h3 : n ≠ m) (h3' : n ≠ o) (h3'' : m ≠ o) (h4 : i ≠ j) (h4' : i ≠ l) (h4'' : j ≠ l) (h5 : (sc.names.lookup n == some .local) = true) (h6 : (sc.names.lookup m == some .local) = true) (h6' : (sc.names.lookup o == some .local) = true) (h7 : (px.line == py.line) = true) (h7' : (px.line == pz.line) = true)
    (h8 : foldsE [y, z, w] = false) (h9 : okL I sc [a, b, c] [y, z, w] = true) (hm : mdL [a, b, c] = .e) : PS X (.Assign [.Tuple [.Name n px, .Name m py, .Name o pz] kt pt] (.Tuple [y, z, w] k2 p2) pos) (RdS F (run G (.par [i, j, l] [a, b, c]))) := by
  have Cc := C.toCok
  have ha := evL_ok G I [a, b, c] Cc _ h9
  rw [hm] at ha
  have tm := okL_tame h9
  simp only [List.all_cons, List.all_nil, Bool.and_eq_true, Bool.and_true] at tm
  have k1 := kind_loc Cc h5
  have k2' := kind_loc Cc h6
  have k3 := kind_loc Cc h6'
  refine psImp (ps_par3 C.calm (xN Cc) (xi Cc h1) (xi Cc h2) (xi Cc h2') h4 h4' h4'' k1 k2' k3 ha (sw3 C.bk k1 k2' k3 h3 h3' h3'' (eq_of_beq h7).symm (eq_of_beq h7').symm tm.1 tm.2.1 tm.2.2 h8)) fun D σ H ⟨Γ, R, rel, p⟩ => ⟨Γ, R, rel, ?_⟩
  have p : PostS F D R ((evL G [a, b, c] Γ).out Γ fun ss => .nx (sets [i, j, l] ss Γ)) := p
  have q := out_postL (m := .e) rel p
  cases e1 : evL G [a, b, c] Γ with
  | bad => rw [e1] at q; exact q
  | exc c => rw [e1] at q; exact q
  | ok ss =>
    rw [e1] at q
    intro vs H1 R1 g rv
    obtain ⟨ss', R2, e2, g2, rv2, q⟩ := q vs H1 R1 g rv
    cases e2
    have hl := evL_len e1
    match ss, hl, rv2, q with
    | [s, t, u], _, ⟨v, _, ev, rs, w, _, ew, rt, x, _, ex, ru, en⟩, q =>
      subst ex
      subst ew
      rw [show _ = [] from en] at ev
      exact ⟨v, w, x, ev, q _ H1 R2 ((((rel.grow g2).set rs).set rt).set ru) .refl⟩
theorem rdow_mono {os : List Bool} {g : Gm → Res (List SV)} {σ : L2.St} {H : Hp} {Q Q' : List V → Hp → Prop} (h : RdOw F os g σ H Q) (i : ∀ vs H, Q vs H → Q' vs H) : RdOw F os g σ H Q' := by
  obtain ⟨Γ, R, rel, p⟩ := h
  refine ⟨Γ, R, rel, ?_⟩
  cases e : g Γ with
  | bad => rw [e] at p; exact p
  | exc c => rw [e] at p; exact p
  | ok ss => rw [e] at p; exact fun vs H' R' gr rm => i _ _ (p vs H' R' gr rm)
theorem s_parO2 (C : Sok I G F X sc) {i j : Nat} {o1 o2 : Bool} {a b : CE} {n m : Str} {px py pt p2 : Pos} {kt k2 : Nat} {y z : Expr} (h1 : I.N[i]? = some n) (h2 : I.N[j]? = some m) (h3 : n ≠ m) (h4 : i ≠ j) (h5 : (sc.names.lookup n == some .local) = true) (h6 : (sc.names.lookup m == some .local) = true) (h7 : (px.line == py.line) = true)
    (h8 : foldsE [y, z] = false) (h9 : okLO I sc [o1, o2] [a, b] [y, z] = true) (ty : tame y = true) (tz : tame z = true) : PS X (.Assign [.Tuple [.Name n px, .Name m py] kt pt] (.Tuple [y, z] k2 p2) pos) (RdS F (run G (.parO [i, j] [o1, o2] [a, b]))) := by
  have Cc := C.toCok
  have k1 := kind_loc Cc h5
  have k2' := kind_loc Cc h6
  refine psImp (ps_par C.calm (xN Cc) (xi Cc h1) (xi Cc h2) h4 k1 k2' (po_ok Cc h9) (sw2 C.bk k1 k2' h3 (eq_of_beq h7).symm ty tz h8)) fun D σ H h => ?_
  refine rdow_mono (parO_post [i, j] rfl h) fun vs H1 ⟨hl, q⟩ => ?_
  match vs, hl, q with
  | [v, w], _, q => exact ⟨v, w, rfl, q⟩
theorem s_parO3 (C : Sok I G F X sc) {i j l : Nat} {o1 o2 o3 : Bool} {a b c : CE} {n m o : Str} {px py pz pt p2 : Pos} {kt k2 : Nat} {y z w : Expr} (h1 : I.N[i]? = some n) (h2 : I.N[j]? = some m) (h2' : I.N[l]? = some o) (h3 : n ≠ m) (h3' : n ≠ o) (h3'' : m ≠ o) (h4 : i ≠ j) (h4' : i ≠ l) (h4'' : j ≠ l) (h5 : (sc.names.lookup n == some .local) = true) (h6 : (sc.names.lookup m == some .local) = true) (h6' : (sc.names.lookup o == some .local) = true) (h7 : (px.line == py.line) = true) (h7' : (px.line == pz.line) = true)
    (h8 : foldsE [y, z, w] = false) (h9 : okLO I sc [o1, o2, o3] [a, b, c] [y, z, w] = true) (ty : tame y = true) (tz : tame z = true) (tw : tame w = true) : PS X (.Assign [.Tuple [.Name n px, .Name m py, .Name o pz] kt pt] (.Tuple [y, z, w] k2 p2) pos) (RdS F (run G (.parO [i, j, l] [o1, o2, o3] [a, b, c]))) := by
  have Cc := C.toCok
  have k1 := kind_loc Cc h5
  have k2' := kind_loc Cc h6
  have k3 := kind_loc Cc h6'
  refine psImp (ps_par3 C.calm (xN Cc) (xi Cc h1) (xi Cc h2) (xi Cc h2') h4 h4' h4'' k1 k2' k3 (po_ok Cc h9) (sw3 C.bk k1 k2' k3 h3 h3' h3'' (eq_of_beq h7).symm (eq_of_beq h7').symm ty tz tw h8)) fun D σ H h => ?_
  refine rdow_mono (parO_post [i, j, l] rfl h) fun vs H1 ⟨hl, q⟩ => ?_
  match vs, hl, q with
  | [v, w, x], _, q => exact ⟨v, w, x, rfl, q⟩
theorem s_parOn (C : Sok I G F X sc) {is : List Nat} {os : List Bool} {as : List CE} {xs ys : List Expr} {kt k2 : Nat} {pt p2 : Pos} (h1 : okTs I sc (nmTs is) xs = true) (h2 : okLO I sc os as ys = true) (h3 : noSwap sc xs = true) (h4 : is.length = os.length) (h5 : os.length ≤ 1000) : PS X (.Assign [.Tuple xs kt pt] (.Tuple ys k2 p2) pos) (RdS F (run G (.parO is os as))) := by
  have Cc := C.toCok
  have ea := okTs_each (env := X.env) h1
  refine psImp (ps_asg (pe_tup (po_ok Cc h2)) (pg_tup C.calm (gn_ok Cc is xs h1) ea.1 ea.2) rfl (swap_none C (by rw [h3, Bool.or_true]))) fun D σ H h => ?_
  refine rdow_mono (parO_postT is h4 h) fun vs H1 ⟨hl, q⟩ => ⟨by rw [hl]; unfold sizeLine; omega, fun p hp => ⟨p, vs, rfl, .inl (.of (upd_same ..)), by rw [hl, ← h4]; exact (List.length_map ..).symm, gn_of (by rw [hl, h4]) (q p hp)⟩⟩
mutual
theorem run_ok (G : Ctx) (I : Inf) : ∀ (s : CS) {F : Fr} {X : Cx} {sc : Scope} (C : Sok I G F X sc) (x : Stmt), okS I sc s x = true → PS X x (RdS F (run G s))
  | .expr e, F, X, sc, C, x, h => by
    unfold okS at h
    split at h
    · rw [Bool.and_eq_true, Bool.not_eq_true'] at h
      exact s_expr C h.1 h.2
    · cases h
  | .set t e, F, X, sc, C, x, h => by
    unfold okS at h
    cases t with
    | name i =>
      dsimp only at h
      split at h
      · simp only [Bool.and_eq_true, decide_eq_true_eq] at h
        exact s_set C h.1.1.1.1 h.1.1.1.2 h.1.1.2 (by simpa using h.1.2) h.2
      · cases h
    | tup ts =>
      dsimp only at h
      split at h
      · simp only [Bool.and_eq_true, Bool.not_eq_true'] at h
        exact s_tup C h.1.1.1 h.1.1.2 (by simpa using h.1.2) (by simpa using h.2)
      · cases h
  | .par is es, F, X, sc, C, x, h => by
    unfold okS at h
    split at h
    · simp only [Bool.and_eq_true, decide_eq_true_eq, Bool.not_eq_true'] at h
      obtain ⟨⟨⟨⟨⟨⟨⟨⟨⟨h1, h2⟩, h3⟩, h4⟩, h5⟩, h6⟩, h7⟩, h8⟩, h9⟩, h10⟩ := h
      exact s_par2 C h1 h2 h3 h4 h5 h6 h7 h8 h9 (by simpa using h10)
    · simp only [Bool.and_eq_true, decide_eq_true_eq, Bool.not_eq_true'] at h
      obtain ⟨⟨⟨⟨⟨⟨⟨⟨⟨⟨⟨⟨⟨⟨⟨⟨h1, h2⟩, h2'⟩, h3⟩, h3'⟩, h3''⟩, h4⟩, h4'⟩, h4''⟩, h5⟩, h6⟩, h6'⟩, h7⟩, h7'⟩, h8⟩, h9⟩, h10⟩ := h
      exact s_par3 C h1 h2 h2' h3 h3' h3'' h4 h4' h4'' h5 h6 h6' h7 h7' h8 h9 (by simpa using h10)
    · cases h
  | .parO is os es, F, X, sc, C, x, h => by
    unfold okS at h
    rw [Bool.or_eq_true] at h
    rcases h with h | h
    · split at h
      · simp only [Bool.and_eq_true, decide_eq_true_eq, Bool.not_eq_true'] at h
        obtain ⟨⟨⟨⟨⟨⟨⟨⟨⟨h1, h2⟩, h3⟩, h4⟩, h5⟩, h6⟩, h7⟩, h8⟩, h9⟩, h10, h11⟩ := h
        exact s_parO2 C h1 h2 h3 h4 h5 h6 h7 h8 h9 h10 h11
      · simp only [Bool.and_eq_true, decide_eq_true_eq, Bool.not_eq_true'] at h
        obtain ⟨⟨⟨⟨⟨⟨⟨⟨⟨⟨⟨⟨⟨⟨⟨⟨h1, h2⟩, h2'⟩, h3⟩, h3'⟩, h3''⟩, h4⟩, h4'⟩, h4''⟩, h5⟩, h6⟩, h6'⟩, h7⟩, h7'⟩, h8⟩, h9⟩, ⟨h10, h11⟩, h12⟩ := h
        exact s_parO3 C h1 h2 h2' h3 h3' h3'' h4 h4' h4'' h5 h6 h6' h7 h7' h8 h9 h10 h11 h12
      · cases h
    · split at h
      · simp only [Bool.and_eq_true, decide_eq_true_eq] at h
        exact s_parOn C h.1.1.1.1 h.1.1.1.2 h.1.1.2 h.1.2 h.2
      · cases h
  | .own i e, F, X, sc, C, x, h => by
    unfold okS at h
    split at h
    · simp only [Bool.and_eq_true, decide_eq_true_eq] at h
      exact s_own C h.1.1 h.1.2 h.2
    · cases h
  | .frz _, F, X, sc, C, x, h => by unfold okS at h; cases h
  | .aug i op e, F, X, sc, C, x, h => by
    unfold okS at h
    split at h
    · simp only [Bool.and_eq_true, Bool.or_eq_true, decide_eq_true_eq] at h
      obtain ⟨⟨⟨⟨h1, h2⟩, rfl⟩, h4⟩, h5⟩ := h
      exact s_aug C h1 h2 h4 h5
    · cases h
  | .augs i op k e, F, X, sc, C, x, h => by
    unfold okS at h
    split at h
    · simp only [Bool.and_eq_true, Bool.or_eq_true, decide_eq_true_eq] at h
      obtain ⟨⟨⟨⟨⟨⟨⟨⟨⟨h1, h2⟩, h3⟩, h4⟩, h5⟩, h6⟩, h7⟩, rfl⟩, h9⟩, h10⟩ := h
      exact s_augs C h1 h2 h3 h4 (by simpa using h5) h6 (by simpa using h7) h9 h10
    · cases h
  | .app i e, F, X, sc, C, x, h => by
    unfold okS at h
    split at h
    · simp only [Bool.and_eq_true, decide_eq_true_eq] at h
      obtain ⟨⟨⟨⟨⟨⟨⟨h1, h2⟩, h3⟩, rfl⟩, h4⟩, h5⟩, h6⟩, h7⟩ := h
      exact s_app C h1 h2 h3 h4 (by simpa using h5) h6 h7
    · cases h
  | .ext i e, F, X, sc, C, x, h => by
    unfold okS at h
    split at h
    · simp only [Bool.and_eq_true, decide_eq_true_eq] at h
      obtain ⟨⟨⟨⟨⟨⟨⟨h1, h2⟩, h3⟩, rfl⟩, h4⟩, h5⟩, h6⟩, h7⟩ := h
      exact s_ext C h1 h2 h3 h4 (by simpa using h5) h6 h7
    · cases h
  | .upd i e, F, X, sc, C, x, h => by
    unfold okS at h
    split at h
    · simp only [Bool.and_eq_true, decide_eq_true_eq] at h
      obtain ⟨⟨⟨⟨⟨⟨⟨h1, h2⟩, h3⟩, rfl⟩, h4⟩, h5⟩, h6⟩, h7⟩ := h
      exact s_upd C h1 h2 h3 h4 (by simpa using h5) h6 h7
    · cases h
  | .pop f t i, F, X, sc, C, x, h => by
    unfold okS at h
    split at h
    · simp only [Bool.and_eq_true, decide_eq_true_eq] at h
      obtain ⟨⟨⟨⟨⟨⟨⟨h1, h2⟩, h3⟩, h4⟩, h5⟩, rfl⟩, h6⟩, h7⟩ := h
      exact s_popN C h1 h2 h3 h4 h5 h6 h7
    · simp only [Bool.and_eq_true, decide_eq_true_eq] at h
      obtain ⟨⟨⟨⟨⟨⟨⟨h1, _⟩, h3⟩, h4⟩, h5⟩, rfl⟩, h6⟩, h7⟩ := h
      exact s_popT C h1 h3 h4 h5 h6 h7
    · cases h
  | .sto i k e, F, X, sc, C, x, h => by
    unfold okS at h
    split at h
    · simp only [Bool.and_eq_true, decide_eq_true_eq, Bool.not_eq_true'] at h
      obtain ⟨⟨⟨⟨⟨⟨⟨⟨h1, h2⟩, h3⟩, h4⟩, h5⟩, h6⟩, h7⟩, h8⟩, h9⟩ := h
      exact s_sto C h1 h2 h3 h4 (by simpa using h5) h6 (by simpa using h7) h8 h9
    · cases h
  | .ife c a b, F, X, sc, C, x, h => by
    unfold okS at h
    split at h
    · simp only [Bool.and_eq_true] at h
      exact s_if C h.1.1 (runs_ok G I a C _ h.1.2) (runs_ok G I b C _ h.2)
    · cases h
  | .for t it body, F, X, sc, C, x, h => by
    unfold okS at h
    split at h
    · simp only [Bool.and_eq_true] at h
      exact s_for C h.1.1.1.1 (by simpa using h.1.1.1.2) h.1.1.2 (runs_ok G I body C _ h.1.2) h.2
    · cases h
  | .while c body, F, X, sc, C, x, h => by
    unfold okS at h
    split at h
    · simp only [Bool.and_eq_true] at h
      exact s_while C h.1 (runs_ok G I body C _ h.2)
    · cases h
  | .ret e, F, X, sc, C, x, h => by
    unfold okS at h
    split at h
    · exact s_ret C h
    · cases h
  | .retN, F, X, sc, C, x, h => by
    unfold okS at h
    split at h
    · exact s_retN
    · cases h
  | .brk, F, X, sc, C, x, h => by
    unfold okS at h
    split at h
    · exact psImp ps_break fun D σ H ⟨Γ, R, rel, p⟩ => p σ H R rel .refl
    · cases h
  | .cont, F, X, sc, C, x, h => by
    unfold okS at h
    split at h
    · exact psImp ps_continue fun D σ H ⟨Γ, R, rel, p⟩ => p σ H R rel .refl
    · cases h
  | .pass, F, X, sc, C, x, h => by
    unfold okS at h
    split at h
    · exact psImp ps_pass fun D σ H ⟨Γ, R, rel, p⟩ => p σ H R rel .refl
    · cases h
  | .never, F, X, sc, C, x, h => psImp ps_never fun D σ H ⟨Γ, R, rel, p⟩ => p
  | .raise k, F, X, sc, C, x, h => by
    unfold okS at h
    split at h
    · simp only [Bool.and_eq_true, decide_eq_true_eq] at h
      exact s_raise C h.1.1 h.1.2 h.2
    · cases h
  | .try body hs, F, X, sc, C, x, h => by
    unfold okS at h
    split at h
    · simp only [Bool.and_eq_true, Bool.or_eq_true] at h
      rcases h.2 with (h2 | h2) | h2
      · exact s_try C (fun C' => runs_ok G I body C' _ h.1) h2
      · exact s_try_as' C (fun C' => runs_ok G I body C' _ h.1) h2
      · exact s_try_mix C (fun C' => runs_ok G I body C' _ h.1) h2
    · cases h
theorem runs_ok (G : Ctx) (I : Inf) : ∀ (ss : List CS) {F : Fr} {X : Cx} {sc : Scope} (C : Sok I G F X sc) (xs : List Stmt), okSs I sc ss xs = true → PSs X xs (RdS F (runs G ss))
  | [], F, X, sc, C, xs, h => by
    unfold okSs at h
    cases xs with
    | nil => exact pssImp pss_nil fun D σ H ⟨Γ, R, rel, p⟩ => p σ H R rel .refl
    | cons _ _ => cases h
  | s :: ss, F, X, sc, C, xs, h => by
    unfold okSs at h
    split at h
    · rename_i i
      refine ⟨fun pins s0 σ H D inv ⟨Γ, R, rel, p⟩ => ?_⟩
      have go := fun H' R' Γ' (inv' : Inv X pins σ H' s0) (rel' : RelR F.K F.H0 F.R0 R' Γ' σ H') (p' : PostS F D R' (runs G ss Γ')) => (runs_ok G I ss C xs h).run pins s0 σ H' D inv' ⟨Γ', R', rel', p'⟩
      have p : PostS F D R ((owO Γ[i]? fun s => Out.nx (Γ.set i (.sh (lockS s)))).next fun Γ' => runs G ss Γ') := p
      cases e : Γ[i]? with
      | none => rw [e] at p; exact p.elim
      | some b =>
        cases b with
        | no => rw [e] at p; exact p.elim
        | sh _ => rw [e] at p; exact p.elim
        | ow s =>
          rw [e] at p
          have plain : lockS s = s → wpAny (model X.prog X.w) X.A (execs xs X.env) (fun fl s' => SP X pins D fl s') X.xe s0 := fun es => by
            obtain ⟨R', sb, rel'⟩ := rel.frz e
            have p : PostS F D R (runs G ss (Γ.set i (.sh (lockS s)))) := p
            rw [es] at p
            exact go _ R' _ inv rel' (PostS.sub (o := runs G ss (Γ.set i (.sh s))) p sb)
          cases s with
          | dX b kvs =>
            obtain ⟨a, es, ha, k⟩ := rel.frzX e
            obtain ⟨od, inv'⟩ := inv.lock ha trivial
            obtain ⟨R', sb, rel'⟩ := k od
            exact go _ R' _ inv' rel' (PostS.sub (o := runs G ss (Γ.set i (.sh (.dX true kvs)))) p sb)
          | d _ => exact plain rfl
          | dK _ => exact plain rfl
          | ins _ _ => exact plain rfl
          | scr _ => exact plain rfl
    · split at h
      · cases h
      · rw [Bool.and_eq_true] at h
        exact pssImp (pss_cons (run_ok G I s C _ h.1) (runs_ok G I ss C _ h.2)) fun D σ H ⟨Γ, R, rel, p⟩ => ⟨Γ, R, rel, PostS.next (o := run G s Γ) p⟩
end
end
end Bw
end

section
set_option autoImplicit false
set_option linter.all false
/-! Bw Z: defs; the law. -/
namespace Bw
open PySem L2 PyProof.Rows PySem.Spec
section
variable {P : Program} {w : World} {K : Fr'} {mg : Str → Option Value} {base : Heap} {cls : Nat → Value}
/-- a def that may be called, at the depth l -/
def Cal (P : Program) (w : World) (K : Fr') (mg : Str → Option Value) (base : Heap) (cls : Nat → Value) (l : Nat) (x : Str) (Φ : List SV → Res SV) : Prop :=
  ∃ f fd ps, mg x = some (.ref f) ∧ PySem.W.keepIn K (.ref f) = true ∧ Binds K fd ps [] ∧ (∀ ss, Φ ss ≠ .bad → ss.length = ps.length) ∧ FnOk P w K mg base (L2.CX P w) l f fd ps (spT K cls ps.length Φ)
theorem Cal.mono {l l' : Nat} {x : Str} {Φ : List SV → Res SV} (h : Cal P w K mg base cls l x Φ) (q : l ≤ l') : Cal P w K mg base cls l' x Φ := by
  obtain ⟨f, fd, ps, e1, e2, e3, e4, e5⟩ := h
  exact ⟨f, fd, ps, e1, e2, e3, e4, e5.mono q⟩
/-- names with what they are worth, one by one -/
def Cals (P : Program) (w : World) (K : Fr') (mg : Str → Option Value) (base : Heap) (cls : Nat → Value) (l : Nat) : List Str → List (List SV → Res SV) → Prop
  | [], _ => True
  | x :: xs, Φs => ∃ Φ Φs', Φs = Φ :: Φs' ∧ Cal P w K mg base cls l x Φ ∧ Cals P w K mg base cls l xs Φs'
theorem Cals.get {l : Nat} : ∀ {xs : List Str} {Φs : List (List SV → Res SV)} {k : Nat} {x : Str}, Cals P w K mg base cls l xs Φs → xs[k]? = some x → ∃ Φ, Φs[k]? = some Φ ∧ Cal P w K mg base cls l x Φ
  | x :: _, _, 0, _, ⟨Φ, Φs, e, c, _⟩, h => by subst e; simp at h; subst h; exact ⟨Φ, rfl, c⟩
  | _ :: _, _, k + 1, _, ⟨Φ, Φs, e, _, c⟩, h => by
    subst e
    obtain ⟨Ψ, e1, e2⟩ := Cals.get (k := k) c (by simpa using h)
    exact ⟨Ψ, by simpa using e1, e2⟩
/-- constants of the module -/
def Con (K : Fr') (mg : Str → Option Value) (x : Str) (s : SV) : Prop := ∃ u v, mg x = some u ∧ RelV v u ∧ ∀ R, RpS K R s v
def Cons (K : Fr') (mg : Str → Option Value) : List Str → List SV → Prop
  | [], _ => True
  | x :: xs, ss => ∃ s ss', ss = s :: ss' ∧ Con K mg x s ∧ Cons K mg xs ss'
theorem Cons.get : ∀ {xs : List Str} {ss : List SV} {k : Nat} {x : Str} {s : SV}, Cons K mg xs ss → xs[k]? = some x → ss[k]? = some s → Con K mg x s
  | x :: _, _, 0, _, _, ⟨t, ts, e, c, _⟩, h, h2 => by subst e; simp at h h2; subst h; subst h2; exact c
  | _ :: _, _, k + 1, _, _, ⟨t, ts, e, _, c⟩, h, h2 => by
    subst e
    exact Cons.get (k := k) c (by simpa using h) (by simpa using h2)
theorem rpss_len {R : Hp} : ∀ {ss : List SV} {vs : List V}, RpSs K R ss vs → vs.length = ss.length
  | [], _, r => by rw [show _ = [] from r]; rfl
  | _ :: _, _, ⟨v, ws, e, _, rs⟩ => by rw [e]; simp [rpss_len rs]
theorem rpss_get {R : Hp} : ∀ {ss : List SV} {vs : List V} {i : Nat} {s : SV}, RpSs K R ss vs → ss[i]? = some s → ∃ v, vs[i]? = some v ∧ RpS K R s v
  | s :: _, _, 0, _, ⟨v, ws, e, r, rs⟩, h => by subst e; simp at h; subst h; exact ⟨v, rfl, r⟩
  | _ :: _, _, i + 1, _, ⟨v, ws, e, r, rs⟩, h => by
    subst e
    obtain ⟨v, h1, h2⟩ := rpss_get (i := i) rs (by simpa using h)
    exact ⟨v, by simpa using h1, h2⟩
/-- the classes of errors, and which is below which -/
def Excs (K : Fr') (mg : Str → Option Value) (cls : Nat → Value) (xs : List Str) (sub : Nat → Nat → Option Bool) : Prop :=
  (∀ (k : Nat) (x : Str), xs[k]? = some x → ExcAt K mg (cls k) x) ∧ (∀ (j k : Nat) (b : Bool), sub j k = some b → PySem.W.exmOne K (cls j) (cls k) = some b ∧ PySem.W.kitOne K (cls j) (cls k) = some b ∧ ∃ C, cls j = .ref C ∧ ExcC K C)
theorem excs_no {cls : Nat → Value} : Excs K mg cls [] (fun _ _ => none) := And.intro (fun k x h => by simp at h) (fun j k b h => by cases h)
theorem exm_mk {j k : Addr} {b : Bool} (bk : PySem.W.subIn K (.ref k) (.type "BaseException") = some true) (ik : PySem.W.isClsIn K k = true) (tk : PySem.W.typeIn K (.ref k) = some (.type "type")) (s : PySem.W.subIn K (.ref j) (.ref k) = some b) :
    PySem.W.exmOne K (.ref j) (.ref k) = some b := by
  have ik : (PySem.W.clsIn K k).isSome = true := ik
  unfold PySem.W.exmOne
  rw [if_pos (by rw [bk]; rfl)]
  show (if ((PySem.W.clsIn K k).isSome && PySem.W.typeIn K (.ref k) == some (.type "type")) = true then PySem.W.subIn K (.ref j) (.ref k) else none) = some b
  rw [if_pos (by rw [ik, tk]; rfl), s]
theorem kit_mk {j k : Addr} {b : Bool} (ik : PySem.W.isClsIn K k = true) (tk : PySem.W.typeIn K (.ref k) = some (.type "type")) (s : PySem.W.subIn K (.ref j) (.ref k) = some b) (r : PySem.W.subIn K (.ref k) (.ref k) = some true) :
    PySem.W.kitOne K (.ref j) (.ref k) = some b := by
  have ik : (PySem.W.clsIn K k).isSome = true := ik
  unfold PySem.W.kitOne
  split
  · rename_i h
    have e : j = k := Value.ref.inj (beq_iff_eq.mp h)
    subst e
    rw [r] at s; exact s
  · show (if ((PySem.W.clsIn K k).isSome && PySem.W.typeIn K (.ref k) == some (.type "type")) = true then PySem.W.subIn K (.ref j) (.ref k) else none) = some b
    rw [if_pos (by rw [ik, tk]; rfl), s]
def boxes (ss : List SV) (n : Nat) : Gm := ss.map Bx.sh ++ List.replicate n Bx.no
theorem boxes_sh {ss : List SV} {n i : Nat} {b : Bx} (h : (boxes ss n)[i]? = some b) : (∃ s, ss[i]? = some s ∧ b = .sh s) ∨ b = .no := by
  unfold boxes at h
  rw [List.getElem?_append] at h
  split at h
  · rw [List.getElem?_map] at h
    cases e : ss[i]? with
    | none => rw [e] at h; cases h
    | some s => rw [e] at h; cases h; exact .inl ⟨s, rfl, rfl⟩
  · rw [List.getElem?_replicate] at h
    split at h
    · cases h; exact .inr rfl
    · cases h
/-- the state at a def's entry -/
theorem rel_start {R H : Hp} {N : List Str} {ss : List SV} {vs : List V} (hs : Sub R H) (r : RpSs K R ss vs) : RelR K H R R (boxes ss (N.length - ss.length)) (L2.start N vs) H := by
  have hl := rpss_len r
  refine ⟨.refl, hs, .refl, fun _ _ => rfl, fun i s e => ?_, fun i s e => ?_, fun i j s t a n e _ _ _ => ?_, ?_⟩
  · rcases boxes_sh e with ⟨t, e1, e2⟩ | e1
    · cases e2
      obtain ⟨v, h1, h2⟩ := rpss_get r e1
      refine ⟨v, ?_, h2⟩
      unfold L2.start
      have := (List.getElem?_eq_some_iff.mp h1).1
      rw [List.getElem?_append_left (by rw [List.length_map]; exact this), List.getElem?_map, h1]; rfl
    · cases e1
  · rcases boxes_sh e with ⟨t, e1, e2⟩ | e1
    · cases e2
    · cases e1
  · rcases boxes_sh e with ⟨t, e1, e2⟩ | e1
    · cases e2
    · cases e1
  · unfold boxes L2.start
    simp [hl]
/-- a body's end against what the def is worth -/
theorem post_fin {F : Fr} {Q : VK} {E : XK} {o : Out} (hW : ∀ c σ H, E (F.cls c) none H → F.W (F.cls c) none σ H)
    (h : match o.fin with
      | .ok r => ∀ v H' R', Grow F.H0 F.R0 H' R' → RpS F.K R' r v → Q v H'
      | .exc c => ∀ H' R', Grow F.H0 F.R0 H' R' → E (F.cls c) none H'
      | .bad => False) : PostS F { nx := fun _ H' => Q .non H', rt := Q } F.R0 o := by
  have gr : ∀ {Γ : Gm} {σ : L2.St} {H R' : Hp}, RelR F.K F.H0 F.R0 R' Γ σ H → Grow F.H0 F.R0 H R' := fun r => ⟨r.same, r.sub0, r.sub, r.old⟩
  have gall : ∀ {Γ : Gm} {σ : L2.St} {H R' : Hp}, RelR F.K F.H0 F.R0 R' Γ σ H → Grow F.H0 F.R0 H (Rall F.H0 R' H) := fun {Γ σ H R'} r => ⟨r.same, r.sub0.trans (Rall.of r.sub), Rall.sub r.sub, fun a n => by
    unfold Rall
    cases q : F.H0 a with
    | none => exact absurd q n
    | some _ => exact r.old a n⟩
  cases o with
  | nx Γ => exact fun σ H R' r s => h .non H R' (gr r) rfl
  | ret x => exact fun v Γ σ H R' r s rv => h v H _ (gall r) rv
  | exc c Γ => exact fun σ H R' r s => hW c σ H (h H R' (gr r))
  | brk Γ => exact h.elim
  | cont Γ => exact h.elim
  | bad => exact h.elim
theorem fn_arity {G : Ctx} {p n : Nat} {body : List CS} (ss : List SV) (h : fn G p n body ss ≠ .bad) : ss.length = p := by
  unfold fn at h
  by_cases c : ss.length = p
  · exact c
  · rw [if_neg c] at h; exact absurd rfl h
variable {CX : CXT} {I : Inf} {G : Ctx}
/-- the context of a def's body -/
theorem sok_def {k : Nat} {qual : Str} {scope : Scope} {f : Addr} {cdv : Value} {A : Around} {outer : List Env} {s : Shared} {H R : Hp} {E : XK} {W : WX} {ps : List Str} (S : FnScope I.N ps scope) (hr : Room k (A.deeper (envOfC qual scope s.heap.objs.size f cdv)))
    (hb : ∀ x ∈ builtins, mg (Str.ofString x) = none) (hc : Cons K mg I.cons G.cons) (hf : Cals P w K mg base cls k I.fns G.fns)
    (hx : Excs K mg cls I.exs G.sub) (tk : Takes (cxOf CX P w K mg base I.N qual scope f cdv A outer s H E) W) :
    Sok I G ⟨K, H, R, cls, W⟩ (cxOf CX P w K mg base I.N qual scope f cdv A outer s H E) scope where
  hK := rfl
  hN := rfl
  nd := S.nd
  calm := rfl
  un := by have := hr.un; show (A.deeper _).units + 100 < _; omega
  fnc := fun _ _ => rfl
  sc := fun x k h => .inl h
  bl := hb
  cons := fun k x s h1 h2 => hc.get h1 h2
  fns := fun j x h => by
    obtain ⟨Φ, e1, f, fd, ps, e2, e3, e4, e5, e6⟩ := hf.get h
    exact ⟨f, fd, ps, Φ, k, e1, e2, e3, e4, hr, e5, e6⟩
  takes := tk
  exs := hx.1
  sub := hx.2
  stk := rfl
  frm := rfl
  bk := by
    show (if scope.kind.isAnnotationScope then ScopeKind.function else scope.kind) = .function
    rw [S.kind]; rfl
  pass := passes_of rfl
/-- a def is worth its core text -/
theorem def_ok {k : Nat} {x qual : Str} {st : Stmt} {f : Addr} {fd : FuncData} {ps : List Str} {body : List CS} (F : Fun K x qual st f fd) (S : FnScope I.N ps (defScope st)) (hok : okSs I (defScope st) body (defBody st) = true)
    (hb : ∀ x ∈ builtins, mg (Str.ofString x) = none) (hc : Cons K mg I.cons G.cons) (hf : Cals P w K mg base cls k I.fns G.fns) (hx : Excs K mg cls I.exs G.sub) :
    FnOk P w K mg base (L2.CX P w) (k + 1) f fd ps (spT K cls ps.length (fn G ps.length I.N.length body)) := by
  refine F.okX S (fun vs H Q E ⟨ss, R, h, _⟩ => h) fun cdv A outer s H vs Q E hr ⟨ss, R, hl, hs, hrs, h⟩ => ?_
  have C : Sok I G ⟨K, H, R, cls, fun c d _ H => E c d H⟩ (cxOf (L2.CX P w) P w K mg base I.N qual (defScope st) f cdv A outer s H E) (defScope st) :=
    sok_def S hr hb hc hf hx (takes_of rfl rfl rfl rfl)
  refine ⟨_, runs_ok G I body C _ hok, boxes ss (I.N.length - ss.length), R, rel_start hs hrs, ?_⟩
  have hn : ss.length = ps.length := by rw [← rpss_len hrs, hl]
  unfold fn at h
  rw [if_pos hn] at h
  refine post_fin (F := ⟨K, H, R, cls, fun c d _ H => E c d H⟩) (E := E) (fun _ _ _ h => h) ?_
  rw [hn]
  exact h
theorem cal_of {k : Nat} {x qual : Str} {st : Stmt} {f : Addr} {fd : FuncData} {ps : List Str} {body : List CS} (F : Fun K x qual st f fd) (hm : mg x = some (.ref f)) (hB : Binds K fd ps []) (S : FnScope I.N ps (defScope st)) (hok : okSs I (defScope st) body (defBody st) = true)
    (hb : ∀ x ∈ builtins, mg (Str.ofString x) = none) (hc : Cons K mg I.cons G.cons) (hf : Cals P w K mg base cls k I.fns G.fns) (hx : Excs K mg cls I.exs G.sub) : Cal P w K mg base cls (k + 1) x (fn G ps.length I.N.length body) :=
  ⟨f, fd, ps, hm, F.kp, hB, fun ss h => fn_arity ss h, def_ok F S hok hb hc hf hx⟩
/-- a def that is not called at all -/
theorem cal_bad {k : Nat} {x qual : Str} {st : Stmt} {f : Addr} {fd : FuncData} {ps : List Str} (F : Fun K x qual st f fd) (hm : mg x = some (.ref f)) (hB : Binds K fd ps []) (S : FnScope I.N ps (defScope st)) : Cal P w K mg base cls (k + 1) x (fun _ => .bad) :=
  ⟨f, fd, ps, hm, F.kp, hB, fun ss h => absurd rfl h, F.okX S (fun vs H Q E ⟨ss, R, h, _⟩ => h) fun cdv A outer s H vs Q E hr ⟨ss, R, _, _, _, h⟩ => h.elim⟩
/-- what law(script) promises -/
def spLaw (K : Fr') : Sp := fun vs H Q _ => ∃ (a : Addr) (ns : List Int), vs = [.ref a] ∧ SqL K H a (ns.map V.int) ∧ ns.length ≤ 63 ∧ ∀ H', Q (.bl true) H'
theorem law_ok {k : Nat} {x qual : Str} {st : Stmt} {f : Addr} {fd : FuncData} {p : Str} {body : List CS} (F : Fun K x qual st f fd) (S : FnScope I.N [p] (defScope st)) (hok : okSs I (defScope st) body (defBody st) = true)
    (hb : ∀ x ∈ builtins, mg (Str.ofString x) = none) (hc : Cons K mg I.cons G.cons) (hf : Cals P w K mg base cls k I.fns G.fns) (hx : Excs K mg cls I.exs G.sub) (hl : ∀ ns : List Int, ns.length ≤ 63 → fn G 1 I.N.length body [.scr ns] = .ok (.d (.bl true))) :
    FnOk P w K mg base CX0 (k + 1) f fd [p] (spLaw K) := by
  obtain ⟨oc, od, kV, doc, pm, an, cdv, ct, osl, rfl, lk, hcd⟩ := F.ex
  refine fn_of lk hcd S (fun vs H Q E ⟨a, ns, h, _⟩ => by rw [h]; rfl) fun A outer s H vs Q E hr ⟨a, ns, ev, hS, h63, q⟩ => ?_
  subst ev
  have C : Sok I G ⟨K, H, H, cls, fun _ _ _ _ => False⟩ (cxOf CX0 P w K mg base I.N qual (defScope st) f cdv A outer s H E) (defScope st) :=
    sok_def S hr hb hc hf hx (fun _ _ ⟨_, _, _, _, _, _, _, _, _, _, _, _, _, _, _, _, w⟩ => w.elim)
  have hrs : RpSs K H [.scr ns] [.ref a] := ⟨.ref a, [], rfl, ⟨a, rfl, hS, Nat.le_trans h63 (by decide)⟩, rfl⟩
  refine ⟨_, runs_ok G I body C _ hok, boxes [.scr ns] (I.N.length - 1), H, rel_start (ss := [.scr ns]) .refl hrs, ?_⟩
  have h := hl ns h63
  unfold fn at h
  rw [if_pos (show [SV.scr ns].length = 1 from rfl)] at h
  refine post_fin (F := ⟨K, H, H, cls, fun _ _ _ _ => False⟩) (E := fun _ _ _ => False) (fun _ _ _ h => h) ?_
  have e : (runs G body (boxes [.scr ns] (I.N.length - 1))).fin = .ok (.d (.bl true)) := h
  rw [e]
  intro v H' R' _ (rv : v = .bl true)
  rw [rv]; exact q H'
/-! ### constants of the module -/
def ValC (K : Fr') (p : PV) (u : Value) : Prop := ∃ v, RelV v u ∧ ∀ R, RpD K R p v
def ValsC (K : Fr') : List PV → List Value → Prop
  | [], us => us = []
  | p :: ps, us => ∃ u ws, us = u :: ws ∧ ValC K p u ∧ ValsC K ps ws
theorem con_of {h : Heap} {x : Str} {u : Value} {p : PV} (X : K.In h) (G : h.Ns mainGlobals mg) (a : PySem.W.nsIn K mainGlobals x = some (some u)) (v : ValC K p u) : Con K mg x (.d p) := by
  obtain ⟨v, r, k⟩ := v
  exact ⟨u, v, PySem.W.mg_of X G a, r, fun R => k R⟩
theorem val_int {i : Int} {t : Tok} : ValC K (.int i) (.int i t) := ⟨.int i, ⟨t, rfl⟩, fun _ => rfl⟩
theorem val_bl {b : Bool} : ValC K (.bl b) (.bool b) := ⟨.bl b, rfl, fun _ => rfl⟩
theorem val_non : ValC K .non .none := ⟨.non, rfl, fun _ => rfl⟩
theorem val_str {z : Str} {t : Tok} (h : z.length ≤ line) : ValC K (.str z) (.str z t) := ⟨.str z, ⟨t, rfl⟩, fun _ => ⟨rfl, h⟩⟩
theorem vals_len : ∀ {ps : List PV} {us : List Value}, ValsC K ps us → us.length = ps.length
  | [], _, r => by rw [show _ = [] from r]; rfl
  | _ :: _, _, ⟨u, ws, e, _, rs⟩ => by rw [e]; simp [vals_len rs]
theorem vals_v : ∀ {ps : List PV} {us : List Value}, ValsC K ps us → ∃ vs, Vals vs us ∧ ∀ R, RpL K R ps vs
  | [], _, r => by rw [show _ = [] from r]; exact ⟨[], .nil, fun _ => rfl⟩
  | _ :: _, _, ⟨u, ws, e, ⟨v, r, k⟩, rs⟩ => by
    obtain ⟨vs, r2, k2⟩ := vals_v rs
    subst e
    exact ⟨v :: vs, .cons r r2, fun R => ⟨v, vs, rfl, k R, k2 R⟩⟩
theorem val_tup {a : Addr} {od : Option Addr} {its : Array Value} {n : Nat} {sl : Array (Option Value)} {ps : List PV} (l : K.lookup a = some ⟨.type "tuple", od, .seq its n, sl⟩) (r : ValsC K ps its.toList) (h : ps.length ≤ line) : ValC K (.tup ps) (.ref a) := by
  obtain ⟨vs, r2, k⟩ := vals_v r
  have hz : its.size ≤ sizeLine := by
    have := vals_len r
    rw [Array.length_toList] at this
    rw [this, ← line_eq]; exact h
  exact ⟨.ref a, rfl, fun R => ⟨a, vs, rfl, .inr ⟨_, its, n, l, rfl, rfl, hz, r2⟩, h, k R⟩⟩
end
end Bw
end

section
set_option autoImplicit false
set_option linter.all false
/-! Mx: plain facts about the evaluator. -/
namespace Bw
@[simp] theorem fin_ret (s : SV) : (Out.ret s).fin = .ok s := rfl
@[simp] theorem fin_nx (Γ : Gm) : (Out.nx Γ).fin = .ok (.d .non) := rfl
@[simp] theorem fin_exc (c : Nat) (Γ : Gm) : (Out.exc c Γ).fin = .exc c := rfl
@[simp] theorem isInt_int (i : Int) : isInt? (.d (.int i)) = .ok i := rfl
@[simp] theorem isBl_bl (b : Bool) : isBl? (.d (.bl b)) = .ok b := rfl
@[simp] theorem data_d (p : PV) : data? (.d p) = .ok p := rfl
@[simp] theorem seq_tup (xs : List PV) : seq? (.d (.tup xs)) = .ok xs := rfl
@[simp] theorem seq_lst (xs : List PV) : seq? (.d (.lst xs)) = .ok xs := rfl
@[simp] theorem seqs_tup (xs ys : List PV) : seqs? (.d (.tup xs)) (.d (.tup ys)) = .ok (xs, ys) := rfl
@[simp] theorem seqs_lst (xs ys : List PV) : seqs? (.d (.lst xs)) (.d (.lst ys)) = .ok (xs, ys) := rfl
@[simp] theorem datas_nil : datas? [] = .ok [] := rfl
@[simp] theorem datas_cons (p : PV) (ss : List SV) : datas? (.d p :: ss) = (datas? ss).bind fun ps => .ok (p :: ps) := rfl
/-! ### booleans go inward -/
@[simp] theorem ite_res {α : Type} {p : Prop} [Decidable p] (a b : α) : (if p then Res.ok a else Res.ok b) = Res.ok (if p then a else b) := by split <;> rfl
@[simp] theorem ite_sv {p : Prop} [Decidable p] (a b : PV) : (if p then SV.d a else SV.d b) = SV.d (if p then a else b) := by split <;> rfl
@[simp] theorem ite_bl {p : Prop} [Decidable p] (a b : Bool) : (if p then PV.bl a else PV.bl b) = PV.bl (if p then a else b) := by split <;> rfl
@[simp] theorem ite_int {p : Prop} [Decidable p] (a b : Int) : (if p then PV.int a else PV.int b) = PV.int (if p then a else b) := by split <;> rfl
/-! ### ints -/
@[simp] theorem b_add (i j : Int) : binop .add (.d (.int i)) (.d (.int j)) = .ok (.d (.int (i + j))) := rfl
@[simp] theorem b_sub (i j : Int) : binop .sub (.d (.int i)) (.d (.int j)) = .ok (.d (.int (i - j))) := rfl
theorem b_mul {i j : Int} (h : i.natAbs < 2 ^ 64 ∨ j.natAbs < 2 ^ 64) : binop .mul (.d (.int i)) (.d (.int j)) = .ok (.d (.int (i * j))) := if_pos h
theorem b_fdiv {i j : Int} (h : 0 < j) (h2 : j < 1073741824) : binop .fdiv (.d (.int i)) (.d (.int j)) = .ok (.d (.int (i / j))) := if_pos ⟨h, by omega⟩
theorem b_mod {i j : Int} (h : 0 < j) : binop .mod (.d (.int i)) (.d (.int j)) = .ok (.d (.int (i % j))) := if_pos h
@[simp] theorem c_lt (i j : Int) : cmpop .lt (.d (.int i)) (.d (.int j)) = .ok (decide (i < j)) := by simp [cmpop, cmpb, sha, shal, ltT]
@[simp] theorem c_gt (i j : Int) : cmpop .gt (.d (.int i)) (.d (.int j)) = .ok (decide (j < i)) := by simp [cmpop, cmpb, sha, shal, ltT]
@[simp] theorem c_le (i j : Int) : cmpop .le (.d (.int i)) (.d (.int j)) = .ok (decide (i ≤ j)) := by
  have : (!decide (j < i)) = decide (i ≤ j) := by by_cases h : j < i <;> simp [h] <;> omega
  simp [cmpop, cmpb, sha, shal, ltT, this]
@[simp] theorem c_ge (i j : Int) : cmpop .ge (.d (.int i)) (.d (.int j)) = .ok (decide (j ≤ i)) := by
  have : (!decide (i < j)) = decide (j ≤ i) := by by_cases h : i < j <;> simp [h] <;> omega
  simp [cmpop, cmpb, sha, shal, ltT, this]
@[simp] theorem c_eqI (i j : Int) : cmpop .eq (.d (.int i)) (.d (.int j)) = .ok (decide (i = j)) := by simp [cmpop, sha, shal, pyEq]
@[simp] theorem c_neI (i j : Int) : cmpop .ne (.d (.int i)) (.d (.int j)) = .ok (!decide (i = j)) := by simp [cmpop, sha, shal, pyEq]
@[simp] theorem c_eqB (i j : Bool) : cmpop .eq (.d (.bl i)) (.d (.bl j)) = .ok (i == j) := by simp [cmpop, sha, shal, pyEq]
@[simp] theorem c_neB (i j : Bool) : cmpop .ne (.d (.bl i)) (.d (.bl j)) = .ok (!(i == j)) := by simp [cmpop, sha, shal, pyEq]
@[simp] theorem c_isN (p : PV) : cmpop .is (.d p) (.d .non) = .ok (isNon p) := by cases p <;> rfl
@[simp] theorem c_notN (p : PV) : cmpop .isnot (.d p) (.d .non) = .ok (!isNon p) := by cases p <;> rfl
@[simp] theorem c_eqS (a b : PySem.Str) : cmpop .eq (.d (.str a)) (.d (.str b)) = .ok (decide (a = b)) := by simp [cmpop, sha, shal, pyEq]
@[simp] theorem c_neS (a b : PySem.Str) : cmpop .ne (.d (.str a)) (.d (.str b)) = .ok (!decide (a = b)) := by simp [cmpop, sha, shal, pyEq]
@[simp] theorem f_int (i : Int) : f1op .int (.d (.int i)) = .ok (.d (.int i)) := rfl
@[simp] theorem f_abs (i : Int) : f1op .abs (.d (.int i)) = .ok (.d (.int (if i < 0 then -i else i))) := rfl
@[simp] theorem f_lenT (xs : List PV) : f1op .len (.d (.tup xs)) = .ok (.d (.int xs.length)) := rfl
@[simp] theorem f_lenL (xs : List PV) : f1op .len (.d (.lst xs)) = .ok (.d (.int xs.length)) := rfl
@[simp] theorem f_tup (xs : List PV) : f1op .tuple (.d (.lst xs)) = .ok (.d (.tup xs)) := rfl
@[simp] theorem f_max2 (x y : Int) : f2op .max (.d (.int x)) (.d (.int y)) = .ok (.d (.int (if y > x then y else x))) := rfl
@[simp] theorem f_min2 (x y : Int) : f2op .min (.d (.int x)) (.d (.int y)) = .ok (.d (.int (if y < x then y else x))) := rfl
/-! ### lists of ints -/
def ti (xs : List Int) : PV := .tup (xs.map .int)
def li (xs : List Int) : PV := .lst (xs.map .int)
@[simp] theorem f_lenTi (xs : List Int) : f1op .len (.d (ti xs)) = .ok (.d (.int xs.length)) := by simp [ti]
@[simp] theorem f_lenLi (xs : List Int) : f1op .len (.d (li xs)) = .ok (.d (.int xs.length)) := by simp [li]
theorem ix_pos {α : Type} {xs : List α} {i : Int} (h : 0 ≤ i) (h2 : i < xs.length) : atP xs i = xs[i.toNat]? := by
  unfold atP ixP
  rw [if_pos h, if_pos h2]; rfl
theorem ix_neg {α : Type} {xs : List α} {i : Int} (h : i < 0) (h2 : -(xs.length : Int) ≤ i) : atP xs i = xs[(i + xs.length).toNat]? := by
  unfold atP ixP
  rw [if_neg (by omega), if_pos h2]; rfl
def gt (xs : List Int) (i : Int) : Int := xs.getD i.toNat 0
theorem gt_get {xs : List Int} {i : Int} (h : 0 ≤ i) (h2 : i < xs.length) : xs[i.toNat]? = some (gt xs i) := by
  have l : i.toNat < xs.length := by omega
  unfold gt
  rw [List.getD_eq_getElem?_getD, List.getElem?_eq_getElem l]; rfl
theorem ix_ti {xs : List Int} {i : Int} (h : 0 ≤ i) (h2 : i < xs.length) : idxop (.d (ti xs)) (.d (.int i)) = .ok (.d (.int (gt xs i))) := by
  show (match atP (xs.map PV.int) i with | some p => Res.ok (SV.d p) | none => .bad) = _
  rw [ix_pos h (by simpa using h2), List.getElem?_map, gt_get h h2]; rfl
theorem ix_li {xs : List Int} {i : Int} (h : 0 ≤ i) (h2 : i < xs.length) : idxop (.d (li xs)) (.d (.int i)) = .ok (.d (.int (gt xs i))) := by
  show (match atP (xs.map PV.int) i with | some p => Res.ok (SV.d p) | none => .bad) = _
  rw [ix_pos h (by simpa using h2), List.getElem?_map, gt_get h h2]; rfl
theorem ix_tup {xs : List PV} {i : Int} {p : PV} (h : 0 ≤ i) (h2 : xs[i.toNat]? = some p) : idxop (.d (.tup xs)) (.d (.int i)) = .ok (.d p) := by
  have l : i.toNat < xs.length := (List.getElem?_eq_some_iff.mp h2).1
  show (match atP xs i with | some p => Res.ok (SV.d p) | none => .bad) = _
  rw [ix_pos h (by omega), h2]
@[simp] theorem ix_t0 (p : PV) (xs : List PV) : idxop (.d (.tup (p :: xs))) (.d (.int 0)) = .ok (.d p) := ix_tup (by omega) rfl
@[simp] theorem ix_t1 (p q : PV) (xs : List PV) : idxop (.d (.tup (p :: q :: xs))) (.d (.int 1)) = .ok (.d q) := ix_tup (by omega) rfl
@[simp] theorem ix_t2 (p q r : PV) (xs : List PV) : idxop (.d (.tup (p :: q :: r :: xs))) (.d (.int 2)) = .ok (.d r) := ix_tup (by omega) rfl
@[simp] theorem sq_ti (xs : List Int) : seq? (.d (ti xs)) = .ok (xs.map .int) := rfl
@[simp] theorem sq_li (xs : List Int) : seq? (.d (li xs)) = .ok (xs.map .int) := rfl
/-! ### ranges -/
theorem range_map (lo : Int) : ∀ n : Nat, rangeP lo 1 n = (List.range n).map fun (i : Nat) => PV.int (lo + i) := fun n => by
  refine List.ext_getElem? fun i => ?_
  rw [rangeP_get, List.getElem?_map]
  by_cases h : i < n
  · rw [if_pos h, List.getElem?_range h]; simp
  · rw [if_neg h, List.getElem?_eq_none (by simpa using h)]; rfl
theorem rangeN_one' (a b : Int) : rangeN a b 1 = (b - a).toNat := by
  unfold rangeN
  rw [if_pos (by decide), Int.ediv_one]
  congr 1; omega
theorem rng_ok {lo hi : Int} (h1 : -1000000 ≤ lo) (h2 : lo ≤ 1000000) (h3 : -1000000 ≤ hi) (h4 : hi ≤ 1000000) : rng? lo hi 1 = .ok ((List.range (hi - lo).toNat).map fun (i : Nat) => PV.int (lo + i)) := by
  unfold rng?
  rw [rangeN_one', range_map, if_pos]
  have e : (hi - lo).toNat ≤ line := by unfold line; omega
  have b1 : big lo = true := by simp only [big, decide_eq_true_eq]; omega
  have b2 : big hi = true := by simp only [big, decide_eq_true_eq]; omega
  rw [b1, b2, decide_eq_true e]; rfl
/-! ### comprehensions -/
theorem mapR_opt {α β : Type} {f : α → Res (Option β)} {g : α → Option β} : ∀ {xs : List α}, (∀ x ∈ xs, f x = .ok (g x)) → mapR f xs = .ok (xs.filterMap g)
  | [], _ => rfl
  | x :: xs, h => by
    rw [mapR, h x (List.mem_cons_self ..), mapR_opt fun y hy => h y (List.mem_cons_of_mem _ hy)]
    simp only [Res.tame_ok, Res.bind_ok, List.filterMap_cons]
    cases g x <;> rfl
theorem mapR_map {α β : Type} {f : α → Res (Option β)} {g : α → β} {xs : List α} (h : ∀ x ∈ xs, f x = .ok (some (g x))) : mapR f xs = .ok (xs.map g) := by
  rw [mapR_opt (g := fun x => some (g x)) h]
  simp
theorem mapR_comp {α β γ : Type} {f : β → Res (Option γ)} {k : α → β} : ∀ {xs : List α}, mapR f (xs.map k) = mapR (fun x => f (k x)) xs
  | [] => rfl
  | x :: xs => by rw [List.map_cons, mapR, mapR, mapR_comp]
theorem bools_map {α : Type} (b : α → Bool) : ∀ xs : List α, bools? (xs.map fun x => PV.bl (b x)) = .ok (xs.map b)
  | [] => rfl
  | x :: xs => by rw [List.map_cons, bools?, bools_map b xs]; rfl
theorem f_all {α : Type} (b : α → Bool) (xs : List α) : f1op .all (.d (.lst (xs.map fun x => PV.bl (b x)))) = .ok (.d (.bl (xs.all b))) := by
  show (bools? _).bind _ = _
  rw [bools_map]
  simp [List.all_map]
theorem f_any {α : Type} (b : α → Bool) (xs : List α) : f1op .any (.d (.lst (xs.map fun x => PV.bl (b x)))) = .ok (.d (.bl (xs.any b))) := by
  show (bools? _).bind _ = _
  rw [bools_map]
  simp [List.any_map]
/-! ### loops -/
theorem forR_inv {f : PV → Gm → Out} {xs : List PV} {Γ : Gm} (P : Nat → Gm → Prop) (h0 : P 0 Γ) (step : ∀ (i : Nat) x Γ, xs[i]? = some x → P i Γ → ∃ Γ', (f x Γ = .nx Γ' ∨ f x Γ = .cont Γ') ∧ P (i + 1) Γ') : ∃ Γ', forR f xs Γ = .nx Γ' ∧ P xs.length Γ' := by
  induction xs generalizing Γ P with
  | nil => exact ⟨Γ, rfl, h0⟩
  | cons x xs ih =>
    obtain ⟨Γ1, e, p1⟩ := step 0 x Γ rfl h0
    obtain ⟨Γ2, e2, p2⟩ := ih (fun i => P (i + 1)) p1 fun i y Γ hy p => step (i + 1) y Γ (by simpa using hy) p
    refine ⟨Γ2, ?_, p2⟩
    show (f x Γ).loop _ = _
    rcases e with e | e <;> rw [e] <;> exact e2
/-- each turn either goes on, or the def is left with r -/
theorem forR_ret {f : PV → Gm → Out} {xs : List PV} {Γ : Gm} {r : SV} (P : Nat → Gm → Prop) (h0 : P 0 Γ) (step : ∀ (i : Nat) x Γ, xs[i]? = some x → P i Γ → f x Γ = .ret r ∨ ∃ Γ', (f x Γ = .nx Γ' ∨ f x Γ = .cont Γ') ∧ P (i + 1) Γ') : forR f xs Γ = .ret r ∨ ∃ Γ', forR f xs Γ = .nx Γ' ∧ P xs.length Γ' := by
  induction xs generalizing Γ P with
  | nil => exact .inr ⟨Γ, rfl, h0⟩
  | cons x xs ih =>
    rcases step 0 x Γ rfl h0 with e | ⟨Γ1, e, p1⟩
    · left
      show (f x Γ).loop _ = _
      rw [e]; rfl
    rcases ih (fun i => P (i + 1)) p1 (fun i y Γ hy p => step (i + 1) y Γ (by simpa using hy) p) with e2 | ⟨Γ2, e2, p2⟩
    · left
      show (f x Γ).loop _ = _
      rcases e with e | e <;> rw [e] <;> exact e2
    · right
      refine ⟨Γ2, ?_, p2⟩
      show (f x Γ).loop _ = _
      rcases e with e | e <;> rw [e] <;> exact e2
theorem while_inv {c : Gm → Res Bool} {f : Gm → Out} (P : Nat → Gm → Prop) (step : ∀ n Γ, P n Γ → c Γ = .ok false ∨ (c Γ = .ok true ∧ ∃ m Γ', m < n ∧ (f Γ = .nx Γ' ∨ f Γ = .cont Γ') ∧ P m Γ')) : ∀ (n : Nat) (Γ : Gm), P n Γ → ∃ m Γ', whileR c f Γ = .nx Γ' ∧ P m Γ' ∧ c Γ' = .ok false := by
  intro n
  induction n using Nat.strongRecOn with
  | _ n ih =>
    intro Γ p
    rw [while_eq]
    rcases step n Γ p with e | ⟨e, m, Γ1, hm, e2, p1⟩
    · exact ⟨n, Γ, by rw [e]; rfl, p, e⟩
    · obtain ⟨k, Γ2, e3, p2, e4⟩ := ih m hm Γ1 p1
      refine ⟨k, Γ2, ?_, p2, e4⟩
      rw [e]
      show (f Γ).loop _ = _
      rcases e2 with e2 | e2 <;> rw [e2] <;> exact e3
end Bw
namespace Bw
/-! ### slices, pairs -/
theorem cut_map {α β : Type} (f : α → β) (xs : List α) (lo hi : Option Int) : cutP (xs.map f) lo hi = (cutP xs lo hi).map f := by
  unfold cutP
  rw [List.length_map, List.map_take, List.map_drop]
theorem sl_ti (xs : List Int) (lo hi : Option Int) : slop (.d (ti xs)) lo hi = .ok (.d (ti (cutP xs lo hi))) := by
  show Res.ok (SV.d (.tup (cutP (xs.map PV.int) lo hi))) = _
  rw [cut_map]; rfl
theorem sl_li (xs : List Int) (lo hi : Option Int) : slop (.d (li xs)) lo hi = .ok (.d (li (cutP xs lo hi))) := by
  show Res.ok (SV.d (.lst (cutP (xs.map PV.int) lo hi))) = _
  rw [cut_map]; rfl
theorem cut_from {α : Type} (xs : List α) (k : Nat) : cutP xs (some k) none = xs.drop k := by
  have e : sxP xs.length 0 (some (k : Int)) = min k xs.length := by
    simp only [sxP]
    rw [if_pos (Int.natCast_nonneg k)]
    rfl
  have e2 : sxP xs.length xs.length none = xs.length := rfl
  unfold cutP
  rw [e, e2]
  rcases Nat.le_total k xs.length with h | h
  · rw [Nat.min_eq_left h, List.take_of_length_le (by rw [List.length_drop]; omega)]
  · rw [Nat.min_eq_right h, List.drop_eq_nil_of_le h, List.drop_eq_nil_of_le (Nat.le_refl _), List.take_nil]
theorem cut_upto {α : Type} (xs : List α) (k : Nat) : cutP xs none (some k) = xs.take k := by
  have e : sxP xs.length xs.length (some (k : Int)) = min k xs.length := by
    simp only [sxP]
    rw [if_pos (Int.natCast_nonneg k)]
    rfl
  have e2 : sxP xs.length 0 none = 0 := rfl
  unfold cutP
  rw [e, e2, List.drop_zero, Nat.sub_zero]
  rcases Nat.le_total k xs.length with h | h
  · rw [Nat.min_eq_left h]
  · rw [Nat.min_eq_right h, List.take_of_length_le (Nat.le_refl _), List.take_of_length_le h]
theorem zip_map {α β : Type} (f : α → PV) (g : β → PV) : ∀ (xs : List α) (ys : List β), zipP (xs.map f) (ys.map g) = (xs.zip ys).map fun p => PV.tup [f p.1, g p.2]
  | [], _ => rfl
  | x :: xs, [] => rfl
  | x :: xs, y :: ys => by rw [List.map_cons, List.map_cons, zipP, zip_map f g xs ys]; rfl
theorem enum_map {α : Type} (f : α → PV) (k : Int) (xs : List α) : enumP k (xs.map f) = (xs.zipIdx).map fun p => PV.tup [.int (k + p.2), f p.1] := by
  refine List.ext_getElem? fun i => ?_
  rw [enumP_get, List.getElem?_map, List.getElem?_map, List.getElem?_zipIdx]
  cases xs[i]? <;> simp
/-- strictly rising -/
def Asc (xs : List Int) : Prop := ∀ i : Nat, i + 1 < xs.length → xs.getD i 0 < xs.getD (i + 1) 0
theorem asc_all {xs : List Int} (h : Asc xs) : (xs.zip xs.tail).all (fun p => decide (p.1 < p.2)) = true := by
  rw [← List.drop_one, List.all_eq_true]
  intro p hp
  obtain ⟨i, hi⟩ := List.getElem?_of_mem hp
  rw [List.getElem?_zip_eq_some] at hi
  obtain ⟨h1, h2⟩ := hi
  rw [List.getElem?_drop] at h2
  have l : 1 + i < xs.length := (List.getElem?_eq_some_iff.mp h2).1
  have := h i (by omega)
  rw [List.getD_eq_getElem?_getD, List.getD_eq_getElem?_getD, h1, show i + 1 = 1 + i by omega, h2] at this
  simpa using this
end Bw
namespace Bw
@[simp] theorem f_all2 (a b : Bool) : f1op .all (.d (.lst [.bl a, .bl b])) = .ok (.d (.bl (a && b))) := by simp [f1op, bools?]
theorem forR_next {f : PV → Gm → Out} {xs : List PV} {Γ : Gm} {k : Gm → Out} {r : Out} (P : Nat → Gm → Prop) (h0 : P 0 Γ) (step : ∀ (i : Nat) x Γ, xs[i]? = some x → P i Γ → ∃ Γ', (f x Γ = .nx Γ' ∨ f x Γ = .cont Γ') ∧ P (i + 1) Γ')
    (hk : ∀ Γ', P xs.length Γ' → k Γ' = r) : (forR f xs Γ).next k = r := by
  obtain ⟨Γ', e, p⟩ := forR_inv P h0 step
  rw [e]; exact hk Γ' p
/-- the def is left in the loop, or the loop ends -/
theorem forR_leave {f : PV → Gm → Out} {xs : List PV} {Γ : Gm} {k : Gm → Out} {r : SV} (P : Nat → Gm → Prop) (h0 : P 0 Γ) (step : ∀ (i : Nat) x Γ, xs[i]? = some x → P i Γ → f x Γ = .ret r ∨ ∃ Γ', (f x Γ = .nx Γ' ∨ f x Γ = .cont Γ') ∧ P (i + 1) Γ')
    (hk : ∀ Γ', P xs.length Γ' → k Γ' = .ret r) : (forR f xs Γ).next k = .ret r := by
  rcases forR_ret P h0 step with e | ⟨Γ', e, p⟩
  · rw [e]; rfl
  · rw [e]; exact hk Γ' p
theorem while_next {c : Gm → Res Bool} {f : Gm → Out} {Γ : Gm} {k : Gm → Out} {r : Out} (P : Nat → Gm → Prop) (n : Nat) (h0 : P n Γ) (step : ∀ n Γ, P n Γ → c Γ = .ok false ∨ (c Γ = .ok true ∧ ∃ m Γ', m < n ∧ (f Γ = .nx Γ' ∨ f Γ = .cont Γ') ∧ P m Γ'))
    (hk : ∀ m Γ', P m Γ' → c Γ' = .ok false → k Γ' = r) : (whileR c f Γ).next k = r := by
  obtain ⟨m, Γ', e, p, q⟩ := while_inv P step n Γ h0
  rw [e]; exact hk m Γ' p q
theorem enum_at {xs : List Int} {i : Nat} {x : PV} (h : (enumP 0 (xs.map PV.int))[i]? = some x) : i < xs.length ∧ x = .tup [.int i, .int (gt xs i)] := by
  rw [enumP_get, List.getElem?_map] at h
  cases e : xs[i]? with
  | none => rw [e] at h; cases h
  | some v =>
    rw [e] at h
    have l := (List.getElem?_eq_some_iff.mp e).1
    refine ⟨l, ?_⟩
    have : gt xs (i : Int) = v := by
      unfold gt
      rw [List.getD_eq_getElem?_getD, Int.toNat_natCast, e]; rfl
    rw [this]
    simpa using h.symm
@[simp] theorem enum_len (k : Int) (xs : List PV) : (enumP k xs).length = xs.length := enumP_len k xs
theorem range_at {lo : Int} {n i : Nat} {x : PV} (h : ((List.range n).map fun (i : Nat) => PV.int (lo + i))[i]? = some x) : i < n ∧ x = .int (lo + i) := by
  rw [List.getElem?_map] at h
  cases e : (List.range n)[i]? with
  | none => rw [e] at h; cases h
  | some v =>
    have l := (List.getElem?_eq_some_iff.mp e).1
    rw [List.length_range] at l
    rw [List.getElem?_range l] at e
    cases e
    rw [List.getElem?_range l] at h
    exact ⟨l, by simpa using h.symm⟩
end Bw
namespace Bw
theorem fin_eq {o : Out} {s : SV} (h : o = .ret s) : o.fin = .ok s := by rw [h]; rfl
theorem filt_succ (i : Nat) (p : Nat → Bool) (g : Nat → PV) : (((List.range (i + 1)).filter p).map g) = ((List.range i).filter p).map g ++ (if p i then [g i] else []) := by
  rw [List.range_succ, List.filter_append, List.map_append]
  congr 1
  cases h : p i <;> simp [h]
theorem filt_le (n : Nat) (p : Nat → Bool) (g : Nat → PV) : (((List.range n).filter p).map g).length ≤ n := by
  rw [List.length_map]
  have := List.length_filter_le p (List.range n)
  rw [List.length_range] at this
  exact this
end Bw
namespace Bw
/-! ### the greatest, the least -/
def mx (xs : List Int) : Int := xs.tail.foldl (fun a y => if a < y then y else a) (xs.headD 0)
def mn (xs : List Int) : Int := xs.tail.foldl (fun a y => if y < a then y else a) (xs.headD 0)
theorem fold_mx : ∀ (xs : List Int) (a : Int), (xs.foldl (fun a y => if a < y then y else a) a = a ∨ xs.foldl (fun a y => if a < y then y else a) a ∈ xs) ∧ a ≤ xs.foldl (fun a y => if a < y then y else a) a ∧ ∀ x ∈ xs, x ≤ xs.foldl (fun a y => if a < y then y else a) a
  | [], a => ⟨.inl rfl, Int.le_refl _, by simp⟩
  | x :: xs, a => by
    obtain ⟨h1, h2, h3⟩ := fold_mx xs (if a < x then x else a)
    simp only [List.foldl_cons, List.mem_cons]
    refine ⟨?_, ?_, ?_⟩
    · rcases h1 with h1 | h1
      · rw [h1]
        by_cases c : a < x
        · rw [if_pos c]; exact .inr (.inl rfl)
        · rw [if_neg c]; exact .inl rfl
      · exact .inr (.inr h1)
    · refine Int.le_trans ?_ h2
      split <;> omega
    · rintro y (rfl | hy)
      · refine Int.le_trans ?_ h2
        split <;> omega
      · exact h3 y hy
theorem fold_mn : ∀ (xs : List Int) (a : Int), (xs.foldl (fun a y => if y < a then y else a) a = a ∨ xs.foldl (fun a y => if y < a then y else a) a ∈ xs) ∧ xs.foldl (fun a y => if y < a then y else a) a ≤ a ∧ ∀ x ∈ xs, xs.foldl (fun a y => if y < a then y else a) a ≤ x
  | [], a => ⟨.inl rfl, Int.le_refl _, by simp⟩
  | x :: xs, a => by
    obtain ⟨h1, h2, h3⟩ := fold_mn xs (if x < a then x else a)
    simp only [List.foldl_cons, List.mem_cons]
    refine ⟨?_, ?_, ?_⟩
    · rcases h1 with h1 | h1
      · rw [h1]
        by_cases c : x < a
        · rw [if_pos c]; exact .inr (.inl rfl)
        · rw [if_neg c]; exact .inl rfl
      · exact .inr (.inr h1)
    · refine Int.le_trans h2 ?_
      split <;> omega
    · rintro y (rfl | hy)
      · refine Int.le_trans h2 ?_
        split <;> omega
      · exact h3 y hy
theorem mx_mem {xs : List Int} (h : xs ≠ []) : mx xs ∈ xs := by
  cases xs with
  | nil => exact absurd rfl h
  | cons a xs =>
    rcases (fold_mx xs a).1 with q | q
    · show xs.foldl _ a ∈ _; rw [q]; exact List.mem_cons_self ..
    · exact List.mem_cons_of_mem _ q
theorem mx_le {xs : List Int} {x : Int} (h : x ∈ xs) : x ≤ mx xs := by
  cases xs with
  | nil => cases h
  | cons a xs =>
    rcases List.mem_cons.mp h with e | e
    · rw [e]; exact (fold_mx xs a).2.1
    · exact (fold_mx xs a).2.2 x e
theorem mn_mem {xs : List Int} (h : xs ≠ []) : mn xs ∈ xs := by
  cases xs with
  | nil => exact absurd rfl h
  | cons a xs =>
    rcases (fold_mn xs a).1 with q | q
    · show xs.foldl _ a ∈ _; rw [q]; exact List.mem_cons_self ..
    · exact List.mem_cons_of_mem _ q
theorem mn_le {xs : List Int} {x : Int} (h : x ∈ xs) : mn xs ≤ x := by
  cases xs with
  | nil => cases h
  | cons a xs =>
    rcases List.mem_cons.mp h with e | e
    · rw [e]; exact (fold_mn xs a).2.1
    · exact (fold_mn xs a).2.2 x e
theorem alk_ints (xs : List Int) : allAlk (xs.map PV.int) = true := by
  unfold allAlk
  simp [List.all_eq_true, alk, isNon, sha, shal]
theorem maxP_ints : ∀ (xs : List Int) (a : Int), maxP (.int a) (xs.map PV.int) = .int (xs.foldl (fun a y => if a < y then y else a) a)
  | [], _ => rfl
  | x :: xs, a => by
    show maxP (if ltT (.int a) (.int x) then .int x else .int a) (xs.map PV.int) = _
    rw [show (if ltT (.int a) (.int x) then PV.int x else .int a) = .int (if a < x then x else a) by by_cases c : a < x <;> simp [ltT, c], maxP_ints xs]; rfl
theorem minP_ints : ∀ (xs : List Int) (a : Int), minP (.int a) (xs.map PV.int) = .int (xs.foldl (fun a y => if y < a then y else a) a)
  | [], _ => rfl
  | x :: xs, a => by
    show minP (if ltT (.int x) (.int a) then .int x else .int a) (xs.map PV.int) = _
    rw [show (if ltT (.int x) (.int a) then PV.int x else .int a) = .int (if x < a then x else a) by by_cases c : x < a <;> simp [ltT, c], minP_ints xs]; rfl
theorem f_maxI {xs : List Int} (h : xs ≠ []) {s : SV} (hs : seq? s = .ok (xs.map .int)) : f1op .max s = .ok (.d (.int (mx xs))) := by
  cases xs with
  | nil => exact absurd rfl h
  | cons a xs =>
    have : f1op .max s = (seq? s).bind fun ps => match ps with
      | [] => .bad
      | p :: ps => if allAlk (p :: ps) then .ok (.d (maxP p ps)) else .bad := by unfold f1op; rfl
    rw [this, hs]
    have q := alk_ints (a :: xs)
    simp only [List.map_cons, Res.bind_ok] at q ⊢
    rw [if_pos q, maxP_ints]; rfl
theorem f_minI {xs : List Int} (h : xs ≠ []) {s : SV} (hs : seq? s = .ok (xs.map .int)) : f1op .min s = .ok (.d (.int (mn xs))) := by
  cases xs with
  | nil => exact absurd rfl h
  | cons a xs =>
    have : f1op .min s = (seq? s).bind fun ps => match ps with
      | [] => .bad
      | p :: ps => if allAlk (p :: ps) then .ok (.d (minP p ps)) else .bad := by unfold f1op; rfl
    rw [this, hs]
    have q := alk_ints (a :: xs)
    simp only [List.map_cons, Res.bind_ok] at q ⊢
    rw [if_pos q, minP_ints]; rfl
/-- pairs of ints -/
def pr (p : Int × Int) : PV := .tup [.int p.1, .int p.2]
def mnp (L : List (Int × Int)) : Int × Int := L.tail.foldl (fun a y => if ltT (pr y) (pr a) then y else a) (L.headD (0, 0))
theorem minP_prs : ∀ (xs : List (Int × Int)) (a : Int × Int), minP (pr a) (xs.map pr) = pr (xs.foldl (fun a y => if ltT (pr y) (pr a) then y else a) a)
  | [], _ => rfl
  | x :: xs, a => by
    show minP (if ltT (pr x) (pr a) then pr x else pr a) (xs.map pr) = _
    rw [show (if ltT (pr x) (pr a) then pr x else pr a) = pr (if ltT (pr x) (pr a) then x else a) by split <;> rfl, minP_prs xs]; rfl
theorem mnp_mem {L : List (Int × Int)} (h : L ≠ []) : mnp L ∈ L := by
  cases L with
  | nil => exact absurd rfl h
  | cons a xs =>
    have key : ∀ (xs : List (Int × Int)) (a : Int × Int), xs.foldl (fun a y => if ltT (pr y) (pr a) then y else a) a ∈ a :: xs := by
      intro xs
      induction xs with
      | nil => intro a; exact List.mem_cons_self ..
      | cons x xs ih =>
        intro a
        rcases List.mem_cons.mp (ih (if ltT (pr x) (pr a) then x else a)) with e | e
        · show xs.foldl _ (if ltT (pr x) (pr a) then x else a) ∈ _
          rw [e]; split <;> simp
        · exact List.mem_cons_of_mem _ (List.mem_cons_of_mem _ e)
    exact key xs a
theorem f_minPr {L : List (Int × Int)} (h : L ≠ []) : f1op .min (.d (.lst (L.map pr))) = .ok (.d (pr (mnp L))) := by
  cases L with
  | nil => exact absurd rfl h
  | cons a xs =>
    have e : f1op .min (.d (.lst ((a :: xs).map pr))) = if allAlk ((a :: xs).map pr) then .ok (.d (minP (pr a) (xs.map pr))) else .bad := rfl
    have q : allAlk ((a :: xs).map pr) = true := by
      unfold allAlk
      simp [List.all_eq_true, alk, alkL, isNon, sha, shal, shalL, pr]
    rw [e, if_pos q, minP_prs]; rfl
/-! ### ranges with a condition -/
theorem filt_ge (r : Nat) : ∀ n : Nat, (List.range n).filter (fun i => decide (r ≤ i)) = (List.range (n - r)).map (fun k => k + r)
  | 0 => by simp
  | n + 1 => by
    rw [List.range_succ, List.filter_append, filt_ge r n]
    by_cases h : r ≤ n
    · rw [show n + 1 - r = (n - r) + 1 by omega, List.range_succ, List.map_append]
      simp [h]
    · rw [show n + 1 - r = n - r by omega]
      simp [h]
theorem filt_lt (r n : Nat) : (List.range n).filter (fun i => decide (i + r < n)) = List.range (n - r) := by
  have key : ∀ m, m ≤ n → (List.range m).filter (fun i => decide (i + r < n)) = List.range (min m (n - r)) := by
    intro m
    induction m with
    | zero => intro _; simp
    | succ m ih =>
      intro hm
      rw [List.range_succ, List.filter_append, ih (by omega)]
      by_cases h : m + r < n
      · rw [show min (m + 1) (n - r) = min m (n - r) + 1 by omega, List.range_succ, show min m (n - r) = m by omega]
        simp [h]
      · rw [show min (m + 1) (n - r) = min m (n - r) by omega]
        simp [h]
  rw [key n (Nat.le_refl _), show min n (n - r) = n - r by omega]
end Bw
namespace Bw
@[simp] theorem isNon_non : isNon .non = true := rfl
@[simp] theorem isNon_int (i : Int) : isNon (.int i) = false := rfl
@[simp] theorem isNon_bl (i : Bool) : isNon (.bl i) = false := rfl
@[simp] theorem isNon_tup (i : List PV) : isNon (.tup i) = false := rfl
@[simp] theorem isNon_lst (i : List PV) : isNon (.lst i) = false := rfl
@[simp] theorem isNon_str (i : PySem.Str) : isNon (.str i) = false := rfl
@[simp] theorem binop_lst (xs ys : List PV) (h : xs.length + ys.length ≤ line) : binop .add (.d (.lst xs)) (.d (.lst ys)) = .ok (.d (.lst (xs ++ ys))) := by
  show (chk (xs ++ ys)).bind _ = _
  unfold chk
  rw [if_pos (by rw [List.length_append]; exact h)]; rfl
theorem binop_tup (xs ys : List PV) (h : xs.length + ys.length ≤ line) : binop .add (.d (.tup xs)) (.d (.tup ys)) = .ok (.d (.tup (xs ++ ys))) := by
  show (chk (xs ++ ys)).bind _ = _
  unfold chk
  rw [if_pos (by rw [List.length_append]; exact h)]; rfl
theorem catR_map {α β : Type} {f : α → Res (List β)} {g : α → List β} : ∀ {xs : List α}, (∀ x ∈ xs, f x = .ok (g x)) → catR f xs = .ok (xs.flatMap g)
  | [], _ => rfl
  | x :: xs, h => by
    rw [catR, h x (List.mem_cons_self ..), catR_map fun y hy => h y (List.mem_cons_of_mem _ hy)]
    simp [List.flatMap_cons]
theorem catR_comp {α β γ : Type} {f : β → Res (List γ)} {k : α → β} : ∀ {xs : List α}, catR f (xs.map k) = catR (fun x => f (k x)) xs
  | [] => rfl
  | x :: xs => by rw [List.map_cons, catR, catR, catR_comp]
/-- the least that does -/
theorem least_of {p : Nat → Prop} (n : Nat) (h : p n) : ∃ r, r ≤ n ∧ p r ∧ ∀ k, k < r → ¬ p k := by
  induction n using Nat.strongRecOn with
  | _ n ih =>
    by_cases q : ∃ k, k < n ∧ p k
    · obtain ⟨k, hk, pk⟩ := q
      obtain ⟨r, h1, h2, h3⟩ := ih k hk pk
      exact ⟨r, by omega, h2, h3⟩
    · exact ⟨n, Nat.le_refl _, h, fun k hk pk => q ⟨k, hk, pk⟩⟩
end Bw
namespace Bw
@[simp] theorem bindT_name (i : Nat) (p : PV) (Γ : Gm) : bindT (.name i) p Γ = some (Γ.set i (.sh (.d p))) := rfl
@[simp] theorem bindT_tup (ts : List CT) (ps : List PV) (Γ : Gm) : bindT (.tup ts) (.tup ps) Γ = bindTs ts ps Γ := rfl
@[simp] theorem bindTs_nil (Γ : Gm) : bindTs [] [] Γ = some Γ := rfl
@[simp] theorem bindTs_cons (t : CT) (ts : List CT) (p : PV) (ps : List PV) (Γ : Gm) : bindTs (t :: ts) (p :: ps) Γ = (bindT t p Γ).bind fun Γ' => bindTs ts ps Γ' := rfl
@[simp] theorem bindT_pr (i j : Nat) (p : Int × Int) (Γ : Gm) : bindT (.tup [.name i, .name j]) (pr p) Γ = some ((Γ.set i (.sh (.d (.int p.1)))).set j (.sh (.d (.int p.2)))) := rfl
@[simp] theorem chk_ok (xs : List PV) (h : xs.length ≤ line) : chk xs = .ok xs := if_pos h
end Bw
namespace Bw
/-- a loop that is left at the first item of a kind -/
theorem forR_dich {f : PV → Gm → Out} (Bad : PV → Prop) (P : Gm → Prop) (Q : SV → Prop) : ∀ {xs : List PV} {Γ : Gm}, P Γ →
    (∀ x ∈ xs, ∀ Γ, P Γ → (Bad x ∧ ∃ r, f x Γ = .ret r ∧ Q r) ∨ (¬ Bad x ∧ ∃ Γ', (f x Γ = .nx Γ' ∨ f x Γ = .cont Γ') ∧ P Γ')) →
    ((∃ x ∈ xs, Bad x) ∧ ∃ r, forR f xs Γ = .ret r ∧ Q r) ∨ ((∀ x ∈ xs, ¬ Bad x) ∧ ∃ Γ', forR f xs Γ = .nx Γ' ∧ P Γ')
  | [], Γ, h0, _ => .inr ⟨by simp, Γ, rfl, h0⟩
  | x :: xs, Γ, h0, step => by
    rcases step x (List.mem_cons_self ..) Γ h0 with ⟨b, r, e, q⟩ | ⟨nb, Γ1, e, p1⟩
    · left
      refine ⟨⟨x, List.mem_cons_self .., b⟩, r, ?_, q⟩
      show (f x Γ).loop _ = _
      rw [e]; rfl
    · have go : forR f (x :: xs) Γ = forR f xs Γ1 := by
        show (f x Γ).loop _ = _
        rcases e with e | e <;> rw [e] <;> rfl
      rcases forR_dich Bad P Q (Γ := Γ1) p1 (fun y hy => step y (List.mem_cons_of_mem _ hy)) with ⟨⟨y, hy, b⟩, r, e2, q⟩ | ⟨nb2, Γ2, e2, p2⟩
      · exact .inl ⟨⟨y, List.mem_cons_of_mem _ hy, b⟩, r, by rw [go]; exact e2, q⟩
      · refine .inr ⟨fun y hy => ?_, Γ2, by rw [go]; exact e2, p2⟩
        rcases List.mem_cons.mp hy with e | e
        · rw [e]; exact nb
        · exact nb2 y e
end Bw
namespace Bw
theorem forR_dichK {f : PV → Gm → Out} {xs : List PV} {Γ : Gm} {k : Gm → Out} (C : Out → Prop) (Bad : PV → Prop) (P : Gm → Prop) (Q : SV → Prop) (h0 : P Γ)
    (step : ∀ x ∈ xs, ∀ Γ, P Γ → (Bad x ∧ ∃ r, f x Γ = .ret r ∧ Q r) ∨ (¬ Bad x ∧ ∃ Γ', (f x Γ = .nx Γ' ∨ f x Γ = .cont Γ') ∧ P Γ'))
    (h1 : (∃ x ∈ xs, Bad x) → ∀ r, Q r → C (.ret r)) (h2 : (∀ x ∈ xs, ¬ Bad x) → ∀ Γ', P Γ' → C (k Γ')) : C ((forR f xs Γ).next k) := by
  rcases forR_dich Bad P Q h0 step with ⟨b, r, e, q⟩ | ⟨nb, Γ2, e, p⟩
  · rw [e]; exact h1 b r q
  · rw [e]; exact h2 nb Γ2 p
end Bw
namespace Bw
theorem forR_invK {f : PV → Gm → Out} {xs : List PV} {Γ : Gm} {k : Gm → Out} (C : Out → Prop) (P : Nat → Gm → Prop) (h0 : P 0 Γ) (step : ∀ (i : Nat) x Γ, xs[i]? = some x → P i Γ → ∃ Γ', (f x Γ = .nx Γ' ∨ f x Γ = .cont Γ') ∧ P (i + 1) Γ')
    (hk : ∀ Γ', P xs.length Γ' → C (k Γ')) : C ((forR f xs Γ).next k) := by
  obtain ⟨Γ', e, p⟩ := forR_inv P h0 step
  rw [e]; exact hk Γ' p
theorem whileK {c : Gm → Res Bool} {f : Gm → Out} {Γ : Gm} {k : Gm → Out} (C : Out → Prop) (P : Nat → Gm → Prop) (n : Nat) (h0 : P n Γ) (step : ∀ n Γ, P n Γ → c Γ = .ok false ∨ (c Γ = .ok true ∧ ∃ m Γ', m < n ∧ (f Γ = .nx Γ' ∨ f Γ = .cont Γ') ∧ P m Γ'))
    (hk : ∀ m Γ', P m Γ' → c Γ' = .ok false → C (k Γ')) : C ((whileR c f Γ).next k) := by
  obtain ⟨m, Γ', e, p, q⟩ := while_inv P step n Γ h0
  rw [e]; exact hk m Γ' p q
theorem range_at' {n i : Nat} {x : PV} (h : ((List.range n).map fun (i : Nat) => PV.int (0 + i))[i]? = some x) : i < n ∧ x = .int i := by
  obtain ⟨h1, h2⟩ := range_at h
  exact ⟨h1, by simpa using h2⟩
end Bw
namespace Bw
@[simp] theorem next_next (o : Out) (k k' : Gm → Out) : (o.next k).next k' = o.next fun Γ => (k Γ).next k' := by cases o <;> rfl
end Bw
namespace Bw
theorem range_mapS (lo st : Int) (n : Nat) : rangeP lo st n = (List.range n).map fun (i : Nat) => PV.int (lo + i * st) := by
  refine List.ext_getElem? fun i => ?_
  rw [rangeP_get, List.getElem?_map]
  by_cases h : i < n
  · rw [if_pos h, List.getElem?_range h]; rfl
  · rw [if_neg h, List.getElem?_eq_none (by simpa using h)]; rfl
end Bw
namespace Bw
theorem runs_append (G : Ctx) : ∀ (xs ys : List CS) (Γ : Gm), runs G (xs ++ ys) Γ = (runs G xs Γ).next fun Γ' => runs G ys Γ'
  | [], ys, Γ => by simp [runs]
  | x :: xs, ys, Γ => by
    rw [List.cons_append, runs, runs, next_next]
    congr 1
    funext Γ'
    exact runs_append G xs ys Γ'
end Bw
namespace Bw
/-- a loop that is left at the first item that is bad -/
theorem forR_find {f : PV → Gm → Out} (Bad : PV → Bool) (g : PV → SV) (P : Gm → Prop) : ∀ {xs : List PV} {Γ : Gm}, P Γ →
    (∀ x ∈ xs, ∀ Γ, P Γ → (Bad x = true → f x Γ = .ret (g x)) ∧ (Bad x = false → ∃ Γ', (f x Γ = .nx Γ' ∨ f x Γ = .cont Γ') ∧ P Γ')) →
    (∀ x, xs.find? Bad = some x → forR f xs Γ = .ret (g x)) ∧ (xs.find? Bad = none → ∃ Γ', forR f xs Γ = .nx Γ' ∧ P Γ')
  | [], Γ, h0, _ => ⟨fun x h => by simp at h, fun _ => ⟨Γ, rfl, h0⟩⟩
  | y :: ys, Γ, h0, step => by
    obtain ⟨s1, s2⟩ := step y (List.mem_cons_self ..) Γ h0
    cases e : Bad y with
    | true =>
      rw [List.find?_cons_of_pos e]
      refine ⟨fun x h => ?_, fun h => by cases h⟩
      cases h
      show (f y Γ).loop _ = _
      rw [s1 e]; rfl
    | false =>
      rw [List.find?_cons_of_neg (by simp [e])]
      obtain ⟨Γ1, e1, p1⟩ := s2 e
      have go : forR f (y :: ys) Γ = forR f ys Γ1 := by
        show (f y Γ).loop _ = _
        rcases e1 with e1 | e1 <;> rw [e1] <;> rfl
      rw [go]
      exact forR_find Bad g P (Γ := Γ1) p1 fun x hx => step x (List.mem_cons_of_mem _ hx)
end Bw
namespace Bw
mutual
theorem pyEq_same : ∀ p : PV, pyEq p p = true
  | .non => rfl
  | .bl b => by simp [pyEq]
  | .int i => by simp [pyEq]
  | .str s => by simp [pyEq]
  | .tup xs => by rw [pyEq]; exact pyEqL_same xs
  | .lst xs => by rw [pyEq]; exact pyEqL_same xs
theorem pyEqL_same : ∀ ps : List PV, pyEqL ps ps = true
  | [] => rfl
  | x :: xs => by simp [pyEqL, pyEq_same x, pyEqL_same xs]
end
theorem ne_same {p : PV} (h : sha p = true) : cmpop .ne (.d p) (.d p) = .ok false := by
  show (if sha p || sha p then Res.ok (!pyEq p p) else .bad) = _
  rw [h, pyEq_same]; rfl
theorem eq_same {p : PV} (h : sha p = true) : cmpop .eq (.d p) (.d p) = .ok true := by
  show (if sha p || sha p then Res.ok (pyEq p p) else .bad) = _
  rw [h, pyEq_same]; rfl
end Bw
namespace Bw
/-- the first answer, from the place k on, n places -/
def firstN (g : Nat → Option SV) : Nat → Nat → Option SV
  | _, 0 => none
  | k, n + 1 => match g k with
    | some s => some s
    | none => firstN g (k + 1) n
/-- a loop that is left at the first place with an answer -/
theorem forR_selN {f : PV → Gm → Out} (g : Nat → Option SV) (P : Gm → Prop) : ∀ {xs : List PV} {Γ : Gm} (k : Nat), P Γ →
    (∀ i x, xs[i]? = some x → ∀ Γ, P Γ → (∀ s, g (k + i) = some s → f x Γ = .ret s) ∧ (g (k + i) = none → ∃ Γ', (f x Γ = .nx Γ' ∨ f x Γ = .cont Γ') ∧ P Γ')) →
    (∀ s, firstN g k xs.length = some s → forR f xs Γ = .ret s) ∧ (firstN g k xs.length = none → ∃ Γ', forR f xs Γ = .nx Γ' ∧ P Γ')
  | [], Γ, k, h0, _ => ⟨(fun s h => nomatch h), (fun _ => ⟨Γ, rfl, h0⟩)⟩
  | y :: ys, Γ, k, h0, step => by
    obtain ⟨s1, s2⟩ := step 0 y rfl Γ h0
    rw [Nat.add_zero] at s1 s2
    rw [List.length_cons, firstN]
    cases e : g k with
    | some s =>
      refine ⟨fun x h => ?_, fun h => by cases h⟩
      cases h
      show (f y Γ).loop _ = _
      rw [s1 s e]; rfl
    | none =>
      obtain ⟨Γ1, e1, p1⟩ := s2 e
      have go : forR f (y :: ys) Γ = forR f ys Γ1 := by
        show (f y Γ).loop _ = _
        rcases e1 with e1 | e1 <;> rw [e1] <;> rfl
      rw [go]
      exact forR_selN g P (Γ := Γ1) (k + 1) p1 fun i x hx => by
        have := step (i + 1) x (by simpa using hx)
        rwa [show k + (i + 1) = k + 1 + i by omega] at this
theorem firstN_ext {g h : Nat → Option SV} : ∀ (n k : Nat), (∀ i, i < n → g (k + i) = h (k + i)) → firstN g k n = firstN h k n
  | 0, _, _ => rfl
  | n + 1, k, e => by
    have e0 := e 0 (by omega)
    rw [Nat.add_zero] at e0
    have ih := firstN_ext (g := g) (h := h) n (k + 1) fun i hi => by
      have := e (i + 1) (by omega)
      rwa [show k + (i + 1) = k + 1 + i by omega] at this
    rw [firstN, firstN, e0, ih]
/-- the first of those that are filtered -/
theorem firstN_filter (b : Nat → Bool) (h : Nat → SV) : ∀ (n k : Nat), firstN (fun i => if b i then some (h i) else none) k n = (((List.range' k n).filter b).head?).map h
  | 0, _ => rfl
  | n + 1, k => by
    rw [firstN, List.range'_succ, List.filter_cons]
    cases e : b k with
    | true => simp
    | false => simpa using firstN_filter b h n (k + 1)
end Bw
namespace Bw
theorem forR_selK {f : PV → Gm → Out} {xs : List PV} {Γ : Gm} {k : Gm → Out} (C : Out → Prop) (g : Nat → Option SV) (P : Gm → Prop) (h0 : P Γ)
    (step : ∀ i x, xs[i]? = some x → ∀ Γ, P Γ → (∀ s, g i = some s → f x Γ = .ret s) ∧ (g i = none → ∃ Γ', (f x Γ = .nx Γ' ∨ f x Γ = .cont Γ') ∧ P Γ'))
    (hs : ∀ s, firstN g 0 xs.length = some s → C (.ret s)) (hn : firstN g 0 xs.length = none → ∀ Γ', P Γ' → C (k Γ')) : C ((forR f xs Γ).next k) := by
  obtain ⟨a, b⟩ := forR_selN (f := f) (xs := xs) g P 0 h0 fun i x hx Γ p => by
    have := step i x hx Γ p
    rwa [Nat.zero_add]
  cases e : firstN g 0 xs.length with
  | some s => rw [a s e]; exact hs s e
  | none =>
    obtain ⟨Γ', e2, p⟩ := b e
    rw [e2]; exact hn e Γ' p
end Bw
end

section
set_option autoImplicit false
set_option linter.all false
namespace Bw
/-! Mx2: more plain facts: loops left at the first item, sorted ints, sums, membership. -/
theorem for_step {G : Ctx} {t : CT} {it : CI} {body : List CS} {xs : List PV} {Γ Γ' : Gm} (l : evI G it Γ = .ok xs) (f : forR (fun x Γ => oout (bindT t x Γ) fun Γ' => runs G body Γ') xs Γ = .nx Γ') : runs G [.for t it body] Γ = .nx Γ' := by
  rw [runs, run, l, Res.out_ok, f, Out.next_nx, runs]
theorem for_ret {G : Ctx} {t : CT} {it : CI} {body ss : List CS} {xs : List PV} {Γ : Gm} {s : SV} (l : evI G it Γ = .ok xs) (f : forR (fun x Γ => oout (bindT t x Γ) fun Γ' => runs G body Γ') xs Γ = .ret s) : runs G (.for t it body :: ss) Γ = .ret s := by
  rw [runs, run, l, Res.out_ok, f, Out.next_ret]
/-! ### sorted ints -/
def isort (xs : List Int) : List Int := xs.mergeSort fun a b => decide (a ≤ b)
theorem merge_map {α β : Type} (f : α → β) (r : α → α → Bool) (s : β → β → Bool) (h : ∀ x y, s (f x) (f y) = r x y) : ∀ xs ys : List α, List.merge (xs.map f) (ys.map f) s = (List.merge xs ys r).map f
  | [], ys => by simp
  | x :: xs, [] => by simp
  | x :: xs, y :: ys => by
    rw [List.map_cons, List.map_cons, List.cons_merge_cons, List.cons_merge_cons, h]
    split
    · rw [List.map_cons, ← merge_map f r s h xs (y :: ys)]; rfl
    · rw [List.map_cons, ← merge_map f r s h (x :: xs) ys]; rfl
theorem isort_perm (xs : List Int) : (isort xs).Perm xs := List.mergeSort_perm _ _
theorem isort_sorted (xs : List Int) : (isort xs).Pairwise (· ≤ ·) := by
  have := List.pairwise_mergeSort (le := fun a b : Int => decide (a ≤ b)) (fun a b c h1 h2 => by simp only [decide_eq_true_eq] at *; omega) (fun a b => by by_cases h : a ≤ b <;> simp [h]; omega) xs
  exact this.imp fun h => by simpa using h
theorem isort_len (xs : List Int) : (isort xs).length = xs.length := (isort_perm xs).length_eq
theorem isort_mem {xs : List Int} {x : Int} : x ∈ isort xs ↔ x ∈ xs := (isort_perm xs).mem_iff
theorem isort_id {xs : List Int} (h : xs.Pairwise (· ≤ ·)) : isort xs = xs := by
  unfold isort
  exact List.mergeSort_of_pairwise (h.imp fun h => by simpa using h)
theorem isort_strict {xs : List Int} (h : xs.Nodup) : (isort xs).Pairwise (· < ·) := by
  have nd : (isort xs).Nodup := (isort_perm xs).nodup_iff.mpr h
  exact ((isort_sorted xs).and nd).imp fun ⟨a, b⟩ => by omega
theorem sortP_ints (xs : List Int) : sortP (xs.map PV.int) = (isort xs).map PV.int := by
  unfold sortP isort
  refine (List.map_mergeSort (l := xs) (f := PV.int) fun a _ b _ => ?_).symm
  show decide (a ≤ b) = !ltT (.int b) (.int a)
  rw [show ltT (.int b) (.int a) = decide (b < a) from by rw [ltT]]
  by_cases h : b < a <;> simp [h] <;> omega
theorem sortable_ints (xs : List Int) : sortable (xs.map PV.int) = true := by
  unfold sortable
  rw [alk_ints]
  simp [List.all_eq_true, isTup]
theorem f_sorted {xs : List Int} {s : SV} (h : seq? s = .ok (xs.map PV.int)) : f1op .sorted s = .ok (.d (li (isort xs))) := by
  have this : f1op .sorted s = (seq? s).bind fun ps => if sortable ps then .ok (.d (.lst (sortP ps))) else .bad := by
    cases s with
    | d q => cases q <;> rfl
    | dK _ => cases h
    | dX _ _ => cases h
    | scr _ => rfl
    | ins _ _ => rfl
  rw [this, h, Res.bind_ok, if_pos (sortable_ints xs), sortP_ints]; rfl
/-! ### the least pair -/
theorem ltT_pr (y a : Int × Int) : ltT (pr y) (pr a) = decide (y.1 < a.1 ∨ (y.1 = a.1 ∧ y.2 < a.2)) := by
  have e1 : pyEq (.int y.1) (.int a.1) = decide (y.1 = a.1) := by rw [pyEq]
  have e2 : pyEq (.int y.2) (.int a.2) = decide (y.2 = a.2) := by rw [pyEq]
  have l1 : ltT (.int y.1) (.int a.1) = decide (y.1 < a.1) := by rw [ltT]
  have l2 : ltT (.int y.2) (.int a.2) = decide (y.2 < a.2) := by rw [ltT]
  show ltT (.tup [.int y.1, .int y.2]) (.tup [.int a.1, .int a.2]) = _
  rw [ltT, ltTL, e1, l1, ltTL, e2, l2, ltTL]
  by_cases h1 : y.1 = a.1 <;> by_cases h2 : y.2 = a.2 <;> simp [h1, h2] <;> omega
theorem mnp_le {L : List (Int × Int)} {y : Int × Int} (h : y ∈ L) : (mnp L).1 < y.1 ∨ ((mnp L).1 = y.1 ∧ (mnp L).2 ≤ y.2) := by
  have key : ∀ (xs : List (Int × Int)) (a y : Int × Int), (y = a ∨ y ∈ xs) → (xs.foldl (fun a y => if ltT (pr y) (pr a) then y else a) a).1 < y.1 ∨ ((xs.foldl (fun a y => if ltT (pr y) (pr a) then y else a) a).1 = y.1 ∧ (xs.foldl (fun a y => if ltT (pr y) (pr a) then y else a) a).2 ≤ y.2) := by
    intro xs
    induction xs with
    | nil => intro a y h; simp at h; subst h; exact .inr ⟨rfl, Int.le_refl _⟩
    | cons x xs ih =>
      intro a y h
      rw [List.foldl_cons]
      have c : ltT (pr x) (pr a) = decide (x.1 < a.1 ∨ (x.1 = a.1 ∧ x.2 < a.2)) := ltT_pr x a
      have i1 := ih (if ltT (pr x) (pr a) then x else a) (if ltT (pr x) (pr a) then x else a) (.inl rfl)
      rcases h with h | h
      · subst h
        rw [c] at i1 ⊢
        by_cases q : x.1 < y.1 ∨ (x.1 = y.1 ∧ x.2 < y.2)
        · rw [decide_eq_true q] at i1 ⊢; simp only [if_true] at i1 ⊢; omega
        · rw [decide_eq_false q] at i1 ⊢; simpa using i1
      · rcases List.mem_cons.mp h with h | h
        · subst h
          rw [c] at i1 ⊢
          by_cases q : y.1 < a.1 ∨ (y.1 = a.1 ∧ y.2 < a.2)
          · rw [decide_eq_true q] at i1 ⊢; simpa using i1
          · rw [decide_eq_false q] at i1 ⊢; simp only [Bool.false_eq_true, if_false] at i1 ⊢; omega
        · exact ih _ y (.inr h)
  cases L with
  | nil => cases h
  | cons a xs => exact key xs a y (List.mem_cons.mp h)
/-! ### different items of a list -/
theorem nodup_len {α : Type} [DecidableEq α] : ∀ (l D : List α), l.Nodup → (∀ x ∈ l, x ∈ D) → l.length ≤ D.length
  | [], _, _, _ => Nat.zero_le _
  | x :: xs, D, h, k => by
    obtain ⟨h1, h2⟩ := List.nodup_cons.mp h
    have hx := k x (List.mem_cons_self ..)
    have := nodup_len xs (D.erase x) h2 fun y hy => by
      have : y ≠ x := fun e => h1 (e ▸ hy)
      exact (List.mem_erase_of_ne this).mpr (k y (List.mem_cons_of_mem _ hy))
    rw [List.length_erase_of_mem hx] at this
    have pos := List.length_pos_of_mem hx
    rw [List.length_cons]; omega
theorem perm_of_nodup {α : Type} [DecidableEq α] {l D : List α} (h : l.Nodup) (hD : D.Nodup) (hs : ∀ x ∈ l, x ∈ D) (hl : D.length ≤ l.length) : l.Perm D := by
  refine (List.perm_ext_iff_of_nodup h hD).mpr fun k => ⟨hs k, fun hk => Classical.byContradiction fun c => ?_⟩
  have := nodup_len (k :: l) D (List.nodup_cons.mpr ⟨c, h⟩) fun y hy => by
    rcases List.mem_cons.mp hy with e | e
    · rw [e]; exact hk
    · exact hs y e
  rw [List.length_cons] at this; omega
theorem perm_upto {n : Nat} {ex : List Nat} (hl : ex.length = n) (nd : ex.Nodup) (lt : ∀ i ∈ ex, i < n) : ex.Perm (List.range n) :=
  perm_of_nodup nd List.nodup_range (fun x hx => List.mem_range.mpr (lt x hx)) (by rw [List.length_range, hl]; exact Nat.le_refl _)
/-! ### sums -/
theorem ints_map : ∀ l : List Int, ints? (l.map PV.int) = .ok l
  | [] => rfl
  | x :: xs => by rw [List.map_cons]; show ((ints? (xs.map PV.int)).bind fun is => .ok (x :: is)) = _; rw [ints_map xs]; rfl
theorem f_sum (l : List Int) : f1op .sum (.d (.lst (l.map PV.int))) = .ok (.d (.int l.sum)) := by
  show (ints? (l.map PV.int)).bind _ = _
  rw [ints_map]; rfl
theorem f_sumT (l : List Int) : f1op .sum (.d (ti l)) = .ok (.d (.int l.sum)) := by
  show (ints? (l.map PV.int)).bind _ = _
  rw [ints_map]; rfl
/-! ### membership -/
theorem in_gen (p : PV) (ys : List PV) (h : sha p = true) : cmpop .isin (.d p) (.d (.lst ys)) = .ok (ys.any fun y => pyEq y p) ∧ cmpop .notin (.d p) (.d (.lst ys)) = .ok (!ys.any fun y => pyEq y p) ∧ cmpop .isin (.d p) (.d (.tup ys)) = .ok (ys.any fun y => pyEq y p) ∧ cmpop .notin (.d p) (.d (.tup ys)) = .ok (!ys.any fun y => pyEq y p) := by simp [cmpop, h]
theorem any_int (x : Int) (S : List Int) : ((S.map PV.int).any fun y => pyEq y (.int x)) = decide (x ∈ S) := by
  rw [List.any_map, Bool.eq_iff_iff, List.any_eq_true, decide_eq_true_iff]
  constructor
  · rintro ⟨y, hy, e⟩
    have e : pyEq (.int y) (.int x) = true := e
    rw [show pyEq (.int y) (.int x) = decide (y = x) from by rw [pyEq], decide_eq_true_iff] at e
    rw [← e]; exact hy
  · intro h
    refine ⟨x, h, ?_⟩
    show pyEq (.int x) (.int x) = true
    exact pyEq_same _
theorem in_li (x : Int) (S : List Int) : cmpop .isin (.d (.int x)) (.d (li S)) = .ok (decide (x ∈ S)) := by rw [li, (in_gen _ _ rfl).1, any_int]
theorem notin_li (x : Int) (S : List Int) : cmpop .notin (.d (.int x)) (.d (li S)) = .ok (!decide (x ∈ S)) := by rw [li, (in_gen _ _ rfl).2.1, any_int]
theorem in_ti (x : Int) (S : List Int) : cmpop .isin (.d (.int x)) (.d (ti S)) = .ok (decide (x ∈ S)) := by rw [ti, (in_gen _ _ rfl).2.2.1, any_int]
theorem notin_ti (x : Int) (S : List Int) : cmpop .notin (.d (.int x)) (.d (ti S)) = .ok (!decide (x ∈ S)) := by rw [ti, (in_gen _ _ rfl).2.2.2, any_int]
theorem ix_liN {xs : List Int} {k : Nat} (h : k < xs.length) : idxop (.d (li xs)) (.d (.int (k : Int))) = .ok (.d (.int (gt xs (k : Int)))) := ix_li (by omega) (by omega)
theorem ix_tiN {xs : List Int} {k : Nat} (h : k < xs.length) : idxop (.d (ti xs)) (.d (.int (k : Int))) = .ok (.d (.int (gt xs (k : Int)))) := ix_ti (by omega) (by omega)
theorem rngN {i : Nat} (h : i ≤ 1000000) : rng? 0 (i : Int) 1 = .ok ((List.range i).map fun (i : Nat) => PV.int (i : Int)) := by
  rw [rng_ok (by omega) (by omega) (by omega) (by omega)]; simp
theorem rng1N {i : Nat} (h : i ≤ 1000000) : rng? 1 (i : Int) 1 = .ok ((List.range (i - 1)).map fun (j : Nat) => PV.int (1 + (j : Int))) := by
  rw [rng_ok (by omega) (by omega) (by omega) (by omega), show ((i : Int) - 1).toNat = i - 1 by omega]
/-! ### loops -/
theorem forR_fm {α : Type} (it rv : α → PV) (b : α → Bool) {f : PV → Gm → Out} (P : Gm → Prop) : ∀ (xs : List α) (Γ : Gm), P Γ →
    (∀ x ∈ xs, ∀ Γ, P Γ → (b x = true → f (it x) Γ = .ret (.d (rv x))) ∧ (b x = false → ∃ Γ', f (it x) Γ = .nx Γ' ∧ P Γ')) →
    (∀ x, xs.find? b = some x → forR f (xs.map it) Γ = .ret (.d (rv x))) ∧ (xs.find? b = none → ∃ Γ', forR f (xs.map it) Γ = .nx Γ' ∧ P Γ')
  | [], Γ, h0, _ => ⟨fun x h => by simp at h, fun _ => ⟨Γ, rfl, h0⟩⟩
  | y :: ys, Γ, h0, step => by
    obtain ⟨s1, s2⟩ := step y (List.mem_cons_self ..) Γ h0
    cases e : b y with
    | true =>
      rw [List.find?_cons_of_pos e]
      refine ⟨fun x h => ?_, fun h => by cases h⟩
      cases h
      show (f (it y) Γ).loop _ = _
      rw [s1 e]; rfl
    | false =>
      rw [List.find?_cons_of_neg (by simp [e])]
      obtain ⟨Γ1, e1, p1⟩ := s2 e
      have go : forR f ((y :: ys).map it) Γ = forR f (ys.map it) Γ1 := by
        show (f (it y) Γ).loop _ = _
        rw [e1]; rfl
      rw [go]
      exact forR_fm it rv b P ys Γ1 p1 fun x hx => step x (List.mem_cons_of_mem _ hx)
theorem forR_ff {α β : Type} (it : β → PV) (rv : α → PV) (b : α → Bool) (h : β → List α) {f : PV → Gm → Out} (P : Gm → Prop) : ∀ (ks : List β) (Γ : Gm), P Γ →
    (∀ k ∈ ks, ∀ Γ, P Γ → (∀ x, (h k).find? b = some x → f (it k) Γ = .ret (.d (rv x))) ∧ ((h k).find? b = none → ∃ Γ', f (it k) Γ = .nx Γ' ∧ P Γ')) →
    (∀ x, (ks.flatMap h).find? b = some x → forR f (ks.map it) Γ = .ret (.d (rv x))) ∧ ((ks.flatMap h).find? b = none → ∃ Γ', forR f (ks.map it) Γ = .nx Γ' ∧ P Γ')
  | [], Γ, h0, _ => ⟨fun x h => by simp at h, fun _ => ⟨Γ, rfl, h0⟩⟩
  | y :: ys, Γ, h0, step => by
    obtain ⟨s1, s2⟩ := step y (List.mem_cons_self ..) Γ h0
    rw [List.flatMap_cons, List.find?_append]
    cases e : (h y).find? b with
    | some z =>
      refine ⟨fun x h => ?_, fun h => by cases h⟩
      cases h
      show (f (it y) Γ).loop _ = _
      rw [s1 z e]; rfl
    | none =>
      obtain ⟨Γ1, e1, p1⟩ := s2 e
      have go : forR f ((y :: ys).map it) Γ = forR f (ys.map it) Γ1 := by
        show (f (it y) Γ).loop _ = _
        rw [e1]; rfl
      rw [go, Option.none_or]
      exact forR_ff it rv b h P ys Γ1 p1 fun x hx => step x (List.mem_cons_of_mem _ hx)
/-- a loop over what a list becomes, that goes on -/
theorem forR_all {α : Type} (it : α → PV) {f : PV → Gm → Out} (P : Gm → Prop) : ∀ (xs : List α) (Γ : Gm), P Γ → (∀ x ∈ xs, ∀ Γ, P Γ → ∃ Γ', f (it x) Γ = .nx Γ' ∧ P Γ') → ∃ Γ', forR f (xs.map it) Γ = .nx Γ' ∧ P Γ'
  | [], Γ, h0, _ => ⟨Γ, rfl, h0⟩
  | y :: ys, Γ, h0, step => by
    obtain ⟨Γ1, e1, p1⟩ := step y (List.mem_cons_self ..) Γ h0
    have go : forR f ((y :: ys).map it) Γ = forR f (ys.map it) Γ1 := by
      show (f (it y) Γ).loop _ = _
      rw [e1]; rfl
    rw [go]
    exact forR_all it P ys Γ1 p1 fun x hx => step x (List.mem_cons_of_mem _ hx)
/-- a loop that goes on, with what it has done so far -/
theorem forR_acc {α : Type} (it : α → PV) {f : PV → Gm → Out} (P : List α → Gm → Prop) : ∀ (xs ds : List α) (Γ : Gm), P ds Γ → (∀ ds x, x ∈ xs → ∀ Γ, P ds Γ → ∃ Γ', (f (it x) Γ = .nx Γ' ∨ f (it x) Γ = .cont Γ') ∧ P (ds ++ [x]) Γ') → ∃ Γ', forR f (xs.map it) Γ = .nx Γ' ∧ P (ds ++ xs) Γ'
  | [], ds, Γ, h0, _ => ⟨Γ, rfl, by rw [List.append_nil]; exact h0⟩
  | y :: ys, ds, Γ, h0, step => by
    obtain ⟨Γ1, e1, p1⟩ := step ds y (List.mem_cons_self ..) Γ h0
    have go : forR f ((y :: ys).map it) Γ = forR f (ys.map it) Γ1 := by
      show (f (it y) Γ).loop _ = _
      rcases e1 with e1 | e1 <;> rw [e1] <;> rfl
    obtain ⟨Γ2, e2, p2⟩ := forR_acc it P ys (ds ++ [y]) Γ1 p1 fun ds x hx => step ds x (List.mem_cons_of_mem _ hx)
    refine ⟨Γ2, by rw [go, e2], ?_⟩
    rw [List.append_assoc] at p2; exact p2
/-- a loop that goes on, with what it has done so far and what is left -/
theorem forR_pre {α : Type} (it : α → PV) {f : PV → Gm → Out} (P : List α → Gm → Prop) : ∀ (L xs ds : List α) (Γ : Gm), L = ds ++ xs → P ds Γ → (∀ ds x es, L = ds ++ x :: es → ∀ Γ, P ds Γ → ∃ Γ', (f (it x) Γ = .nx Γ' ∨ f (it x) Γ = .cont Γ') ∧ P (ds ++ [x]) Γ') → ∃ Γ', forR f (xs.map it) Γ = .nx Γ' ∧ P L Γ'
  | L, [], ds, Γ, hL, h0, _ => ⟨Γ, rfl, by rw [hL, List.append_nil]; exact h0⟩
  | L, y :: ys, ds, Γ, hL, h0, step => by
    obtain ⟨Γ1, e1, p1⟩ := step ds y ys hL Γ h0
    have go : forR f ((y :: ys).map it) Γ = forR f (ys.map it) Γ1 := by
      show (f (it y) Γ).loop _ = _
      rcases e1 with e1 | e1 <;> rw [e1] <;> rfl
    obtain ⟨Γ2, e2, p2⟩ := forR_pre it P L ys (ds ++ [y]) Γ1 (by rw [hL, List.append_assoc]; rfl) p1 step
    exact ⟨Γ2, by rw [go, e2], p2⟩
/-- a loop that is left by break at the first good item -/
theorem forR_break {α : Type} {f : PV → Gm → Out} (it : α → PV) (good : α → Prop) (Q R : Gm → Prop) : ∀ (xs : List α) (Γ : Gm), Q Γ →
    (∀ x ∈ xs, ∀ Γ, Q Γ → (∃ Γ', f (it x) Γ = .brk Γ' ∧ R Γ') ∨ (¬ good x ∧ ∃ Γ', f (it x) Γ = .nx Γ' ∧ Q Γ')) → (∃ x ∈ xs, good x) → ∃ Γ', forR f (xs.map it) Γ = .nx Γ' ∧ R Γ'
  | [], _, _, _, ⟨_, h, _⟩ => by cases h
  | x :: xs, Γ, hq, step, ⟨y, hy, gy⟩ => by
    rcases step x (List.mem_cons_self ..) Γ hq with ⟨Γ1, e, r⟩ | ⟨ng, Γ1, e, q⟩
    · refine ⟨Γ1, ?_, r⟩
      show (f (it x) Γ).loop _ = _
      rw [e]; rfl
    · rcases List.mem_cons.mp hy with rfl | hy
      · exact absurd gy ng
      · obtain ⟨Γ2, e2, r⟩ := forR_break it good Q R xs Γ1 q (fun z hz => step z (List.mem_cons_of_mem _ hz)) ⟨y, hy, gy⟩
        refine ⟨Γ2, ?_, r⟩
        show (f (it x) Γ).loop _ = _
        rw [e]; exact e2
end Bw
namespace Bw
/-! ### own[k] op= e -/
theorem ixP_nat {n k : Nat} (h : k < n) : ixP n (k : Int) = some k := by
  unfold ixP; rw [if_pos (by omega), if_pos (by omega), Int.toNat_natCast]
theorem atR_nat {xs : List PV} {j : Nat} {o : PV} (h : xs[j]? = some o) (k : PV → Out) : atR xs (.d (.int (j : Int))) k = k o := by
  have hl := (List.getElem?_eq_some_iff.mp h).1
  show (match (ixP xs.length (j : Int)).bind fun m => xs[m]? with
    | some o => k o
    | none => Out.bad) = _
  rw [ixP_nat hl]
  show (match xs[j]? with
    | some o => k o
    | none => Out.bad) = _
  rw [h]
theorem stoR_nat {Γ : Gm} {i : Nat} {xs : List PV} {j : Nat} {p : PV} (h : j < xs.length) : stoR Γ i xs (.d (.int (j : Int))) (.d p) = .nx (Γ.set i (.ow (.d (.lst (xs.set j p))))) := by
  show (match ixP xs.length (j : Int) with
    | some m => Out.nx (Γ.set i (.ow (.d (.lst (xs.set m p)))))
    | none => Out.bad) = _
  rw [ixP_nat h]
end Bw
namespace Bw
theorem appR_d {Γ : Gm} {i : Nat} {xs : List PV} {p : PV} (h : xs.length < line) : appR Γ i xs (.d p) = .nx (Γ.set i (.ow (.d (.lst (xs ++ [p]))))) := if_pos h
end Bw
namespace Bw
/-- a loop that is left at the first item that is wanted, with what it has done so far -/
theorem forR_fp {α : Type} (it : α → PV) (rv : α → SV) (b : α → Bool) {f : PV → Gm → Out} (P : List α → Gm → Prop) : ∀ (L xs ds : List α) (Γ : Gm), L = ds ++ xs → P ds Γ →
    (∀ ds x es, L = ds ++ x :: es → ∀ Γ, P ds Γ → (b x = true → f (it x) Γ = .ret (rv x)) ∧ (b x = false → ∃ Γ', (f (it x) Γ = .nx Γ' ∨ f (it x) Γ = .cont Γ') ∧ P (ds ++ [x]) Γ')) →
    (∀ x, xs.find? b = some x → forR f (xs.map it) Γ = .ret (rv x)) ∧ (xs.find? b = none → ∃ Γ', forR f (xs.map it) Γ = .nx Γ' ∧ P L Γ')
  | L, [], ds, Γ, hL, h0, _ => ⟨fun x h => by simp at h, fun _ => ⟨Γ, rfl, by rw [hL, List.append_nil]; exact h0⟩⟩
  | L, y :: ys, ds, Γ, hL, h0, step => by
    obtain ⟨s1, s2⟩ := step ds y ys hL Γ h0
    cases e : b y with
    | true =>
      rw [List.find?_cons_of_pos e]
      refine ⟨fun x h => ?_, fun h => by cases h⟩
      cases h
      show (f (it y) Γ).loop _ = _
      rw [s1 e]; rfl
    | false =>
      rw [List.find?_cons_of_neg (by simp [e])]
      obtain ⟨Γ1, e1, p1⟩ := s2 e
      have go : forR f ((y :: ys).map it) Γ = forR f (ys.map it) Γ1 := by
        show (f (it y) Γ).loop _ = _
        rcases e1 with e1 | e1 <;> rw [e1] <;> rfl
      rw [go]
      exact forR_fp it rv b P L ys (ds ++ [y]) Γ1 (by rw [hL, List.append_assoc]; rfl) p1 step
/-! ### dicts with other keys -/
mutual
/-- a key without bools -/
def plP : PV → Bool
  | .non => true
  | .int _ => true
  | .str _ => true
  | .tup xs => plL xs
  | _ => false
def plL : List PV → Bool
  | [] => true
  | x :: xs => plP x && plL xs
end
mutual
theorem pl_eq : ∀ {p q : PV}, plP p = true → plP q = true → (pyEq p q = true ↔ p = q)
  | .non, .non, _, _ => ⟨fun _ => rfl, fun _ => rfl⟩
  | .non, .int _, _, _ => ⟨fun h => (by cases h), fun h => (by cases h)⟩
  | .non, .str _, _, _ => ⟨fun h => (by cases h), fun h => (by cases h)⟩
  | .non, .tup _, _, _ => ⟨fun h => (by cases h), fun h => (by cases h)⟩
  | .int _, .non, _, _ => ⟨fun h => (by cases h), fun h => (by cases h)⟩
  | .int i, .int j, _, _ => ⟨fun h => (by rw [pyEq, decide_eq_true_eq] at h; rw [h]), fun h => (by cases h; rw [pyEq]; exact decide_eq_true rfl)⟩
  | .int _, .str _, _, _ => ⟨fun h => (by cases h), fun h => (by cases h)⟩
  | .int _, .tup _, _, _ => ⟨fun h => (by cases h), fun h => (by cases h)⟩
  | .str _, .non, _, _ => ⟨fun h => (by cases h), fun h => (by cases h)⟩
  | .str _, .int _, _, _ => ⟨fun h => (by cases h), fun h => (by cases h)⟩
  | .str a, .str b, _, _ => ⟨fun h => (by rw [pyEq, decide_eq_true_eq] at h; rw [h]), fun h => (by cases h; rw [pyEq]; exact decide_eq_true rfl)⟩
  | .str _, .tup _, _, _ => ⟨fun h => (by cases h), fun h => (by cases h)⟩
  | .tup _, .non, _, _ => ⟨fun h => (by cases h), fun h => (by cases h)⟩
  | .tup _, .int _, _, _ => ⟨fun h => (by cases h), fun h => (by cases h)⟩
  | .tup _, .str _, _, _ => ⟨fun h => (by cases h), fun h => (by cases h)⟩
  | .tup xs, .tup ys, h, k => by
    have e := pl_eqs (xs := xs) (ys := ys) h k
    rw [pyEq, e]
    exact ⟨fun h => (by rw [h]), fun h => (by cases h; rfl)⟩
  | .bl _, _, h, _ => by cases h
  | .lst _, _, h, _ => by cases h
  | _, .bl _, _, k => by cases k
  | _, .lst _, _, k => by cases k
theorem pl_eqs : ∀ {xs ys : List PV}, plL xs = true → plL ys = true → (pyEqL xs ys = true ↔ xs = ys)
  | [], [], _, _ => ⟨fun _ => rfl, fun _ => rfl⟩
  | [], _ :: _, _, _ => ⟨fun h => (by cases h), fun h => (by cases h)⟩
  | _ :: _, [], _, _ => ⟨fun h => (by cases h), fun h => (by cases h)⟩
  | x :: xs, y :: ys, h, k => by
    have h : (plP x && plL xs) = true := h
    have k : (plP y && plL ys) = true := k
    rw [Bool.and_eq_true] at h k
    have a := pl_eq h.1 k.1
    have b := pl_eqs h.2 k.2
    rw [pyEqL, Bool.and_eq_true, a, b]
    exact ⟨fun ⟨e1, e2⟩ => (by rw [e1, e2]), fun e => (by cases e; exact ⟨rfl, rfl⟩)⟩
end
/-- keys without bools, all tuples or none -/
structure KeysOk (t : Bool) (kvs : List (PV × PV)) : Prop where
  pl : ∀ kv ∈ kvs, plP kv.1 = true
  tp : ∀ kv ∈ kvs, isTup kv.1 = t
theorem KeysOk.nil {t : Bool} : KeysOk t [] := ⟨fun kv h => (by cases h), fun kv h => (by cases h)⟩
section
variable {t : Bool} {kvs : List (PV × PV)} {p q : PV}
theorem KeysOk.kin (h : KeysOk t kvs) (hp : isTup p = t) : kinX kvs p = true := List.all_eq_true.mpr fun kv hk => by rw [h.tp kv hk, hp]; simp
theorem KeysOk.key (h : KeysOk t kvs) (hp : isTup p = t) (hk : kyP 8 p = true) : keyX kvs (.d p) = .ok p := by
  show (if kyP 8 p = true then Res.ok p else .bad : Res PV).bind _ = _
  rw [if_pos hk, Res.bind_ok, if_pos (h.kin hp)]
theorem KeysOk.has (h : KeysOk t kvs) (hp : plP p = true) : hasX kvs p = true ↔ p ∈ kvs.map (·.1) := by
  unfold hasX
  rw [List.any_eq_true, List.mem_map]
  constructor
  · rintro ⟨kv, h1, h2⟩
    exact ⟨kv, h1, (pl_eq (h.pl kv h1) hp).mp h2⟩
  · rintro ⟨kv, h1, h2⟩
    exact ⟨kv, h1, (pl_eq (h.pl kv h1) hp).mpr h2⟩
theorem KeysOk.put (h : KeysOk t kvs) (hp : plP p = true) (ht : isTup p = t) : KeysOk t (putX kvs p q) := by
  have key : ∀ kv ∈ putX kvs p q, (∃ kv' ∈ kvs, kv.1 = kv'.1) ∨ kv.1 = p := fun kv hk => by
    unfold putX at hk
    split at hk
    · obtain ⟨x, hx, e⟩ := List.mem_map.mp hk
      left
      split at e <;> (subst e; exact ⟨x, hx, rfl⟩)
    · rcases List.mem_append.mp hk with hk | hk
      · exact .inl ⟨kv, hk, rfl⟩
      · rw [List.mem_singleton] at hk; rw [hk]; exact .inr rfl
  refine ⟨fun kv hk => ?_, fun kv hk => ?_⟩
  · rcases key kv hk with ⟨x, hx, e⟩ | e
    · rw [e]; exact h.pl x hx
    · rw [e]; exact hp
  · rcases key kv hk with ⟨x, hx, e⟩ | e
    · rw [e]; exact h.tp x hx
    · rw [e]; exact ht
/-- the keys stay, and a new one comes last -/
theorem KeysOk.putKeys (h : KeysOk t kvs) (hp : plP p = true) : (p ∈ kvs.map (·.1) → (putX kvs p q).map (·.1) = kvs.map (·.1)) ∧ (p ∉ kvs.map (·.1) → (putX kvs p q).map (·.1) = kvs.map (·.1) ++ [p]) := by
  unfold putX
  constructor
  · intro m
    rw [if_pos ((h.has hp).mpr m), List.map_map]
    refine List.map_congr_left fun kv _ => ?_
    show (if pyEq kv.1 p = true then (kv.1, q) else kv).1 = kv.1
    split <;> rfl
  · intro m
    rw [if_neg (fun e => m ((h.has hp).mp e)), List.map_append]; rfl
theorem KeysOk.val_none (h : KeysOk t kvs) (hp : plP p = true) (m : p ∉ kvs.map (·.1)) : valX kvs p = none := by
  unfold valX
  rw [List.find?_eq_none.mpr fun kv hk e => m (List.mem_map.mpr ⟨kv, hk, (pl_eq (h.pl kv hk) hp).mp e⟩)]; rfl
theorem KeysOk.val_put (h : KeysOk t kvs) (hp : plP p = true) {r : PV} (hr : plP r = true) : (r = p → valX (putX kvs p q) r = some q) ∧ (r ≠ p → valX (putX kvs p q) r = valX kvs r) := by
  have mp : ∀ {l : List (PV × PV)}, (∀ kv ∈ l, plP kv.1 = true) → (r = p → hasX l p = true → valX (l.map fun kv => if pyEq kv.1 p then (kv.1, q) else kv) r = some q) ∧ (r ≠ p → valX (l.map fun kv => if pyEq kv.1 p then (kv.1, q) else kv) r = valX l r) := by
    intro l hl
    induction l with
    | nil => exact ⟨fun _ e => (by cases e), fun _ => rfl⟩
    | cons kv l ih =>
      have i := ih fun x hx => hl x (List.mem_cons_of_mem _ hx)
      have hk := hl kv List.mem_cons_self
      unfold valX hasX at i ⊢
      rw [List.map_cons, List.find?_cons, List.find?_cons, List.any_cons]
      by_cases c : pyEq kv.1 p = true
      · have e := (pl_eq hk hp).mp c
        rw [if_pos c]
        constructor
        · intro er _
          show Option.map _ (match pyEq kv.1 r with | true => _ | false => _) = _
          rw [er, c]; rfl
        · intro ner
          have : pyEq kv.1 r = false := by
            cases z : pyEq kv.1 r with
            | false => rfl
            | true => exact absurd ((pl_eq hk hr).mp z).symm (by rw [e]; exact ner)
          show Option.map _ (match pyEq kv.1 r with | true => _ | false => _) = _
          rw [this]
          exact i.2 ner
      · rw [if_neg c]
        constructor
        · intro er a
          have c' : pyEq kv.1 p = false := by simpa using c
          rw [c', Bool.false_or] at a
          have i1 := i.1 er a
          rw [er] at i1 ⊢
          rw [c']
          exact i1
        · intro ner
          cases pyEq kv.1 r with
          | true => rfl
          | false => exact i.2 ner
  unfold putX
  by_cases c : hasX kvs p = true
  · rw [if_pos c]
    exact ⟨fun e => (mp h.pl).1 e c, (mp h.pl).2⟩
  · rw [if_neg c]
    unfold valX
    rw [List.find?_append]
    constructor
    · intro e
      have : kvs.find? (fun kv => pyEq kv.1 r) = none := List.find?_eq_none.mpr fun kv hk z => c ((h.has hp).mpr (List.mem_map.mpr ⟨kv, hk, by rw [(pl_eq (h.pl kv hk) hr).mp z, e]⟩))
      rw [this, e]
      simp [pyEq_same]
    · intro ne
      have : pyEq p r = false := by
        cases z : pyEq p r with
        | false => rfl
        | true => exact absurd ((pl_eq hp hr).mp z).symm ne
      cases kvs.find? fun kv => pyEq kv.1 r with
      | some x => rfl
      | none => simp [this]
end
theorem KeysOk.mer {t : Bool} : ∀ {more kvs : List (PV × PV)}, KeysOk t kvs → KeysOk t more → KeysOk t (merX kvs more) ∧ ∀ p, p ∈ (merX kvs more).map (·.1) ↔ p ∈ kvs.map (·.1) ∨ p ∈ more.map (·.1)
  | [], kvs, h, _ => ⟨h, fun p => by simp [merX]⟩
  | kv :: more, kvs, h, g => by
    have g1 := g.pl kv List.mem_cons_self
    have h' := h.put (q := kv.2) g1 (g.tp kv List.mem_cons_self)
    obtain ⟨a, b⟩ := KeysOk.mer h' ⟨fun x hx => g.pl x (List.mem_cons_of_mem _ hx), fun x hx => g.tp x (List.mem_cons_of_mem _ hx)⟩
    refine ⟨a, fun p => ?_⟩
    rw [show merX kvs (kv :: more) = merX (putX kvs kv.1 kv.2) more from rfl, b p, List.map_cons, List.mem_cons]
    obtain ⟨k1, k2⟩ := h.putKeys (q := kv.2) g1
    by_cases c : kv.1 ∈ kvs.map (·.1)
    · rw [k1 c]
      constructor
      · rintro (e | e)
        · exact .inl e
        · exact .inr (.inr e)
      · rintro (e | e | e)
        · exact .inl e
        · rw [e]; exact .inl c
        · exact .inr e
    · rw [k2 c, List.mem_append, List.mem_singleton, or_assoc]
theorem KeysOk.all {t : Bool} : ∀ {kvs : List (PV × PV)}, KeysOk t kvs → allX kvs = true
  | [], _ => rfl
  | kv :: kvs, h => by
    have h2 : KeysOk t kvs := ⟨fun x hx => h.pl x (List.mem_cons_of_mem _ hx), fun x hx => h.tp x (List.mem_cons_of_mem _ hx)⟩
    show (kinX kvs kv.1 && allX kvs) = true
    rw [h2.all, h2.kin (h.tp kv List.mem_cons_self)]; rfl
end Bw
end

section
set_option autoImplicit false
set_option linter.all false
set_option maxRecDepth 100000
namespace K56
open Bw
def xsub : Nat → Nat → Option Bool
  | 0, 0 => some true
  | 0, 1 => some true
  | 1, 1 => some true
  | 2, 0 => some false
  | 2, 1 => some true
  | 3, 0 => some false
  | 3, 1 => some true
  | _, _ => none
def c__law_draws : List CS := [(.own 2 (.lst [])), (.set (.name 3) (.int 7)), (.for (.name 4) (.seq (.sl (.var 0) none (some (.int 63)))) [(.set (.name 6) (.f1 .abs (.var 4))), (.set (.name 3) (.bin .mod (.f1 .int (.bin .add (.bin .add (.bin .mul (.var 3) (.int 48271)) (.var 6)) (.int 11))) (.int 2147483647))), (.ife (.cmp .ge (.var 6) (.bin .pow (.int 10) (.int 18))) [(.for (.name 5) (.rng1 (.int 60)) [(.ife (.cmp .gt (.var 6) (.int 0)) [(.app 2 (.bin .mod (.f1 .int (.var 6)) (.int 1009))), (.set (.name 6) (.bin .fdiv (.var 6) (.int 1009)))] [])])] [(.app 2 (.bin .mod (.bin .fdiv (.f1 .int (.bin .add (.bin .mul (.var 3) (.int 16807)) (.int 5))) (.int 3)) (.int 65521)))])]), (.for (.name 5) (.rng1 (.var 1)) [(.ife (.cmp .lt (.f1 .len (.own 2)) (.var 1)) [(.set (.name 3) (.bin .mod (.f1 .int (.bin .add (.bin .add (.bin .mul (.var 3) (.int 69621)) (.var 5)) (.int 1))) (.int 2147483647))), (.app 2 (.bin .mod (.bin .fdiv (.f1 .int (.var 3)) (.int 7)) (.int 65521)))] [])]), (.frz 2), (.ret (.sl (.var 2) none (some (.var 1))))]
noncomputable def g__law_draws : Bw.Ctx := ⟨[], [], xsub⟩
noncomputable def f__law_draws : List SV → Res SV := fn g__law_draws 2 7 c__law_draws
def c__law_tree : List CS := [(.set (.name 2) (.bin .add (.int 1) (.bin .mod (.f1 .int (.idx (.var 0) (.int 0))) (.var 1)))), (.set (.name 3) (.bin .mod (.f1 .int (.idx (.var 0) (.int 1))) (.int 3))), (.own 4 (.lst [(.tup [.non, (.int 0), (.bin .mod (.f1 .int (.idx (.var 0) (.int 2))) (.idx (.lst [(.int 9), (.int 1001), (.int 2)]) (.var 3)))])])), (.for (.name 5) (.rng2 (.int 1) (.var 2)) [(.set (.name 6) (.bin .fdiv (.f1 .int (.idx (.var 0) (.bin .add (.int 2) (.bin .mod (.var 5) (.bin .sub (.f1 .len (.var 0)) (.int 2)))))) (.bin .add (.int 1) (.bin .fdiv (.var 5) (.bin .sub (.f1 .len (.var 0)) (.int 2)))))), (.app 4 (.tup [(.bin .mod (.var 6) (.var 5)), (.bin .mod (.bin .fdiv (.var 6) (.int 9)) (.idx (.lst [(.int 9), (.int 1001), (.int 3)]) (.var 3))), (.bin .mod (.bin .fdiv (.var 6) (.int 9009)) (.idx (.lst [(.int 9), (.int 1001), (.int 2)]) (.var 3)))]))]), (.frz 4), (.ret (.f1 .tuple (.var 4)))]
noncomputable def g__law_tree : Bw.Ctx := ⟨[], [], xsub⟩
noncomputable def f__law_tree : List SV → Res SV := fn g__law_tree 2 7 c__law_tree
def c__law_above : List CS := [(.own 2 (.lst [])), (.for (.name 3) (.rng1 (.f1 .len (.var 0))) [(.ife (.and (.cmp .isnot (.var 1) .non) (.cmp .ne (.var 1) (.int 0))) [(.app 2 (.var 1)), (.set (.name 1) (.idx (.idx (.var 0) (.var 1)) (.int 0)))] [])]), (.frz 2), (.ret (.var 2))]
noncomputable def g__law_above : Bw.Ctx := ⟨[], [], xsub⟩
noncomputable def f__law_above : List SV → Res SV := fn g__law_above 2 4 c__law_above
def c__law_below : List CS := [(.ret (.lc (.name 2) (.rng1 (.f1 .len (.var 0))) [(.or (.cmp .eq (.var 2) (.var 1)) (.or (.cmp .eq (.var 1) (.int 0)) (.cmp .isin (.var 1) (.call 0 [(.var 0), (.var 2)]))))] (.var 2)))]
noncomputable def g__law_below : Bw.Ctx := ⟨[f__law_above], [], xsub⟩
noncomputable def f__law_below : List SV → Res SV := fn g__law_below 2 3 c__law_below
def c_is_whole : List CS := [(.ret (.and (.isa (.var 0) .int) (.and (.not (.isa (.var 0) .bool)) (.chain .le .le (.var 1) (.var 0) (.var 2)))))]
noncomputable def g_is_whole : Bw.Ctx := ⟨[], [], xsub⟩
noncomputable def f_is_whole : List SV → Res SV := fn g_is_whole 3 3 c_is_whole
def c__is_node : List CS := [(.ife (.or (.not (.isa (.var 1) .tuple)) (.or (.cmp .ne (.f1 .len (.var 1)) (.int 3)) (.not (.call 0 [(.idx (.var 1) (.int 2)), (.int 0), (.glob 0)])))) [(.ret (.bl false))] []), (.ife (.cmp .eq (.var 0) (.int 0)) [(.ret (.and (.cmp .is (.idx (.var 1) (.int 0)) .non) (.call 0 [(.idx (.var 1) (.int 1)), (.int 0), (.int 0)])))] []), (.ret (.and (.call 0 [(.idx (.var 1) (.int 0)), (.int 0), (.bin .sub (.var 0) (.int 1))]) (.call 0 [(.idx (.var 1) (.int 1)), (.int 0), (.glob 0)])))]
noncomputable def g__is_node : Bw.Ctx := ⟨[f_is_whole], [.d (.int (1000))], xsub⟩
noncomputable def f__is_node : List SV → Res SV := fn g__is_node 2 2 c__is_node
def c_is_tree : List CS := [(.ife (.or (.not (.isa (.var 0) .tuple)) (.not (.chain .le .le (.int 1) (.f1 .len (.var 0)) (.glob 0)))) [(.ret (.bl false))] []), (.ret (.f1 .all (.lc (.tup [(.name 1), (.name 2)]) (.enum (.var 0)) [] (.call 0 [(.var 1), (.var 2)]))))]
noncomputable def g_is_tree : Bw.Ctx := ⟨[f__is_node], [.d (.int (9))], xsub⟩
noncomputable def f_is_tree : List SV → Res SV := fn g_is_tree 1 3 c_is_tree
def c_check_tree : List CS := [(.ife (.not (.call 0 [(.var 0)])) [(.raise 0)] [])]
noncomputable def g_check_tree : Bw.Ctx := ⟨[f_is_tree], [], xsub⟩
noncomputable def f_check_tree : List SV → Res SV := fn g_check_tree 1 1 c_check_tree
def c__loads : List CS := [(.own 3 (.lc (.name 5) (.seq (.var 0)) [] (.idx (.var 5) (.int 2)))), (.for (.name 4) (.rng3 (.bin .sub (.f1 .len (.var 0)) (.int 1)) (.int 0) (-1)) [(.augs 3 .add (.idx (.idx (.var 0) (.var 4)) (.int 0)) (.ife (.cmp .isin (.var 4) (.var 2)) (.idx (.var 1) (.int 1)) (.idx (.own 3) (.var 4))))]), (.frz 3), (.ret (.var 3))]
noncomputable def g__loads : Bw.Ctx := ⟨[], [], xsub⟩
noncomputable def f__loads : List SV → Res SV := fn g__loads 3 6 c__loads
def c_loads_below : List CS := [(.expr (.call 0 [(.var 0)])), (.ret (.f1 .tuple (.call 1 [(.var 0), (.tup [(.int 0), (.int 0), (.int 0)]), (.tup [])])))]
noncomputable def g_loads_below : Bw.Ctx := ⟨[f_check_tree, f__loads], [], xsub⟩
noncomputable def f_loads_below : List SV → Res SV := fn g_loads_below 1 1 c_loads_below
def c_delays_of : List CS := [(.set (.name 3) (.call 0 [(.var 0), (.var 1), (.var 2)])), (.own 4 (.lst [(.int 0)])), (.for (.name 5) (.rng2 (.int 1) (.f1 .len (.var 0))) [(.set (.tup [(.name 6), (.name 7), (.name 8)]) (.idx (.var 0) (.var 5))), (.ife (.cmp .isin (.var 5) (.var 2)) [(.app 4 (.bin .add (.bin .add (.bin .add (.idx (.own 4) (.var 6)) (.bin .mul (.var 7) (.idx (.var 1) (.int 1)))) (.idx (.var 1) (.int 2))) (.bin .mul (.idx (.var 1) (.int 0)) (.idx (.var 3) (.var 5)))))] [(.app 4 (.bin .add (.idx (.own 4) (.var 6)) (.bin .mul (.var 7) (.idx (.var 3) (.var 5)))))])]), (.frz 4), (.ret (.var 4))]
noncomputable def g_delays_of : Bw.Ctx := ⟨[f__loads], [], xsub⟩
noncomputable def f_delays_of : List SV → Res SV := fn g_delays_of 3 9 c_delays_of
def c_delays : List CS := [(.expr (.call 0 [(.var 0)])), (.ret (.f1 .tuple (.call 1 [(.var 0), (.tup [(.int 0), (.int 0), (.int 0)]), (.tup [])])))]
noncomputable def g_delays : Bw.Ctx := ⟨[f_check_tree, f_delays_of], [], xsub⟩
noncomputable def f_delays : List SV → Res SV := fn g_delays 1 1 c_delays
def c__law_leaves : List CS := [(.ret (.lc (.name 1) (.rng1 (.f1 .len (.var 0))) [(.not (.f1 .any (.lc (.name 2) (.seq (.var 0)) [] (.cmp .eq (.idx (.var 2) (.int 0)) (.var 1)))))] (.var 1)))]
noncomputable def g__law_leaves : Bw.Ctx := ⟨[], [], xsub⟩
noncomputable def f__law_leaves : List SV → Res SV := fn g__law_leaves 1 3 c__law_leaves
def c_leaves_of : List CS := [(.own 1 (.dcx (.name 2) (.seq (.var 0)) [] (.idx (.var 2) (.int 0)) (.bl true))), (.frz 1), (.ret (.lc (.name 3) (.rng1 (.f1 .len (.var 0))) [(.cmp .notin (.var 3) (.var 1))] (.var 3)))]
noncomputable def g_leaves_of : Bw.Ctx := ⟨[], [], xsub⟩
noncomputable def f_leaves_of : List SV → Res SV := fn g_leaves_of 1 4 c_leaves_of
def c_worst_of : List CS := [(.set (.name 2) .non), (.for (.name 3) (.seq (.call 0 [(.var 0)])) [(.ife (.or (.cmp .is (.var 2) .non) (.cmp .gt (.idx (.var 1) (.var 3)) (.idx (.var 2) (.int 0)))) [(.set (.name 2) (.tup [(.idx (.var 1) (.var 3)), (.var 3)]))] [])]), (.ret (.var 2))]
noncomputable def g_worst_of : Bw.Ctx := ⟨[f_leaves_of], [], xsub⟩
noncomputable def f_worst_of : List SV → Res SV := fn g_worst_of 2 4 c_worst_of
def c_worst : List CS := [(.expr (.call 0 [(.var 0)])), (.ret (.call 2 [(.var 0), (.call 1 [(.var 0), (.tup [(.int 0), (.int 0), (.int 0)]), (.tup [])])]))]
noncomputable def g_worst : Bw.Ctx := ⟨[f_check_tree, f_delays_of, f_worst_of], [], xsub⟩
noncomputable def f_worst : List SV → Res SV := fn g_worst 1 1 c_worst
def c__law_is_tree : List CS := [(.ife (.or (.not (.isa (.var 0) .tuple)) (.not (.chain .le .le (.int 1) (.f1 .len (.var 0)) (.int 9)))) [(.ret (.bl false))] []), (.for (.name 1) (.rng1 (.f1 .len (.var 0))) [(.set (.name 2) (.idx (.var 0) (.var 1))), (.ife (.or (.not (.isa (.var 2) .tuple)) (.or (.cmp .ne (.f1 .len (.var 2)) (.int 3)) (.not (.f1 .all (.lc (.name 3) (.seq (.sl (.var 2) (some (.int 1)) none)) [] (.and (.isa (.var 3) .int) (.and (.not (.isa (.var 3) .bool)) (.chain .le .le (.int 0) (.var 3) (.int 1000))))))))) [(.ret (.bl false))] []), (.ife (.and (.cmp .eq (.var 1) (.int 0)) (.or (.cmp .isnot (.idx (.var 2) (.int 0)) .non) (.cmp .ne (.idx (.var 2) (.int 1)) (.int 0)))) [(.ret (.bl false))] []), (.ife (.and (.cmp .gt (.var 1) (.int 0)) (.or (.not (.isa (.idx (.var 2) (.int 0)) .int)) (.or (.isa (.idx (.var 2) (.int 0)) .bool) (.not (.chain .le .lt (.int 0) (.idx (.var 2) (.int 0)) (.var 1)))))) [(.ret (.bl false))] [])]), (.ret (.bl true))]
noncomputable def g__law_is_tree : Bw.Ctx := ⟨[], [], xsub⟩
noncomputable def f__law_is_tree : List SV → Res SV := fn g__law_is_tree 1 4 c__law_is_tree
def c_check_buffer : List CS := [(.ife (.or (.not (.isa (.var 0) .tuple)) (.or (.cmp .ne (.f1 .len (.var 0)) (.int 3)) (.not (.f1 .all (.lc (.name 1) (.seq (.var 0)) [] (.call 0 [(.var 1), (.int 0), (.glob 0)])))))) [(.raise 3)] [])]
noncomputable def g_check_buffer : Bw.Ctx := ⟨[f_is_whole], [.d (.int (1000))], xsub⟩
noncomputable def f_check_buffer : List SV → Res SV := fn g_check_buffer 1 2 c_check_buffer
def c_ascends : List CS := [(.ret (.f1 .all (.lc (.tup [(.name 1), (.name 2)]) (.zip (.var 0) (.sl (.var 0) (some (.int 1)) none)) [] (.cmp .lt (.var 1) (.var 2)))))]
noncomputable def g_ascends : Bw.Ctx := ⟨[], [], xsub⟩
noncomputable def f_ascends : List SV → Res SV := fn g_ascends 1 3 c_ascends
def c_delays_with : List CS := [(.expr (.call 0 [(.var 0)])), (.expr (.call 1 [(.var 1)])), (.ife (.or (.not (.isa (.var 2) .tuple)) (.not (.f1 .all (.lc (.name 3) (.seq (.var 2)) [] (.call 2 [(.var 3), (.int 1), (.bin .sub (.f1 .len (.var 0)) (.int 1))]))))) [(.raise 2)] []), (.ife (.not (.call 3 [(.var 2)])) [(.raise 2)] []), (.ret (.f1 .tuple (.call 4 [(.var 0), (.var 1), (.var 2)])))]
noncomputable def g_delays_with : Bw.Ctx := ⟨[f_check_tree, f_check_buffer, f_is_whole, f_ascends, f_delays_of], [], xsub⟩
noncomputable def f_delays_with : List SV → Res SV := fn g_delays_with 3 4 c_delays_with
def c_best_buffers : List CS := [(.expr (.call 0 [(.var 0)])), (.expr (.call 1 [(.var 1)])), .never, .never, .never, .never]
noncomputable def g_best_buffers : Bw.Ctx := ⟨[f_check_tree, f_check_buffer], [], xsub⟩
noncomputable def f_best_buffers : List SV → Res SV := fn g_best_buffers 2 9 c_best_buffers
def c_options : List CS := [(.expr (.call 0 [(.var 0)])), (.expr (.call 1 [(.var 1)])), .never]
noncomputable def g_options : Bw.Ctx := ⟨[f_check_tree, f_check_buffer], [], xsub⟩
noncomputable def f_options : List SV → Res SV := fn g_options 2 3 c_options
def c__law_refused : List CS := [(.try [(.ife (.cmp .eq (.var 0) (.int 0)) [(.expr (.call 0 [(.var 1)]))] [(.ife (.cmp .eq (.var 0) (.int 1)) [(.expr (.call 1 [(.var 1)]))] [(.ife (.cmp .eq (.var 0) (.int 2)) [(.expr (.call 2 [(.var 1)]))] [(.ife (.cmp .eq (.var 0) (.int 3)) [(.expr (.call 3 [(.var 1), .non, .non]))] [(.ife (.cmp .eq (.var 0) (.int 4)) [(.expr (.call 4 [(.var 1), .non]))] [(.expr (.call 5 [(.var 1), .non]))])])])])])] [(1, (.risa 2 0))]), (.ret (.bl false))]
noncomputable def g__law_refused : Bw.Ctx := ⟨[f_loads_below, f_delays, f_worst, f_delays_with, f_best_buffers, f_options], [], xsub⟩
noncomputable def f__law_refused : List SV → Res SV := fn g__law_refused 2 3 c__law_refused
def b_law_1 : List CS := [(.set (.name 15) (.bin .add (.var 15) (.bin .mul (.idx (.idx (.var 4) (.var 16)) (.int 2)) (.f1 .sum (.lc (.name 18) (.seq (.call 3 [(.var 4), (.var 8)])) [(.cmp .isin (.var 18) (.call 3 [(.var 4), (.var 16)]))] (.idx (.idx (.var 4) (.var 18)) (.int 1)))))))]
def b_law_2 : List CS := [(.set (.name 15) (.int 0)), (.for (.name 16) (.rng1 (.var 5)) b_law_1), (.app 7 (.var 15))]
def b_law_3 : List CS := [(.app 11 (.bin .add (.bin .add (.sl (.var 4) none (some (.var 10))) (.tup [(.var 13)])) (.sl (.var 4) (some (.bin .add (.var 10) (.int 1))) none)))]
def b_law_4 : List CS := [(.set (.name 20) (.call 8 [(.var 14)])), (.ife (.or (.cmp .ne (.call 9 [(.var 14)]) (.var 20)) (.or (.not (.isa (.call 9 [(.var 14)]) .bool)) (.and (.not (.var 20)) (.not (.f1 .all (.lc (.name 21) (.rng1 (.int 6)) [] (.call 10 [(.var 21), (.var 14)]))))))) [(.ret (.bl false))] [])]
def b_law_5 : List CS := [(.set (.name 4) (.call 1 [(.sl (.var 1) (some (.bin .mul (.int 9) (.var 2))) (some (.bin .add (.bin .mul (.int 9) (.var 2)) (.int 14)))), (.int 9)])), (.set (.name 5) (.f1 .len (.var 4))), (.set (.name 6) (.f1 .tuple (.lc (.name 8) (.rng1 (.var 5)) [] (.f1 .sum (.lc (.name 16) (.seq (.call 2 [(.var 4), (.var 8)])) [] (.idx (.idx (.var 4) (.var 16)) (.int 2))))))), (.own 7 (.lst [])), (.for (.name 8) (.rng1 (.var 5)) b_law_2), (.frz 7), (.ife (.or (.cmp .ne (.call 4 [(.var 4)]) (.var 6)) (.cmp .ne (.call 5 [(.var 4)]) (.f1 .tuple (.var 7)))) [(.ret (.bl false))] []), (.set (.name 9) (.f1 .max (.lc (.name 8) (.seq (.call 6 [(.var 4)])) [] (.idx (.var 7) (.var 8))))), (.ife (.cmp .ne (.call 7 [(.var 4)]) (.tup [(.var 9), (.f1 .min (.lc (.name 8) (.seq (.call 6 [(.var 4)])) [(.cmp .eq (.idx (.var 7) (.var 8)) (.var 9))] (.var 8)))])) [(.ret (.bl false))] []), (.set (.name 10) (.bin .mod (.f1 .int (.idx (.var 1) (.bin .add (.int 50) (.var 2)))) (.var 5))), (.set (.tup [(.name 17), (.name 18), (.name 19)]) (.idx (.var 4) (.var 10))), (.own 11 (.lst [(.var 4), (.f1 .list (.var 4)), .non, (.int 7), (.tup []), (.sl (.var 4) (some (.int 1)) none), (.rev (.var 4)), (.bin .add (.var 4) (.sl (.var 4) (some (.int 1)) (some (.int 2)))), (.bin .add (.bin .mul (.var 4) (.int 9)) (.var 4)), (.bin .add (.var 4) (.tup [(.tup [.non, (.int 0), (.int 0)])])), (.bin .add (.var 4) (.tup [(.tup [(.var 5), (.int 1), (.int 1)])]))])), (.set (.name 12) (.lst [(.tup [(.var 17), (.var 18), (.int 1001)]), (.tup [(.var 17), (.neg (.int 1)), (.var 19)]), (.tup [(.var 17), (.int 1001), (.var 19)]), (.tup [(.var 17), (.bl true), (.var 19)]), (.tup [(.bl true), (.var 18), (.var 19)]), (.tup [(.var 17), (.var 18)])])), (.for (.name 13) (.seq (.bin .add (.var 12) (.lst [(.lst [(.var 17), (.var 18), (.var 19)]), (.tup [(.var 10), (.var 18), (.var 19)]), (.tup [(.int 0), (.int 1), (.int 1)]), (.tup [.non, (.int 0), (.int 5)]), (.tup [(.neg (.int 1)), (.var 18), (.var 19)]), .non]))) b_law_3), (.frz 11), (.for (.name 14) (.seq (.var 11)) b_law_4)]
def c_law : List CS := [(.set (.name 1) (.call 0 [(.var 0), (.int 60)])), (.for (.name 2) (.rng1 (.int 5)) b_law_5), (.set (.name 3) (.tup [(.tup [.non, (.int 0), (.int 0)]), (.tup [(.int 0), (.int 2), (.int 3)]), (.tup [(.int 1), (.int 1), (.int 4)]), (.tup [(.int 1), (.int 3), (.int 1)])])), (.ret (.and (.cmp .eq (.call 4 [(.var 3)]) (.tup [(.int 8), (.int 8), (.int 4), (.int 1)])) (.and (.cmp .eq (.call 5 [(.var 3)]) (.tup [(.int 0), (.int 16), (.int 20), (.int 19)])) (.and (.cmp .eq (.call 7 [(.var 3)]) (.tup [(.int 20), (.int 2)])) (.cmp .eq (.call 7 [(.tup [(.tup [.non, (.int 0), (.int 5)])])]) (.tup [(.int 0), (.int 0)]))))))]
noncomputable def g_law : Bw.Ctx := ⟨[f__law_draws, f__law_tree, f__law_below, f__law_above, f_loads_below, f_delays, f__law_leaves, f_worst, f__law_is_tree, f_is_tree, f__law_refused], [], xsub⟩
noncomputable def f_law : List SV → Res SV := fn g_law 1 22 c_law
end K56
end

section
set_option autoImplicit false
set_option linter.all false
set_option maxRecDepth 100000
namespace K56
open Bw
def DrP (ns : List Int) (many lo hi : Nat) (Γ : Gm) : Prop := ∃ (D : List Int) (s : Int) (a b c : Bx), lo ≤ D.length ∧ D.length ≤ hi ∧ (∀ x ∈ D, 0 ≤ x) ∧ 0 ≤ s ∧ s < 2147483648 ∧ Γ = [.sh (.scr ns), .sh (.d (.int many)), .ow (.d (.lst (D.map .int))), .sh (.d (.int s)), a, b, c]
def DiP (ns : List Int) (many hi : Nat) (s : Int) (a : Bx) (Γ : Gm) : Prop := ∃ (D : List Int) (b : Bx) (n : Int), D.length ≤ hi ∧ (∀ x ∈ D, 0 ≤ x) ∧ 0 ≤ n ∧ Γ = [.sh (.scr ns), .sh (.d (.int many)), .ow (.d (.lst (D.map .int))), .sh (.d (.int s)), a, b, .sh (.d (.int n))]
theorem nn_app {D : List Int} {x : Int} (h : ∀ y ∈ D, 0 ≤ y) (hx : 0 ≤ x) : ∀ y ∈ D ++ [x], 0 ≤ y := fun y hy => by
  rcases List.mem_append.mp hy with q | q
  · exact h y q
  · rw [List.mem_singleton.mp q]; exact hx
theorem draws_ev (ns : List Int) (h : ns.length ≤ 63) (many : Nat) (hm : many ≤ 1000) : ∃ ds : List Int, ds.length = many ∧ (∀ x ∈ ds, 0 ≤ x) ∧ f__law_draws [.scr ns, .d (.int many)] = .ok (.d (li ds)) := by
  have m1 : ∀ s, binop .mul (.d (.int s)) (.d (.int 48271)) = .ok (.d (.int (s * 48271))) := fun s => b_mul (.inr (by decide))
  have m2 : ∀ s, binop .mul (.d (.int s)) (.d (.int 16807)) = .ok (.d (.int (s * 16807))) := fun s => b_mul (.inr (by decide))
  have m3 : ∀ s, binop .mul (.d (.int s)) (.d (.int 69621)) = .ok (.d (.int (s * 69621))) := fun s => b_mul (.inr (by decide))
  have d1 : ∀ s, binop .mod (.d (.int s)) (.d (.int 2147483647)) = .ok (.d (.int (s % 2147483647))) := fun s => b_mod (by decide)
  have d2 : ∀ s, binop .mod (.d (.int s)) (.d (.int 1009)) = .ok (.d (.int (s % 1009))) := fun s => b_mod (by decide)
  have d3 : ∀ s, binop .mod (.d (.int s)) (.d (.int 65521)) = .ok (.d (.int (s % 65521))) := fun s => b_mod (by decide)
  have q1 : ∀ s, binop .fdiv (.d (.int s)) (.d (.int 1009)) = .ok (.d (.int (s / 1009))) := fun s => b_fdiv (by decide) (by decide)
  have q2 : ∀ s, binop .fdiv (.d (.int s)) (.d (.int 3)) = .ok (.d (.int (s / 3))) := fun s => b_fdiv (by decide) (by decide)
  have q3 : ∀ s, binop .fdiv (.d (.int s)) (.d (.int 7)) = .ok (.d (.int (s / 7))) := fun s => b_fdiv (by decide) (by decide)
  have pw : binop .pow (.d (.int 10)) (.d (.int 18)) = .ok (.d (.int 1000000000000000000)) := by simp [binop]
  have cut : slop (.scr ns) none (some 63) = .ok (.d (.lst ((ns.take 63).map .int))) := by
    show Res.ok (SV.d (.lst (cutP (ns.map PV.int) none (some ((63 : Nat) : Int))))) = _
    rw [cut_upto, List.map_take]
  have r60 : rng? 0 60 1 = .ok ((List.range 60).map fun (i : Nat) => PV.int (0 + i)) := rng_ok (by decide) (by decide) (by decide) (by decide)
  have rm : rng? 0 (many : Int) 1 = .ok ((List.range many).map fun (i : Nat) => PV.int (0 + i)) := by
    rw [rng_ok (by omega) (by omega) (by omega) (by omega), Int.sub_zero, Int.toNat_natCast]
  have ln : ∀ n, n ≤ 5000 → n < line := fun n hn => by unfold line; omega
  simp [f__law_draws, c__law_draws, fn, runs, run, ev, evL, evI, evO, cut]
  refine forR_invK (fun o => ∃ ds : List Int, ds.length = many ∧ (∀ x ∈ ds, 0 ≤ x) ∧ o.fin = .ok (.d (li ds))) (fun i => DrP ns many 0 (60 * i)) ⟨[], 7, _, _, _, by simp, by simp, by simp, by decide, by decide, rfl⟩ ?_ ?_
  · rintro i x _ hx ⟨D, s, a, b, c, h1, h2, h3, h4, h5, rfl⟩
    have hi : i < 63 := by
      have := (List.getElem?_eq_some_iff.mp hx).1
      simp at this; omega
    obtain ⟨z, hz⟩ : ∃ z : Int, x = .int z := by
      have q := List.mem_of_mem_take (List.mem_of_getElem? hx)
      obtain ⟨z, _, hz⟩ := List.mem_map.mp q
      exact ⟨z, hz.symm⟩
    subst hz
    generalize hN : (if z < 0 then -z else z) = nn
    have n0 : 0 ≤ nn := by rw [← hN]; split <;> omega
    generalize hS : (s * 48271 + nn + 11) % 2147483647 = s'
    have s0 : 0 ≤ s' := by rw [← hS]; exact Int.emod_nonneg _ (by decide)
    have s1 : s' < 2147483648 := by
      have := Int.emod_lt_of_pos (s * 48271 + nn + 11) (show (0 : Int) < 2147483647 by decide)
      omega
    by_cases c18 : (1000000000000000000 : Int) ≤ nn
    · simp [hN, m1, d1, hS, pw, r60, c18]
      refine forR_invK (fun o => ∃ Γ', (o = .nx Γ' ∨ o = .cont Γ') ∧ DrP ns many 0 (60 * (i + 1)) Γ') (fun j => DiP ns many (60 * i + j) s' (.sh (.d (.int z)))) ⟨D, _, nn, by omega, h3, n0, rfl⟩ ?_ ?_
      · rintro j x _ hx ⟨D, b, n, g1, g2, g3, rfl⟩
        have hj : j < 60 := by
          have := (List.getElem?_eq_some_iff.mp hx).1
          simpa using this
        have zl := ln D.length (by omega)
        by_cases cn : 0 < n
        · have fin : ∀ b, DiP ns many (60 * i + (j + 1)) s' (.sh (.d (.int z))) [.sh (.scr ns), .sh (.d (.int many)), .ow (.d (.lst (D.map .int ++ [.int (n % 1009)]))), .sh (.d (.int s')), .sh (.d (.int z)), b, .sh (.d (.int (n / 1009)))] := fun b =>
            ⟨D ++ [n % 1009], b, n / 1009, by simp; omega, nn_app g2 (Int.emod_nonneg _ (by decide)), Int.ediv_nonneg g3 (by decide), by simp⟩
          simp [cn, d2, q1, appR, zl, fin]
        · have fin : ∀ b, DiP ns many (60 * i + (j + 1)) s' (.sh (.d (.int z))) [.sh (.scr ns), .sh (.d (.int many)), .ow (.d (.lst (D.map .int))), .sh (.d (.int s')), .sh (.d (.int z)), b, .sh (.d (.int n))] := fun b =>
            ⟨D, b, n, by omega, g2, g3, rfl⟩
          simp [cn, fin]
      · rintro _ ⟨D, b, n, g1, g2, g3, rfl⟩
        refine ⟨_, .inl rfl, D, s', _, _, _, by omega, ?_, g2, s0, s1, rfl⟩
        simp at g1
        omega
    · have zl := ln D.length (by omega)
      have fin : DrP ns many 0 (60 * (i + 1)) [.sh (.scr ns), .sh (.d (.int many)), .ow (.d (.lst (D.map .int ++ [.int ((s' * 16807 + 5) / 3 % 65521)]))), .sh (.d (.int s')), .sh (.d (.int z)), b, .sh (.d (.int nn))] :=
        ⟨D ++ [(s' * 16807 + 5) / 3 % 65521], s', _, _, _, by omega, by simp; omega, nn_app h3 (Int.emod_nonneg _ (by decide)), s0, s1, by rw [List.map_append]; rfl⟩
      simp [hN, m1, d1, hS, pw, m2, q2, d3, c18, appR, zl, fin]
  · rintro _ ⟨D, s, a, b, c, h1, h2, h3, h4, h5, rfl⟩
    have hD : D.length ≤ 3780 := by
      simp at h2
      omega
    simp [rm]
    refine forR_invK (fun o => ∃ ds : List Int, ds.length = many ∧ (∀ x ∈ ds, 0 ≤ x) ∧ o.fin = .ok (.d (li ds))) (fun i => DrP ns many (min i many) (3780 + i)) ⟨D, s, _, _, _, by omega, by omega, h3, h4, h5, rfl⟩ ?_ ?_
    · rintro i x _ hx ⟨D, s, a, b, c, h1, h2, h3, h4, h5, rfl⟩
      obtain ⟨li', rfl⟩ : i < many ∧ x = .int i := by
        have q : ((List.range many).map fun (i : Nat) => PV.int (0 + i))[i]? = some x := by simpa using hx
        exact range_at' q
      have zl := ln D.length (by omega)
      by_cases cl : D.length < many
      · generalize hS : (s * 69621 + (i : Int) + 1) % 2147483647 = s'
        have s0 : 0 ≤ s' := by rw [← hS]; exact Int.emod_nonneg _ (by decide)
        have s1 : s' < 2147483648 := by
          have := Int.emod_lt_of_pos (s * 69621 + (i : Int) + 1) (show (0 : Int) < 2147483647 by decide)
          omega
        have fin : DrP ns many (min (i + 1) many) (3780 + (i + 1)) [.sh (.scr ns), .sh (.d (.int many)), .ow (.d (.lst (D.map .int ++ [.int (s' / 7 % 65521)]))), .sh (.d (.int s')), a, .sh (.d (.int i)), c] :=
          ⟨D ++ [s' / 7 % 65521], s', _, _, _, by simp; omega, by simp; omega, nn_app h3 (Int.emod_nonneg _ (by decide)), s0, s1, by rw [List.map_append]; rfl⟩
        have cl' : (D.length : Int) < many := by omega
        simp [cl, m3, d1, hS, q3, d3, appR, zl, fin]
      · have fin : DrP ns many (min (i + 1) many) (3780 + (i + 1)) [.sh (.scr ns), .sh (.d (.int many)), .ow (.d (.lst (D.map .int))), .sh (.d (.int s)), a, .sh (.d (.int i)), c] :=
          ⟨D, s, _, _, _, by omega, by omega, h3, h4, h5, rfl⟩
        simp [cl, fin]
    · rintro _ ⟨D, s, a, b, c, h1, h2, h3, h4, h5, rfl⟩
      have hl : many ≤ D.length := by simp at h1; omega
      refine ⟨D.take many, by simp; omega, fun x hx => h3 x (List.mem_of_mem_take hx), ?_⟩
      have e : slop (.d (.lst (D.map .int))) none (some (many : Int)) = .ok (.d (li (D.take many))) := by
        have := sl_li D none (some (many : Int))
        rw [cut_upto] at this
        exact this
      simp [e]
end K56
end

section
set_option autoImplicit false
set_option linter.all false
set_option maxRecDepth 100000
namespace K56
open Bw
/-! wire trees, plain -/
structure Tr where
  n : Nat
  par : Nat → Nat
  wr : Nat → Int
  ld : Nat → Int
structure Tr.Ok (T : Tr) : Prop where
  pos : 1 ≤ T.n
  few : T.n ≤ 9
  par : ∀ k, 1 ≤ k → k < T.n → T.par k < k
  wr0 : T.wr 0 = 0
  wr : ∀ k, k < T.n → 0 ≤ T.wr k ∧ T.wr k ≤ 1000
  ld : ∀ k, k < T.n → 0 ≤ T.ld k ∧ T.ld k ≤ 1000
def nodeP (T : Tr) (k : Nat) : PV := .tup [if k = 0 then .non else .int (T.par k : Nat), .int (T.wr k), .int (T.ld k)]
def tv (T : Tr) : PV := .tup ((List.range T.n).map (nodeP T))
/-- a buffer: resistance, load, delay -/
structure Bu where
  r : Int
  c : Int
  d : Int
structure Bu.Ok (B : Bu) : Prop where
  r : 0 ≤ B.r ∧ B.r ≤ 1000
  c : 0 ≤ B.c ∧ B.c ≤ 1000
  d : 0 ≤ B.d ∧ B.d ≤ 1000
def bv (B : Bu) : PV := .tup [.int B.r, .int B.c, .int B.d]
section
variable (T : Tr) (B : Bu) (N : List Nat)
/-- the load behind k, with so many steps down -/
def LF : Nat → Nat → Int
  | 0, k => T.ld k
  | d + 1, k => T.ld k + (((List.range T.n).drop (k + 1)).map fun m => if T.par m = k then (if m ∈ N then B.c else LF d m) else 0).sum
def L (k : Nat) : Int := LF T B N T.n k
/-- what m gives to k -/
def con (k m : Nat) : Int := if T.par m = k then (if m ∈ N then B.c else L T B N m) else 0
theorem mem_dropR {n k m : Nat} (h : m ∈ (List.range n).drop k) : k ≤ m ∧ m < n := by
  rw [List.mem_iff_getElem?] at h
  obtain ⟨i, hi⟩ := h
  rw [List.getElem?_drop] at hi
  by_cases c : k + i < n
  · rw [List.getElem?_range c] at hi; cases hi; omega
  · rw [List.getElem?_eq_none (by simpa using c)] at hi; cases hi
theorem dropR_cons {n k : Nat} (h : k < n) : (List.range n).drop k = k :: (List.range n).drop (k + 1) := by
  rw [List.drop_eq_getElem_cons (by simpa using h)]; simp
theorem LF_eq : ∀ (d d' k : Nat), T.n ≤ d + k → T.n ≤ d' + k → LF T B N d k = LF T B N d' k
  | 0, 0, _, _, _ => rfl
  | 0, d' + 1, k, h, _ => by
    rw [LF, LF, List.drop_eq_nil_of_le (by simp; omega)]; simp
  | d + 1, 0, k, _, h => by
    rw [LF, LF, List.drop_eq_nil_of_le (by simp; omega)]; simp
  | d + 1, d' + 1, k, h, h' => by
    rw [LF, LF]
    congr 2
    refine List.map_congr_left fun m hm => ?_
    have := mem_dropR hm
    rw [LF_eq d d' m (by omega) (by omega)]
theorem L_eq (k : Nat) : L T B N k = T.ld k + (((List.range T.n).drop (k + 1)).map (con T B N k)).sum := by
  unfold L
  rw [LF_eq T B N T.n (T.n + 1) k (by omega) (by omega), LF]
  rfl
/-- the loads, summed from the last node to m -/
def S (k m : Nat) : Int := T.ld k + (((List.range T.n).drop m).map (con T B N k)).sum
theorem S_step {k m : Nat} (h : m < T.n) : S T B N k m = S T B N k (m + 1) + con T B N k m := by
  unfold S
  rw [dropR_cons h, List.map_cons, List.sum_cons]; omega
theorem S_top (k : Nat) : S T B N k T.n = T.ld k := by
  unfold S
  rw [List.drop_eq_nil_of_le (by simp)]; simp
variable {T}
theorem S_own (ok : T.Ok) {k : Nat} : ∀ {m : Nat}, 1 ≤ m → m ≤ k + 1 → k < T.n → S T B N k m = L T B N k := by
  have key : ∀ j m, m + j = k + 1 → 1 ≤ m → k < T.n → S T B N k m = L T B N k := by
    intro j
    induction j with
    | zero => intro m h1 _ _; rw [L_eq, show k + 1 = m by omega]; rfl
    | succ j ih =>
      intro m h1 h2 h3
      rw [S_step T B N (by omega), ih (m + 1) (by omega) (by omega) h3]
      have := ok.par m h2 (by omega)
      unfold con
      rw [if_neg (by omega)]; omega
  intro m h1 h2 h3
  exact key (k + 1 - m) m (by omega) h1 h3
variable (T)
/-- the delay over the wire of k -/
def own (k : Nat) : Int := if k ∈ N then T.wr k * B.c + B.d + B.r * L T B N k else T.wr k * L T B N k
def DF : Nat → Nat → Int
  | 0, _ => 0
  | d + 1, k => if k = 0 then 0 else (if k ∈ N then DF d (T.par k) + T.wr k * B.c + B.d + B.r * L T B N k else DF d (T.par k) + T.wr k * L T B N k)
def D (k : Nat) : Int := DF T B N T.n k
variable {T}
theorem DF_eq (ok : T.Ok) : ∀ (d d' k : Nat), k ≤ d → k ≤ d' → k < T.n → DF T B N d k = DF T B N d' k
  | 0, 0, _, _, _, _ => rfl
  | 0, d' + 1, k, h, _, _ => by
    rw [DF, DF, if_pos (by omega)]
  | d + 1, 0, k, _, h, _ => by
    rw [DF, DF, if_pos (by omega)]
  | d + 1, d' + 1, k, h, h', hn => by
    rw [DF, DF]
    by_cases c : k = 0
    · rw [if_pos c, if_pos c]
    · rw [if_neg c, if_neg c]
      have := ok.par k (by omega) hn
      rw [DF_eq ok d d' (T.par k) (by omega) (by omega) (by omega)]
theorem D_zero (ok : T.Ok) : D T B N 0 = 0 := by
  unfold D
  rw [DF_eq B N ok T.n 0 0 (by omega) (by omega) ok.pos]; rfl
theorem D_eq (ok : T.Ok) {k : Nat} (h : 1 ≤ k) (hn : k < T.n) : D T B N k = if k ∈ N then D T B N (T.par k) + T.wr k * B.c + B.d + B.r * L T B N k else D T B N (T.par k) + T.wr k * L T B N k := by
  unfold D
  have := ok.par k h hn
  rw [DF_eq B N ok T.n (T.n + 1) k (by omega) (by omega) hn, DF, if_neg (by omega)]
end
/-! without buffers the buffer is nought -/
theorem LF_none (T : Tr) (B B' : Bu) : ∀ d k, LF T B [] d k = LF T B' [] d k
  | 0, _ => rfl
  | d + 1, k => by
    rw [LF, LF]
    congr 2
    refine List.map_congr_left fun m hm => ?_
    rw [LF_none T B B' d m]; simp
theorem DF_none (T : Tr) (B B' : Bu) : ∀ d k, DF T B [] d k = DF T B' [] d k
  | 0, _ => rfl
  | d + 1, k => by
    rw [DF, DF, DF_none T B B' d (T.par k), show L T B [] k = L T B' [] k from LF_none T B B' _ _]; simp
/-! all above a node -/
def AF (T : Tr) : Nat → Nat → List Nat
  | 0, _ => []
  | d + 1, k => if k = 0 then [] else k :: AF T d (T.par k)
theorem AF_eq {T : Tr} (ok : T.Ok) : ∀ (d d' k : Nat), k ≤ d → k ≤ d' → k < T.n → AF T d k = AF T d' k
  | 0, 0, _, _, _, _ => rfl
  | 0, d' + 1, k, h, _, _ => by rw [AF, AF, if_pos (by omega)]
  | d + 1, 0, k, _, h, _ => by rw [AF, AF, if_pos (by omega)]
  | d + 1, d' + 1, k, h, h', hn => by
    rw [AF, AF]
    by_cases c : k = 0
    · rw [if_pos c, if_pos c]
    · rw [if_neg c, if_neg c]
      have := ok.par k (by omega) hn
      rw [AF_eq ok d d' (T.par k) (by omega) (by omega) (by omega)]
def Ab (T : Tr) (k : Nat) : List Nat := AF T T.n k
theorem Ab_zero {T : Tr} (ok : T.Ok) : Ab T 0 = [] := by
  unfold Ab; rw [AF_eq ok T.n 0 0 (by omega) (by omega) ok.pos]; rfl
theorem Ab_eq {T : Tr} (ok : T.Ok) {k : Nat} (h : 1 ≤ k) (hn : k < T.n) : Ab T k = k :: Ab T (T.par k) := by
  unfold Ab
  have := ok.par k h hn
  rw [AF_eq ok T.n (T.n + 1) k (by omega) (by omega) hn, AF, if_neg (by omega)]
theorem Ab_len {T : Tr} (ok : T.Ok) : ∀ k, k < T.n → (Ab T k).length ≤ k := by
  intro k
  induction k using Nat.strongRecOn with
  | _ k ih =>
    intro hn
    by_cases c : k = 0
    · subst c; rw [Ab_zero ok]; simp
    · rw [Ab_eq ok (by omega) hn, List.length_cons]
      have := ok.par k (by omega) hn
      have := ih (T.par k) this (by omega)
      omega
/-! another load behind a buffer -/
def Tr.more (T : Tr) (k : Nat) (l : Int) : Tr := { T with ld := fun j => if j = k then l else T.ld j }
theorem LF_more (T : Tr) (B : Bu) (k : Nat) (l : Int) : ∀ d j, j ≠ k → LF (T.more k l) B [k] d j = LF T B [k] d j
  | 0, j, h => by rw [LF, LF]; show (if j = k then l else T.ld j) = _; rw [if_neg h]
  | d + 1, j, h => by
    rw [LF, LF]
    have e : (T.more k l).ld j = T.ld j := by show (if j = k then l else T.ld j) = _; rw [if_neg h]
    rw [e]
    congr 2
    refine List.map_congr_left fun m hm => ?_
    by_cases c : m = k
    · subst c; simp [Tr.more]
    · rw [LF_more T B k l d m c]; rfl
theorem D_more {T : Tr} (ok : T.Ok) (B : Bu) {k : Nat} (l : Int) (ok' : (T.more k l).Ok) : ∀ j, j < T.n → k ∉ Ab T j → D (T.more k l) B [k] j = D T B [k] j := by
  intro j
  induction j using Nat.strongRecOn with
  | _ j ih =>
    intro hn hk
    by_cases c : j = 0
    · subst c; rw [D_zero B [k] ok, D_zero B [k] ok']
    · rw [Ab_eq ok (by omega) hn, List.mem_cons, not_or] at hk
      have := ok.par j (by omega) hn
      have i := ih (T.par j) this (by omega) hk.2
      rw [D_eq B [k] ok (by omega) hn, D_eq B [k] ok' (by omega) hn]
      have e : L (T.more k l) B [k] j = L T B [k] j := LF_more T B k l _ j (fun e => hk.1 e.symm)
      have f : (T.more k l).par j = T.par j := rfl
      have g : (T.more k l).wr j = T.wr j := rfl
      rw [e, f, g, i]
/-! readings -/
theorem node_at {T : Tr} {k : Nat} (h : k < T.n) : idxop (.d (tv T)) (.d (.int (k : Int))) = .ok (.d (nodeP T k)) := by
  refine ix_tup (by omega) ?_
  rw [Int.toNat_natCast, List.getElem?_map, List.getElem?_range h]; rfl
theorem tv_len (T : Tr) : f1op .len (.d (tv T)) = .ok (.d (.int (T.n : Int))) := by simp [tv]
theorem node0 {T : Tr} {k : Nat} (h : 1 ≤ k) : idxop (.d (nodeP T k)) (.d (.int 0)) = .ok (.d (.int (T.par k : Int))) := by
  unfold nodeP; rw [if_neg (by omega)]; rfl
theorem node1 (T : Tr) (k : Nat) : idxop (.d (nodeP T k)) (.d (.int 1)) = .ok (.d (.int (T.wr k))) := rfl
theorem node2 (T : Tr) (k : Nat) : idxop (.d (nodeP T k)) (.d (.int 2)) = .ok (.d (.int (T.ld k))) := rfl
theorem node00 (T : Tr) : idxop (.d (nodeP T 0)) (.d (.int 0)) = .ok (.d .non) := rfl
theorem bv0 (B : Bu) : idxop (.d (bv B)) (.d (.int 0)) = .ok (.d (.int B.r)) := rfl
theorem bv1 (B : Bu) : idxop (.d (bv B)) (.d (.int 1)) = .ok (.d (.int B.c)) := rfl
theorem bv2 (B : Bu) : idxop (.d (bv B)) (.d (.int 2)) = .ok (.d (.int B.d)) := rfl
/-- numbers of nodes -/
def tn (N : List Nat) : PV := ti (N.map fun k : Nat => (k : Int))
theorem in_tn (k : Nat) (N : List Nat) : cmpop .isin (.d (.int (k : Int))) (.d (tn N)) = .ok (decide (k ∈ N)) := by
  unfold tn
  rw [in_ti]
  congr 1
  rw [decide_eq_decide, List.mem_map]
  constructor
  · rintro ⟨m, hm, e⟩
    rw [← Int.ofNat.inj e]; exact hm
  · exact fun h => ⟨k, h, rfl⟩
end K56
end

section
set_option autoImplicit false
set_option linter.all false
set_option maxRecDepth 100000
namespace K56
open Bw
theorem whole_ev (i a b : Int) : f_is_whole [.d (.int i), .d (.int a), .d (.int b)] = .ok (.d (.bl (decide (a ≤ i) && decide (i ≤ b)))) := by
  by_cases h : a ≤ i <;> simp [f_is_whole, c_is_whole, fn, runs, run, ev, isaop, isaP, h]
/-- what is no whole number within bounds -/
theorem whole_no {p : PV} (h : isaP p .int = false ∨ isaP p .bool = true) (a b : Int) : f_is_whole [.d p, .d (.int a), .d (.int b)] = .ok (.d (.bl false)) := by
  cases p <;> first | (simp [isaP] at h; done) | simp [f_is_whole, c_is_whole, fn, runs, run, ev, isaop, isaP]
theorem is_node_ev {T : Tr} (ok : T.Ok) {k : Nat} (h : k < T.n) : f__is_node [.d (.int (k : Int)), .d (nodeP T k)] = .ok (.d (.bl true)) := by
  have g0 : g__is_node.fns[0]? = some f_is_whole := rfl
  have c0 : g__is_node.cons[0]? = some (.d (.int 1000)) := rfl
  have := ok.wr k h
  have := ok.ld k h
  by_cases c : k = 0
  · subst c
    have := ok.wr0
    have w1 := whole_ev (T.ld 0) 0 1000
    have w2 := whole_ev (T.wr 0) 0 0
    rw [decide_eq_true (show (0 : Int) ≤ T.ld 0 by omega), decide_eq_true (show T.ld 0 ≤ 1000 by omega)] at w1
    rw [decide_eq_true (show (0 : Int) ≤ T.wr 0 by omega), decide_eq_true (show T.wr 0 ≤ 0 by omega)] at w2
    simp [f__is_node, c__is_node, fn, runs, run, ev, evL, isaop, isaP, nodeP, g0, c0, w1, w2, ix_t0, ix_t1, ix_t2, isNon]
  · have p := ok.par k (by omega) h
    have w1 := whole_ev (T.ld k) 0 1000
    have w2 := whole_ev (T.wr k) 0 1000
    have w3 := whole_ev (T.par k : Nat) 0 ((k : Int) - 1)
    rw [decide_eq_true (show (0 : Int) ≤ T.ld k by omega), decide_eq_true (show T.ld k ≤ 1000 by omega)] at w1
    rw [decide_eq_true (show (0 : Int) ≤ T.wr k by omega), decide_eq_true (show T.wr k ≤ 1000 by omega)] at w2
    rw [decide_eq_true (show (0 : Int) ≤ (T.par k : Nat) by omega), decide_eq_true (show ((T.par k : Nat) : Int) ≤ (k : Int) - 1 by omega)] at w3
    have k0 : ¬ ((k : Int) = 0) := by omega
    simp [f__is_node, c__is_node, fn, runs, run, ev, evL, isaop, isaP, nodeP, g0, c0, w1, w2, w3, ix_t0, ix_t1, ix_t2, c, k0]
theorem is_tree_ev {T : Tr} (ok : T.Ok) : f_is_tree [.d (tv T)] = .ok (.d (.bl true)) := by
  have g0 : g_is_tree.fns[0]? = some f__is_node := rfl
  have c0 : g_is_tree.cons[0]? = some (.d (.int 9)) := rfl
  have h1 := ok.pos
  have h9 := ok.few
  have l1 : (1 : Int) ≤ (T.n : Int) := by omega
  have l9 : (T.n : Int) ≤ 9 := by omega
  have lc : ev g_is_tree (.lc (.tup [(.name 1), (.name 2)]) (.enum (.var 0)) [] (.call 0 [(.var 1), (.var 2)])) [.sh (.d (tv T)), .no, .no] = .ok (.d (.lst ((List.range T.n).map fun _ => PV.bl true))) := by
    have li1 : evI g_is_tree (.enum (.var 0)) [.sh (.d (tv T)), .no, .no] = .ok (((List.range T.n).zipIdx).map fun p => PV.tup [.int (0 + (p.2 : Int)), nodeP T p.1]) := by
      simp only [evI, ev, tv, List.getElem?_cons_zero, rdSh_sh, Res.bind_ok, seq_tup]
      rw [enum_map]
    rw [ev, li1, Res.bind_ok, mapR_comp, mapR_map (g := fun _ => PV.bl true) (fun p hp => by
      have q := List.mem_zipIdx' hp
      have e : p.1 = p.2 := by rw [q.2]; simp
      have lt : p.1 < T.n := by rw [e]; simpa using q.1
      have w := is_node_ev ok lt
      rw [← e, Int.zero_add]
      simp [bindT, bindTs, evC, ev, evL, g0, w])]
    simp [List.map_const']
  have al : f1op .all (.d (.lst ((List.range T.n).map fun _ => PV.bl true))) = .ok (.d (.bl true)) := by
    rw [f_all (fun _ => true)]; simp
  have it : isaop (.d (tv T)) .tuple = .ok true := rfl
  have tl := tv_len T
  unfold f_is_tree c_is_tree
  generalize CE.lc (.tup [(.name 1), (.name 2)]) (.enum (.var 0)) [] (.call 0 [(.var 1), (.var 2)]) = C at lc ⊢
  simp [fn, runs, run, ev, evL, it, tl, c0, l1, l9, lc, al]
theorem check_tree_ev {T : Tr} (ok : T.Ok) : f_check_tree [.d (tv T)] = .ok (.d .non) := by
  have g0 : g_check_tree.fns[0]? = some f_is_tree := rfl
  have w := is_tree_ev ok
  simp [f_check_tree, c_check_tree, fn, runs, run, ev, evL, g0, w]
theorem whole_all (G : Ctx) (Γ : Gm) (ps : List PV) (k j : Nat) (a b : CE) (lo hi : Int) (it : CE) (hk : G.fns[k]? = some f_is_whole) (hi0 : evI G (.seq it) Γ = .ok ps) (hj : j < Γ.length) (ha : ∀ p : PV, ev G a (Γ.set j (.sh (.d p))) = .ok (.d (.int lo))) (hb : ∀ p : PV, ev G b (Γ.set j (.sh (.d p))) = .ok (.d (.int hi)))
    (w : PV → Bool) (hw : ∀ p ∈ ps, f_is_whole [.d p, .d (.int lo), .d (.int hi)] = .ok (.d (.bl (w p)))) : ev G (.f1 .all (.lc (.name j) (.seq it) [] (.call k [.var j, a, b]))) Γ = .ok (.d (.bl (ps.all w))) := by
  have e : ev G (.lc (.name j) (.seq it) [] (.call k [.var j, a, b])) Γ = .ok (.d (.lst (ps.map fun p => PV.bl (w p)))) := by
    rw [ev, hi0, Res.bind_ok, mapR_map (g := fun p => PV.bl (w p)) (fun p hp => by
      have h1 := hw p hp
      have h2 := ha p
      have h3 := hb p
      have h4 : (Γ.set j (.sh (.d p)))[j]? = some (.sh (.d p)) := List.getElem?_set_self hj
      simp [bindT, evC, ev, evL, hk, h1, h2, h3, h4])]
    rfl
  rw [ev, e, Res.bind_ok, f_all]
def isW (lo hi : Int) : PV → Bool
  | .int i => decide (lo ≤ i) && decide (i ≤ hi)
  | _ => false
theorem isW_ev (p : PV) (lo hi : Int) : f_is_whole [.d p, .d (.int lo), .d (.int hi)] = .ok (.d (.bl (isW lo hi p))) := by
  cases p with
  | int i => exact whole_ev i lo hi
  | bl b => exact whole_no (.inr rfl) lo hi
  | non => exact whole_no (.inl rfl) lo hi
  | str s => exact whole_no (.inl rfl) lo hi
  | tup s => exact whole_no (.inl rfl) lo hi
  | lst s => exact whole_no (.inl rfl) lo hi
end K56
end

section
set_option autoImplicit false
set_option linter.all false
set_option maxRecDepth 100000
namespace K56
open Bw
/-- numbers that are told as floats of a function -/
def lf (n : Nat) (f : Nat → Int) : PV := .lst ((List.range n).map fun k => PV.int (f k))
theorem lf_at {n : Nat} {f : Nat → Int} {k : Nat} (h : k < n) : idxop (.d (lf n f)) (.d (.int (k : Int))) = .ok (.d (.int (f k))) := by
  have e : atP ((List.range n).map fun k => PV.int (f k)) (k : Int) = some (.int (f k)) := by
    rw [ix_pos (by omega) (by simpa using h), Int.toNat_natCast, List.getElem?_map, List.getElem?_range h]; rfl
  show (match atP ((List.range n).map fun k => PV.int (f k)) (k : Int) with
    | some p => Res.ok (SV.d p)
    | none => .bad) = _
  rw [e]
theorem lf_set {n : Nat} (f : Nat → Int) (k : Nat) (x : Int) : ((List.range n).map fun j => PV.int (f j)).set k (.int x) = (List.range n).map fun j => PV.int (if j = k then x else f j) := by
  refine List.ext_getElem? fun i => ?_
  rw [List.getElem?_set]
  by_cases c : i < n
  · by_cases e : k = i
    · subst e; simp [c]
    · rw [if_neg e]; simp [c, Ne.symm e]
  · by_cases e : k = i
    · subst e; simp [c]
    · rw [if_neg e, List.getElem?_eq_none (by simpa using c), List.getElem?_eq_none (by simpa using c)]
theorem lf_congr {n : Nat} {f g : Nat → Int} (h : ∀ k, k < n → f k = g k) : lf n f = lf n g := by
  unfold lf
  rw [List.map_congr_left fun k hk => by rw [h k (List.mem_range.mp hk)]]
/-- the bounds -/
theorem con_bd (B : Bu) : True := trivial
theorem S_small {T : Tr} (B : Bu) (N : List Nat) : True := trivial
def Lo (T : Tr) (B : Bu) (N : List Nat) (F : Nat → Int) (b4 b5 : Bx) : Gm := [.sh (.d (tv T)), .sh (.d (bv B)), .sh (.d (tn N)), .ow (.d (lf T.n F)), b4, b5]
theorem loads_ev {T : Tr} (ok : T.Ok) (B : Bu) (N : List Nat) : f__loads [.d (tv T), .d (bv B), .d (tn N)] = .ok (.d (lf T.n (L T B N))) := by
  have h1 := ok.pos
  have h9 := ok.few
  have lc : ev g__loads (.lc (.name 5) (.seq (.var 0)) [] (.idx (.var 5) (.int 2))) [.sh (.d (tv T)), .sh (.d (bv B)), .sh (.d (tn N)), .no, .no, .no] = .ok (.d (lf T.n T.ld)) := by
    have li1 : evI g__loads (.seq (.var 0)) [.sh (.d (tv T)), .sh (.d (bv B)), .sh (.d (tn N)), .no, .no, .no] = .ok ((List.range T.n).map (nodeP T)) := rfl
    rw [ev, li1, Res.bind_ok, mapR_comp, mapR_map (g := fun k => PV.int (T.ld k)) (fun k hk => by
      have := node2 T k
      simp [bindT, evC, ev, this])]
    rfl
  have li : evI g__loads (.rng3 (.bin .sub (.f1 .len (.var 0)) (.int 1)) (.int 0) (-1)) (Lo T B N T.ld .no .no) = .ok ((List.range (T.n - 1)).map fun i : Nat => PV.int ((T.n : Int) - 1 + (i : Int) * -1)) := by
    have tl := tv_len T
    have rn : rangeN ((T.n : Int) - 1) 0 (-1) = T.n - 1 := by
      unfold rangeN
      rw [if_neg (by decide), if_pos (by decide)]
      have : ((T.n : Int) - 1 - 0 - -1 - 1) / (- -1) = (T.n : Int) - 1 := by
        rw [show (- -1 : Int) = 1 from rfl, Int.ediv_one]; omega
      rw [this]; omega
    have rg : rng? ((T.n : Int) - 1) 0 (-1) = .ok (rangeP ((T.n : Int) - 1) (-1) (T.n - 1)) := by
      unfold rng? big
      rw [rn, decide_eq_true (show ((T.n : Int) - 1).natAbs < 2 ^ 62 by omega), decide_eq_true (show (0 : Int).natAbs < 2 ^ 62 by decide), decide_eq_true (show (-1 : Int).natAbs < 1073741824 by decide), decide_eq_true (show (-1 : Int) ≠ 0 by decide), decide_eq_true (show T.n - 1 ≤ line by unfold line; omega)]
      rfl
    simp [Lo, evI, ev, tl, rg, range_mapS]
  obtain ⟨Γ', ef, b4, e⟩ := forR_inv (f := fun x Γ => oout (bindT (.name 4) x Γ) fun Γ' => runs g__loads [(.augs 3 .add (.idx (.idx (.var 0) (.var 4)) (.int 0)) (.ife (.cmp .isin (.var 4) (.var 2)) (.idx (.var 1) (.int 1)) (.idx (.own 3) (.var 4))))] Γ')
    (xs := (List.range (T.n - 1)).map fun i : Nat => PV.int ((T.n : Int) - 1 + (i : Int) * -1)) (Γ := Lo T B N T.ld .no .no)
    (fun i Γ => ∃ b4, Γ = Lo T B N (fun k => S T B N k (T.n - i)) b4 .no) ⟨.no, by
      unfold Lo
      rw [show lf T.n (fun k => S T B N k (T.n - 0)) = lf T.n T.ld from lf_congr fun k _ => by rw [Nat.sub_zero, S_top]]⟩ (by
    rintro i x Γ hx ⟨b4, rfl⟩
    have hi : i < T.n - 1 := by simpa using (List.getElem?_eq_some_iff.mp hx).1
    rw [List.getElem?_map, List.getElem?_range hi] at hx
    obtain ⟨m, hm⟩ : ∃ m, m = T.n - 1 - i := ⟨_, rfl⟩
    have ex : ((T.n : Int) - 1 + (i : Int) * -1) = (m : Int) := by omega
    have hx : PV.int ((T.n : Int) - 1 + (i : Int) * -1) = x := by simpa using hx
    rw [ex] at hx
    subst hx
    have m1 : 1 ≤ m := by omega
    have mn : m < T.n := by omega
    have e1 := node_at (T := T) mn
    have e2 := node0 (T := T) m1
    have pl := ok.par m m1 mn
    have e3 := in_tn m N
    have e4 := bv1 B
    have e5 := lf_at (n := T.n) (f := fun k => S T B N k (T.n - i)) mn
    have e6 : S T B N m (T.n - i) = L T B N m := S_own B N ok (by omega) (by omega) mn
    refine ⟨Lo T B N (fun k => S T B N k (T.n - (i + 1))) (.sh (.d (.int (m : Int)))) .no, .inl ?_, _, rfl⟩
    have at1 : ∀ k : PV → Out, atR ((List.range T.n).map fun k => PV.int (S T B N k (T.n - i))) (.d (.int ((T.par m : Nat) : Int))) k = k (.int (S T B N (T.par m) (T.n - i))) := fun k => by
      exact atR_nat (by rw [List.getElem?_map, List.getElem?_range (by omega)]; rfl) k
    have st : ∀ w : Int, stoR (Lo T B N (fun k => S T B N k (T.n - i)) (.sh (.d (.int (m : Int)))) .no) 3 ((List.range T.n).map fun k => PV.int (S T B N k (T.n - i))) (.d (.int ((T.par m : Nat) : Int))) (.d (.int w)) = .nx (Lo T B N (fun j => if j = T.par m then w else S T B N j (T.n - i)) (.sh (.d (.int (m : Int)))) .no) := fun w => by
      rw [stoR_nat (by rw [List.length_map, List.length_range]; omega)]
      show Out.nx ((Lo T B N _ _ _).set 3 (.ow (.d (.lst (((List.range T.n).map fun k => PV.int (S T B N k (T.n - i))).set (T.par m) (.int w)))))) = _
      rw [lf_set]; rfl
    have fin : ∀ w, w = S T B N (T.par m) (T.n - i) + con T B N (T.par m) m → lf T.n (fun j => if j = T.par m then w else S T B N j (T.n - i)) = lf T.n (fun k => S T B N k (T.n - (i + 1))) := fun w hw => lf_congr fun k _ => by
      have es : S T B N k (T.n - (i + 1)) = S T B N k (T.n - i) + con T B N k m := by
        have := S_step T B N (k := k) (m := m) mn
        rw [show m + 1 = T.n - i by omega] at this
        rw [show T.n - (i + 1) = m by omega]; exact this
      by_cases c : k = T.par m
      · subst c; rw [if_pos rfl, hw, es]
      · rw [if_neg c, es]
        unfold con; rw [if_neg (Ne.symm c)]; omega
    have ec : ev g__loads (.ife (.cmp .isin (.var 4) (.var 2)) (.idx (.var 1) (.int 1)) (.idx (.own 3) (.var 4))) (Lo T B N (fun k => S T B N k (T.n - i)) (.sh (.d (.int (m : Int)))) .no) = .ok (.d (.int (con T B N (T.par m) m))) := by
      unfold con
      rw [if_pos rfl]
      by_cases c : m ∈ N
      · simp [Lo, ev, e3, c, e4]
      · rw [e6] at e5
        simp [Lo, ev, e3, c, e5]
    have ek : ev g__loads (.idx (.idx (.var 0) (.var 4)) (.int 0)) (Lo T B N (fun k => S T B N k (T.n - i)) (.sh (.d (.int (m : Int)))) .no) = .ok (.d (.int ((T.par m : Nat) : Int))) := by
      simp [Lo, ev, e1, e2]
    show (run g__loads (.augs 3 .add (.idx (.idx (.var 0) (.var 4)) (.int 0)) (.ife (.cmp .isin (.var 4) (.var 2)) (.idx (.var 1) (.int 1)) (.idx (.own 3) (.var 4)))) (Lo T B N (fun k => S T B N k (T.n - i)) (.sh (.d (.int (m : Int)))) .no)).next _ = _
    rw [run]
    show (owL (some (.ow (.d (.lst ((List.range T.n).map fun k => PV.int (S T B N k (T.n - i))))))) _).next _ = _
    rw [owL_ow, ek, Res.out_ok, at1, ec, Res.out_ok]
    show ((Res.ok (SV.d (.int (S T B N (T.par m) (T.n - i) + con T B N (T.par m) m)))).out _ _).next _ = _
    rw [Res.out_ok, st]
    show runs g__loads [] _ = _
    rw [runs]
    unfold Lo
    rw [fin _ rfl])
  have hlen : ((List.range (T.n - 1)).map fun i : Nat => PV.int ((T.n : Int) - 1 + (i : Int) * -1)).length = T.n - 1 := by simp
  rw [hlen] at e
  have e7 : lf T.n (fun k => S T B N k (T.n - (T.n - 1))) = lf T.n (L T B N) := lf_congr fun k hk => S_own B N ok (by omega) (by omega) hk
  unfold Lo at e
  rw [e7] at e
  subst e
  unfold f__loads c__loads
  generalize CE.lc (.name 5) (.seq (.var 0)) [] (.idx (.var 5) (.int 2)) = C at lc ⊢
  show (runs g__loads [.own 3 C, _, _, _] [.sh (.d (tv T)), .sh (.d (bv B)), .sh (.d (tn N)), .no, .no, .no]).fin = _
  rw [runs, run, lc, Res.out_ok, Out.next_nx, runs, run]
  have li' : evI g__loads (.rng3 (.bin .sub (.f1 .len (.var 0)) (.int 1)) (.int 0) (-1)) ([.sh (.d (tv T)), .sh (.d (bv B)), .sh (.d (tn N)), .no, .no, .no].set 3 (.ow (.d (lf T.n T.ld)))) = _ := li
  rw [li', Res.out_ok]
  have ef' : forR (fun x Γ => oout (bindT (.name 4) x Γ) fun Γ' => runs g__loads [(.augs 3 .add (.idx (.idx (.var 0) (.var 4)) (.int 0)) (.ife (.cmp .isin (.var 4) (.var 2)) (.idx (.var 1) (.int 1)) (.idx (.own 3) (.var 4))))] Γ') _ ([.sh (.d (tv T)), .sh (.d (bv B)), .sh (.d (tn N)), .no, .no, .no].set 3 (.ow (.d (lf T.n T.ld)))) = _ := ef
  rw [ef', Out.next_nx]
  rfl
end K56
end

section
set_option autoImplicit false
set_option linter.all false
set_option maxRecDepth 100000
namespace K56
open Bw
theorem lf_snoc (n : Nat) (f : Nat → Int) : (List.range n).map (fun k => PV.int (f k)) ++ [PV.int (f n)] = (List.range (n + 1)).map fun k => PV.int (f k) := by
  rw [List.range_succ, List.map_append]; rfl
theorem rng1_is {n : Nat} (h : n ≤ 100) : rng? 1 (n : Int) 1 = .ok ((List.range (n - 1)).map fun (j : Nat) => PV.int (1 + (j : Int))) := rng1N (by omega)
theorem t3 (p : PV) (a b : Int) (Γ : Gm) (i j k : Nat) : bindT (.tup [.name i, .name j, .name k]) (.tup [p, .int a, .int b]) Γ = some (((Γ.set i (.sh (.d p))).set j (.sh (.d (.int a)))).set k (.sh (.d (.int b)))) := rfl
theorem mul_ok {i j : Int} (h : 0 ≤ i ∧ i ≤ 1000) : binop .mul (.d (.int i)) (.d (.int j)) = .ok (.d (.int (i * j))) := b_mul (.inl (by omega))
def De (T : Tr) (B : Bu) (N : List Nat) (m : Nat) (b5 b6 b7 b8 : Bx) : Gm := [.sh (.d (tv T)), .sh (.d (bv B)), .sh (.d (tn N)), .sh (.d (lf T.n (L T B N))), .ow (.d (lf m (D T B N))), b5, b6, b7, b8]
def deB : List CS := [(.set (.tup [(.name 6), (.name 7), (.name 8)]) (.idx (.var 0) (.var 5))), (.ife (.cmp .isin (.var 5) (.var 2)) [(.app 4 (.bin .add (.bin .add (.bin .add (.idx (.own 4) (.var 6)) (.bin .mul (.var 7) (.idx (.var 1) (.int 1)))) (.idx (.var 1) (.int 2))) (.bin .mul (.idx (.var 1) (.int 0)) (.idx (.var 3) (.var 5)))))] [(.app 4 (.bin .add (.idx (.own 4) (.var 6)) (.bin .mul (.var 7) (.idx (.var 3) (.var 5)))))])]
theorem de_step {T : Tr} (ok : T.Ok) {B : Bu} (bo : B.Ok) (N : List Nat) {m : Nat} (m1 : 1 ≤ m) (mn : m < T.n) (b6 b7 b8 : Bx) :
    ∃ c6 c7 c8, runs g_delays_of deB (De T B N m (.sh (.d (.int (m : Int)))) b6 b7 b8) = .nx (De T B N (m + 1) (.sh (.d (.int (m : Int)))) c6 c7 c8) := by
  have e1 := node_at (T := T) mn
  have e2 : nodeP T m = .tup [.int (T.par m : Nat), .int (T.wr m), .int (T.ld m)] := by unfold nodeP; rw [if_neg (by omega)]
  have pl := ok.par m m1 mn
  have e3 := in_tn m N
  have e4 := lf_at (n := m) (f := D T B N) pl
  have e5 := lf_at (n := T.n) (f := L T B N) mn
  have w := ok.wr m mn
  have mu1 := mul_ok (j := B.c) w
  have mu2 := mul_ok (j := L T B N m) w
  have mu3 := mul_ok (j := L T B N m) bo.r
  have d1 := D_eq B N ok m1 mn
  have ll : ¬ (line ≤ m) := by have := ok.few; unfold line; omega
  have ap : ∀ x : Int, x = D T B N m → ∀ b5 b6 b7 b8 : Bx, appR [.sh (.d (tv T)), .sh (.d (bv B)), .sh (.d (tn N)), .sh (.d (lf T.n (L T B N))), .ow (.d (lf m (D T B N))), b5, b6, b7, b8] 4 ((List.range m).map fun k => PV.int (D T B N k)) (.d (.int x)) = .nx (De T B N (m + 1) b5 b6 b7 b8) := fun x hx b5 b6 b7 b8 => by
    subst hx
    rw [appR_d (by rw [List.length_map, List.length_range]; omega), lf_snoc]; rfl
  refine ⟨.sh (.d (.int (T.par m : Nat))), .sh (.d (.int (T.wr m))), .sh (.d (.int (T.ld m))), ?_⟩
  have st : runs g_delays_of [(.set (.tup [(.name 6), (.name 7), (.name 8)]) (.idx (.var 0) (.var 5)))] (De T B N m (.sh (.d (.int (m : Int)))) b6 b7 b8) = .nx (De T B N m (.sh (.d (.int (m : Int)))) (.sh (.d (.int (T.par m : Nat)))) (.sh (.d (.int (T.wr m)))) (.sh (.d (.int (T.ld m))))) := by
    simp [De, runs, run, ev, e1, e2, t3]
  show (runs g_delays_of ([_] ++ [_]) _) = _
  rw [runs_append, st, Out.next_nx]
  by_cases c : m ∈ N
  · rw [if_pos c] at d1
    have ap := ap _ d1.symm
    have h0 : ev g_delays_of (.bin .add (.bin .add (.bin .add (.idx (.own 4) (.var 6)) (.bin .mul (.var 7) (.idx (.var 1) (.int 1)))) (.idx (.var 1) (.int 2))) (.bin .mul (.idx (.var 1) (.int 0)) (.idx (.var 3) (.var 5)))) (De T B N m (.sh (.d (.int (m : Int)))) (.sh (.d (.int (T.par m : Nat)))) (.sh (.d (.int (T.wr m)))) (.sh (.d (.int (T.ld m))))) = .ok (.d (.int (D T B N (T.par m) + T.wr m * B.c + B.d + B.r * L T B N m))) := by
      simp [De, ev, e4, e5, bv0, bv1, bv2, mu1, mu3]
    have hc : ev g_delays_of (.cmp .isin (.var 5) (.var 2)) (De T B N m (.sh (.d (.int (m : Int)))) (.sh (.d (.int (T.par m : Nat)))) (.sh (.d (.int (T.wr m)))) (.sh (.d (.int (T.ld m))))) = .ok (.d (.bl true)) := by
      simp [De, ev, e3, c]
    rw [runs, run, hc, Res.out_ok, isBl_bl, Res.out_ok, if_pos rfl, runs, run]
    show ((owL (some (.ow (.d (lf m (D T B N))))) _).next _).next _ = _
    unfold lf
    rw [owL_ow, h0, Res.out_ok]
    have := ap (.sh (.d (.int (m : Int)))) (.sh (.d (.int (T.par m : Nat)))) (.sh (.d (.int (T.wr m)))) (.sh (.d (.int (T.ld m))))
    unfold De lf at *
    rw [this]; rfl
  · rw [if_neg c] at d1
    have ap := ap _ d1.symm
    have h0 : ev g_delays_of (.bin .add (.idx (.own 4) (.var 6)) (.bin .mul (.var 7) (.idx (.var 3) (.var 5)))) (De T B N m (.sh (.d (.int (m : Int)))) (.sh (.d (.int (T.par m : Nat)))) (.sh (.d (.int (T.wr m)))) (.sh (.d (.int (T.ld m))))) = .ok (.d (.int (D T B N (T.par m) + T.wr m * L T B N m))) := by
      simp [De, ev, e4, e5, mu2]
    have hc : ev g_delays_of (.cmp .isin (.var 5) (.var 2)) (De T B N m (.sh (.d (.int (m : Int)))) (.sh (.d (.int (T.par m : Nat)))) (.sh (.d (.int (T.wr m)))) (.sh (.d (.int (T.ld m))))) = .ok (.d (.bl false)) := by
      simp [De, ev, e3, c]
    rw [runs, run, hc, Res.out_ok, isBl_bl, Res.out_ok, if_neg (by decide), runs, run]
    show ((owL (some (.ow (.d (lf m (D T B N))))) _).next _).next _ = _
    unfold lf
    rw [owL_ow, h0, Res.out_ok]
    have := ap (.sh (.d (.int (m : Int)))) (.sh (.d (.int (T.par m : Nat)))) (.sh (.d (.int (T.wr m)))) (.sh (.d (.int (T.ld m))))
    unfold De lf at *
    rw [this]; rfl
theorem delays_of_ev {T : Tr} (ok : T.Ok) {B : Bu} (bo : B.Ok) (N : List Nat) : f_delays_of [.d (tv T), .d (bv B), .d (tn N)] = .ok (.d (lf T.n (D T B N))) := by
  have h1 := ok.pos
  have h9 := ok.few
  have g0 : g_delays_of.fns[0]? = some f__loads := rfl
  have ls := loads_ev ok B N
  have tl := tv_len T
  have rg := rng1_is (n := T.n) (by omega)
  have li : evI g_delays_of (.rng2 (.int 1) (.f1 .len (.var 0))) (De T B N 1 .no .no .no .no) = .ok ((List.range (T.n - 1)).map fun (j : Nat) => PV.int (1 + (j : Int))) := by
    simp [De, evI, ev, tl, rg]
  obtain ⟨Γ', ef, b5, b6, b7, b8, e⟩ := forR_inv (f := fun x Γ => oout (bindT (.name 5) x Γ) fun Γ' => runs g_delays_of deB Γ') (xs := (List.range (T.n - 1)).map fun (j : Nat) => PV.int (1 + (j : Int))) (Γ := De T B N 1 .no .no .no .no)
    (fun i Γ => ∃ b5 b6 b7 b8, Γ = De T B N (i + 1) b5 b6 b7 b8) ⟨.no, .no, .no, .no, rfl⟩ (by
    rintro i x Γ hx ⟨b5, b6, b7, b8, rfl⟩
    have hi : i < T.n - 1 := by simpa using (List.getElem?_eq_some_iff.mp hx).1
    rw [List.getElem?_map, List.getElem?_range hi] at hx
    have hx : PV.int (1 + (i : Int)) = x := by simpa using hx
    have ei : (1 + (i : Int)) = ((i + 1 : Nat) : Int) := by omega
    rw [ei] at hx
    subst hx
    obtain ⟨c6, c7, c8, st⟩ := de_step ok bo N (m := i + 1) (by omega) (by omega) b6 b7 b8
    exact ⟨_, .inl st, _, _, _, _, rfl⟩)
  rw [List.length_map, List.length_range, show T.n - 1 + 1 = T.n by omega] at e
  subst e
  show (runs g_delays_of [.set (.name 3) (.call 0 [.var 0, .var 1, .var 2]), .own 4 (.lst [.int 0]), .for (.name 5) (.rng2 (.int 1) (.f1 .len (.var 0))) deB, .frz 4, .ret (.var 4)] [.sh (.d (tv T)), .sh (.d (bv B)), .sh (.d (tn N)), .no, .no, .no, .no, .no, .no]).fin = _
  have s1 : runs g_delays_of [.set (.name 3) (.call 0 [.var 0, .var 1, .var 2]), .own 4 (.lst [.int 0])] [.sh (.d (tv T)), .sh (.d (bv B)), .sh (.d (tn N)), .no, .no, .no, .no, .no, .no] = .nx (De T B N 1 .no .no .no .no) := by
    have : lf 1 (D T B N) = .lst [.int 0] := by unfold lf; simp [D_zero B N ok]
    simp [De, runs, run, ev, evL, g0, ls, this]
  show (runs g_delays_of ([_, _] ++ [_, _, _]) _).fin = _
  rw [runs_append, s1, Out.next_nx, runs, run, li, Res.out_ok, ef, Out.next_nx]
  rfl
/-- ascending numbers -/
theorem ascends_ev (l : List Int) : f_ascends [.d (ti l)] = .ok (.d (.bl ((l.zip (l.drop 1)).all fun p => decide (p.1 < p.2)))) := by
  have s1 := sl_ti l (some ((1 : Nat) : Int)) none
  rw [cut_from] at s1
  have s1 : slop (.d (ti l)) (some 1) none = .ok (.d (ti (l.drop 1))) := s1
  have lc : ev g_ascends (.lc (.tup [(.name 1), (.name 2)]) (.zip (.var 0) (.sl (.var 0) (some (.int 1)) none)) [] (.cmp .lt (.var 1) (.var 2))) [.sh (.d (ti l)), .no, .no] = .ok (.d (.lst ((l.zip (l.drop 1)).map fun p => PV.bl (decide (p.1 < p.2))))) := by
    have li1 : evI g_ascends (.zip (.var 0) (.sl (.var 0) (some (.int 1)) none)) [.sh (.d (ti l)), .no, .no] = .ok ((l.zip (l.drop 1)).map fun p => PV.tup [.int p.1, .int p.2]) := by
      simp only [evI, ev, evO, List.getElem?_cons_zero, rdSh_sh, Res.bind_ok, isInt_int, s1]
      show (seqs? (.d (.tup _)) (.d (.tup _))).bind _ = _
      rw [seqs_tup, Res.bind_ok, zip_map]
    rw [ev, li1, Res.bind_ok, mapR_comp, mapR_map (g := fun p : Int × Int => PV.bl (decide (p.1 < p.2))) (fun p _ => by simp [bindT, bindTs, evC, ev])]
    rfl
  unfold f_ascends c_ascends
  generalize CE.lc (.tup [(.name 1), (.name 2)]) (.zip (.var 0) (.sl (.var 0) (some (.int 1)) none)) [] (.cmp .lt (.var 1) (.var 2)) = C at lc ⊢
  have al := f_all (fun p : Int × Int => decide (p.1 < p.2)) (l.zip (l.drop 1))
  simp only [List.drop_one] at al lc ⊢
  simp [fn, runs, run, ev, lc, al]
end K56
end

section
set_option autoImplicit false
set_option linter.all false
set_option maxRecDepth 100000
namespace K56
open Bw
def tf (n : Nat) (f : Nat → Int) : PV := .tup ((List.range n).map fun k => PV.int (f k))
def B0 : Bu := ⟨0, 0, 0⟩
theorem B0_ok : B0.Ok := ⟨by decide, by decide, by decide⟩
theorem delays_ev {T : Tr} (ok : T.Ok) : f_delays [.d (tv T)] = .ok (.d (tf T.n (D T B0 []))) := by
  have g0 : g_delays.fns[0]? = some f_check_tree := rfl
  have g1 : g_delays.fns[1]? = some f_delays_of := rfl
  have ct := check_tree_ev ok
  have dd := delays_of_ev ok B0_ok []
  change f_delays_of [.d (tv T), .d (.tup [.int 0, .int 0, .int 0]), .d (.tup [])] = _ at dd
  simp [f_delays, c_delays, fn, runs, run, ev, evL, g0, g1, ct, dd]; rfl
/-! the law's own reckoning -/
theorem rng_dn {a n : Nat} (h : a ≤ n) (hn : n ≤ 100) : rng? (a : Int) (n : Int) 1 = .ok (((List.range n).drop a).map fun (j : Nat) => PV.int (j : Int)) := by
  rw [rng_ok (by omega) (by omega) (by omega) (by omega)]
  congr 1
  refine List.ext_getElem? fun i => ?_
  rw [List.getElem?_map, List.getElem?_map, List.getElem?_drop]
  by_cases c : a + i < n
  · rw [List.getElem?_range (by omega), List.getElem?_range c]
    show some (PV.int ((a : Int) + (i : Int))) = some (PV.int ((a + i : Nat) : Int))
    congr 2
  · rw [List.getElem?_eq_none (by simp; omega), List.getElem?_eq_none (by simp; omega)]; rfl
theorem loads_below_ev {T : Tr} (ok : T.Ok) : f_loads_below [.d (tv T)] = .ok (.d (tf T.n (L T B0 []))) := by
  have g0 : g_loads_below.fns[0]? = some f_check_tree := rfl
  have g1 : g_loads_below.fns[1]? = some f__loads := rfl
  have ct := check_tree_ev ok
  have dd := loads_ev ok B0 []
  change f__loads [.d (tv T), .d (.tup [.int 0, .int 0, .int 0]), .d (.tup [])] = _ at dd
  simp [f_loads_below, c_loads_below, fn, runs, run, ev, evL, g0, g1, ct, dd]; rfl
end K56
end

section
set_option autoImplicit false
set_option linter.all false
set_option maxRecDepth 100000
namespace K56
open Bw
/-! above, below -/
def ln (l : List Nat) : PV := li (l.map fun k : Nat => (k : Int))
theorem in_ln (k : Nat) (N : List Nat) : cmpop .isin (.d (.int (k : Int))) (.d (ln N)) = .ok (decide (k ∈ N)) ∧ cmpop .notin (.d (.int (k : Int))) (.d (ln N)) = .ok (!decide (k ∈ N)) := by
  have e : decide ((k : Int) ∈ N.map fun k : Nat => (k : Int)) = decide (k ∈ N) := by
    rw [decide_eq_decide, List.mem_map]
    constructor
    · rintro ⟨m, hm, e⟩
      rw [← Int.ofNat.inj e]; exact hm
    · exact fun h => ⟨k, h, rfl⟩
  exact ⟨by unfold ln; rw [in_li, e], by unfold ln; rw [notin_li, e]⟩
theorem above_ev {T : Tr} (ok : T.Ok) {k : Nat} (h : k < T.n) : f__law_above [.d (tv T), .d (.int (k : Int))] = .ok (.d (ln (Ab T k))) := by
  have h9 := ok.few
  have tl := tv_len T
  have rg := rngN (i := T.n) (by omega)
  let Γ := fun (q : PV) (l : List Nat) (b : Bx) => ([.sh (.d (tv T)), .sh (.d q), .ow (.d (ln l)), b] : Gm)
  have li0 : evI g__law_above (.rng1 (.f1 .len (.var 0))) (Γ (.int (k : Int)) [] .no) = .ok ((List.range T.n).map fun (i : Nat) => PV.int (i : Int)) := by
    simp [Γ, evI, ev, tl, rg]
  obtain ⟨Γ', ef, j, l, b, hj, hl, e, rfl⟩ := forR_inv (f := fun x Γ => oout (bindT (.name 3) x Γ) fun Γ' => runs g__law_above [(.ife (.and (.cmp .isnot (.var 1) .non) (.cmp .ne (.var 1) (.int 0))) [(.app 2 (.var 1)), (.set (.name 1) (.idx (.idx (.var 0) (.var 1)) (.int 0)))] [])] Γ')
    (xs := (List.range T.n).map fun (i : Nat) => PV.int (i : Int)) (Γ := Γ (.int (k : Int)) [] .no)
    (fun i Γ' => ∃ (j : Nat) (l : List Nat) (b : Bx), j < T.n ∧ j ≤ k - i ∧ l ++ Ab T j = Ab T k ∧ Γ' = Γ (.int (j : Int)) l b) ⟨k, [], .no, h, by omega, rfl, rfl⟩ (by
    rintro i x Γ1 hx ⟨j, l, b, hj, hk, e, rfl⟩
    have hi : i < T.n := by simpa using (List.getElem?_eq_some_iff.mp hx).1
    rw [List.getElem?_map, List.getElem?_range hi] at hx
    have hx : PV.int (i : Int) = x := by simpa using hx
    subst hx
    by_cases c : j = 0
    · subst c
      refine ⟨Γ (.int ((0 : Nat) : Int)) l (.sh (.d (.int (i : Int)))), .inl ?_, 0, l, _, hj, by omega, e, rfl⟩
      simp [Γ, bindT, runs, run, ev, isNon]
    · have pl := ok.par j (by omega) hj
      have e1 := node_at (T := T) hj
      have e2 := node0 (T := T) (k := j) (by omega)
      have c' : ¬ ((j : Int) = 0) := by omega
      have lb : l.length ≤ k := by
        have q := congrArg List.length e
        rw [List.length_append] at q
        have := Ab_len ok k h
        omega
      have ap : ∀ b, appR ([.sh (.d (tv T)), .sh (.d (.int (j : Int))), .ow (.d (ln l)), b] : Gm) 2 ((l.map fun k : Nat => (k : Int)).map PV.int) (.d (.int (j : Int))) = .nx [.sh (.d (tv T)), .sh (.d (.int (j : Int))), .ow (.d (ln (l ++ [j]))), b] := fun b => by
        rw [appR_d (by rw [List.length_map, List.length_map]; unfold line; omega)]
        unfold ln li
        rw [List.map_append, List.map_append]; rfl
      refine ⟨Γ (.int (T.par j : Int)) (l ++ [j]) (.sh (.d (.int (i : Int)))), .inl ?_, T.par j, l ++ [j], _, by omega, by omega, by rw [List.append_assoc, ← e, Ab_eq ok (by omega) hj]; rfl, rfl⟩
      have hc : ev g__law_above (.and (.cmp .isnot (.var 1) .non) (.cmp .ne (.var 1) (.int 0))) [.sh (.d (tv T)), .sh (.d (.int (j : Int))), .ow (.d (ln l)), .sh (.d (.int (i : Int)))] = .ok (.d (.bl true)) := by simp [ev, isNon, c, c']
      show runs g__law_above [(.ife (.and (.cmp .isnot (.var 1) .non) (.cmp .ne (.var 1) (.int 0))) [(.app 2 (.var 1)), (.set (.name 1) (.idx (.idx (.var 0) (.var 1)) (.int 0)))] [])] [.sh (.d (tv T)), .sh (.d (.int (j : Int))), .ow (.d (ln l)), .sh (.d (.int (i : Int)))] = _
      rw [runs, run, hc, Res.out_ok, isBl_bl, Res.out_ok, if_pos rfl, runs, run]
      show ((owL (some (.ow (.d (.lst ((l.map fun k : Nat => (k : Int)).map PV.int))))) _).next _).next _ = _
      rw [owL_ow]
      show (((appR _ 2 _ (.d (.int (j : Int)))).next _)).next _ = _
      rw [ap, Out.next_nx]
      simp [Γ, runs, run, ev, e1, e2])
  rw [List.length_map, List.length_range] at hl
  obtain rfl : j = 0 := by omega
  rw [Ab_zero ok, List.append_nil] at e
  subst e
  show (runs g__law_above [.own 2 (.lst []), _, .frz 2, .ret (.var 2)] [.sh (.d (tv T)), .sh (.d (.int (k : Int))), .no, .no]).fin = _
  have s1 : run g__law_above (.own 2 (.lst [])) [.sh (.d (tv T)), .sh (.d (.int (k : Int))), .no, .no] = .nx (Γ (.int (k : Int)) [] .no) := by
    simp [run, ev, evL, Γ, ln, li]
  rw [runs, s1, Out.next_nx, runs, run, li0, Res.out_ok, ef, Out.next_nx]
  rfl
/-- k, or below it -/
def Be (T : Tr) (k : Nat) : List Nat := (List.range T.n).filter fun n => decide (n = k) || decide (k = 0) || decide (k ∈ Ab T n)
theorem below_ev {T : Tr} (ok : T.Ok) (k : Nat) : f__law_below [.d (tv T), .d (.int (k : Int))] = .ok (.d (ln (Be T k))) := by
  have h9 := ok.few
  have tl := tv_len T
  have rg := rngN (i := T.n) (by omega)
  have g0 : g__law_below.fns[0]? = some f__law_above := rfl
  have li0 : evI g__law_below (.rng1 (.f1 .len (.var 0))) [.sh (.d (tv T)), .sh (.d (.int (k : Int))), .no] = .ok ((List.range T.n).map fun (i : Nat) => PV.int (i : Int)) := by
    simp [evI, ev, tl, rg]
  have lc : ev g__law_below (.lc (.name 2) (.rng1 (.f1 .len (.var 0))) [(.or (.cmp .eq (.var 2) (.var 1)) (.or (.cmp .eq (.var 1) (.int 0)) (.cmp .isin (.var 1) (.call 0 [(.var 0), (.var 2)]))))] (.var 2)) [.sh (.d (tv T)), .sh (.d (.int (k : Int))), .no] = .ok (.d (ln (Be T k))) := by
    rw [ev, li0, Res.bind_ok, mapR_comp, mapR_opt (g := fun n : Nat => if (decide (n = k) || decide (k = 0) || decide (k ∈ Ab T n)) = true then some (PV.int (n : Int)) else none) (fun n hn => by
      have hn := List.mem_range.mp hn
      have a := above_ev ok hn
      have i := (in_ln k (Ab T n)).1
      by_cases c : n = k
      · subst c
        simp [bindT, evC, ev]
      · have c' : ¬ ((n : Int) = (k : Int)) := by omega
        by_cases c2 : k = 0
        · subst c2
          simp [bindT, evC, ev, c, c']
        · have c2' : ¬ ((k : Int) = 0) := by omega
          by_cases c3 : k ∈ Ab T n
          · simp [bindT, evC, ev, evL, c, c', c2, c2', g0, a, i, c3]
          · simp [bindT, evC, ev, evL, c, c', c2, c2', g0, a, i, c3])]
    have fm : ∀ l : List Nat, l.filterMap (fun n : Nat => if (decide (n = k) || decide (k = 0) || decide (k ∈ Ab T n)) = true then some (PV.int (n : Int)) else none) = ((l.filter fun n => decide (n = k) || decide (k = 0) || decide (k ∈ Ab T n)).map fun k : Nat => (k : Int)).map PV.int := fun l => by
      induction l with
      | nil => rfl
      | cons x xs ih =>
        rw [List.filterMap_cons, List.filter_cons, ih]
        cases (decide (x = k) || decide (k = 0) || decide (k ∈ Ab T x)) <;> simp
    rw [fm]; rfl
  show (runs g__law_below [.ret _] [.sh (.d (tv T)), .sh (.d (.int (k : Int))), .no]).fin = _
  rw [runs, run, lc]; rfl
end K56
end

section
set_option autoImplicit false
set_option linter.all false
set_option maxRecDepth 100000
namespace K56
open Bw
/-- the tree of draws -/
def drw (ds : List Int) (k : Nat) : Int := gt ds (2 + (k : Int) % ((ds.length : Int) - 2)) / (1 + (k : Int) / ((ds.length : Int) - 2))
def kd (ds : List Int) : Nat := (gt ds 1 % 3).toNat
def trD (ds : List Int) (most : Nat) : Tr where
  n := (1 + gt ds 0 % (most : Int)).toNat
  par := fun k => if k = 0 then 0 else (drw ds k % (k : Int)).toNat
  wr := fun k => if k = 0 then 0 else drw ds k / 9 % [9, 1001, 3].getD (kd ds) 1
  ld := fun k => if k = 0 then gt ds 2 % [9, 1001, 2].getD (kd ds) 1 else drw ds k / 9009 % [9, 1001, 2].getD (kd ds) 1
theorem md_bd {x m : Int} (h : 0 < m) (h2 : m ≤ 1001) : 0 ≤ x % m ∧ x % m ≤ 1000 := by
  have := Int.emod_nonneg x (show m ≠ 0 by omega)
  have := Int.emod_lt_of_pos x h
  omega
theorem kd_lt (ds : List Int) : kd ds < 3 := by
  unfold kd
  have := Int.emod_nonneg (gt ds 1) (show (3 : Int) ≠ 0 by decide)
  have := Int.emod_lt_of_pos (gt ds 1) (show (0 : Int) < 3 by decide)
  omega
theorem g1_bd (ds : List Int) : 0 < [9, 1001, 2].getD (kd ds) (1 : Int) ∧ [9, 1001, 2].getD (kd ds) (1 : Int) ≤ 1001 := by
  have := kd_lt ds
  rcases (show kd ds = 0 ∨ kd ds = 1 ∨ kd ds = 2 by omega) with h | h | h <;> rw [h] <;> decide
theorem g2_bd (ds : List Int) : 0 < [9, 1001, 3].getD (kd ds) (1 : Int) ∧ [9, 1001, 3].getD (kd ds) (1 : Int) ≤ 1001 := by
  have := kd_lt ds
  rcases (show kd ds = 0 ∨ kd ds = 1 ∨ kd ds = 2 by omega) with h | h | h <;> rw [h] <;> decide
theorem trD_ok {ds : List Int} {most : Nat} (m1 : 1 ≤ most) (m9 : most ≤ 9) : (trD ds most).Ok := by
  have n0 := Int.emod_nonneg (gt ds 0) (show (most : Int) ≠ 0 by omega)
  have n1 := Int.emod_lt_of_pos (gt ds 0) (show (0 : Int) < (most : Int) by omega)
  refine ⟨?_, ?_, fun k h _ => ?_, rfl, fun k _ => ?_, fun k _ => ?_⟩
  · show 1 ≤ (1 + gt ds 0 % (most : Int)).toNat; omega
  · show (1 + gt ds 0 % (most : Int)).toNat ≤ 9; omega
  · show (if k = 0 then 0 else (drw ds k % (k : Int)).toNat) < k
    rw [if_neg (by omega)]
    have := Int.emod_nonneg (drw ds k) (show (k : Int) ≠ 0 by omega)
    have := Int.emod_lt_of_pos (drw ds k) (show (0 : Int) < (k : Int) by omega)
    omega
  · show 0 ≤ (if k = 0 then 0 else _) ∧ (if k = 0 then 0 else _) ≤ 1000
    by_cases c : k = 0
    · rw [if_pos c]; decide
    · rw [if_neg c]; exact md_bd (g2_bd ds).1 (g2_bd ds).2
  · show 0 ≤ (if k = 0 then _ else _) ∧ (if k = 0 then _ else _) ≤ 1000
    by_cases c : k = 0
    · rw [if_pos c]; exact md_bd (g1_bd ds).1 (g1_bd ds).2
    · rw [if_neg c]; exact md_bd (g1_bd ds).1 (g1_bd ds).2
theorem tv_snoc (T : Tr) (n : Nat) : (List.range n).map (nodeP T) ++ [nodeP T n] = (List.range (n + 1)).map (nodeP T) := by
  rw [List.range_succ, List.map_append]; rfl
theorem pick3 (a b c : Int) {k : Nat} (h : k < 3) : idxop (.d (.lst [.int a, .int b, .int c])) (.d (.int (k : Int))) = .ok (.d (.int ([a, b, c].getD k 1))) := by
  rcases (show k = 0 ∨ k = 1 ∨ k = 2 by omega) with h | h | h <;> subst h <;> rfl
def Tg (ds : List Int) (most n : Nat) (m : Nat) (b5 b6 : Bx) : Gm := [.sh (.d (li ds)), .sh (.d (.int (most : Int))), .sh (.d (.int (n : Int))), .sh (.d (.int (kd ds : Nat))), .ow (.d (.lst ((List.range m).map (nodeP (trD ds most))))), b5, b6]
def tgB : List CS := [(.set (.name 6) (.bin .fdiv (.f1 .int (.idx (.var 0) (.bin .add (.int 2) (.bin .mod (.var 5) (.bin .sub (.f1 .len (.var 0)) (.int 2)))))) (.bin .add (.int 1) (.bin .fdiv (.var 5) (.bin .sub (.f1 .len (.var 0)) (.int 2)))))), (.app 4 (.tup [(.bin .mod (.var 6) (.var 5)), (.bin .mod (.bin .fdiv (.var 6) (.int 9)) (.idx (.lst [(.int 9), (.int 1001), (.int 3)]) (.var 3))), (.bin .mod (.bin .fdiv (.var 6) (.int 9009)) (.idx (.lst [(.int 9), (.int 1001), (.int 2)]) (.var 3)))]))]
theorem tg_step {ds : List Int} (hl : 3 ≤ ds.length) (hl2 : ds.length ≤ 1000) (most n : Nat) {m : Nat} (m1 : 1 ≤ m) (m9 : m < 100) (b6 : Bx) :
    ∃ c6, runs g__law_tree tgB (Tg ds most n m (.sh (.d (.int (m : Int)))) b6) = .nx (Tg ds most n (m + 1) (.sh (.d (.int (m : Int)))) c6) := by
  have l2 : (0 : Int) < (ds.length : Int) - 2 := by omega
  have md := b_mod (i := (m : Int)) l2
  have fd := b_fdiv (i := (m : Int)) l2 (by omega)
  have r0 := Int.emod_nonneg (m : Int) (show (ds.length : Int) - 2 ≠ 0 by omega)
  have r1 := Int.emod_lt_of_pos (m : Int) l2
  have q0 := Int.ediv_nonneg (show (0 : Int) ≤ (m : Int) by omega) (show (0 : Int) ≤ (ds.length : Int) - 2 by omega)
  have q1 : (m : Int) / ((ds.length : Int) - 2) ≤ (m : Int) := Int.ediv_le_self _ (by omega)
  have ix := ix_li (xs := ds) (i := 2 + (m : Int) % ((ds.length : Int) - 2)) (by omega) (by omega)
  have fd2 := b_fdiv (i := gt ds (2 + (m : Int) % ((ds.length : Int) - 2))) (j := 1 + (m : Int) / ((ds.length : Int) - 2)) (by omega) (by omega)
  have hd : gt ds (2 + (m : Int) % ((ds.length : Int) - 2)) / (1 + (m : Int) / ((ds.length : Int) - 2)) = drw ds m := rfl
  have s1 : run g__law_tree (.set (.name 6) (.bin .fdiv (.f1 .int (.idx (.var 0) (.bin .add (.int 2) (.bin .mod (.var 5) (.bin .sub (.f1 .len (.var 0)) (.int 2)))))) (.bin .add (.int 1) (.bin .fdiv (.var 5) (.bin .sub (.f1 .len (.var 0)) (.int 2)))))) (Tg ds most n m (.sh (.d (.int (m : Int)))) b6) = .nx (Tg ds most n m (.sh (.d (.int (m : Int)))) (.sh (.d (.int (drw ds m))))) := by
    simp [Tg, run, ev, md, fd, ix, fd2, hd]
  refine ⟨.sh (.d (.int (drw ds m))), ?_⟩
  unfold tgB
  rw [runs, s1, Out.next_nx]
  have p1 := pick3 9 1001 3 (kd_lt ds)
  have p2 := pick3 9 1001 2 (kd_lt ds)
  have d1 := b_mod (i := drw ds m) (j := (m : Int)) (by omega)
  have d2 := b_fdiv (i := drw ds m) (j := 9) (by decide) (by decide)
  have d3 := b_fdiv (i := drw ds m) (j := 9009) (by decide) (by decide)
  have d4 := b_mod (i := drw ds m / 9) (g2_bd ds).1
  have d5 := b_mod (i := drw ds m / 9009) (g1_bd ds).1
  have nn := Int.emod_nonneg (drw ds m) (show (m : Int) ≠ 0 by omega)
  have e : ev g__law_tree (.tup [(.bin .mod (.var 6) (.var 5)), (.bin .mod (.bin .fdiv (.var 6) (.int 9)) (.idx (.lst [(.int 9), (.int 1001), (.int 3)]) (.var 3))), (.bin .mod (.bin .fdiv (.var 6) (.int 9009)) (.idx (.lst [(.int 9), (.int 1001), (.int 2)]) (.var 3)))]) (Tg ds most n m (.sh (.d (.int (m : Int)))) (.sh (.d (.int (drw ds m))))) = .ok (.d (nodeP (trD ds most) m)) := by
    have h : nodeP (trD ds most) m = .tup [.int (drw ds m % (m : Int)), .int (drw ds m / 9 % [9, 1001, 3].getD (kd ds) 1), .int (drw ds m / 9009 % [9, 1001, 2].getD (kd ds) 1)] := by
      have m0 : ¬ m = 0 := by omega
      simp only [nodeP, trD, if_neg m0]
      rw [Int.toNat_of_nonneg nn]
    rw [h]
    generalize [9, 1001, 3].getD (kd ds) (1 : Int) = g3 at *
    generalize [9, 1001, 2].getD (kd ds) (1 : Int) = g2 at *
    simp [Tg, ev, evL, p1, p2, d1, d2, d3, d4, d5]
  rw [runs, run]
  show ((owL (some (.ow (.d (.lst ((List.range m).map (nodeP (trD ds most))))))) _).next _) = _
  rw [owL_ow, e, Res.out_ok, appR_d (by rw [List.length_map, List.length_range]; unfold line; omega), tv_snoc]
  rfl
theorem law_tree_ev {ds : List Int} (hl : 3 ≤ ds.length) (hl2 : ds.length ≤ 1000) {most : Nat} (m1 : 1 ≤ most) (m9 : most ≤ 9) : f__law_tree [.d (li ds), .d (.int (most : Int))] = .ok (.d (tv (trD ds most))) := by
  have ok := trD_ok (ds := ds) m1 m9
  have n1 := ok.pos
  have n9 := ok.few
  have nn := Int.emod_nonneg (gt ds 0) (show (most : Int) ≠ 0 by omega)
  have en : (1 + gt ds 0 % (most : Int)) = ((trD ds most).n : Int) := by show _ = ((1 + gt ds 0 % (most : Int)).toNat : Int); omega
  have kn : gt ds 1 % 3 = (kd ds : Int) := by
    unfold kd
    have := Int.emod_nonneg (gt ds 1) (show (3 : Int) ≠ 0 by decide)
    omega
  have i0 := ix_li (xs := ds) (i := 0) (by decide) (by omega)
  have i1 := ix_li (xs := ds) (i := 1) (by decide) (by omega)
  have i2 := ix_li (xs := ds) (i := 2) (by decide) (by omega)
  have d0 := b_mod (i := gt ds 0) (j := (most : Int)) (by omega)
  have d1 := b_mod (i := gt ds 1) (j := 3) (by decide)
  have d2 := b_mod (i := gt ds 2) (g1_bd ds).1
  have p2 := pick3 9 1001 2 (kd_lt ds)
  have rg := rng1_is (n := (trD ds most).n) (by omega)
  have h0 : nodeP (trD ds most) 0 = .tup [.non, .int 0, .int (gt ds 2 % [9, 1001, 2].getD (kd ds) 1)] := rfl
  have s1 : runs g__law_tree [(.set (.name 2) (.bin .add (.int 1) (.bin .mod (.f1 .int (.idx (.var 0) (.int 0))) (.var 1)))), (.set (.name 3) (.bin .mod (.f1 .int (.idx (.var 0) (.int 1))) (.int 3))), (.own 4 (.lst [(.tup [.non, (.int 0), (.bin .mod (.f1 .int (.idx (.var 0) (.int 2))) (.idx (.lst [(.int 9), (.int 1001), (.int 2)]) (.var 3)))])]))] [.sh (.d (li ds)), .sh (.d (.int (most : Int))), .no, .no, .no, .no, .no] = .nx (Tg ds most (trD ds most).n 1 .no .no) := by
    have e1 : (List.range 1).map (nodeP (trD ds most)) = [nodeP (trD ds most) 0] := rfl
    unfold Tg
    rw [e1, h0, ← en]
    generalize [9, 1001, 2].getD (kd ds) (1 : Int) = g2 at *
    simp [runs, run, ev, evL, i0, i1, i2, d0, d1, d2, kn, p2]
  have li0 : evI g__law_tree (.rng2 (.int 1) (.var 2)) (Tg ds most (trD ds most).n 1 .no .no) = .ok ((List.range ((trD ds most).n - 1)).map fun (j : Nat) => PV.int (1 + (j : Int))) := by
    simp [Tg, evI, ev, rg]
  obtain ⟨Γ', ef, b5, b6, e⟩ := forR_inv (f := fun x Γ => oout (bindT (.name 5) x Γ) fun Γ' => runs g__law_tree tgB Γ') (xs := (List.range ((trD ds most).n - 1)).map fun (j : Nat) => PV.int (1 + (j : Int))) (Γ := Tg ds most (trD ds most).n 1 .no .no)
    (fun i Γ => ∃ b5 b6, Γ = Tg ds most (trD ds most).n (i + 1) b5 b6) ⟨.no, .no, rfl⟩ (by
    rintro i x Γ hx ⟨b5, b6, rfl⟩
    have hi : i < (trD ds most).n - 1 := by simpa using (List.getElem?_eq_some_iff.mp hx).1
    rw [List.getElem?_map, List.getElem?_range hi] at hx
    have hx : PV.int (1 + (i : Int)) = x := by simpa using hx
    have ei : (1 + (i : Int)) = ((i + 1 : Nat) : Int) := by omega
    rw [ei] at hx
    subst hx
    obtain ⟨c6, st⟩ := tg_step hl hl2 most (trD ds most).n (m := i + 1) (by omega) (by omega) b6
    exact ⟨_, .inl st, _, _, rfl⟩)
  rw [List.length_map, List.length_range, show (trD ds most).n - 1 + 1 = (trD ds most).n by omega] at e
  subst e
  show (runs g__law_tree ([_, _, _] ++ [.for (.name 5) (.rng2 (.int 1) (.var 2)) tgB, .frz 4, .ret (.f1 .tuple (.var 4))]) [.sh (.d (li ds)), .sh (.d (.int (most : Int))), .no, .no, .no, .no, .no]).fin = _
  rw [runs_append, s1, Out.next_nx, runs, run, li0, Res.out_ok, ef, Out.next_nx]
  rfl
end K56
end

section
set_option autoImplicit false
set_option linter.all false
set_option maxRecDepth 100000
namespace K56
open Bw
/-! ### sums -/
theorem sum_zero {f : Nat → Int} : ∀ {l : List Nat}, (∀ m ∈ l, f m = 0) → (l.map f).sum = 0
  | [], _ => rfl
  | x :: xs, h => by rw [List.map_cons, List.sum_cons, h x List.mem_cons_self, sum_zero fun m hm => h m (List.mem_cons_of_mem _ hm)]; rfl
theorem sum_add (f g : Nat → Int) : ∀ l : List Nat, (l.map fun m => f m + g m).sum = (l.map f).sum + (l.map g).sum
  | [] => rfl
  | x :: xs => by rw [List.map_cons, List.map_cons, List.map_cons, List.sum_cons, List.sum_cons, List.sum_cons, sum_add f g xs]; omega
theorem sum_mul (c : Int) (f : Nat → Int) : ∀ l : List Nat, (l.map fun m => c * f m).sum = c * (l.map f).sum
  | [] => by simp
  | x :: xs => by rw [List.map_cons, List.map_cons, List.sum_cons, List.sum_cons, sum_mul c f xs, Int.mul_add]
theorem sum_swap (f : Nat → Nat → Int) (B : List Nat) : ∀ A : List Nat, (A.map fun a => (B.map fun b => f a b).sum).sum = (B.map fun b => (A.map fun a => f a b).sum).sum
  | [] => by rw [List.map_nil]; exact (sum_zero fun _ _ => rfl).symm
  | a :: A => by
    rw [List.map_cons, List.sum_cons, sum_swap f B A, ← sum_add]
    congr 1
/-- one term differs -/
theorem sum_one {f g : Nat → Int} {n : Nat} {d : Int} (hn : f n = g n + d) : ∀ {l : List Nat}, l.Nodup → (∀ m ∈ l, m ≠ n → f m = g m) → (l.map f).sum = (l.map g).sum + (if n ∈ l then d else 0)
  | [], _, _ => rfl
  | x :: xs, nd, h => by
    rw [List.nodup_cons] at nd
    have ih := sum_one (l := xs) hn nd.2 fun m hm => h m (List.mem_cons_of_mem _ hm)
    rw [List.map_cons, List.map_cons, List.sum_cons, List.sum_cons, ih]
    by_cases c : x = n
    · subst c
      rw [if_neg nd.1, if_pos List.mem_cons_self, hn]; omega
    · rw [h x List.mem_cons_self c]
      by_cases c2 : n ∈ xs
      · rw [if_pos c2, if_pos (List.mem_cons_of_mem _ c2)]; omega
      · rw [if_neg c2, if_neg (fun q => (List.mem_cons.mp q).elim (fun e => c e.symm) c2)]; omega
/-! ### below -/
section
variable {T : Tr} (ok : T.Ok)
include ok
theorem Ab_le : ∀ k, k < T.n → ∀ j ∈ Ab T k, 1 ≤ j ∧ j ≤ k := by
  intro k
  induction k using Nat.strongRecOn with
  | _ k ih =>
    intro hk j hj
    by_cases c : k = 0
    · subst c; rw [Ab_zero ok] at hj; cases hj
    · rw [Ab_eq ok (by omega) hk] at hj
      rcases List.mem_cons.mp hj with rfl | hj
      · omega
      · have := ok.par k (by omega) hk
        have := ih _ this (by omega) j hj
        omega
theorem Ab_self {k : Nat} (h : 1 ≤ k) (hn : k < T.n) : k ∈ Ab T k := by rw [Ab_eq ok h hn]; exact List.mem_cons_self
omit ok in
def Bel (T : Tr) (k n : Nat) : Bool := decide (n = k) || decide (k = 0) || decide (k ∈ Ab T n)
omit ok in
theorem Be_eq (T : Tr) (k : Nat) : Be T k = (List.range T.n).filter (Bel T k) := rfl
/-- from a node to the one above -/
theorem bel_up {k n : Nat} (hn : 1 ≤ n) (hT : n < T.n) (ne : n ≠ k) : Bel T k n = Bel T k (T.par n) := by
  have hp := ok.par n hn hT
  have ne' : ¬ k = n := fun e => ne e.symm
  unfold Bel
  rw [Ab_eq ok hn hT]
  by_cases c0 : k = 0
  · simp [c0]
  · by_cases c1 : T.par n = k
    · have : k ∈ Ab T k := Ab_self ok (by omega) (by omega)
      simp [ne, ne', c1, this]
    · simp [ne, ne', c0, c1]
theorem bel_self (k : Nat) : Bel T k k = true := by simp [Bel]
theorem bel_no {m n : Nat} (h : n < m) (hn : n < T.n) : Bel T m n = false := by
  have a := Ab_le ok n hn m
  have b : m ∉ Ab T n := fun q => by have := a q; omega
  have c : ¬ n = m := by omega
  have d : ¬ m = 0 := by omega
  simp [Bel, b, c, d]
omit ok in
/-- what is below the nodes right below k -/
def FB (T : Tr) (x : Int) (k n : Nat) : Int := (((List.range T.n).drop (k + 1)).map fun m => if T.par m = k then (if Bel T m n = true then x else 0) else 0).sum
theorem bel_sum (x : Int) (k : Nat) : ∀ n, n < T.n → (if Bel T k n = true then x else 0) = (if n = k then x else 0) + FB T x k n := by
  intro n
  induction n using Nat.strongRecOn with
  | _ n ih =>
    intro hn
    by_cases c : n = k
    · subst c
      rw [bel_self ok, if_pos rfl, if_pos rfl]
      have : FB T x n n = 0 := sum_zero fun m hm => by
        have := mem_dropR hm
        split
        · rw [bel_no ok (by omega) hn]; rfl
        · rfl
      omega
    · rw [if_neg c]
      by_cases c0 : n = 0
      · subst c0
        rw [bel_no ok (by omega) hn]
        have : FB T x k 0 = 0 := sum_zero fun m hm => by
          have := mem_dropR hm
          split
          · rw [bel_no ok (by omega) hn]; rfl
          · rfl
        rw [this]; rfl
      · have hp := ok.par n (by omega) hn
        have i := ih _ hp (by omega)
        rw [bel_up ok (by omega) hn c, i]
        have nd : ((List.range T.n).drop (k + 1)).Nodup := (List.drop_sublist _ _).nodup List.nodup_range
        have s := sum_one (f := fun m => if T.par m = k then (if Bel T m n = true then x else 0) else 0) (g := fun m => if T.par m = k then (if Bel T m (T.par n) = true then x else 0) else 0) (n := n) (d := if T.par n = k then x else 0) (by
          rw [bel_self ok, bel_no ok hp (by omega)]
          by_cases q : T.par n = k <;> simp [q]) nd (fun m hm ne => by
            show (if T.par m = k then (if Bel T m n = true then x else 0) else 0) = _
            rw [bel_up ok (by omega) hn (fun e => ne e.symm)])
        have s : FB T x k n = FB T x k (T.par n) + (if n ∈ (List.range T.n).drop (k + 1) then (if T.par n = k then x else 0) else 0) := s
        rw [s]
        by_cases q : T.par n = k
        · have mem : n ∈ (List.range T.n).drop (k + 1) := by
            rw [List.mem_iff_getElem?]
            refine ⟨n - (k + 1), ?_⟩
            rw [List.getElem?_drop, List.getElem?_range (by omega)]
            congr 1; omega
          rw [if_pos mem, if_pos q]; omega
        · rw [if_neg q]
          simp
omit ok in
def GB (T : Tr) (k : Nat) : Int := ((List.range T.n).map fun n => if Bel T k n = true then T.ld n else 0).sum
omit ok in
theorem sum_pick (f : Nat → Int) (k : Nat) : ∀ {l : List Nat}, l.Nodup → (l.map fun n => if n = k then f n else 0).sum = if k ∈ l then f k else 0
  | [], _ => rfl
  | x :: xs, nd => by
    rw [List.nodup_cons] at nd
    rw [List.map_cons, List.sum_cons, sum_pick f k nd.2]
    by_cases c : x = k
    · subst c; rw [if_pos rfl, if_neg nd.1, if_pos List.mem_cons_self]; omega
    · rw [if_neg c]
      by_cases c2 : k ∈ xs
      · rw [if_pos c2, if_pos (List.mem_cons_of_mem _ c2)]; omega
      · rw [if_neg c2, if_neg (fun q => (List.mem_cons.mp q).elim (fun e => c e.symm) c2)]; rfl
theorem GB_step {k : Nat} (h : k < T.n) : GB T k = T.ld k + (((List.range T.n).drop (k + 1)).map fun m => if T.par m = k then GB T m else 0).sum := by
  have e1 : GB T k = ((List.range T.n).map fun n => (if n = k then T.ld n else 0) + FB T (T.ld n) k n).sum := by
    unfold GB
    congr 1
    exact List.map_congr_left fun n hn => bel_sum ok (T.ld n) k n (List.mem_range.mp hn)
  rw [e1, sum_add, sum_pick T.ld k List.nodup_range, if_pos (List.mem_range.mpr h)]
  congr 1
  unfold FB
  rw [sum_swap]
  congr 1
  refine List.map_congr_left fun m hm => ?_
  by_cases c : T.par m = k
  · simp only [c, if_true]; rfl
  · simp only [c, if_false]
    exact sum_zero fun _ _ => rfl
theorem GB_L (B : Bu) : ∀ j k, T.n ≤ j + k → k < T.n → GB T k = L T B [] k := by
  intro j
  induction j with
  | zero => intro k h1 h2; omega
  | succ j ih =>
    intro k h1 h2
    rw [GB_step ok h2, L_eq]
    congr 2
    refine List.map_congr_left fun m hm => ?_
    have := mem_dropR hm
    unfold con
    by_cases c : T.par m = k
    · rw [if_pos c, if_pos c, if_neg (by simp), ih m (by omega) this.2]
    · rw [if_neg c, if_neg c]
theorem load_is (B : Bu) {k : Nat} (h : k < T.n) : GB T k = L T B [] k := GB_L ok B T.n k (by omega) h
/-! ### delays -/
omit ok in
/-- the wires above both -/
def both (T : Tr) (k n : Nat) : Int := (((Ab T k).filter fun w => decide (w ∈ Ab T n)).map T.wr).sum
theorem delay_is (B : Bu) : ∀ k, k < T.n → ((List.range T.n).map fun n => T.ld n * both T k n).sum = D T B [] k := by
  intro k
  induction k using Nat.strongRecOn with
  | _ k ih =>
    intro hk
    by_cases c : k = 0
    · subst c
      rw [D_zero B [] ok]
      exact sum_zero fun n _ => by unfold both; rw [Ab_zero ok]; simp
    · have hp := ok.par k (by omega) hk
      rw [D_eq B [] ok (by omega) hk, if_neg (by simp), ← ih _ hp (by omega), ← load_is ok B hk]
      unfold GB
      rw [← sum_mul, ← sum_add]
      congr 1
      refine List.map_congr_left fun n hn => ?_
      have hn := List.mem_range.mp hn
      have b : Bel T k n = decide (k ∈ Ab T n) := by
        unfold Bel
        by_cases q : n = k
        · subst q; simp [Ab_self ok (by omega) hn]
        · simp [q, c]
      rw [b]
      unfold both
      rw [Ab_eq ok (by omega) hk, List.filter_cons]
      by_cases q : k ∈ Ab T n
      · simp only [q, decide_true, if_true, List.map_cons, List.sum_cons, Int.mul_add]
        rw [Int.mul_comm (T.wr k)]; omega
      · simp only [q, decide_false, Bool.false_eq_true, if_false, Int.mul_zero, Int.add_zero]
end
end K56
end

section
set_option autoImplicit false
set_option linter.all false
set_option maxRecDepth 100000
namespace K56
open Bw
/-! ### leaves -/
def isLf (T : Tr) (k : Nat) : Bool := !(List.range T.n).any fun m => decide (1 ≤ m) && decide (T.par m = k)
def Lv (T : Tr) : List Nat := (List.range T.n).filter (isLf T)
def keyN (T : Tr) (m : Nat) : PV := if m = 0 then .non else .int (T.par m : Nat)
theorem node_key {T : Tr} (m : Nat) : idxop (.d (nodeP T m)) (.d (.int 0)) = .ok (.d (keyN T m)) := rfl
theorem filterMap_ln (p : Nat → Bool) : ∀ l : List Nat, l.filterMap (fun n : Nat => if p n = true then some (PV.int (n : Int)) else none) = ((l.filter p).map fun k : Nat => (k : Int)).map PV.int
  | [] => rfl
  | x :: xs => by
    rw [List.filterMap_cons, List.filter_cons, filterMap_ln p xs]
    cases p x <;> simp
theorem law_leaves_ev {T : Tr} (ok : T.Ok) : f__law_leaves [.d (tv T)] = .ok (.d (ln (Lv T))) := by
  have h9 := ok.few
  have tl := tv_len T
  have rg := rngN (i := T.n) (by omega)
  have li0 : evI g__law_leaves (.rng1 (.f1 .len (.var 0))) [.sh (.d (tv T)), .no, .no] = .ok ((List.range T.n).map fun (i : Nat) => PV.int (i : Int)) := by
    simp [evI, ev, tl, rg]
  have inner : ∀ k : Nat, ev g__law_leaves (.lc (.name 2) (.seq (.var 0)) [] (.cmp .eq (.idx (.var 2) (.int 0)) (.var 1))) [.sh (.d (tv T)), .sh (.d (.int (k : Int))), .no] = .ok (.d (.lst ((List.range T.n).map fun m => PV.bl (decide (1 ≤ m) && decide (T.par m = k))))) := fun k => by
    have i0 : evI g__law_leaves (.seq (.var 0)) [.sh (.d (tv T)), .sh (.d (.int (k : Int))), .no] = .ok ((List.range T.n).map (nodeP T)) := rfl
    rw [ev, i0, Res.bind_ok, mapR_comp, mapR_map (g := fun m : Nat => PV.bl (decide (1 ≤ m) && decide (T.par m = k))) (fun m hm => by
      have e := node_key (T := T) m
      have c : cmpop .eq (.d (keyN T m)) (.d (.int (k : Int))) = .ok (decide (1 ≤ m) && decide (T.par m = k)) := by
        unfold keyN
        by_cases c : m = 0
        · subst c; rfl
        · rw [if_neg c]
          show Res.ok (decide ((T.par m : Int) = (k : Int))) = _
          by_cases d : T.par m = k
          · simp [d]; omega
          · have : ¬ ((T.par m : Int) = (k : Int)) := by omega
            simp [d, this]
      simp [bindT, evC, ev, e, c])]
    rfl
  have lc : ev g__law_leaves (.lc (.name 1) (.rng1 (.f1 .len (.var 0))) [(.not (.f1 .any (.lc (.name 2) (.seq (.var 0)) [] (.cmp .eq (.idx (.var 2) (.int 0)) (.var 1)))))] (.var 1)) [.sh (.d (tv T)), .no, .no] = .ok (.d (ln (Lv T))) := by
    rw [ev, li0, Res.bind_ok, mapR_comp, mapR_opt (g := fun n : Nat => if isLf T n = true then some (PV.int (n : Int)) else none) (fun n hn => by
      have i := inner n
      have an := f_any (fun m : Nat => decide (1 ≤ m) && decide (T.par m = n)) (List.range T.n)
      have t : ev g__law_leaves (.not (.f1 .any (.lc (.name 2) (.seq (.var 0)) [] (.cmp .eq (.idx (.var 2) (.int 0)) (.var 1))))) [.sh (.d (tv T)), .sh (.d (.int (n : Int))), .no] = .ok (.d (.bl (isLf T n))) := by
        rw [ev, ev, i, Res.bind_ok, an]; rfl
      show obind (bindT (.name 1) (PV.int (n : Int)) [.sh (.d (tv T)), .no, .no]) _ = _
      rw [show bindT (.name 1) (PV.int (n : Int)) [.sh (.d (tv T)), .no, .no] = some [.sh (.d (tv T)), .sh (.d (.int (n : Int))), .no] from rfl, obind_some, evC, t]
      cases isLf T n <;> rfl), filterMap_ln]
    rfl
  show (runs g__law_leaves [.ret _] [.sh (.d (tv T)), .no, .no]).fin = _
  rw [runs, run, lc]; rfl
theorem leaves_of_ev {T : Tr} (ok : T.Ok) : f_leaves_of [.d (tv T)] = .ok (.d (ln (Lv T))) := by
  have h9 := ok.few
  have tl := tv_len T
  have rg := rngN (i := T.n) (by omega)
  obtain ⟨ys, hys⟩ : ∃ ys, ys = (List.range T.n).map fun m => (keyN T m, PV.bl true) := ⟨_, rfl⟩
  have ko : KeysOk false ys := by
    refine ⟨fun kv h => ?_, fun kv h => ?_⟩ <;> (rw [hys] at h; obtain ⟨m, _, e⟩ := List.mem_map.mp h; rw [← e]; unfold keyN; split <;> rfl)
  obtain ⟨D, hD⟩ : ∃ D, D = merX [] ys := ⟨_, rfl⟩
  have km := KeysOk.mer (t := false) .nil ko
  rw [← hD] at km
  obtain ⟨kd, mem⟩ := km
  have dc : ev g_leaves_of (.dcx (.name 2) (.seq (.var 0)) [] (.idx (.var 2) (.int 0)) (.bl true)) [.sh (.d (tv T)), .no, .no, .no] = .ok (.dX false D) := by
    have i0 : evI g_leaves_of (.seq (.var 0)) [.sh (.d (tv T)), .no, .no, .no] = .ok ((List.range T.n).map (nodeP T)) := rfl
    rw [ev, i0, Res.bind_ok, mapR_comp, mapR_map (g := fun m : Nat => (keyN T m, PV.bl true)) (fun m hm => by
      have e := node_key (T := T) m
      have kv : keyV (.d (keyN T m)) = .ok (keyN T m) := by unfold keyN; split <;> rfl
      simp [bindT, evC, ev, e, kv, data?]), ← hys, Res.bind_ok, if_pos ko.all, ← hD]
  have s1 : run g_leaves_of (.own 1 (.dcx (.name 2) (.seq (.var 0)) [] (.idx (.var 2) (.int 0)) (.bl true))) [.sh (.d (tv T)), .no, .no, .no] = .nx [.sh (.d (tv T)), .ow (.dX false D), .no, .no] := by
    rw [run, dc]; rfl
  have s2 : run g_leaves_of (.frz 1) [.sh (.d (tv T)), .ow (.dX false D), .no, .no] = .nx [.sh (.d (tv T)), .sh (.dX true D), .no, .no] := rfl
  have li0 : evI g_leaves_of (.rng1 (.f1 .len (.var 0))) [.sh (.d (tv T)), .sh (.dX true D), .no, .no] = .ok ((List.range T.n).map fun (i : Nat) => PV.int (i : Int)) := by
    simp [evI, ev, tl, rg]
  have lc : ev g_leaves_of (.lc (.name 3) (.rng1 (.f1 .len (.var 0))) [(.cmp .notin (.var 3) (.var 1))] (.var 3)) [.sh (.d (tv T)), .sh (.dX true D), .no, .no] = .ok (.d (ln (Lv T))) := by
    rw [ev, li0, Res.bind_ok, mapR_comp, mapR_opt (g := fun n : Nat => if isLf T n = true then some (PV.int (n : Int)) else none) (fun n hn => by
      have k := kd.key (p := .int (n : Int)) rfl rfl
      have hs := kd.has (p := .int (n : Int)) rfl
      have e : (!hasX D (.int (n : Int))) = isLf T n := by
        unfold isLf
        congr 1
        rw [Bool.eq_iff_iff, hs, mem, List.any_eq_true]
        simp only [List.map_nil, List.not_mem_nil, false_or, hys, List.map_map, List.mem_map, List.mem_range, Bool.and_eq_true, decide_eq_true_eq]
        constructor
        · rintro ⟨m, hm, e⟩
          have e : keyN T m = .int (n : Int) := e
          unfold keyN at e
          by_cases c : m = 0
          · rw [if_pos c] at e; cases e
          · rw [if_neg c] at e
            injection e with e
            exact ⟨m, hm, by omega, by omega⟩
        · rintro ⟨m, hm, h1, e⟩
          refine ⟨m, hm, ?_⟩
          show keyN T m = _
          unfold keyN
          rw [if_neg (by omega), e]
      have c : cmpop .notin (.d (.int (n : Int))) (.dX true D) = .ok (isLf T n) := by
        show ((keyX D (.d (.int (n : Int)))).bind fun k => Res.ok (!hasX D k)) = _
        rw [k, Res.bind_ok, e]
      have c' : ev g_leaves_of (.cmp .notin (.var 3) (.var 1)) [.sh (.d (tv T)), .sh (.dX true D), .no, .sh (.d (.int (n : Int)))] = .ok (.d (.bl (isLf T n))) := by
        simp [ev, c]
      show obind (some [.sh (.d (tv T)), .sh (.dX true D), .no, .sh (.d (.int (n : Int)))]) _ = _
      rw [obind_some, evC, c']
      cases isLf T n <;> rfl), filterMap_ln]
    rfl
  show (runs g_leaves_of [.own 1 _, .frz 1, .ret _] [.sh (.d (tv T)), .no, .no, .no]).fin = _
  rw [runs, s1, Out.next_nx, runs, s2, Out.next_nx, runs, run, lc]; rfl
/-! ### the first worst leaf -/
theorem Lv_asc (T : Tr) : (Lv T).Pairwise (· < ·) := List.Pairwise.filter _ List.pairwise_lt_range
theorem Lv_ne {T : Tr} (ok : T.Ok) : Lv T ≠ [] := by
  have h1 := ok.pos
  have : T.n - 1 ∈ Lv T := by
    refine List.mem_filter.mpr ⟨List.mem_range.mpr (by omega), ?_⟩
    unfold isLf
    rw [Bool.not_eq_true', List.any_eq_false]
    intro m hm
    have hm := List.mem_range.mp hm
    rw [Bool.and_eq_true, decide_eq_true_eq, decide_eq_true_eq]
    rintro ⟨h2, h3⟩
    have := ok.par m h2 hm
    omega
  exact List.ne_nil_of_mem this
/-- j is the first of the greatest -/
structure Wst (f : Nat → Int) (l : List Nat) (j : Nat) : Prop where
  mem : j ∈ l
  le : ∀ k ∈ l, f k ≤ f j
  first : ∀ k ∈ l, f k = f j → j ≤ k
def bestV (f : Nat → Int) : Option Nat → PV
  | none => .non
  | some j => .tup [.int (f j), .int (j : Int)]
theorem worst_of_ev {T : Tr} (ok : T.Ok) (f : Nat → Int) : ∃ j, Wst f (Lv T) j ∧ f_worst_of [.d (tv T), .d (lf T.n f)] = .ok (.d (.tup [.int (f j), .int (j : Int)])) := by
  have g0 : g_worst_of.fns[0]? = some f_leaves_of := rfl
  have le := leaves_of_ev ok
  let Γ : Option Nat → Bx → Gm := fun b b3 => [.sh (.d (tv T)), .sh (.d (lf T.n f)), .sh (.d (bestV f b)), b3]
  have li0 : evI g_worst_of (.seq (.call 0 [(.var 0)])) (Γ none .no) = .ok ((Lv T).map fun k : Nat => PV.int (k : Int)) := by
    have : evI g_worst_of (.seq (.call 0 [(.var 0)])) (Γ none .no) = seq? (.d (ln (Lv T))) := by
      simp [evI, ev, evL, g0, Γ, le]
    rw [this]
    show Res.ok (((Lv T).map fun k : Nat => (k : Int)).map PV.int) = _
    rw [List.map_map]; rfl
  obtain ⟨Γ', e, b, c3, rfl, hb⟩ := forR_pre (fun k : Nat => PV.int (k : Int)) (f := fun x Γ => oout (bindT (.name 3) x Γ) fun Γ' => runs g_worst_of [(.ife (.or (.cmp .is (.var 2) .non) (.cmp .gt (.idx (.var 1) (.var 3)) (.idx (.var 2) (.int 0)))) [(.set (.name 2) (.tup [(.idx (.var 1) (.var 3)), (.var 3)]))] [])] Γ')
    (fun ds Z => ∃ b c3, Z = Γ b c3 ∧ ((b = none ∧ ds = []) ∨ ∃ j, b = some j ∧ Wst f ds j)) (Lv T) (Lv T) [] (Γ none .no) rfl ⟨none, .no, rfl, .inl ⟨rfl, rfl⟩⟩ (by
      rintro ds k es hL Z ⟨b, c3, rfl, hb⟩
      have mem : k ∈ Lv T := by rw [hL]; simp
      have hk : k < T.n := List.mem_range.mp (List.mem_filter.mp mem).1
      have asc := Lv_asc T
      rw [hL] at asc
      have lt : ∀ j ∈ ds, j < k := fun j hj => (List.pairwise_append.mp asc).2.2 j hj k List.mem_cons_self
      have fk := lf_at (f := f) hk
      have bt : bindT (.name 3) (PV.int (k : Int)) (Γ b c3) = some (Γ b (.sh (.d (.int (k : Int))))) := rfl
      rcases hb with ⟨rfl, rfl⟩ | ⟨j, rfl, w⟩
      · refine ⟨Γ (some k) (.sh (.d (.int (k : Int)))), .inl ?_, some k, _, rfl, .inr ⟨k, rfl, by simp, by simp, by simp⟩⟩
        show oout (bindT (.name 3) (PV.int (k : Int)) (Γ none c3)) _ = _
        rw [bt, oout_some]
        simp [runs, run, ev, evL, Γ, bestV, isNon, fk]
      · by_cases c : f k > f j
        · refine ⟨Γ (some k) (.sh (.d (.int (k : Int)))), .inl ?_, some k, _, rfl, .inr ⟨k, rfl, by simp, fun i hi => ?_, fun i hi e => ?_⟩⟩
          · show oout (bindT (.name 3) (PV.int (k : Int)) (Γ (some j) c3)) _ = _
            rw [bt, oout_some]
            have c' : f j < f k := c
            simp [runs, run, ev, evL, Γ, bestV, isNon, fk, c']
          · rcases List.mem_append.mp hi with hi | hi
            · have := w.le i hi; omega
            · rw [List.mem_singleton] at hi; rw [hi]; omega
          · rcases List.mem_append.mp hi with hi | hi
            · have := w.le i hi; omega
            · rw [List.mem_singleton] at hi; omega
        · refine ⟨Γ (some j) (.sh (.d (.int (k : Int)))), .inl ?_, some j, _, rfl, .inr ⟨j, rfl, by simp [w.mem], fun i hi => ?_, fun i hi e => ?_⟩⟩
          · show oout (bindT (.name 3) (PV.int (k : Int)) (Γ (some j) c3)) _ = _
            rw [bt, oout_some]
            have c' : ¬ f j < f k := c
            simp [runs, run, ev, evL, Γ, bestV, isNon, fk, c']
          · rcases List.mem_append.mp hi with hi | hi
            · exact w.le i hi
            · rw [List.mem_singleton] at hi; rw [hi]; omega
          · rcases List.mem_append.mp hi with hi | hi
            · exact w.first i hi e
            · rw [List.mem_singleton] at hi; have := lt j w.mem; omega)
  rcases hb with ⟨_, h⟩ | ⟨j, rfl, w⟩
  · exact absurd h (Lv_ne ok)
  · refine ⟨j, w, ?_⟩
    show (runs g_worst_of [.set (.name 2) .non, .for (.name 3) (.seq (.call 0 [(.var 0)])) _, .ret (.var 2)] [.sh (.d (tv T)), .sh (.d (lf T.n f)), .no, .no]).fin = _
    have s1 : run g_worst_of (.set (.name 2) .non) [.sh (.d (tv T)), .sh (.d (lf T.n f)), .no, .no] = .nx (Γ none .no) := rfl
    rw [runs, s1, Out.next_nx, runs, run, li0, Res.out_ok, e, Out.next_nx]
    rfl
theorem Wst.uniq {f : Nat → Int} {l : List Nat} {i j : Nat} (a : Wst f l i) (b : Wst f l j) : i = j := by
  have h1 := a.le j b.mem
  have h2 := b.le i a.mem
  have h3 := a.first j b.mem (by omega)
  have h4 := b.first i a.mem (by omega)
  omega
theorem worst_ev {T : Tr} (ok : T.Ok) : ∃ j, Wst (D T B0 []) (Lv T) j ∧ f_worst [.d (tv T)] = .ok (.d (.tup [.int (D T B0 [] j), .int (j : Int)])) := by
  obtain ⟨j, w, e⟩ := worst_of_ev ok (D T B0 [])
  refine ⟨j, w, ?_⟩
  have g0 : g_worst.fns[0]? = some f_check_tree := rfl
  have g1 : g_worst.fns[1]? = some f_delays_of := rfl
  have g2 : g_worst.fns[2]? = some f_worst_of := rfl
  have ct := check_tree_ev ok
  have dd := delays_of_ev ok B0_ok []
  change f_delays_of [.d (tv T), .d (.tup [.int 0, .int 0, .int 0]), .d (.tup [])] = _ at dd
  simp [f_worst, c_worst, fn, runs, run, ev, evL, g0, g1, g2, ct, dd, e]
end K56
end

section
set_option autoImplicit false
set_option linter.all false
set_option maxRecDepth 100000
namespace K56
open Bw
def isNd (k : Nat) : PV → Bool
  | .tup [a, b, c] => isW 0 1000 c && (if k = 0 then isNon a && isW 0 0 b else isW 0 ((k : Int) - 1) a && isW 0 1000 b)
  | _ => false
def isT : PV → Bool
  | .tup xs => decide (1 ≤ xs.length) && decide (xs.length ≤ 9) && xs.zipIdx.all fun p => isNd p.2 p.1
  | _ => false
theorem is_node_all (k : Nat) (p : PV) : f__is_node [.d (.int (k : Int)), .d p] = .ok (.d (.bl (isNd k p))) := by
  have g0 : g__is_node.fns[0]? = some f_is_whole := rfl
  have c0 : g__is_node.cons[0]? = some (.d (.int 1000)) := rfl
  cases p with
  | tup xs =>
    match xs with
    | [] => simp [f__is_node, c__is_node, fn, runs, run, ev, isaop, isaP, isNd]
    | [_] => simp [f__is_node, c__is_node, fn, runs, run, ev, isaop, isaP, isNd]
    | [_, _] => simp [f__is_node, c__is_node, fn, runs, run, ev, isaop, isaP, isNd]
    | [a, b, c] =>
      have i0 : idxop (.d (.tup [a, b, c])) (.d (.int 0)) = .ok (.d a) := rfl
      have i1 : idxop (.d (.tup [a, b, c])) (.d (.int 1)) = .ok (.d b) := rfl
      have i2 : idxop (.d (.tup [a, b, c])) (.d (.int 2)) = .ok (.d c) := rfl
      have w2 := isW_ev c 0 1000
      have w1 := isW_ev b 0 1000
      have w10 := isW_ev b 0 0
      have w0 := isW_ev a 0 ((k : Int) - 1)
      cases e2 : isW 0 1000 c with
      | false =>
        rw [e2] at w2
        simp [f__is_node, c__is_node, fn, runs, run, ev, evL, isaop, isaP, isNd, i2, g0, c0, w2, e2]
      | true =>
        rw [e2] at w2
        by_cases k0 : k = 0
        · subst k0
          cases e0 : isNon a with
          | false => simp [f__is_node, c__is_node, fn, runs, run, ev, evL, isaop, isaP, isNd, i2, i0, g0, c0, w2, e2, e0]
          | true => simp [f__is_node, c__is_node, fn, runs, run, ev, evL, isaop, isaP, isNd, i2, i0, i1, g0, c0, w2, w10, e2, e0]
        · have k0' : ¬ ((k : Int) = 0) := by omega
          cases e0 : isW 0 ((k : Int) - 1) a with
          | false =>
            rw [e0] at w0
            simp [f__is_node, c__is_node, fn, runs, run, ev, evL, isaop, isaP, isNd, i2, i0, g0, c0, w2, e2, e0, w0, k0, k0']
          | true =>
            rw [e0] at w0
            simp [f__is_node, c__is_node, fn, runs, run, ev, evL, isaop, isaP, isNd, i2, i0, i1, g0, c0, w2, w1, e2, e0, w0, k0, k0']
    | _ :: _ :: _ :: _ :: r =>
      have c' : ¬ ((r.length : Int) + 1 + 1 + 1 + 1 = 3) := by omega
      simp [f__is_node, c__is_node, fn, runs, run, ev, isaop, isaP, isNd, c']
  | _ => simp [f__is_node, c__is_node, fn, runs, run, ev, isaop, isaP, isNd]
theorem enum_id (xs : List PV) : enumP 0 xs = xs.zipIdx.map fun p => PV.tup [.int ((p.2 : Nat) : Int), p.1] := by
  have := enum_map (α := PV) id 0 xs
  rw [List.map_id] at this
  rw [this]
  exact List.map_congr_left fun p _ => by simp
theorem is_tree_all (p : PV) : f_is_tree [.d p] = .ok (.d (.bl (isT p))) := by
  have g0 : g_is_tree.fns[0]? = some f__is_node := rfl
  have c0 : g_is_tree.cons[0]? = some (.d (.int 9)) := rfl
  cases p with
  | tup xs =>
    have it : isaop (.d (.tup xs)) .tuple = .ok true := rfl
    have tl : f1op .len (.d (.tup xs)) = .ok (.d (.int (xs.length : Int))) := rfl
    have i0 : evI g_is_tree (.enum (.var 0)) [.sh (.d (.tup xs)), .no, .no] = .ok (xs.zipIdx.map fun p => PV.tup [.int ((p.2 : Nat) : Int), p.1]) := by
      have : evI g_is_tree (.enum (.var 0)) [.sh (.d (.tup xs)), .no, .no] = .ok (enumP 0 xs) := rfl
      rw [this, enum_id]
    have lc : ev g_is_tree (.f1 .all (.lc (.tup [(.name 1), (.name 2)]) (.enum (.var 0)) [] (.call 0 [(.var 1), (.var 2)]))) [.sh (.d (.tup xs)), .no, .no] = .ok (.d (.bl (xs.zipIdx.all fun p => isNd p.2 p.1))) := by
      rw [ev, ev, i0, Res.bind_ok, mapR_comp, mapR_map (g := fun p : PV × Nat => PV.bl (isNd p.2 p.1)) (fun p hp => by
        have w := is_node_all p.2 p.1
        simp [bindT, bindTs, evC, ev, evL, g0, w])]
      exact f_all (fun p : PV × Nat => isNd p.2 p.1) xs.zipIdx
    by_cases h1 : 1 ≤ xs.length
    · by_cases h9 : xs.length ≤ 9
      · have l1 : (1 : Int) ≤ (xs.length : Int) := by omega
        have l9 : (xs.length : Int) ≤ 9 := by omega
        show (runs g_is_tree [_, .ret _] [.sh (.d (.tup xs)), .no, .no]).fin = _
        have s1 : run g_is_tree (.ife (.or (.not (.isa (.var 0) .tuple)) (.not (.chain .le .le (.int 1) (.f1 .len (.var 0)) (.glob 0)))) [(.ret (.bl false))] []) [.sh (.d (.tup xs)), .no, .no] = .nx [.sh (.d (.tup xs)), .no, .no] := by
          have a : ¬ ((xs.length : Int) < 1) := by omega
          have b : ¬ ((9 : Int) < (xs.length : Int)) := by omega
          simp [runs, run, ev, it, tl, c0, a, b]
        rw [runs, s1, Out.next_nx, runs, run, lc]
        simp [isT, h1, h9, Out.fin]
      · have b : (9 : Int) < (xs.length : Int) := by omega
        have b' : ¬ ((xs.length : Int) ≤ 9) := by omega
        have a : ¬ ((xs.length : Int) < 1) := by omega
        simp [f_is_tree, c_is_tree, fn, runs, run, ev, it, tl, c0, a, b, b', isT, h9]
    · have e : xs = [] := by cases xs with
        | nil => rfl
        | cons _ _ => simp at h1
      subst e
      simp [f_is_tree, c_is_tree, fn, runs, run, ev, it, c0, isT]
  | _ => simp [f_is_tree, c_is_tree, fn, runs, run, ev, isaop, isaP, isT]
theorem check_tree_no {p : PV} (h : isT p = false) : f_check_tree [.d p] = .exc 0 := by
  have g0 : g_check_tree.fns[0]? = some f_is_tree := rfl
  have w := is_tree_all p
  rw [h] at w
  simp [f_check_tree, c_check_tree, fn, runs, run, ev, evL, g0, w]
theorem refused_ev {p : PV} (h : isT p = false) {w : Nat} (hw : w < 6) : f__law_refused [.d (.int (w : Int)), .d p] = .ok (.d (.bl true)) := by
  have ct := check_tree_no h
  have g0 : g__law_refused.fns[0]? = some f_loads_below := rfl
  have g1 : g__law_refused.fns[1]? = some f_delays := rfl
  have g2 : g__law_refused.fns[2]? = some f_worst := rfl
  have g3 : g__law_refused.fns[3]? = some f_delays_with := rfl
  have g4 : g__law_refused.fns[4]? = some f_best_buffers := rfl
  have g5 : g__law_refused.fns[5]? = some f_options := rfl
  have e0 : f_loads_below [.d p] = .exc 0 := by
    have g : g_loads_below.fns[0]? = some f_check_tree := rfl
    simp [f_loads_below, c_loads_below, fn, runs, run, ev, evL, g, ct]
  have e1 : f_delays [.d p] = .exc 0 := by
    have g : g_delays.fns[0]? = some f_check_tree := rfl
    simp [f_delays, c_delays, fn, runs, run, ev, evL, g, ct]
  have e2 : f_worst [.d p] = .exc 0 := by
    have g : g_worst.fns[0]? = some f_check_tree := rfl
    simp [f_worst, c_worst, fn, runs, run, ev, evL, g, ct]
  have e3 : f_delays_with [.d p, .d .non, .d .non] = .exc 0 := by
    have g : g_delays_with.fns[0]? = some f_check_tree := rfl
    simp [f_delays_with, c_delays_with, fn, runs, run, ev, evL, g, ct]
  have e4 : f_best_buffers [.d p, .d .non] = .exc 0 := by
    have g : g_best_buffers.fns[0]? = some f_check_tree := rfl
    simp [f_best_buffers, c_best_buffers, fn, runs, run, ev, evL, g, ct]
  have e5 : f_options [.d p, .d .non] = .exc 0 := by
    have g : g_options.fns[0]? = some f_check_tree := rfl
    simp [f_options, c_options, fn, runs, run, ev, evL, g, ct]
  have s1 : g__law_refused.sub 0 1 = some true := rfl
  have s0 : g__law_refused.sub 0 0 = some true := rfl
  have cs : w = 0 ∨ w = 1 ∨ w = 2 ∨ w = 3 ∨ w = 4 ∨ w = 5 := by omega
  rcases cs with rfl | rfl | rfl | rfl | rfl | rfl
  · simp [f__law_refused, c__law_refused, fn, runs, run, ev, evL, g0, e0, caught, s1, s0]
  · simp [f__law_refused, c__law_refused, fn, runs, run, ev, evL, g1, e1, caught, s1, s0]
  · simp [f__law_refused, c__law_refused, fn, runs, run, ev, evL, g2, e2, caught, s1, s0]
  · simp [f__law_refused, c__law_refused, fn, runs, run, ev, evL, g3, e3, caught, s1, s0]
  · simp [f__law_refused, c__law_refused, fn, runs, run, ev, evL, g4, e4, caught, s1, s0]
  · simp [f__law_refused, c__law_refused, fn, runs, run, ev, evL, g5, e5, caught, s1, s0]
/-! ### the law's own look -/
def ltB : List CS := [(.set (.name 2) (.idx (.var 0) (.var 1))), (.ife (.or (.not (.isa (.var 2) .tuple)) (.or (.cmp .ne (.f1 .len (.var 2)) (.int 3)) (.not (.f1 .all (.lc (.name 3) (.seq (.sl (.var 2) (some (.int 1)) none)) [] (.and (.isa (.var 3) .int) (.and (.not (.isa (.var 3) .bool)) (.chain .le .le (.int 0) (.var 3) (.int 1000))))))))) [(.ret (.bl false))] []), (.ife (.and (.cmp .eq (.var 1) (.int 0)) (.or (.cmp .isnot (.idx (.var 2) (.int 0)) .non) (.cmp .ne (.idx (.var 2) (.int 1)) (.int 0)))) [(.ret (.bl false))] []), (.ife (.and (.cmp .gt (.var 1) (.int 0)) (.or (.not (.isa (.idx (.var 2) (.int 0)) .int)) (.or (.isa (.idx (.var 2) (.int 0)) .bool) (.not (.chain .le .lt (.int 0) (.idx (.var 2) (.int 0)) (.var 1)))))) [(.ret (.bl false))] [])]
theorem part_ev (Γ : Gm) (p : PV) (h : Γ[3]? = some (.sh (.d p))) : ev g__law_is_tree (.and (.isa (.var 3) .int) (.and (.not (.isa (.var 3) .bool)) (.chain .le .le (.int 0) (.var 3) (.int 1000)))) Γ = .ok (.d (.bl (isW 0 1000 p))) := by
  cases p with
  | int i =>
    by_cases a : (0 : Int) ≤ i
    · have a' : ¬ i < 0 := by omega
      by_cases b : i ≤ 1000
      · have b' : ¬ (1000 : Int) < i := by omega
        simp [ev, h, isaop, isaP, isW, a, b, a', b']
      · have b' : (1000 : Int) < i := by omega
        simp [ev, h, isaop, isaP, isW, a, b, a', b']
    · have a' : i < 0 := by omega
      simp [ev, h, isaop, isaP, isW, a, a']
  | _ => simp [ev, h, isaop, isaP, isW]
theorem lt_step (xs : List PV) {k : Nat} {p : PV} (hk : xs[k]? = some p) (b2 : Bx) :
    (isNd k p = false → runs g__law_is_tree ltB [.sh (.d (.tup xs)), .sh (.d (.int (k : Int))), b2, .no] = .ret (.d (.bl false))) ∧
    (isNd k p = true → runs g__law_is_tree ltB [.sh (.d (.tup xs)), .sh (.d (.int (k : Int))), b2, .no] = .nx [.sh (.d (.tup xs)), .sh (.d (.int (k : Int))), .sh (.d p), .no]) := by
  have ix : idxop (.d (.tup xs)) (.d (.int (k : Int))) = .ok (.d p) := ix_tup (by omega) (by rw [Int.toNat_natCast]; exact hk)
  have s1 : run g__law_is_tree (.set (.name 2) (.idx (.var 0) (.var 1))) [.sh (.d (.tup xs)), .sh (.d (.int (k : Int))), b2, .no] = .nx [.sh (.d (.tup xs)), .sh (.d (.int (k : Int))), .sh (.d p), .no] := by
    simp [run, ev, ix]
  unfold ltB
  rw [runs, s1, Out.next_nx]
  cases p with
  | tup ys =>
    match ys with
    | [] => exact ⟨fun _ => by simp [runs, run, ev, isaop, isaP], fun h => by cases h⟩
    | [_] => exact ⟨fun _ => by simp [runs, run, ev, isaop, isaP], fun h => by cases h⟩
    | [_, _] => exact ⟨fun _ => by simp [runs, run, ev, isaop, isaP], fun h => by cases h⟩
    | _ :: _ :: _ :: _ :: r =>
      have c' : ¬ ((r.length : Int) + 1 + 1 + 1 + 1 = 3) := by omega
      exact ⟨fun _ => by simp [runs, run, ev, isaop, isaP, c'], fun h => by cases h⟩
    | [a, b, c] =>
      have i0 : idxop (.d (.tup [a, b, c])) (.d (.int 0)) = .ok (.d a) := rfl
      have i1 : idxop (.d (.tup [a, b, c])) (.d (.int 1)) = .ok (.d b) := rfl
      have sl : slop (.d (.tup [a, b, c])) (some 1) none = .ok (.d (.tup [b, c])) := rfl
      have lc : ev g__law_is_tree (.f1 .all (.lc (.name 3) (.seq (.sl (.var 2) (some (.int 1)) none)) [] (.and (.isa (.var 3) .int) (.and (.not (.isa (.var 3) .bool)) (.chain .le .le (.int 0) (.var 3) (.int 1000)))))) [.sh (.d (.tup xs)), .sh (.d (.int (k : Int))), .sh (.d (.tup [a, b, c])), .no] = .ok (.d (.bl (isW 0 1000 b && isW 0 1000 c))) := by
        have i : evI g__law_is_tree (.seq (.sl (.var 2) (some (.int 1)) none)) [.sh (.d (.tup xs)), .sh (.d (.int (k : Int))), .sh (.d (.tup [a, b, c])), .no] = .ok [b, c] := by
          simp [evI, ev, evO, sl]
        rw [ev, ev, i, Res.bind_ok, mapR_map (g := fun p => PV.bl (isW 0 1000 p)) (fun p _ => by
          show obind (some [.sh (.d (.tup xs)), .sh (.d (.int (k : Int))), .sh (.d (.tup [a, b, c])), .sh (.d p)]) _ = _
          rw [obind_some, evC, Res.bind_ok, if_pos rfl, part_ev _ p rfl]; rfl)]
        have := f_all (isW 0 1000) [b, c]
        rw [Res.bind_ok, Res.bind_ok, this]; simp
      generalize (CE.f1 .all (.lc (.name 3) (.seq (.sl (.var 2) (some (.int 1)) none)) [] (.and (.isa (.var 3) .int) (.and (.not (.isa (.var 3) .bool)) (.chain .le .le (.int 0) (.var 3) (.int 1000)))))) = C at lc ⊢
      cases eb : isW 0 1000 b with
      | false =>
        rw [eb, Bool.false_and] at lc
        have nd : isNd k (.tup [a, b, c]) = false := by
          show (isW 0 1000 c && (if k = 0 then isNon a && isW 0 0 b else isW 0 ((k : Int) - 1) a && isW 0 1000 b)) = false
          by_cases k0 : k = 0
          · rw [if_pos k0]
            have : isW 0 0 b = false := by
              cases b <;> first | rfl | skip
              rename_i i
              simp only [isW, Bool.and_eq_false_iff, decide_eq_false_iff_not] at eb ⊢
              omega
            rw [this]; simp
          · rw [if_neg k0, eb]; simp
        exact ⟨fun _ => by simp [runs, run, ev, isaop, isaP, lc], fun h => by rw [nd] at h; cases h⟩
      | true =>
        obtain ⟨y, rfl, y0, y1⟩ : ∃ y, b = .int y ∧ 0 ≤ y ∧ y ≤ 1000 := by
          cases b <;> first | (cases eb; done) | skip
          rename_i y
          simp only [isW, Bool.and_eq_true, decide_eq_true_eq] at eb
          exact ⟨y, rfl, eb.1, eb.2⟩
        rw [eb, Bool.true_and] at lc
        cases ec : isW 0 1000 c with
        | false =>
          rw [ec] at lc
          exact ⟨fun _ => by simp [runs, run, ev, isaop, isaP, lc], fun h => by simp [isNd, ec] at h⟩
        | true =>
          rw [ec] at lc
          by_cases k0 : k = 0
          · subst k0
            have lc : ev g__law_is_tree C [.sh (.d (.tup xs)), .sh (.d (.int 0)), .sh (.d (.tup [a, .int y, c])), .no] = .ok (.d (.bl true)) := lc
            have nd : isNd 0 (.tup [a, .int y, c]) = (isNon a && decide (y = 0)) := by
              show (isW 0 1000 c && (isNon a && (decide (0 ≤ y) && decide (y ≤ 0)))) = _
              rw [ec, Bool.true_and]
              congr 1
              by_cases q : y = 0
              · subst q; rfl
              · rw [decide_eq_false q, decide_eq_false (show ¬ y ≤ 0 by omega), Bool.and_false]
            rw [nd]
            cases ea : isNon a with
            | false => exact ⟨fun _ => by simp [runs, run, ev, isaop, isaP, lc, i0, ea], fun h => by cases h⟩
            | true =>
              by_cases c0 : y = 0
              · subst c0
                exact ⟨fun h => (by cases h), fun _ => by simp [runs, run, ev, isaop, isaP, lc, i0, i1, ea]⟩
              · exact ⟨fun _ => by simp [runs, run, ev, isaop, isaP, lc, i0, i1, ea, c0], fun h => by rw [decide_eq_false c0] at h; cases h⟩
          · have k0' : ¬ ((k : Int) = 0) := by omega
            have k1 : (0 : Int) < (k : Int) := by omega
            have k2 : 0 < k := by omega
            have nd : isNd k (.tup [a, .int y, c]) = isW 0 ((k : Int) - 1) a := by
              show (isW 0 1000 c && (if k = 0 then isNon a && isW 0 0 (.int y) else isW 0 ((k : Int) - 1) a && isW 0 1000 (.int y))) = _
              rw [if_neg k0, ec, eb, Bool.true_and, Bool.and_true]
            rw [nd]
            cases a with
            | int x =>
              by_cases a0 : (0 : Int) ≤ x
              · have a0' : ¬ x < 0 := by omega
                by_cases a1 : x < (k : Int)
                · have a1' : x ≤ (k : Int) - 1 := by omega
                  exact ⟨fun h => (by simp only [isW, Bool.and_eq_false_iff, decide_eq_false_iff_not] at h; omega), fun _ => by simp [runs, run, ev, isaop, isaP, lc, i0, i1, k0, k0', k1, k2, a0, a0', a1]⟩
                · exact ⟨fun _ => by simp [runs, run, ev, isaop, isaP, lc, i0, i1, k0, k0', k1, k2, a0, a0', a1], fun h => by simp only [isW, Bool.and_eq_true, decide_eq_true_eq] at h; omega⟩
              · have a0' : x < 0 := by omega
                exact ⟨fun _ => by simp [runs, run, ev, isaop, isaP, lc, i0, i1, k0, k0', k1, k2, a0, a0'], fun h => by simp only [isW, Bool.and_eq_true, decide_eq_true_eq] at h; omega⟩
            | _ => exact ⟨fun _ => by simp [runs, run, ev, isaop, isaP, lc, i0, i1, k0, k0', k1, k2], fun h => by cases h⟩
  | _ => exact ⟨fun _ => by simp [runs, run, ev, isaop, isaP], fun h => by cases h⟩
theorem law_is_tree_all (p : PV) : f__law_is_tree [.d p] = .ok (.d (.bl (isT p))) := by
  cases p with
  | tup xs =>
    have tl : f1op .len (.d (.tup xs)) = .ok (.d (.int (xs.length : Int))) := rfl
    by_cases h1 : 1 ≤ xs.length
    · by_cases h9 : xs.length ≤ 9
      · have a : ¬ ((xs.length : Int) < 1) := by omega
        have b : ¬ ((9 : Int) < (xs.length : Int)) := by omega
        have s1 : run g__law_is_tree (.ife (.or (.not (.isa (.var 0) .tuple)) (.not (.chain .le .le (.int 1) (.f1 .len (.var 0)) (.int 9)))) [(.ret (.bl false))] []) [.sh (.d (.tup xs)), .no, .no, .no] = .nx [.sh (.d (.tup xs)), .no, .no, .no] := by
          simp [runs, run, ev, isaop, isaP, tl, a, b]
        have rg := rngN (i := xs.length) (by omega)
        have i0 : evI g__law_is_tree (.rng1 (.f1 .len (.var 0))) [.sh (.d (.tup xs)), .no, .no, .no] = .ok ((List.range xs.length).map fun (i : Nat) => PV.int (i : Int)) := by
          simp [evI, ev, tl, rg]
        have fp := forR_fp (fun i : Nat => PV.int (i : Int)) (fun _ : Nat => SV.d (.bl false)) (fun k : Nat => !isNd k (xs.getD k .non)) (f := fun x Γ => oout (bindT (.name 1) x Γ) fun Γ' => runs g__law_is_tree ltB Γ')
          (fun _ Γ => ∃ b1 b2, Γ = [.sh (.d (.tup xs)), b1, b2, .no]) (List.range xs.length) (List.range xs.length) [] [.sh (.d (.tup xs)), .no, .no, .no] rfl ⟨.no, .no, rfl⟩ (by
            rintro ds k es hL Γ ⟨b1, b2, rfl⟩
            have hk : k < xs.length := List.mem_range.mp (by rw [hL]; simp)
            have e : xs[k]? = some (xs.getD k .non) := by rw [List.getD_eq_getElem?_getD, List.getElem?_eq_getElem hk]; rfl
            obtain ⟨st1, st2⟩ := lt_step xs e b2
            refine ⟨fun h => st1 (by simpa using h), fun h => ⟨_, .inl (st2 (by simpa using h)), _, _, rfl⟩⟩)
        have all : (xs.zipIdx.all fun p => isNd p.2 p.1) = !((List.range xs.length).any fun k => !isNd k (xs.getD k .non)) := by
          rw [Bool.eq_iff_iff, List.all_eq_true, Bool.not_eq_true', List.any_eq_false]
          constructor
          · intro h k hk
            have hk := List.mem_range.mp hk
            have := h (xs[k], k) (List.mem_zipIdx_iff_getElem?.mpr (List.getElem?_eq_getElem hk))
            rw [List.getD_eq_getElem?_getD, List.getElem?_eq_getElem hk]
            simpa using this
          · rintro h ⟨x, k⟩ hp
            have hp := List.mem_zipIdx_iff_getElem?.mp hp
            have hk : k < xs.length := (List.getElem?_eq_some_iff.mp hp).1
            have := h k (List.mem_range.mpr hk)
            rw [List.getD_eq_getElem?_getD, hp] at this
            simpa using this
        have ist : isT (.tup xs) = (xs.zipIdx.all fun p => isNd p.2 p.1) := by simp [isT, h1, h9]
        show (runs g__law_is_tree [_, .for (.name 1) (.rng1 (.f1 .len (.var 0))) ltB, .ret (.bl true)] [.sh (.d (.tup xs)), .no, .no, .no]).fin = _
        rw [runs, s1, Out.next_nx, runs, run, i0, Res.out_ok, ist, all]
        cases e : (List.range xs.length).find? (fun k : Nat => !isNd k (xs.getD k .non)) with
        | some k =>
          rw [fp.1 k e]
          have : ((List.range xs.length).any fun k => !isNd k (xs.getD k .non)) = true := List.any_eq_true.mpr ⟨k, List.mem_of_find?_eq_some e, List.find?_some (p := fun k : Nat => !isNd k (xs.getD k .non)) e⟩
          rw [this]; rfl
        | none =>
          obtain ⟨Γ', e2, b1, b2, rfl⟩ := fp.2 e
          have : ((List.range xs.length).any fun k => !isNd k (xs.getD k .non)) = false := List.any_eq_false.mpr fun k hk => List.find?_eq_none.mp e k hk
          rw [e2, this]; rfl
      · have b : (9 : Int) < (xs.length : Int) := by omega
        have a : ¬ ((xs.length : Int) < 1) := by omega
        simp [f__law_is_tree, c__law_is_tree, fn, runs, run, ev, isaop, isaP, tl, a, b, isT, h9]
    · have e : xs = [] := by cases xs with
        | nil => rfl
        | cons _ _ => simp at h1
      subst e
      simp [f__law_is_tree, c__law_is_tree, fn, runs, run, ev, isaop, isaP, isT]
  | _ => simp [f__law_is_tree, c__law_is_tree, fn, runs, run, ev, isaop, isaP, isT]
end K56
end

section
set_option autoImplicit false
set_option linter.all false
set_option maxRecDepth 100000
namespace K56
open Bw
theorem sha_tf (n : Nat) (f : Nat → Int) : sha (tf n f) = true := by
  have : ∀ l : List Nat, shalL 59 (l.map fun k => PV.int (f k)) = true := fun l => by
    induction l with
    | nil => rfl
    | cons x xs ih => rw [List.map_cons, shalL, ih]; rfl
  exact this _
def Lw (ns ds : List Int) (b2 b3 b4 b5 b6 b7 b8 b9 b10 b11 b12 b13 b14 b15 b16 b17 b18 b19 b20 b21 : Bx) : Gm := [.sh (.scr ns), .sh (.d (li ds)), b2, b3, b4, b5, b6, b7, b8, b9, b10, b11, b12, b13, b14, b15, b16, b17, b18, b19, b20, b21]
section
variable (ns ds : List Int) {T : Tr} (ok : T.Ok) (b2 b3 b5 b6 b7 b8 b9 b10 b11 b12 b13 b14 b15 b16 b17 b18 b19 b20 b21 : Bx)
include ok
theorem at_node {k : Nat} (h : k < T.n) : idxop (.d (tv T)) (.d (.int (k : Int))) = .ok (.d (nodeP T k)) := node_at h
/-- the sum over the wires above both -/
theorem both_ev {k n : Nat} (hk : k < T.n) (hn : n < T.n) : ev g_law (.f1 .sum (.lc (.name 18) (.seq (.call 3 [(.var 4), (.var 8)])) [(.cmp .isin (.var 18) (.call 3 [(.var 4), (.var 16)]))] (.idx (.idx (.var 4) (.var 18)) (.int 1)))) (Lw ns ds b2 b3 (.sh (.d (tv T))) b5 b6 b7 (.sh (.d (.int (k : Int)))) b9 b10 b11 b12 b13 b14 b15 (.sh (.d (.int (n : Int)))) b17 b18 b19 b20 b21) = .ok (.d (.int (both T k n))) := by
  have g3 : g_law.fns[3]? = some f__law_above := rfl
  have ak := above_ev ok hk
  have an := above_ev ok hn
  have li0 : evI g_law (.seq (.call 3 [(.var 4), (.var 8)])) (Lw ns ds b2 b3 (.sh (.d (tv T))) b5 b6 b7 (.sh (.d (.int (k : Int)))) b9 b10 b11 b12 b13 b14 b15 (.sh (.d (.int (n : Int)))) b17 b18 b19 b20 b21) = .ok ((Ab T k).map fun w : Nat => PV.int (w : Int)) := by
    have : evI g_law (.seq (.call 3 [(.var 4), (.var 8)])) (Lw ns ds b2 b3 (.sh (.d (tv T))) b5 b6 b7 (.sh (.d (.int (k : Int)))) b9 b10 b11 b12 b13 b14 b15 (.sh (.d (.int (n : Int)))) b17 b18 b19 b20 b21) = seq? (.d (ln (Ab T k))) := by
      simp [Lw, evI, ev, evL, g3, ak]
    rw [this]
    show Res.ok (((Ab T k).map fun k : Nat => (k : Int)).map PV.int) = _
    rw [List.map_map]; rfl
  rw [ev, ev, li0, Res.bind_ok, mapR_comp, mapR_opt (g := fun w : Nat => if (decide (w ∈ Ab T n)) = true then some (PV.int (T.wr w)) else none) (fun w hw => by
    have hw2 := Ab_le ok k hk w hw
    have i := (in_ln w (Ab T n)).1
    have e := at_node ok (show w < T.n by omega)
    have e1 := node1 T w
    by_cases c : w ∈ Ab T n
    · simp [Lw, bindT, evC, ev, evL, g3, an, i, c, e, e1]
    · simp [Lw, bindT, evC, ev, evL, g3, an, i, c])]
  have fm : ∀ l : List Nat, l.filterMap (fun w : Nat => if (decide (w ∈ Ab T n)) = true then some (PV.int (T.wr w)) else none) = ((l.filter fun w => decide (w ∈ Ab T n)).map T.wr).map PV.int := fun l => by
    induction l with
    | nil => rfl
    | cons x xs ih =>
      rw [List.filterMap_cons, List.filter_cons, ih]
      cases decide (x ∈ Ab T n) <;> simp
  rw [fm, Res.bind_ok, Res.bind_ok, f_sum]; rfl
theorem b1_ev {k n : Nat} (hk : k < T.n) (hn : n < T.n) (t : Int) : ∃ c18, runs g_law b_law_1 (Lw ns ds b2 b3 (.sh (.d (tv T))) b5 b6 b7 (.sh (.d (.int (k : Int)))) b9 b10 b11 b12 b13 b14 (.sh (.d (.int t))) (.sh (.d (.int (n : Int)))) b17 b18 b19 b20 b21) =
    .nx (Lw ns ds b2 b3 (.sh (.d (tv T))) b5 b6 b7 (.sh (.d (.int (k : Int)))) b9 b10 b11 b12 b13 b14 (.sh (.d (.int (t + T.ld n * both T k n)))) (.sh (.d (.int (n : Int)))) b17 c18 b19 b20 b21) := by
  have be := both_ev ns ds ok b2 b3 b5 b6 b7 b9 b10 b11 b12 b13 b14 (.sh (.d (.int t))) b17 b18 b19 b20 b21 hk hn
  have e := at_node ok hn
  have e2 := node2 T n
  have ld := ok.ld n hn
  have mu := mul_ok (i := T.ld n) (j := both T k n) ld
  refine ⟨b18, ?_⟩
  unfold b_law_1
  generalize (CE.f1 .sum (.lc (.name 18) (.seq (.call 3 [(.var 4), (.var 8)])) [(.cmp .isin (.var 18) (.call 3 [(.var 4), (.var 16)]))] (.idx (.idx (.var 4) (.var 18)) (.int 1)))) = C at be ⊢
  unfold Lw at be ⊢
  simp [runs, run, ev, be, e, e2, mu]
/-- one node's delay -/
theorem b2_ev {k : Nat} (hk : k < T.n) (m : Nat) (hm : m < 100) (f : Nat → Int) : ∃ c15 c16 c18, runs g_law b_law_2 (Lw ns ds b2 b3 (.sh (.d (tv T))) (.sh (.d (.int (T.n : Int)))) b6 (.ow (.d (lf m f))) (.sh (.d (.int (k : Int)))) b9 b10 b11 b12 b13 b14 b15 b16 b17 b18 b19 b20 b21) =
    .nx (Lw ns ds b2 b3 (.sh (.d (tv T))) (.sh (.d (.int (T.n : Int)))) b6 (.ow (.d (.lst ((List.range m).map (fun j => PV.int (f j)) ++ [.int (D T B0 [] k)])))) (.sh (.d (.int (k : Int)))) b9 b10 b11 b12 b13 b14 c15 c16 b17 c18 b19 b20 b21) := by
  have h9 := ok.few
  have rg := rngN (i := T.n) (by omega)
  let Γ : Int → Bx → Bx → Gm := fun t c16 c18 => Lw ns ds b2 b3 (.sh (.d (tv T))) (.sh (.d (.int (T.n : Int)))) b6 (.ow (.d (lf m f))) (.sh (.d (.int (k : Int)))) b9 b10 b11 b12 b13 b14 (.sh (.d (.int t))) c16 b17 c18 b19 b20 b21
  have li0 : evI g_law (.rng1 (.var 5)) (Γ 0 b16 b18) = .ok ((List.range T.n).map fun (i : Nat) => PV.int (i : Int)) := by
    simp [Γ, Lw, evI, ev, rg]
  obtain ⟨Γ', e, c16, c18, rfl⟩ := forR_acc (fun i : Nat => PV.int (i : Int)) (f := fun x Γ => oout (bindT (.name 16) x Γ) fun Γ' => runs g_law b_law_1 Γ')
    (fun dn Z => ∃ c16 c18, Z = Γ ((dn.map fun n => T.ld n * both T k n).sum) c16 c18) (List.range T.n) [] (Γ 0 b16 b18) ⟨b16, b18, rfl⟩ (by
      rintro dn n hn Z ⟨c16, c18, rfl⟩
      obtain ⟨c, st⟩ := b1_ev ns ds ok b2 b3 (.sh (.d (.int (T.n : Int)))) b6 (.ow (.d (lf m f))) b9 b10 b11 b12 b13 b14 b17 c18 b19 b20 b21 hk (List.mem_range.mp hn) ((dn.map fun n => T.ld n * both T k n).sum)
      refine ⟨_, .inl st, .sh (.d (.int (n : Int))), c, ?_⟩
      rw [List.map_append, List.map_cons, List.map_nil, List.sum_append]
      simp [Γ])
  rw [List.nil_append, delay_is ok B0 k hk] at e
  have s1 : run g_law (.set (.name 15) (.int 0)) (Lw ns ds b2 b3 (.sh (.d (tv T))) (.sh (.d (.int (T.n : Int)))) b6 (.ow (.d (lf m f))) (.sh (.d (.int (k : Int)))) b9 b10 b11 b12 b13 b14 b15 b16 b17 b18 b19 b20 b21) = .nx (Γ 0 b16 b18) := rfl
  have ll : m < line := by unfold line; omega
  have s3 : run g_law (.app 7 (.var 15)) (Γ (D T B0 [] k) c16 c18) = .nx (Lw ns ds b2 b3 (.sh (.d (tv T))) (.sh (.d (.int (T.n : Int)))) b6 (.ow (.d (.lst ((List.range m).map (fun j => PV.int (f j)) ++ [.int (D T B0 [] k)])))) (.sh (.d (.int (k : Int)))) b9 b10 b11 b12 b13 b14 (.sh (.d (.int (D T B0 [] k)))) c16 b17 c18 b19 b20 b21) := by
    simp only [Γ, Lw, lf]
    simp [run, ev, appR, ll]
  refine ⟨.sh (.d (.int (D T B0 [] k))), c16, c18, ?_⟩
  show runs g_law [_, .for (.name 16) (.rng1 (.var 5)) b_law_1, .app 7 (.var 15)] _ = _
  rw [runs, s1, Out.next_nx, runs, run, li0, Res.out_ok, e, Out.next_nx, runs, s3]; rfl
/-- the loads -/
theorem loads_lc : ev g_law (.f1 .tuple (.lc (.name 8) (.rng1 (.var 5)) [] (.f1 .sum (.lc (.name 16) (.seq (.call 2 [(.var 4), (.var 8)])) [] (.idx (.idx (.var 4) (.var 16)) (.int 2)))))) (Lw ns ds b2 b3 (.sh (.d (tv T))) (.sh (.d (.int (T.n : Int)))) b6 b7 b8 b9 b10 b11 b12 b13 b14 b15 b16 b17 b18 b19 b20 b21) = .ok (.d (tf T.n (L T B0 []))) := by
  have h9 := ok.few
  have rg := rngN (i := T.n) (by omega)
  have g2 : g_law.fns[2]? = some f__law_below := rfl
  have li0 : evI g_law (.rng1 (.var 5)) (Lw ns ds b2 b3 (.sh (.d (tv T))) (.sh (.d (.int (T.n : Int)))) b6 b7 b8 b9 b10 b11 b12 b13 b14 b15 b16 b17 b18 b19 b20 b21) = .ok ((List.range T.n).map fun (i : Nat) => PV.int (i : Int)) := by
    simp [Lw, evI, ev, rg]
  have inner : ∀ k : Nat, k < T.n → ev g_law (.f1 .sum (.lc (.name 16) (.seq (.call 2 [(.var 4), (.var 8)])) [] (.idx (.idx (.var 4) (.var 16)) (.int 2)))) (Lw ns ds b2 b3 (.sh (.d (tv T))) (.sh (.d (.int (T.n : Int)))) b6 b7 (.sh (.d (.int (k : Int)))) b9 b10 b11 b12 b13 b14 b15 b16 b17 b18 b19 b20 b21) = .ok (.d (.int (L T B0 [] k))) := fun k hk => by
    have be := below_ev ok k
    have li1 : evI g_law (.seq (.call 2 [(.var 4), (.var 8)])) (Lw ns ds b2 b3 (.sh (.d (tv T))) (.sh (.d (.int (T.n : Int)))) b6 b7 (.sh (.d (.int (k : Int)))) b9 b10 b11 b12 b13 b14 b15 b16 b17 b18 b19 b20 b21) = .ok ((Be T k).map fun w : Nat => PV.int (w : Int)) := by
      have : evI g_law (.seq (.call 2 [(.var 4), (.var 8)])) (Lw ns ds b2 b3 (.sh (.d (tv T))) (.sh (.d (.int (T.n : Int)))) b6 b7 (.sh (.d (.int (k : Int)))) b9 b10 b11 b12 b13 b14 b15 b16 b17 b18 b19 b20 b21) = seq? (.d (ln (Be T k))) := by
        simp [Lw, evI, ev, evL, g2, be]
      rw [this]
      show Res.ok (((Be T k).map fun k : Nat => (k : Int)).map PV.int) = _
      rw [List.map_map]; rfl
    rw [ev, ev, li1, Res.bind_ok, mapR_comp, mapR_map (g := fun n : Nat => PV.int (T.ld n)) (fun n hn => by
      have hn : n < T.n := List.mem_range.mp (List.mem_filter.mp hn).1
      have e := at_node ok hn
      have e2 := node2 T n
      simp [Lw, bindT, evC, ev, e, e2]), Res.bind_ok, Res.bind_ok]
    have e : (Be T k).map (fun n : Nat => PV.int (T.ld n)) = ((Be T k).map T.ld).map PV.int := by rw [List.map_map]; rfl
    rw [e, f_sum, ← load_is ok B0 hk]
    congr 3
    unfold GB
    rw [Be_eq]
    have fs : ∀ l : List Nat, ((l.filter (Bel T k)).map T.ld).sum = (l.map fun n => if Bel T k n = true then T.ld n else 0).sum := fun l => by
      induction l with
      | nil => rfl
      | cons x xs ih =>
        rw [List.filter_cons, List.map_cons, List.sum_cons, ← ih]
        cases Bel T k x <;> simp
    exact fs _
  generalize (CE.f1 .sum (.lc (.name 16) (.seq (.call 2 [(.var 4), (.var 8)])) [] (.idx (.idx (.var 4) (.var 16)) (.int 2)))) = C at inner ⊢
  rw [ev, ev, li0, Res.bind_ok, mapR_comp, mapR_map (g := fun k : Nat => PV.int (L T B0 [] k)) (fun k hk => by
    have i := inner k (List.mem_range.mp hk)
    unfold Lw at i ⊢
    simp [bindT, evC, i])]
  rfl
end
end K56
end

section
set_option autoImplicit false
set_option linter.all false
set_option maxRecDepth 100000
namespace K56
open Bw
theorem cut_mid {α : Type} (xs : List α) (a b : Nat) (h : a ≤ b) (hb : b ≤ xs.length) : cutP xs (some a) (some b) = (xs.drop a).take (b - a) := by
  have e1 : sxP xs.length 0 (some (a : Int)) = min a xs.length := by
    simp only [sxP]
    rw [if_pos (Int.natCast_nonneg a)]; rfl
  have e2 : sxP xs.length xs.length (some (b : Int)) = min b xs.length := by
    simp only [sxP]
    rw [if_pos (Int.natCast_nonneg b)]; rfl
  unfold cutP
  rw [e1, e2, Nat.min_eq_left hb, Nat.min_eq_left (by omega)]
theorem cut_len {α : Type} (xs : List α) (lo hi : Option Int) : (cutP xs lo hi).length ≤ xs.length := by
  unfold cutP
  rw [List.length_take, List.length_drop]; omega
section
variable (ns ds : List Int) (b2 b3 b4 b5 b6 b7 b8 b9 b10 b11 b12 b13 b14 b15 b16 b17 b18 b19 b20 b21 : Bx)
/-- a value is looked at -/
theorem b4_ev (p : PV) : ∃ c20, runs g_law b_law_4 (Lw ns ds b2 b3 b4 b5 b6 b7 b8 b9 b10 b11 b12 b13 (.sh (.d p)) b15 b16 b17 b18 b19 b20 b21) = .nx (Lw ns ds b2 b3 b4 b5 b6 b7 b8 b9 b10 b11 b12 b13 (.sh (.d p)) b15 b16 b17 b18 b19 c20 b21) := by
  have g8 : g_law.fns[8]? = some f__law_is_tree := rfl
  have g9 : g_law.fns[9]? = some f_is_tree := rfl
  have g10 : g_law.fns[10]? = some f__law_refused := rfl
  have e8 := law_is_tree_all p
  have e9 := is_tree_all p
  cases e : isT p with
  | true =>
    rw [e] at e8 e9
    exact ⟨.sh (.d (.bl true)), by simp [b_law_4, Lw, runs, run, ev, evL, g8, g9, e8, e9, isaop, isaP]⟩
  | false =>
    rw [e] at e8 e9
    have rg : rng? 0 6 1 = .ok ((List.range 6).map fun (i : Nat) => PV.int (i : Int)) := rngN (i := 6) (by omega)
    have li0 : evI g_law (.rng1 (.int 6)) (Lw ns ds b2 b3 b4 b5 b6 b7 b8 b9 b10 b11 b12 b13 (.sh (.d p)) b15 b16 b17 b18 b19 (.sh (.d (.bl false))) b21) = .ok ((List.range 6).map fun (i : Nat) => PV.int (i : Int)) := by
      simp [evI, ev, rg]
    have lc : ev g_law (.f1 .all (.lc (.name 21) (.rng1 (.int 6)) [] (.call 10 [(.var 21), (.var 14)]))) (Lw ns ds b2 b3 b4 b5 b6 b7 b8 b9 b10 b11 b12 b13 (.sh (.d p)) b15 b16 b17 b18 b19 (.sh (.d (.bl false))) b21) = .ok (.d (.bl true)) := by
      rw [ev, ev, li0, Res.bind_ok, mapR_comp, mapR_map (g := fun w : Nat => PV.bl ((fun _ => true) w)) (fun w hw => by
        have r := refused_ev e (List.mem_range.mp hw)
        simp [Lw, bindT, evC, ev, evL, g10, r]), Res.bind_ok, Res.bind_ok, f_all]
      simp
    refine ⟨.sh (.d (.bl false)), ?_⟩
    unfold b_law_4
    generalize (CE.f1 .all (.lc (.name 21) (.rng1 (.int 6)) [] (.call 10 [(.var 21), (.var 14)]))) = C at lc ⊢
    unfold Lw at lc ⊢
    simp [runs, run, ev, evL, g8, g9, e8, e9, isaop, isaP, lc]
theorem b4_all (ps : List PV) : ∃ c14 c20, forR (fun x Γ => oout (bindT (.name 14) x Γ) fun Γ' => runs g_law b_law_4 Γ') ps (Lw ns ds b2 b3 b4 b5 b6 b7 b8 b9 b10 b11 b12 b13 b14 b15 b16 b17 b18 b19 b20 b21) = .nx (Lw ns ds b2 b3 b4 b5 b6 b7 b8 b9 b10 b11 b12 b13 c14 b15 b16 b17 b18 b19 c20 b21) := by
  obtain ⟨Γ', e, c14, c20, rfl⟩ := forR_all id (f := fun x Γ => oout (bindT (.name 14) x Γ) fun Γ' => runs g_law b_law_4 Γ') (fun Z => ∃ c14 c20, Z = Lw ns ds b2 b3 b4 b5 b6 b7 b8 b9 b10 b11 b12 b13 c14 b15 b16 b17 b18 b19 c20 b21) ps _ ⟨b14, b20, rfl⟩ (by
    rintro p _ Z ⟨c14, c20, rfl⟩
    obtain ⟨c, st⟩ := b4_ev ns ds b2 b3 b4 b5 b6 b7 b8 b9 b10 b11 b12 b13 b15 b16 b17 b18 b19 c20 b21 p
    exact ⟨_, st, _, c, rfl⟩)
  rw [List.map_id] at e
  exact ⟨c14, c20, e⟩
/-- a bent tree more -/
theorem b3_ev {xs vs : List PV} (hx : xs.length ≤ 9) {a : Nat} (hv : vs.length < 1000) (p : PV) : ∃ q, runs g_law b_law_3 (Lw ns ds b2 b3 (.sh (.d (.tup xs))) b5 b6 b7 b8 b9 (.sh (.d (.int (a : Int)))) (.ow (.d (.lst vs))) b12 (.sh (.d p)) b14 b15 b16 b17 b18 b19 b20 b21) =
    .nx (Lw ns ds b2 b3 (.sh (.d (.tup xs))) b5 b6 b7 b8 b9 (.sh (.d (.int (a : Int)))) (.ow (.d (.lst (vs ++ [q])))) b12 (.sh (.d p)) b14 b15 b16 b17 b18 b19 b20 b21) := by
  have s1 : slop (.d (.tup xs)) none (some (a : Int)) = .ok (.d (.tup (cutP xs none (some (a : Int))))) := rfl
  have s2 : slop (.d (.tup xs)) (some ((a : Int) + 1)) none = .ok (.d (.tup (cutP xs (some ((a : Int) + 1)) none))) := rfl
  have l1 := cut_len xs none (some (a : Int))
  have l2 := cut_len xs (some ((a : Int) + 1)) none
  generalize cutP xs none (some (a : Int)) = u at s1 l1
  generalize cutP xs (some ((a : Int) + 1)) none = w at s2 l2
  have a1 : binop .add (.d (.tup u)) (.d (.tup [p])) = .ok (.d (.tup (u ++ [p]))) := binop_tup _ _ (by simp; unfold line; omega)
  have a2 : binop .add (.d (.tup (u ++ [p]))) (.d (.tup w)) = .ok (.d (.tup (u ++ [p] ++ w))) := binop_tup _ _ (by simp; unfold line; omega)
  have lv : vs.length < line := by unfold line; omega
  exact ⟨.tup (u ++ [p] ++ w), by simp only [b_law_3, Lw]; simp [runs, run, ev, evL, evO, s1, s2, a1, a2, appR, lv]⟩
theorem b3_all {xs : List PV} (hx : xs.length ≤ 9) {a : Nat} : ∀ (ps vs : List PV) (b13 : Bx), vs.length + ps.length ≤ 1000 → ∃ vs' c13, forR (fun x Γ => oout (bindT (.name 13) x Γ) fun Γ' => runs g_law b_law_3 Γ') ps (Lw ns ds b2 b3 (.sh (.d (.tup xs))) b5 b6 b7 b8 b9 (.sh (.d (.int (a : Int)))) (.ow (.d (.lst vs))) b12 b13 b14 b15 b16 b17 b18 b19 b20 b21) =
    .nx (Lw ns ds b2 b3 (.sh (.d (.tup xs))) b5 b6 b7 b8 b9 (.sh (.d (.int (a : Int)))) (.ow (.d (.lst vs'))) b12 c13 b14 b15 b16 b17 b18 b19 b20 b21)
  | [], vs, b13, _ => ⟨vs, b13, rfl⟩
  | p :: ps, vs, b13, h => by
    rw [List.length_cons] at h
    obtain ⟨q, st⟩ := b3_ev ns ds b2 b3 b5 b6 b7 b8 b9 b12 b14 b15 b16 b17 b18 b19 b20 b21 hx (a := a) (vs := vs) (by omega) p
    obtain ⟨vs', c13, e⟩ := b3_all hx (a := a) ps (vs ++ [q]) (.sh (.d p)) (by rw [List.length_append]; simp; omega)
    refine ⟨vs', c13, ?_⟩
    show (oout (bindT (.name 13) p _) _).loop _ = _
    have bt : bindT (.name 13) p (Lw ns ds b2 b3 (.sh (.d (.tup xs))) b5 b6 b7 b8 b9 (.sh (.d (.int (a : Int)))) (.ow (.d (.lst vs))) b12 b13 b14 b15 b16 b17 b18 b19 b20 b21) = some (Lw ns ds b2 b3 (.sh (.d (.tup xs))) b5 b6 b7 b8 b9 (.sh (.d (.int (a : Int)))) (.ow (.d (.lst vs))) b12 (.sh (.d p)) b14 b15 b16 b17 b18 b19 b20 b21) := rfl
    rw [bt, oout_some, st, Out.loop_nx, e]
end
end K56
end

section
set_option autoImplicit false
set_option linter.all false
set_option maxRecDepth 100000
namespace K56
open Bw
section
variable (ns : List Int) {ds : List Int} {T : Tr} (ok : T.Ok)
include ok
/-- loads and delays -/
theorem part1 (b2 b3 b5 b6 b7 b8 b9 b10 b11 b12 b13 b14 b15 b16 b17 b18 b19 b20 b21 : Bx) : ∃ c8 c15 c16 c18,
    runs g_law [(.set (.name 5) (.f1 .len (.var 4))), (.set (.name 6) (.f1 .tuple (.lc (.name 8) (.rng1 (.var 5)) [] (.f1 .sum (.lc (.name 16) (.seq (.call 2 [(.var 4), (.var 8)])) [] (.idx (.idx (.var 4) (.var 16)) (.int 2))))))), (.own 7 (.lst [])), (.for (.name 8) (.rng1 (.var 5)) b_law_2), (.frz 7), (.ife (.or (.cmp .ne (.call 4 [(.var 4)]) (.var 6)) (.cmp .ne (.call 5 [(.var 4)]) (.f1 .tuple (.var 7)))) [(.ret (.bl false))] [])]
      (Lw ns ds b2 b3 (.sh (.d (tv T))) b5 b6 b7 b8 b9 b10 b11 b12 b13 b14 b15 b16 b17 b18 b19 b20 b21) =
    .nx (Lw ns ds b2 b3 (.sh (.d (tv T))) (.sh (.d (.int (T.n : Int)))) (.sh (.d (tf T.n (L T B0 [])))) (.sh (.d (lf T.n (D T B0 [])))) c8 b9 b10 b11 b12 b13 b14 c15 c16 b17 c18 b19 b20 b21) := by
  have h9 := ok.few
  have tl := tv_len T
  have s1 : run g_law (.set (.name 5) (.f1 .len (.var 4))) (Lw ns ds b2 b3 (.sh (.d (tv T))) b5 b6 b7 b8 b9 b10 b11 b12 b13 b14 b15 b16 b17 b18 b19 b20 b21) = .nx (Lw ns ds b2 b3 (.sh (.d (tv T))) (.sh (.d (.int (T.n : Int)))) b6 b7 b8 b9 b10 b11 b12 b13 b14 b15 b16 b17 b18 b19 b20 b21) := by
    simp [Lw, run, ev, tl]
  have lo := loads_lc ns ds ok b2 b3 b6 b7 b8 b9 b10 b11 b12 b13 b14 b15 b16 b17 b18 b19 b20 b21
  generalize (CE.f1 .tuple (.lc (.name 8) (.rng1 (.var 5)) [] (.f1 .sum (.lc (.name 16) (.seq (.call 2 [(.var 4), (.var 8)])) [] (.idx (.idx (.var 4) (.var 16)) (.int 2)))))) = C at lo ⊢
  have s2 : run g_law (.set (.name 6) C) (Lw ns ds b2 b3 (.sh (.d (tv T))) (.sh (.d (.int (T.n : Int)))) b6 b7 b8 b9 b10 b11 b12 b13 b14 b15 b16 b17 b18 b19 b20 b21) = .nx (Lw ns ds b2 b3 (.sh (.d (tv T))) (.sh (.d (.int (T.n : Int)))) (.sh (.d (tf T.n (L T B0 [])))) b7 b8 b9 b10 b11 b12 b13 b14 b15 b16 b17 b18 b19 b20 b21) := by
    rw [run, lo]; rfl
  let Γ : Nat → Bx → Bx → Bx → Bx → Gm := fun m c8 c15 c16 c18 => Lw ns ds b2 b3 (.sh (.d (tv T))) (.sh (.d (.int (T.n : Int)))) (.sh (.d (tf T.n (L T B0 [])))) (.ow (.d (lf m (D T B0 [])))) c8 b9 b10 b11 b12 b13 b14 c15 c16 b17 c18 b19 b20 b21
  have s3 : run g_law (.own 7 (.lst [])) (Lw ns ds b2 b3 (.sh (.d (tv T))) (.sh (.d (.int (T.n : Int)))) (.sh (.d (tf T.n (L T B0 [])))) b7 b8 b9 b10 b11 b12 b13 b14 b15 b16 b17 b18 b19 b20 b21) = .nx (Γ 0 b8 b15 b16 b18) := rfl
  have rg := rngN (i := T.n) (by omega)
  have li0 : evI g_law (.rng1 (.var 5)) (Γ 0 b8 b15 b16 b18) = .ok ((List.range T.n).map fun (i : Nat) => PV.int (i : Int)) := by
    simp [Γ, Lw, evI, ev, rg]
  obtain ⟨Γ', e, c8, c15, c16, c18, rfl⟩ := forR_inv (f := fun x Γ => oout (bindT (.name 8) x Γ) fun Γ' => runs g_law b_law_2 Γ') (xs := (List.range T.n).map fun (i : Nat) => PV.int (i : Int)) (Γ := Γ 0 b8 b15 b16 b18)
    (fun m Z => ∃ c8 c15 c16 c18, Z = Γ m c8 c15 c16 c18) ⟨b8, b15, b16, b18, rfl⟩ (by
      rintro i x Z hx ⟨c8, c15, c16, c18, rfl⟩
      rw [List.getElem?_map] at hx
      obtain ⟨k, hk, rfl⟩ := Option.map_eq_some_iff.mp hx
      obtain ⟨hl, hk⟩ := List.getElem?_eq_some_iff.mp hk
      rw [List.getElem_range] at hk
      subst hk
      rw [List.length_range] at hl
      obtain ⟨d15, d16, d18, st⟩ := b2_ev ns ds ok b2 b3 (.sh (.d (tf T.n (L T B0 [])))) b9 b10 b11 b12 b13 b14 c15 c16 b17 c18 b19 b20 b21 hl i (by omega) (D T B0 [])
      rw [lf_snoc] at st
      exact ⟨_, .inl st, _, _, _, _, rfl⟩)
  rw [List.length_map, List.length_range] at e
  have s6 : run g_law (.frz 7) (Γ T.n c8 c15 c16 c18) = .nx (Lw ns ds b2 b3 (.sh (.d (tv T))) (.sh (.d (.int (T.n : Int)))) (.sh (.d (tf T.n (L T B0 [])))) (.sh (.d (lf T.n (D T B0 [])))) c8 b9 b10 b11 b12 b13 b14 c15 c16 b17 c18 b19 b20 b21) := rfl
  have g4 : g_law.fns[4]? = some f_loads_below := rfl
  have g5 : g_law.fns[5]? = some f_delays := rfl
  have lb := loads_below_ev ok
  have de := delays_ev ok
  have n1 := ne_same (sha_tf T.n (L T B0 []))
  have n2 := ne_same (sha_tf T.n (D T B0 []))
  have tu : f1op .tuple (.d (lf T.n (D T B0 []))) = .ok (.d (tf T.n (D T B0 []))) := rfl
  have s7 : run g_law (.ife (.or (.cmp .ne (.call 4 [(.var 4)]) (.var 6)) (.cmp .ne (.call 5 [(.var 4)]) (.f1 .tuple (.var 7)))) [(.ret (.bl false))] []) (Lw ns ds b2 b3 (.sh (.d (tv T))) (.sh (.d (.int (T.n : Int)))) (.sh (.d (tf T.n (L T B0 [])))) (.sh (.d (lf T.n (D T B0 [])))) c8 b9 b10 b11 b12 b13 b14 c15 c16 b17 c18 b19 b20 b21) = .nx (Lw ns ds b2 b3 (.sh (.d (tv T))) (.sh (.d (.int (T.n : Int)))) (.sh (.d (tf T.n (L T B0 [])))) (.sh (.d (lf T.n (D T B0 [])))) c8 b9 b10 b11 b12 b13 b14 c15 c16 b17 c18 b19 b20 b21) := by
    simp [Lw, run, runs, ev, evL, g4, g5, lb, de, n1, n2, tu]
  refine ⟨c8, c15, c16, c18, ?_⟩
  rw [runs, s1, Out.next_nx, runs, s2, Out.next_nx, runs, s3, Out.next_nx, runs, run, li0, Res.out_ok, e, Out.next_nx, runs, s6, Out.next_nx, runs, s7]; rfl
/-- the worst leaf -/
theorem part2 (b2 b3 b5 b6 b8 b9 b10 b11 b12 b13 b14 b15 b16 b17 b18 b19 b20 b21 : Bx) : ∃ c9,
    runs g_law [(.set (.name 9) (.f1 .max (.lc (.name 8) (.seq (.call 6 [(.var 4)])) [] (.idx (.var 7) (.var 8))))), (.ife (.cmp .ne (.call 7 [(.var 4)]) (.tup [(.var 9), (.f1 .min (.lc (.name 8) (.seq (.call 6 [(.var 4)])) [(.cmp .eq (.idx (.var 7) (.var 8)) (.var 9))] (.var 8)))])) [(.ret (.bl false))] [])]
      (Lw ns ds b2 b3 (.sh (.d (tv T))) b5 b6 (.sh (.d (lf T.n (D T B0 [])))) b8 b9 b10 b11 b12 b13 b14 b15 b16 b17 b18 b19 b20 b21) =
    .nx (Lw ns ds b2 b3 (.sh (.d (tv T))) b5 b6 (.sh (.d (lf T.n (D T B0 [])))) b8 c9 b10 b11 b12 b13 b14 b15 b16 b17 b18 b19 b20 b21) := by
  have g6 : g_law.fns[6]? = some f__law_leaves := rfl
  have g7 : g_law.fns[7]? = some f_worst := rfl
  have le := law_leaves_ev ok
  obtain ⟨j, w, wo⟩ := worst_ev ok
  obtain ⟨f, hf⟩ : ∃ f, f = D T B0 [] := ⟨_, rfl⟩
  rw [← hf] at w wo ⊢
  have li0 : ∀ b9, evI g_law (.seq (.call 6 [(.var 4)])) (Lw ns ds b2 b3 (.sh (.d (tv T))) b5 b6 (.sh (.d (lf T.n f))) b8 b9 b10 b11 b12 b13 b14 b15 b16 b17 b18 b19 b20 b21) = .ok ((Lv T).map fun k : Nat => PV.int (k : Int)) := fun b9 => by
    have : evI g_law (.seq (.call 6 [(.var 4)])) (Lw ns ds b2 b3 (.sh (.d (tv T))) b5 b6 (.sh (.d (lf T.n f))) b8 b9 b10 b11 b12 b13 b14 b15 b16 b17 b18 b19 b20 b21) = seq? (.d (ln (Lv T))) := by
      simp [Lw, evI, ev, evL, g6, le]
    rw [this]
    show Res.ok (((Lv T).map fun k : Nat => (k : Int)).map PV.int) = _
    rw [List.map_map]; rfl
  have lt : ∀ k ∈ Lv T, k < T.n := fun k hk => List.mem_range.mp (List.mem_filter.mp hk).1
  have mxj : mx ((Lv T).map f) = f j := by
    have ne : (Lv T).map f ≠ [] := by simpa using Lv_ne ok
    obtain ⟨k, hk, e⟩ := List.mem_map.mp (mx_mem ne)
    have a := w.le k hk
    have b := mx_le (List.mem_map.mpr ⟨j, w.mem, rfl⟩ : f j ∈ (Lv T).map f)
    omega
  have e9 : ev g_law (.f1 .max (.lc (.name 8) (.seq (.call 6 [(.var 4)])) [] (.idx (.var 7) (.var 8)))) (Lw ns ds b2 b3 (.sh (.d (tv T))) b5 b6 (.sh (.d (lf T.n f))) b8 b9 b10 b11 b12 b13 b14 b15 b16 b17 b18 b19 b20 b21) = .ok (.d (.int (f j))) := by
    rw [ev, ev, li0, Res.bind_ok, mapR_comp, mapR_map (g := fun k : Nat => PV.int (f k)) (fun k hk => by
      have e := lf_at (f := f) (lt k hk)
      simp [Lw, bindT, evC, ev, e]), Res.bind_ok, Res.bind_ok, ← mxj]
    exact f_maxI (by simpa using Lv_ne ok) (by rw [List.map_map]; rfl)
  have s1 : run g_law (.set (.name 9) (.f1 .max (.lc (.name 8) (.seq (.call 6 [(.var 4)])) [] (.idx (.var 7) (.var 8))))) (Lw ns ds b2 b3 (.sh (.d (tv T))) b5 b6 (.sh (.d (lf T.n f))) b8 b9 b10 b11 b12 b13 b14 b15 b16 b17 b18 b19 b20 b21) = .nx (Lw ns ds b2 b3 (.sh (.d (tv T))) b5 b6 (.sh (.d (lf T.n f))) b8 (.sh (.d (.int (f j)))) b10 b11 b12 b13 b14 b15 b16 b17 b18 b19 b20 b21) := by
    rw [run, e9]; rfl
  have mnj : mn (((Lv T).filter fun k => decide (f k = f j)).map fun k : Nat => (k : Int)) = (j : Int) := by
    have mem : j ∈ (Lv T).filter fun k => decide (f k = f j) := List.mem_filter.mpr ⟨w.mem, by simp⟩
    have ne : (((Lv T).filter fun k => decide (f k = f j)).map fun k : Nat => (k : Int)) ≠ [] := by
      intro e
      rw [List.map_eq_nil_iff] at e
      rw [e] at mem; cases mem
    obtain ⟨k, hk, e⟩ := List.mem_map.mp (mn_mem ne)
    have a := mn_le (List.mem_map.mpr ⟨j, mem, rfl⟩ : (j : Int) ∈ ((Lv T).filter fun k => decide (f k = f j)).map fun k : Nat => (k : Int))
    obtain ⟨h1, h2⟩ := List.mem_filter.mp hk
    have := w.first k h1 (by simpa using h2)
    omega
  have em : ev g_law (.f1 .min (.lc (.name 8) (.seq (.call 6 [(.var 4)])) [(.cmp .eq (.idx (.var 7) (.var 8)) (.var 9))] (.var 8))) (Lw ns ds b2 b3 (.sh (.d (tv T))) b5 b6 (.sh (.d (lf T.n f))) b8 (.sh (.d (.int (f j)))) b10 b11 b12 b13 b14 b15 b16 b17 b18 b19 b20 b21) = .ok (.d (.int (j : Int))) := by
    rw [ev, ev, li0, Res.bind_ok, mapR_comp, mapR_opt (g := fun k : Nat => if (decide (f k = f j)) = true then some (PV.int (k : Int)) else none) (fun k hk => by
      have e := lf_at (f := f) (lt k hk)
      by_cases c : f k = f j
      · simp [Lw, bindT, evC, ev, e, c]
      · simp [Lw, bindT, evC, ev, e, c]), filterMap_ln (fun k => decide (f k = f j)), Res.bind_ok, Res.bind_ok, ← mnj]
    refine f_minI (fun e => ?_) rfl
    rw [List.map_eq_nil_iff] at e
    have mem : j ∈ (Lv T).filter fun k => decide (f k = f j) := List.mem_filter.mpr ⟨w.mem, by simp⟩
    rw [e] at mem; cases mem
  generalize (CE.f1 .min (.lc (.name 8) (.seq (.call 6 [(.var 4)])) [(.cmp .eq (.idx (.var 7) (.var 8)) (.var 9))] (.var 8))) = C at em ⊢
  have ne := ne_same (p := .tup [.int (f j), .int (j : Int)]) rfl
  refine ⟨.sh (.d (.int (f j))), ?_⟩
  rw [runs, s1, Out.next_nx]
  unfold Lw at em ⊢
  simp [runs, run, ev, evL, em, g7, wo, ne]
/-- the values -/
theorem part3 (t : Nat) (ht : t < 5) (hl : ds.length = 60) (b3 b6 b7 b8 b9 b10 b11 b12 b13 b14 b15 b16 b17 b18 b19 b20 b21 : Bx) : ∃ c10 c11 c12 c13 c14 c17 c18 c19 c20,
    runs g_law [(.set (.name 10) (.bin .mod (.f1 .int (.idx (.var 1) (.bin .add (.int 50) (.var 2)))) (.var 5))), (.set (.tup [(.name 17), (.name 18), (.name 19)]) (.idx (.var 4) (.var 10))), (.own 11 (.lst [(.var 4), (.f1 .list (.var 4)), .non, (.int 7), (.tup []), (.sl (.var 4) (some (.int 1)) none), (.rev (.var 4)), (.bin .add (.var 4) (.sl (.var 4) (some (.int 1)) (some (.int 2)))), (.bin .add (.bin .mul (.var 4) (.int 9)) (.var 4)), (.bin .add (.var 4) (.tup [(.tup [.non, (.int 0), (.int 0)])])), (.bin .add (.var 4) (.tup [(.tup [(.var 5), (.int 1), (.int 1)])]))])), (.set (.name 12) (.lst [(.tup [(.var 17), (.var 18), (.int 1001)]), (.tup [(.var 17), (.neg (.int 1)), (.var 19)]), (.tup [(.var 17), (.int 1001), (.var 19)]), (.tup [(.var 17), (.bl true), (.var 19)]), (.tup [(.bl true), (.var 18), (.var 19)]), (.tup [(.var 17), (.var 18)])])), (.for (.name 13) (.seq (.bin .add (.var 12) (.lst [(.lst [(.var 17), (.var 18), (.var 19)]), (.tup [(.var 10), (.var 18), (.var 19)]), (.tup [(.int 0), (.int 1), (.int 1)]), (.tup [.non, (.int 0), (.int 5)]), (.tup [(.neg (.int 1)), (.var 18), (.var 19)]), .non]))) b_law_3), (.frz 11), (.for (.name 14) (.seq (.var 11)) b_law_4)]
      (Lw ns ds (.sh (.d (.int (t : Int)))) b3 (.sh (.d (tv T))) (.sh (.d (.int (T.n : Int)))) b6 b7 b8 b9 b10 b11 b12 b13 b14 b15 b16 b17 b18 b19 b20 b21) =
    .nx (Lw ns ds (.sh (.d (.int (t : Int)))) b3 (.sh (.d (tv T))) (.sh (.d (.int (T.n : Int)))) b6 b7 b8 b9 c10 c11 c12 c13 c14 b15 b16 c17 c18 c19 c20 b21) := by
  have h9 := ok.few
  have h1 := ok.pos
  have ix := ix_li (xs := ds) (i := 50 + (t : Int)) (by omega) (by omega)
  have md := b_mod (i := gt ds (50 + (t : Int))) (j := (T.n : Int)) (by omega)
  obtain ⟨a, ha, han⟩ : ∃ a : Nat, gt ds (50 + (t : Int)) % (T.n : Int) = (a : Int) ∧ a < T.n := by
    have p1 := Int.emod_nonneg (gt ds (50 + (t : Int))) (show (T.n : Int) ≠ 0 by omega)
    have p2 := Int.emod_lt_of_pos (gt ds (50 + (t : Int))) (show (0 : Int) < (T.n : Int) by omega)
    exact ⟨(gt ds (50 + (t : Int)) % (T.n : Int)).toNat, by omega, by omega⟩
  rw [ha] at md
  have s1 : run g_law (.set (.name 10) (.bin .mod (.f1 .int (.idx (.var 1) (.bin .add (.int 50) (.var 2)))) (.var 5))) (Lw ns ds (.sh (.d (.int (t : Int)))) b3 (.sh (.d (tv T))) (.sh (.d (.int (T.n : Int)))) b6 b7 b8 b9 b10 b11 b12 b13 b14 b15 b16 b17 b18 b19 b20 b21) = .nx (Lw ns ds (.sh (.d (.int (t : Int)))) b3 (.sh (.d (tv T))) (.sh (.d (.int (T.n : Int)))) b6 b7 b8 b9 (.sh (.d (.int (a : Int)))) b11 b12 b13 b14 b15 b16 b17 b18 b19 b20 b21) := by
    simp [Lw, run, ev, ix, md]
  have na := node_at (T := T) han
  have s2 : run g_law (.set (.tup [(.name 17), (.name 18), (.name 19)]) (.idx (.var 4) (.var 10))) (Lw ns ds (.sh (.d (.int (t : Int)))) b3 (.sh (.d (tv T))) (.sh (.d (.int (T.n : Int)))) b6 b7 b8 b9 (.sh (.d (.int (a : Int)))) b11 b12 b13 b14 b15 b16 b17 b18 b19 b20 b21) = .nx (Lw ns ds (.sh (.d (.int (t : Int)))) b3 (.sh (.d (tv T))) (.sh (.d (.int (T.n : Int)))) b6 b7 b8 b9 (.sh (.d (.int (a : Int)))) b11 b12 b13 b14 b15 b16 (.sh (.d (keyN T a))) (.sh (.d (.int (T.wr a)))) (.sh (.d (.int (T.ld a)))) b20 b21) := by
    have e : nodeP T a = .tup [keyN T a, .int (T.wr a), .int (T.ld a)] := rfl
    rw [e] at na
    simp [Lw, run, ev, na, bindT, bindTs]
  obtain ⟨xs, hxs⟩ : ∃ xs, xs = (List.range T.n).map (nodeP T) := ⟨_, rfl⟩
  have lx : xs.length = T.n := by rw [hxs, List.length_map, List.length_range]
  have ht : tv T = .tup xs := by rw [hxs]; rfl
  rw [ht]
  rw [ht] at s1 s2
  generalize keyN T a = k17 at s2
  generalize T.wr a = k18 at s2
  generalize T.ld a = k19 at s2
  have cl := cut_len xs (some 1) (some 2)
  have e1 : f1op .list (.d (.tup xs)) = .ok (.d (.lst xs)) := rfl
  have e2 : slop (.d (.tup xs)) (some 1) none = .ok (.d (.tup (cutP xs (some 1) none))) := rfl
  have e3 : slop (.d (.tup xs)) (some 1) (some 2) = .ok (.d (.tup (cutP xs (some 1) (some 2)))) := rfl
  have e4 : revop (.d (.tup xs)) = .ok (.d (.tup xs.reverse)) := rfl
  have e5 : binop .add (.d (.tup xs)) (.d (.tup (cutP xs (some 1) (some 2)))) = .ok (.d (.tup (xs ++ cutP xs (some 1) (some 2)))) := binop_tup _ _ (by unfold line; omega)
  have e6 : binop .mul (.d (.tup xs)) (.d (.int 9)) = .ok (.d (.tup (rep 9 xs))) := if_pos ⟨by decide, by decide, by omega, by omega⟩
  have lr : (rep 9 xs).length ≤ 81 := by
    unfold rep
    rw [List.length_flatten, List.map_replicate, List.sum_replicate_nat]; omega
  have e7 : binop .add (.d (.tup (rep 9 xs))) (.d (.tup xs)) = .ok (.d (.tup (rep 9 xs ++ xs))) := binop_tup _ _ (by unfold line; omega)
  have e8 : ∀ p : PV, binop .add (.d (.tup xs)) (.d (.tup [p])) = .ok (.d (.tup (xs ++ [p]))) := fun p => binop_tup _ _ (by simp; unfold line; omega)
  obtain ⟨vs, hv, s3⟩ : ∃ vs : List PV, vs.length = 11 ∧ run g_law (.own 11 (.lst [(.var 4), (.f1 .list (.var 4)), .non, (.int 7), (.tup []), (.sl (.var 4) (some (.int 1)) none), (.rev (.var 4)), (.bin .add (.var 4) (.sl (.var 4) (some (.int 1)) (some (.int 2)))), (.bin .add (.bin .mul (.var 4) (.int 9)) (.var 4)), (.bin .add (.var 4) (.tup [(.tup [.non, (.int 0), (.int 0)])])), (.bin .add (.var 4) (.tup [(.tup [(.var 5), (.int 1), (.int 1)])]))])) (Lw ns ds (.sh (.d (.int (t : Int)))) b3 (.sh (.d (.tup xs))) (.sh (.d (.int (T.n : Int)))) b6 b7 b8 b9 (.sh (.d (.int (a : Int)))) b11 b12 b13 b14 b15 b16 (.sh (.d k17)) (.sh (.d (.int k18))) (.sh (.d (.int k19))) b20 b21) =
      .nx (Lw ns ds (.sh (.d (.int (t : Int)))) b3 (.sh (.d (.tup xs))) (.sh (.d (.int (T.n : Int)))) b6 b7 b8 b9 (.sh (.d (.int (a : Int)))) (.ow (.d (.lst vs))) b12 b13 b14 b15 b16 (.sh (.d k17)) (.sh (.d (.int k18))) (.sh (.d (.int k19))) b20 b21) := by
    refine ⟨[.tup xs, .lst xs, .non, .int 7, .tup [], .tup (cutP xs (some 1) none), .tup xs.reverse, .tup (xs ++ cutP xs (some 1) (some 2)), .tup (rep 9 xs ++ xs), .tup (xs ++ [.tup [.non, .int 0, .int 0]]), .tup (xs ++ [.tup [.int (T.n : Int), .int 1, .int 1]])], rfl, ?_⟩
    simp [Lw, run, ev, evL, evO, e1, e2, e3, e4, e5, e6, e7, e8]
  obtain ⟨c12, s4⟩ : ∃ c12, run g_law (.set (.name 12) (.lst [(.tup [(.var 17), (.var 18), (.int 1001)]), (.tup [(.var 17), (.neg (.int 1)), (.var 19)]), (.tup [(.var 17), (.int 1001), (.var 19)]), (.tup [(.var 17), (.bl true), (.var 19)]), (.tup [(.bl true), (.var 18), (.var 19)]), (.tup [(.var 17), (.var 18)])])) (Lw ns ds (.sh (.d (.int (t : Int)))) b3 (.sh (.d (.tup xs))) (.sh (.d (.int (T.n : Int)))) b6 b7 b8 b9 (.sh (.d (.int (a : Int)))) (.ow (.d (.lst vs))) b12 b13 b14 b15 b16 (.sh (.d k17)) (.sh (.d (.int k18))) (.sh (.d (.int k19))) b20 b21) =
      .nx (Lw ns ds (.sh (.d (.int (t : Int)))) b3 (.sh (.d (.tup xs))) (.sh (.d (.int (T.n : Int)))) b6 b7 b8 b9 (.sh (.d (.int (a : Int)))) (.ow (.d (.lst vs))) (.sh (.d (.lst c12))) b13 b14 b15 b16 (.sh (.d k17)) (.sh (.d (.int k18))) (.sh (.d (.int k19))) b20 b21) ∧ c12.length = 6 :=
    ⟨[.tup [k17, .int k18, .int 1001], .tup [k17, .int (-1), .int k19], .tup [k17, .int 1001, .int k19], .tup [k17, .bl true, .int k19], .tup [.bl true, .int k18, .int k19], .tup [k17, .int k18]], by simp [Lw, run, ev, evL], rfl⟩
  obtain ⟨s4, l12⟩ := s4
  obtain ⟨ps, lp, li0⟩ : ∃ ps : List PV, ps.length = 12 ∧ evI g_law (.seq (.bin .add (.var 12) (.lst [(.lst [(.var 17), (.var 18), (.var 19)]), (.tup [(.var 10), (.var 18), (.var 19)]), (.tup [(.int 0), (.int 1), (.int 1)]), (.tup [.non, (.int 0), (.int 5)]), (.tup [(.neg (.int 1)), (.var 18), (.var 19)]), .non]))) (Lw ns ds (.sh (.d (.int (t : Int)))) b3 (.sh (.d (.tup xs))) (.sh (.d (.int (T.n : Int)))) b6 b7 b8 b9 (.sh (.d (.int (a : Int)))) (.ow (.d (.lst vs))) (.sh (.d (.lst c12))) b13 b14 b15 b16 (.sh (.d k17)) (.sh (.d (.int k18))) (.sh (.d (.int k19))) b20 b21) = .ok ps := by
    have ad : ∀ qs : List PV, qs.length = 6 → binop .add (.d (.lst c12)) (.d (.lst qs)) = .ok (.d (.lst (c12 ++ qs))) := fun qs hq => by
      show (chk (c12 ++ qs)).bind _ = _
      unfold chk
      rw [if_pos (by rw [List.length_append]; unfold line; omega)]; rfl
    refine ⟨c12 ++ [.lst [k17, .int k18, .int k19], .tup [.int (a : Int), .int k18, .int k19], .tup [.int 0, .int 1, .int 1], .tup [.non, .int 0, .int 5], .tup [.int (-1), .int k18, .int k19], .non], by rw [List.length_append, l12]; rfl, ?_⟩
    have a6 := ad [.lst [k17, .int k18, .int k19], .tup [.int (a : Int), .int k18, .int k19], .tup [.int 0, .int 1, .int 1], .tup [.non, .int 0, .int 5], .tup [.int (-1), .int k18, .int k19], .non] rfl
    simp [Lw, evI, ev, evL, a6]
  obtain ⟨vs', c13, f3⟩ := b3_all ns ds (.sh (.d (.int (t : Int)))) b3 (.sh (.d (.int (T.n : Int)))) b6 b7 b8 b9 (.sh (.d (.lst c12))) b14 b15 b16 (.sh (.d k17)) (.sh (.d (.int k18))) (.sh (.d (.int k19))) b20 b21 (xs := xs) (by omega) (a := a) ps vs b13 (by omega)
  have s6 : run g_law (.frz 11) (Lw ns ds (.sh (.d (.int (t : Int)))) b3 (.sh (.d (.tup xs))) (.sh (.d (.int (T.n : Int)))) b6 b7 b8 b9 (.sh (.d (.int (a : Int)))) (.ow (.d (.lst vs'))) (.sh (.d (.lst c12))) c13 b14 b15 b16 (.sh (.d k17)) (.sh (.d (.int k18))) (.sh (.d (.int k19))) b20 b21) = .nx (Lw ns ds (.sh (.d (.int (t : Int)))) b3 (.sh (.d (.tup xs))) (.sh (.d (.int (T.n : Int)))) b6 b7 b8 b9 (.sh (.d (.int (a : Int)))) (.sh (.d (.lst vs'))) (.sh (.d (.lst c12))) c13 b14 b15 b16 (.sh (.d k17)) (.sh (.d (.int k18))) (.sh (.d (.int k19))) b20 b21) := rfl
  have li1 : evI g_law (.seq (.var 11)) (Lw ns ds (.sh (.d (.int (t : Int)))) b3 (.sh (.d (.tup xs))) (.sh (.d (.int (T.n : Int)))) b6 b7 b8 b9 (.sh (.d (.int (a : Int)))) (.sh (.d (.lst vs'))) (.sh (.d (.lst c12))) c13 b14 b15 b16 (.sh (.d k17)) (.sh (.d (.int k18))) (.sh (.d (.int k19))) b20 b21) = .ok vs' := rfl
  obtain ⟨c14, c20, f4⟩ := b4_all ns ds (.sh (.d (.int (t : Int)))) b3 (.sh (.d (.tup xs))) (.sh (.d (.int (T.n : Int)))) b6 b7 b8 b9 (.sh (.d (.int (a : Int)))) (.sh (.d (.lst vs'))) (.sh (.d (.lst c12))) c13 b14 b15 b16 (.sh (.d k17)) (.sh (.d (.int k18))) (.sh (.d (.int k19))) b20 b21 vs'
  refine ⟨.sh (.d (.int (a : Int))), .sh (.d (.lst vs')), .sh (.d (.lst c12)), c13, c14, .sh (.d k17), .sh (.d (.int k18)), .sh (.d (.int k19)), c20, ?_⟩
  rw [runs, s1, Out.next_nx, runs, s2, Out.next_nx, runs, s3, Out.next_nx, runs, s4, Out.next_nx, runs, run, li0, Res.out_ok, f3, Out.next_nx, runs, s6, Out.next_nx, runs, run, li1, Res.out_ok, f4]
  rfl
end
end K56
end

section
set_option autoImplicit false
set_option linter.all false
set_option maxRecDepth 100000
namespace K56
open Bw
theorem turn_ev (ns : List Int) {ds : List Int} (hl : ds.length = 60) {t : Nat} (ht : t < 5) (b3 b4 b5 b6 b7 b8 b9 b10 b11 b12 b13 b14 b15 b16 b17 b18 b19 b20 b21 : Bx) :
    ∃ c4 c5 c6 c7 c8 c9 c10 c11 c12 c13 c14 c15 c16 c17 c18 c19 c20, runs g_law b_law_5 (Lw ns ds (.sh (.d (.int (t : Int)))) b3 b4 b5 b6 b7 b8 b9 b10 b11 b12 b13 b14 b15 b16 b17 b18 b19 b20 b21) = .nx (Lw ns ds (.sh (.d (.int (t : Int)))) b3 c4 c5 c6 c7 c8 c9 c10 c11 c12 c13 c14 c15 c16 c17 c18 c19 c20 b21) := by
  have g1 : g_law.fns[1]? = some f__law_tree := rfl
  have sl1 := sl_li ds (some ((9 * t : Nat) : Int)) (some ((9 * t + 14 : Nat) : Int))
  rw [cut_mid ds _ _ (by omega) (by omega)] at sl1
  have l1 : ((ds.drop (9 * t)).take (9 * t + 14 - 9 * t)).length = 14 := by rw [List.length_take, List.length_drop]; omega
  generalize (ds.drop (9 * t)).take (9 * t + 14 - 9 * t) = d1 at sl1 l1
  have tr := law_tree_ev (ds := d1) (by omega) (by omega) (most := 9) (by omega) (by omega)
  have ok := trD_ok (ds := d1) (most := 9) (by omega) (by omega)
  generalize trD d1 9 = T at tr ok
  have m1 : binop .mul (.d (.int 9)) (.d (.int (t : Int))) = .ok (.d (.int (9 * (t : Int)))) := b_mul (.inl (by decide))
  have sl1 : slop (.d (li ds)) (some (9 * (t : Int))) (some (9 * (t : Int) + 14)) = .ok (.d (li d1)) := by
    rw [show ((9 * t : Nat) : Int) = 9 * (t : Int) by omega, show ((9 * t + 14 : Nat) : Int) = 9 * (t : Int) + 14 by omega] at sl1
    exact sl1
  have tr : f__law_tree [.d (li d1), .d (.int 9)] = .ok (.d (tv T)) := tr
  have s1 : run g_law (.set (.name 4) (.call 1 [(.sl (.var 1) (some (.bin .mul (.int 9) (.var 2))) (some (.bin .add (.bin .mul (.int 9) (.var 2)) (.int 14)))), (.int 9)])) (Lw ns ds (.sh (.d (.int (t : Int)))) b3 b4 b5 b6 b7 b8 b9 b10 b11 b12 b13 b14 b15 b16 b17 b18 b19 b20 b21) = .nx (Lw ns ds (.sh (.d (.int (t : Int)))) b3 (.sh (.d (tv T))) b5 b6 b7 b8 b9 b10 b11 b12 b13 b14 b15 b16 b17 b18 b19 b20 b21) := by
    simp [Lw, run, ev, evL, evO, m1, sl1, g1, tr]
  obtain ⟨c8, c15, c16, c18, p1⟩ := part1 ns (ds := ds) ok (.sh (.d (.int (t : Int)))) b3 b5 b6 b7 b8 b9 b10 b11 b12 b13 b14 b15 b16 b17 b18 b19 b20 b21
  obtain ⟨c9, p2⟩ := part2 ns (ds := ds) ok (.sh (.d (.int (t : Int)))) b3 (.sh (.d (.int (T.n : Int)))) (.sh (.d (tf T.n (L T B0 [])))) c8 b9 b10 b11 b12 b13 b14 c15 c16 b17 c18 b19 b20 b21
  obtain ⟨c10, c11, c12, c13, c14, c17, c18, c19, c20, p3⟩ := part3 ns (ds := ds) ok t ht hl b3 (.sh (.d (tf T.n (L T B0 [])))) (.sh (.d (lf T.n (D T B0 [])))) c8 c9 b10 b11 b12 b13 b14 c15 c16 b17 c18 b19 b20 b21
  refine ⟨.sh (.d (tv T)), .sh (.d (.int (T.n : Int))), .sh (.d (tf T.n (L T B0 []))), .sh (.d (lf T.n (D T B0 []))), c8, c9, c10, c11, c12, c13, c14, c15, c16, c17, c18, c19, c20, ?_⟩
  show runs g_law ([_] ++ ([_, _, _, _, _, _] ++ ([_, _] ++ [_, _, _, _, _, _, _]))) _ = _
  rw [runs_append, runs, s1, Out.next_nx, runs, Out.next_nx, runs_append, p1, Out.next_nx, runs_append, p2, Out.next_nx, p3]
def T1 : Tr where
  n := 4
  par := fun k => if k = 1 then 0 else 1
  wr := fun k => if k = 0 then 0 else if k = 1 then 2 else if k = 2 then 1 else 3
  ld := fun k => if k = 0 then 0 else if k = 1 then 3 else if k = 2 then 4 else 1
theorem T1_ok : T1.Ok := by
  refine ⟨by decide, by decide, ?_, rfl, ?_, ?_⟩ <;> intro k h
  · intro h2
    have h2 : k < 4 := h2
    show (if k = 1 then 0 else 1) < k
    split <;> omega
  · have h : k < 4 := h
    rcases (show k = 0 ∨ k = 1 ∨ k = 2 ∨ k = 3 by omega) with rfl | rfl | rfl | rfl <;> decide
  · have h : k < 4 := h
    rcases (show k = 0 ∨ k = 1 ∨ k = 2 ∨ k = 3 by omega) with rfl | rfl | rfl | rfl <;> decide
def T2 : Tr := ⟨1, fun _ => 0, fun _ => 0, fun _ => 5⟩
theorem T2_ok : T2.Ok := ⟨by decide, by decide, fun k h1 h2 => by have h2 : k < 1 := h2; omega, rfl, fun k _ => (show (0 : Int) ≤ 0 ∧ (0 : Int) ≤ 1000 from by decide), fun k _ => (show (0 : Int) ≤ 5 ∧ (5 : Int) ≤ 1000 from by decide)⟩
theorem law_true : ∀ ns : List Int, ns.length ≤ 63 → f_law [.scr ns] = .ok (.d (.bl true)) := by
  intro ns hns
  obtain ⟨ds, hl, hp, hd⟩ := draws_ev ns hns 60 (by omega)
  have hd : f__law_draws [.scr ns, .d (.int 60)] = .ok (.d (li ds)) := hd
  have g0 : g_law.fns[0]? = some f__law_draws := rfl
  have g4 : g_law.fns[4]? = some f_loads_below := rfl
  have g5 : g_law.fns[5]? = some f_delays := rfl
  have g7 : g_law.fns[7]? = some f_worst := rfl
  have rg := rngN (i := 5) (by omega)
  have s1 : run g_law (.set (.name 1) (.call 0 [(.var 0), (.int 60)])) [.sh (.scr ns), .no, .no, .no, .no, .no, .no, .no, .no, .no, .no, .no, .no, .no, .no, .no, .no, .no, .no, .no, .no, .no] = .nx (Lw ns ds .no .no .no .no .no .no .no .no .no .no .no .no .no .no .no .no .no .no .no .no) := by
    simp [Lw, run, ev, evL, g0, hd]
  have li0 : evI g_law (.rng1 (.int 5)) (Lw ns ds .no .no .no .no .no .no .no .no .no .no .no .no .no .no .no .no .no .no .no .no) = .ok ((List.range 5).map fun (i : Nat) => PV.int (i : Int)) := by
    have rg : rng? 0 5 1 = _ := rg
    simp only [evI, ev, Res.bind_ok, isInt_int, rg]
  obtain ⟨Γ', f, c2, c4, c5, c6, c7, c8, c9, c10, c11, c12, c13, c14, c15, c16, c17, c18, c19, c20, rfl⟩ := forR_all (fun i : Nat => PV.int (i : Int)) (f := fun x Γ => oout (bindT (.name 2) x Γ) fun Γ' => runs g_law b_law_5 Γ') (fun Γ => ∃ c2 c4 c5 c6 c7 c8 c9 c10 c11 c12 c13 c14 c15 c16 c17 c18 c19 c20, Γ = Lw ns ds c2 .no c4 c5 c6 c7 c8 c9 c10 c11 c12 c13 c14 c15 c16 c17 c18 c19 c20 .no) (List.range 5) _ ⟨.no, .no, .no, .no, .no, .no, .no, .no, .no, .no, .no, .no, .no, .no, .no, .no, .no, .no, rfl⟩ (by
    rintro t ht Γ ⟨c2, c4, c5, c6, c7, c8, c9, c10, c11, c12, c13, c14, c15, c16, c17, c18, c19, c20, rfl⟩
    obtain ⟨d4, d5, d6, d7, d8, d9, d10, d11, d12, d13, d14, d15, d16, d17, d18, d19, d20, e⟩ := turn_ev ns hl (List.mem_range.mp ht) .no c4 c5 c6 c7 c8 c9 c10 c11 c12 c13 c14 c15 c16 c17 c18 c19 c20 .no
    exact ⟨_, e, _, _, _, _, _, _, _, _, _, _, _, _, _, _, _, _, _, _, rfl⟩)
  have w1 := loads_below_ev T1_ok
  have w1 : f_loads_below [.d (.tup [.tup [.non, .int 0, .int 0], .tup [.int 0, .int 2, .int 3], .tup [.int 1, .int 1, .int 4], .tup [.int 1, .int 3, .int 1]])] = .ok (.d (.tup [.int 8, .int 8, .int 4, .int 1])) := w1
  have w2 := delays_ev T1_ok
  have w2 : f_delays [.d (.tup [.tup [.non, .int 0, .int 0], .tup [.int 0, .int 2, .int 3], .tup [.int 1, .int 1, .int 4], .tup [.int 1, .int 3, .int 1]])] = .ok (.d (.tup [.int 0, .int 16, .int 20, .int 19])) := w2
  have w3 : f_worst [.d (.tup [.tup [.non, .int 0, .int 0], .tup [.int 0, .int 2, .int 3], .tup [.int 1, .int 1, .int 4], .tup [.int 1, .int 3, .int 1]])] = .ok (.d (.tup [.int 20, .int 2])) := by
    obtain ⟨j, w, e⟩ := worst_ev T1_ok
    have u : Wst (D T1 B0 []) (Lv T1) 2 := ⟨by decide, by decide, by decide⟩
    have := w.uniq u
    subst this
    exact e
  have w4 : f_worst [.d (.tup [.tup [.non, .int 0, .int 5]])] = .ok (.d (.tup [.int 0, .int 0])) := by
    obtain ⟨j, w, e⟩ := worst_ev T2_ok
    have u : Wst (D T2 B0 []) (Lv T2) 0 := ⟨by decide, by decide, by decide⟩
    have := w.uniq u
    subst this
    exact e
  have q1 := eq_same (p := .tup [.int 8, .int 8, .int 4, .int 1]) rfl
  have q2 := eq_same (p := .tup [.int 0, .int 16, .int 20, .int 19]) rfl
  have q3 := eq_same (p := .tup [.int 20, .int 2]) rfl
  have q4 := eq_same (p := .tup [.int 0, .int 0]) rfl
  show (runs g_law [_, .for (.name 2) (.rng1 (.int 5)) b_law_5, _, _] [.sh (.scr ns), .no, .no, .no, .no, .no, .no, .no, .no, .no, .no, .no, .no, .no, .no, .no, .no, .no, .no, .no, .no, .no]).fin = _
  rw [runs, s1, Out.next_nx, runs, run, li0, Res.out_ok, f, Out.next_nx]
  simp [Lw, runs, run, ev, evL, g4, g5, g7, w1, w2, w3, w4, q1, q2, q3, q4]
end K56
end

section
set_option autoImplicit false
set_option linter.all false
set_option maxRecDepth 100000
namespace K56
open PySem L2 Bw
def top (i : Nat) : Stmt := PySem.Challenge.pw_boardwright_k56_wire_trees.main.body.getD i (.Pass ⟨0, 0, 0, 0⟩)
def i__law_draws : Inf := ⟨["script", "many", "draws", "seed", "cell", "k", "number"], [], [], ["BadTree", "BoardError", "BadNodes", "BadBuffer"]⟩
abbrev s__law_draws : Stmt := top 30
theorem sc__law_draws : FnScope i__law_draws.N ["script", "many"] (defScope s__law_draws) := ⟨by decide +kernel, by decide +kernel, by decide +kernel, by decide +kernel, by decide +kernel, by decide +kernel, by decide +kernel⟩
theorem ok__law_draws : okSs i__law_draws (defScope s__law_draws) c__law_draws (defBody s__law_draws) = true := by decide +kernel
def i__law_tree : Inf := ⟨["draws", "most", "many", "kind", "found", "k", "draw"], [], [], ["BadTree", "BoardError", "BadNodes", "BadBuffer"]⟩
abbrev s__law_tree : Stmt := top 31
theorem sc__law_tree : FnScope i__law_tree.N ["draws", "most"] (defScope s__law_tree) := ⟨by decide +kernel, by decide +kernel, by decide +kernel, by decide +kernel, by decide +kernel, by decide +kernel, by decide +kernel⟩
theorem ok__law_tree : okSs i__law_tree (defScope s__law_tree) c__law_tree (defBody s__law_tree) = true := by decide +kernel
def i__law_above : Inf := ⟨["tree", "k", "found", "turn"], [], [], ["BadTree", "BoardError", "BadNodes", "BadBuffer"]⟩
abbrev s__law_above : Stmt := top 32
theorem sc__law_above : FnScope i__law_above.N ["tree", "k"] (defScope s__law_above) := ⟨by decide +kernel, by decide +kernel, by decide +kernel, by decide +kernel, by decide +kernel, by decide +kernel, by decide +kernel⟩
theorem ok__law_above : okSs i__law_above (defScope s__law_above) c__law_above (defBody s__law_above) = true := by decide +kernel
def i__law_below : Inf := ⟨["tree", "k", "n"], ["_law_above"], [], ["BadTree", "BoardError", "BadNodes", "BadBuffer"]⟩
abbrev s__law_below : Stmt := top 33
theorem sc__law_below : FnScope i__law_below.N ["tree", "k"] (defScope s__law_below) := ⟨by decide +kernel, by decide +kernel, by decide +kernel, by decide +kernel, by decide +kernel, by decide +kernel, by decide +kernel⟩
theorem ok__law_below : okSs i__law_below (defScope s__law_below) c__law_below (defBody s__law_below) = true := by decide +kernel
def i_is_whole : Inf := ⟨["value", "least", "most"], [], [], ["BadTree", "BoardError", "BadNodes", "BadBuffer"]⟩
abbrev s_is_whole : Stmt := top 7
theorem sc_is_whole : FnScope i_is_whole.N ["value", "least", "most"] (defScope s_is_whole) := ⟨by decide +kernel, by decide +kernel, by decide +kernel, by decide +kernel, by decide +kernel, by decide +kernel, by decide +kernel⟩
theorem ok_is_whole : okSs i_is_whole (defScope s_is_whole) c_is_whole (defBody s_is_whole) = true := by decide +kernel
def i__is_node : Inf := ⟨["number", "value"], ["is_whole"], ["MOST_VALUE"], ["BadTree", "BoardError", "BadNodes", "BadBuffer"]⟩
abbrev s__is_node : Stmt := top 12
theorem sc__is_node : FnScope i__is_node.N ["number", "value"] (defScope s__is_node) := ⟨by decide +kernel, by decide +kernel, by decide +kernel, by decide +kernel, by decide +kernel, by decide +kernel, by decide +kernel⟩
theorem ok__is_node : okSs i__is_node (defScope s__is_node) c__is_node (defBody s__is_node) = true := by decide +kernel
def i_is_tree : Inf := ⟨["value", "number", "one"], ["_is_node"], ["MOST_NODES"], ["BadTree", "BoardError", "BadNodes", "BadBuffer"]⟩
abbrev s_is_tree : Stmt := top 13
theorem sc_is_tree : FnScope i_is_tree.N ["value"] (defScope s_is_tree) := ⟨by decide +kernel, by decide +kernel, by decide +kernel, by decide +kernel, by decide +kernel, by decide +kernel, by decide +kernel⟩
theorem ok_is_tree : okSs i_is_tree (defScope s_is_tree) c_is_tree (defBody s_is_tree) = true := by decide +kernel
def i_check_tree : Inf := ⟨["value"], ["is_tree"], [], ["BadTree", "BoardError", "BadNodes", "BadBuffer"]⟩
abbrev s_check_tree : Stmt := top 14
theorem sc_check_tree : FnScope i_check_tree.N ["value"] (defScope s_check_tree) := ⟨by decide +kernel, by decide +kernel, by decide +kernel, by decide +kernel, by decide +kernel, by decide +kernel, by decide +kernel⟩
theorem ok_check_tree : okSs i_check_tree (defScope s_check_tree) c_check_tree (defBody s_check_tree) = true := by decide +kernel
def i__loads : Inf := ⟨["tree", "buffer", "nodes", "found", "number", "one"], [], [], ["BadTree", "BoardError", "BadNodes", "BadBuffer"]⟩
abbrev s__loads : Stmt := top 17
theorem sc__loads : FnScope i__loads.N ["tree", "buffer", "nodes"] (defScope s__loads) := ⟨by decide +kernel, by decide +kernel, by decide +kernel, by decide +kernel, by decide +kernel, by decide +kernel, by decide +kernel⟩
theorem ok__loads : okSs i__loads (defScope s__loads) c__loads (defBody s__loads) = true := by decide +kernel
def i_loads_below : Inf := ⟨["tree"], ["check_tree", "_loads"], [], ["BadTree", "BoardError", "BadNodes", "BadBuffer"]⟩
abbrev s_loads_below : Stmt := top 19
theorem sc_loads_below : FnScope i_loads_below.N ["tree"] (defScope s_loads_below) := ⟨by decide +kernel, by decide +kernel, by decide +kernel, by decide +kernel, by decide +kernel, by decide +kernel, by decide +kernel⟩
theorem ok_loads_below : okSs i_loads_below (defScope s_loads_below) c_loads_below (defBody s_loads_below) = true := by decide +kernel
def i_delays_of : Inf := ⟨["tree", "buffer", "nodes", "loads", "found", "number", "parent", "resistance", "_load"], ["_loads"], [], ["BadTree", "BoardError", "BadNodes", "BadBuffer"]⟩
abbrev s_delays_of : Stmt := top 18
theorem sc_delays_of : FnScope i_delays_of.N ["tree", "buffer", "nodes"] (defScope s_delays_of) := ⟨by decide +kernel, by decide +kernel, by decide +kernel, by decide +kernel, by decide +kernel, by decide +kernel, by decide +kernel⟩
theorem ok_delays_of : okSs i_delays_of (defScope s_delays_of) c_delays_of (defBody s_delays_of) = true := by decide +kernel
def i_delays : Inf := ⟨["tree"], ["check_tree", "delays_of"], [], ["BadTree", "BoardError", "BadNodes", "BadBuffer"]⟩
abbrev s_delays : Stmt := top 20
theorem sc_delays : FnScope i_delays.N ["tree"] (defScope s_delays) := ⟨by decide +kernel, by decide +kernel, by decide +kernel, by decide +kernel, by decide +kernel, by decide +kernel, by decide +kernel⟩
theorem ok_delays : okSs i_delays (defScope s_delays) c_delays (defBody s_delays) = true := by decide +kernel
def i__law_leaves : Inf := ⟨["tree", "k", "one"], [], [], ["BadTree", "BoardError", "BadNodes", "BadBuffer"]⟩
abbrev s__law_leaves : Stmt := top 34
theorem sc__law_leaves : FnScope i__law_leaves.N ["tree"] (defScope s__law_leaves) := ⟨by decide +kernel, by decide +kernel, by decide +kernel, by decide +kernel, by decide +kernel, by decide +kernel, by decide +kernel⟩
theorem ok__law_leaves : okSs i__law_leaves (defScope s__law_leaves) c__law_leaves (defBody s__law_leaves) = true := by decide +kernel
def i_leaves_of : Inf := ⟨["tree", "parents", "one", "number"], [], [], ["BadTree", "BoardError", "BadNodes", "BadBuffer"]⟩
abbrev s_leaves_of : Stmt := top 16
theorem sc_leaves_of : FnScope i_leaves_of.N ["tree"] (defScope s_leaves_of) := ⟨by decide +kernel, by decide +kernel, by decide +kernel, by decide +kernel, by decide +kernel, by decide +kernel, by decide +kernel⟩
theorem ok_leaves_of : okSs i_leaves_of (defScope s_leaves_of) c_leaves_of (defBody s_leaves_of) = true := by decide +kernel
def i_worst_of : Inf := ⟨["tree", "found", "best", "leaf"], ["leaves_of"], [], ["BadTree", "BoardError", "BadNodes", "BadBuffer"]⟩
abbrev s_worst_of : Stmt := top 21
theorem sc_worst_of : FnScope i_worst_of.N ["tree", "found"] (defScope s_worst_of) := ⟨by decide +kernel, by decide +kernel, by decide +kernel, by decide +kernel, by decide +kernel, by decide +kernel, by decide +kernel⟩
theorem ok_worst_of : okSs i_worst_of (defScope s_worst_of) c_worst_of (defBody s_worst_of) = true := by decide +kernel
def i_worst : Inf := ⟨["tree"], ["check_tree", "delays_of", "worst_of"], [], ["BadTree", "BoardError", "BadNodes", "BadBuffer"]⟩
abbrev s_worst : Stmt := top 22
theorem sc_worst : FnScope i_worst.N ["tree"] (defScope s_worst) := ⟨by decide +kernel, by decide +kernel, by decide +kernel, by decide +kernel, by decide +kernel, by decide +kernel, by decide +kernel⟩
theorem ok_worst : okSs i_worst (defScope s_worst) c_worst (defBody s_worst) = true := by decide +kernel
def i__law_is_tree : Inf := ⟨["value", "k", "one", "part"], [], [], ["BadTree", "BoardError", "BadNodes", "BadBuffer"]⟩
abbrev s__law_is_tree : Stmt := top 39
theorem sc__law_is_tree : FnScope i__law_is_tree.N ["value"] (defScope s__law_is_tree) := ⟨by decide +kernel, by decide +kernel, by decide +kernel, by decide +kernel, by decide +kernel, by decide +kernel, by decide +kernel⟩
theorem ok__law_is_tree : okSs i__law_is_tree (defScope s__law_is_tree) c__law_is_tree (defBody s__law_is_tree) = true := by decide +kernel
def i_check_buffer : Inf := ⟨["value", "one"], ["is_whole"], ["MOST_VALUE"], ["BadTree", "BoardError", "BadNodes", "BadBuffer"]⟩
abbrev s_check_buffer : Stmt := top 15
theorem sc_check_buffer : FnScope i_check_buffer.N ["value"] (defScope s_check_buffer) := ⟨by decide +kernel, by decide +kernel, by decide +kernel, by decide +kernel, by decide +kernel, by decide +kernel, by decide +kernel⟩
theorem ok_check_buffer : okSs i_check_buffer (defScope s_check_buffer) c_check_buffer (defBody s_check_buffer) = true := by decide +kernel
def i_ascends : Inf := ⟨["values", "one", "later"], [], [], ["BadTree", "BoardError", "BadNodes", "BadBuffer"]⟩
abbrev s_ascends : Stmt := top 8
theorem sc_ascends : FnScope i_ascends.N ["values"] (defScope s_ascends) := ⟨by decide +kernel, by decide +kernel, by decide +kernel, by decide +kernel, by decide +kernel, by decide +kernel, by decide +kernel⟩
theorem ok_ascends : okSs i_ascends (defScope s_ascends) c_ascends (defBody s_ascends) = true := by decide +kernel
def i_delays_with : Inf := ⟨["tree", "buffer", "nodes", "one"], ["check_tree", "check_buffer", "is_whole", "ascends", "delays_of"], [], ["BadTree", "BoardError", "BadNodes", "BadBuffer"]⟩
abbrev s_delays_with : Stmt := top 23
theorem sc_delays_with : FnScope i_delays_with.N ["tree", "buffer", "nodes"] (defScope s_delays_with) := ⟨by decide +kernel, by decide +kernel, by decide +kernel, by decide +kernel, by decide +kernel, by decide +kernel, by decide +kernel⟩
theorem ok_delays_with : okSs i_delays_with (defScope s_delays_with) c_delays_with (defBody s_delays_with) = true := by decide +kernel
def i_best_buffers : Inf := ⟨["tree", "buffer", "best", "numbers", "many", "size", "nodes", "_load", "delay"], ["check_tree", "check_buffer"], [], ["BadTree", "BoardError", "BadNodes", "BadBuffer"]⟩
abbrev s_best_buffers : Stmt := top 28
theorem sc_best_buffers : FnScope i_best_buffers.N ["tree", "buffer"] (defScope s_best_buffers) := ⟨by decide +kernel, by decide +kernel, by decide +kernel, by decide +kernel, by decide +kernel, by decide +kernel, by decide +kernel⟩
theorem ok_best_buffers : okSs i_best_buffers (defScope s_best_buffers) c_best_buffers (defBody s_best_buffers) = true := by decide +kernel
def i_options : Inf := ⟨["tree", "buffer", "rows"], ["check_tree", "check_buffer"], [], ["BadTree", "BoardError", "BadNodes", "BadBuffer"]⟩
abbrev s_options : Stmt := top 27
theorem sc_options : FnScope i_options.N ["tree", "buffer"] (defScope s_options) := ⟨by decide +kernel, by decide +kernel, by decide +kernel, by decide +kernel, by decide +kernel, by decide +kernel, by decide +kernel⟩
theorem ok_options : okSs i_options (defScope s_options) c_options (defBody s_options) = true := by decide +kernel
def i__law_refused : Inf := ⟨["way", "value", "e"], ["loads_below", "delays", "worst", "delays_with", "best_buffers", "options"], [], ["BadTree", "BoardError", "BadNodes", "BadBuffer"]⟩
abbrev s__law_refused : Stmt := top 40
theorem sc__law_refused : FnScope i__law_refused.N ["way", "value"] (defScope s__law_refused) := ⟨by decide +kernel, by decide +kernel, by decide +kernel, by decide +kernel, by decide +kernel, by decide +kernel, by decide +kernel⟩
theorem ok__law_refused : okSs i__law_refused (defScope s__law_refused) c__law_refused (defBody s__law_refused) = true := by decide +kernel
def i_law : Inf := ⟨["script", "draws", "turn", "one", "tree", "many", "loads", "slow", "k", "best", "at", "values", "items", "item", "value", "total", "n", "parent", "wire", "load", "is_one", "way"], ["_law_draws", "_law_tree", "_law_below", "_law_above", "loads_below", "delays", "_law_leaves", "worst", "_law_is_tree", "is_tree", "_law_refused"], [], ["BadTree", "BoardError", "BadNodes", "BadBuffer"]⟩
abbrev s_law : Stmt := top 41
theorem sc_law : FnScope i_law.N ["script"] (defScope s_law) := ⟨by decide +kernel, by decide +kernel, by decide +kernel, by decide +kernel, by decide +kernel, by decide +kernel, by decide +kernel⟩
theorem ok_law : okSs i_law (defScope s_law) c_law (defBody s_law) = true := by decide +kernel
end K56
end

section
set_option autoImplicit false
set_option linter.all false
set_option maxRecDepth 100000
namespace K56
open PySem L2 Bw
set_option maxHeartbeats 0 in
theorem all_mk {l : PySem.W.OpenLaw} {w : World} {K : PySem.W.Frag} {h : Heap} {mg : Str → Option Value} {fa f1 f2 f3 f4 f5 f6 f7 f8 f9 f10 f11 f12 f13 f14 f15 f16 f17 f18 f19 f20 f21 f22 f23 f24 : Addr} (X : K.In h) (G : h.Ns mainGlobals mg) (hfa : mg "law" = some (.ref fa))
    {od1 an1 od2 an2 od3 an3 od4 an4 od5 an5 od6 an6 od7 an7 od8 an8 od9 an9 od10 an10 od11 an11 od12 an12 od13 an13 od14 an14 od15 an15 od16 an16 od17 an17 od18 an18 od19 an19 od20 an20 od21 an21 od22 an22 od23 an23 od24 an24 : Option Addr} {sl1 sl2 sl3 sl4 sl5 sl6 sl7 sl8 sl9 sl10 sl11 sl12 sl13 sl14 sl15 sl16 sl17 sl18 sl19 sl20 sl21 sl22 sl23 sl24 : Array (Option Value)} {oc1 kV1 dc1 pm1 cd1 ct1 oc2 kV2 dc2 pm2 cd2 ct2 oc3 kV3 dc3 pm3 cd3 ct3 oc4 kV4 dc4 pm4 cd4 ct4 oc5 kV5 dc5 pm5 cd5 ct5 oc6 kV6 dc6 pm6 cd6 ct6 oc7 kV7 dc7 pm7 cd7 ct7 oc8 kV8 dc8 pm8 cd8 ct8 oc9 kV9 dc9 pm9 cd9 ct9 oc10 kV10 dc10 pm10 cd10 ct10 oc11 kV11 dc11 pm11 cd11 ct11 oc12 kV12 dc12 pm12 cd12 ct12 oc13 kV13 dc13 pm13 cd13 ct13 oc14 kV14 dc14 pm14 cd14 ct14 oc15 kV15 dc15 pm15 cd15 ct15 oc16 kV16 dc16 pm16 cd16 ct16 oc17 kV17 dc17 pm17 cd17 ct17 oc18 kV18 dc18 pm18 cd18 ct18 oc19 kV19 dc19 pm19 cd19 ct19 oc20 kV20 dc20 pm20 cd20 ct20 oc21 kV21 dc21 pm21 cd21 ct21 oc22 kV22 dc22 pm22 cd22 ct22 oc23 kV23 dc23 pm23 cd23 ct23 oc24 kV24 dc24 pm24 cd24 ct24 : Value}
    {t_MOST_VALUE t_MOST_NODES : Tok}
    (a1 : PySem.W.nsIn K mainGlobals "_law_draws" = some (some (.ref f1))) (l1 : K.lookup f1 = some ⟨oc1, od1, .func (PySem.W.fnOf "_law_draws" "_law_draws" (defArgs s__law_draws) (defBody s__law_draws) (defScope s__law_draws) .none kV1 dc1 pm1 an1 cd1 ct1), sl1⟩) (c1 : PySem.W.codeIn K cd1 "_law_draws" = true) (k1 : PySem.W.keepIn K (.ref f1) = true)
    (a2 : PySem.W.nsIn K mainGlobals "_law_tree" = some (some (.ref f2))) (l2 : K.lookup f2 = some ⟨oc2, od2, .func (PySem.W.fnOf "_law_tree" "_law_tree" (defArgs s__law_tree) (defBody s__law_tree) (defScope s__law_tree) .none kV2 dc2 pm2 an2 cd2 ct2), sl2⟩) (c2 : PySem.W.codeIn K cd2 "_law_tree" = true) (k2 : PySem.W.keepIn K (.ref f2) = true)
    (a3 : PySem.W.nsIn K mainGlobals "_law_above" = some (some (.ref f3))) (l3 : K.lookup f3 = some ⟨oc3, od3, .func (PySem.W.fnOf "_law_above" "_law_above" (defArgs s__law_above) (defBody s__law_above) (defScope s__law_above) .none kV3 dc3 pm3 an3 cd3 ct3), sl3⟩) (c3 : PySem.W.codeIn K cd3 "_law_above" = true) (k3 : PySem.W.keepIn K (.ref f3) = true)
    (a4 : PySem.W.nsIn K mainGlobals "_law_below" = some (some (.ref f4))) (l4 : K.lookup f4 = some ⟨oc4, od4, .func (PySem.W.fnOf "_law_below" "_law_below" (defArgs s__law_below) (defBody s__law_below) (defScope s__law_below) .none kV4 dc4 pm4 an4 cd4 ct4), sl4⟩) (c4 : PySem.W.codeIn K cd4 "_law_below" = true) (k4 : PySem.W.keepIn K (.ref f4) = true)
    (a5 : PySem.W.nsIn K mainGlobals "is_whole" = some (some (.ref f5))) (l5 : K.lookup f5 = some ⟨oc5, od5, .func (PySem.W.fnOf "is_whole" "is_whole" (defArgs s_is_whole) (defBody s_is_whole) (defScope s_is_whole) .none kV5 dc5 pm5 an5 cd5 ct5), sl5⟩) (c5 : PySem.W.codeIn K cd5 "is_whole" = true) (k5 : PySem.W.keepIn K (.ref f5) = true)
    (a6 : PySem.W.nsIn K mainGlobals "_is_node" = some (some (.ref f6))) (l6 : K.lookup f6 = some ⟨oc6, od6, .func (PySem.W.fnOf "_is_node" "_is_node" (defArgs s__is_node) (defBody s__is_node) (defScope s__is_node) .none kV6 dc6 pm6 an6 cd6 ct6), sl6⟩) (c6 : PySem.W.codeIn K cd6 "_is_node" = true) (k6 : PySem.W.keepIn K (.ref f6) = true)
    (a7 : PySem.W.nsIn K mainGlobals "is_tree" = some (some (.ref f7))) (l7 : K.lookup f7 = some ⟨oc7, od7, .func (PySem.W.fnOf "is_tree" "is_tree" (defArgs s_is_tree) (defBody s_is_tree) (defScope s_is_tree) .none kV7 dc7 pm7 an7 cd7 ct7), sl7⟩) (c7 : PySem.W.codeIn K cd7 "is_tree" = true) (k7 : PySem.W.keepIn K (.ref f7) = true)
    (a8 : PySem.W.nsIn K mainGlobals "check_tree" = some (some (.ref f8))) (l8 : K.lookup f8 = some ⟨oc8, od8, .func (PySem.W.fnOf "check_tree" "check_tree" (defArgs s_check_tree) (defBody s_check_tree) (defScope s_check_tree) .none kV8 dc8 pm8 an8 cd8 ct8), sl8⟩) (c8 : PySem.W.codeIn K cd8 "check_tree" = true) (k8 : PySem.W.keepIn K (.ref f8) = true)
    (a9 : PySem.W.nsIn K mainGlobals "_loads" = some (some (.ref f9))) (l9 : K.lookup f9 = some ⟨oc9, od9, .func (PySem.W.fnOf "_loads" "_loads" (defArgs s__loads) (defBody s__loads) (defScope s__loads) .none kV9 dc9 pm9 an9 cd9 ct9), sl9⟩) (c9 : PySem.W.codeIn K cd9 "_loads" = true) (k9 : PySem.W.keepIn K (.ref f9) = true)
    (a10 : PySem.W.nsIn K mainGlobals "loads_below" = some (some (.ref f10))) (l10 : K.lookup f10 = some ⟨oc10, od10, .func (PySem.W.fnOf "loads_below" "loads_below" (defArgs s_loads_below) (defBody s_loads_below) (defScope s_loads_below) .none kV10 dc10 pm10 an10 cd10 ct10), sl10⟩) (c10 : PySem.W.codeIn K cd10 "loads_below" = true) (k10 : PySem.W.keepIn K (.ref f10) = true)
    (a11 : PySem.W.nsIn K mainGlobals "delays_of" = some (some (.ref f11))) (l11 : K.lookup f11 = some ⟨oc11, od11, .func (PySem.W.fnOf "delays_of" "delays_of" (defArgs s_delays_of) (defBody s_delays_of) (defScope s_delays_of) .none kV11 dc11 pm11 an11 cd11 ct11), sl11⟩) (c11 : PySem.W.codeIn K cd11 "delays_of" = true) (k11 : PySem.W.keepIn K (.ref f11) = true)
    (a12 : PySem.W.nsIn K mainGlobals "delays" = some (some (.ref f12))) (l12 : K.lookup f12 = some ⟨oc12, od12, .func (PySem.W.fnOf "delays" "delays" (defArgs s_delays) (defBody s_delays) (defScope s_delays) .none kV12 dc12 pm12 an12 cd12 ct12), sl12⟩) (c12 : PySem.W.codeIn K cd12 "delays" = true) (k12 : PySem.W.keepIn K (.ref f12) = true)
    (a13 : PySem.W.nsIn K mainGlobals "_law_leaves" = some (some (.ref f13))) (l13 : K.lookup f13 = some ⟨oc13, od13, .func (PySem.W.fnOf "_law_leaves" "_law_leaves" (defArgs s__law_leaves) (defBody s__law_leaves) (defScope s__law_leaves) .none kV13 dc13 pm13 an13 cd13 ct13), sl13⟩) (c13 : PySem.W.codeIn K cd13 "_law_leaves" = true) (k13 : PySem.W.keepIn K (.ref f13) = true)
    (a14 : PySem.W.nsIn K mainGlobals "leaves_of" = some (some (.ref f14))) (l14 : K.lookup f14 = some ⟨oc14, od14, .func (PySem.W.fnOf "leaves_of" "leaves_of" (defArgs s_leaves_of) (defBody s_leaves_of) (defScope s_leaves_of) .none kV14 dc14 pm14 an14 cd14 ct14), sl14⟩) (c14 : PySem.W.codeIn K cd14 "leaves_of" = true) (k14 : PySem.W.keepIn K (.ref f14) = true)
    (a15 : PySem.W.nsIn K mainGlobals "worst_of" = some (some (.ref f15))) (l15 : K.lookup f15 = some ⟨oc15, od15, .func (PySem.W.fnOf "worst_of" "worst_of" (defArgs s_worst_of) (defBody s_worst_of) (defScope s_worst_of) .none kV15 dc15 pm15 an15 cd15 ct15), sl15⟩) (c15 : PySem.W.codeIn K cd15 "worst_of" = true) (k15 : PySem.W.keepIn K (.ref f15) = true)
    (a16 : PySem.W.nsIn K mainGlobals "worst" = some (some (.ref f16))) (l16 : K.lookup f16 = some ⟨oc16, od16, .func (PySem.W.fnOf "worst" "worst" (defArgs s_worst) (defBody s_worst) (defScope s_worst) .none kV16 dc16 pm16 an16 cd16 ct16), sl16⟩) (c16 : PySem.W.codeIn K cd16 "worst" = true) (k16 : PySem.W.keepIn K (.ref f16) = true)
    (a17 : PySem.W.nsIn K mainGlobals "_law_is_tree" = some (some (.ref f17))) (l17 : K.lookup f17 = some ⟨oc17, od17, .func (PySem.W.fnOf "_law_is_tree" "_law_is_tree" (defArgs s__law_is_tree) (defBody s__law_is_tree) (defScope s__law_is_tree) .none kV17 dc17 pm17 an17 cd17 ct17), sl17⟩) (c17 : PySem.W.codeIn K cd17 "_law_is_tree" = true) (k17 : PySem.W.keepIn K (.ref f17) = true)
    (a18 : PySem.W.nsIn K mainGlobals "check_buffer" = some (some (.ref f18))) (l18 : K.lookup f18 = some ⟨oc18, od18, .func (PySem.W.fnOf "check_buffer" "check_buffer" (defArgs s_check_buffer) (defBody s_check_buffer) (defScope s_check_buffer) .none kV18 dc18 pm18 an18 cd18 ct18), sl18⟩) (c18 : PySem.W.codeIn K cd18 "check_buffer" = true) (k18 : PySem.W.keepIn K (.ref f18) = true)
    (a19 : PySem.W.nsIn K mainGlobals "ascends" = some (some (.ref f19))) (l19 : K.lookup f19 = some ⟨oc19, od19, .func (PySem.W.fnOf "ascends" "ascends" (defArgs s_ascends) (defBody s_ascends) (defScope s_ascends) .none kV19 dc19 pm19 an19 cd19 ct19), sl19⟩) (c19 : PySem.W.codeIn K cd19 "ascends" = true) (k19 : PySem.W.keepIn K (.ref f19) = true)
    (a20 : PySem.W.nsIn K mainGlobals "delays_with" = some (some (.ref f20))) (l20 : K.lookup f20 = some ⟨oc20, od20, .func (PySem.W.fnOf "delays_with" "delays_with" (defArgs s_delays_with) (defBody s_delays_with) (defScope s_delays_with) .none kV20 dc20 pm20 an20 cd20 ct20), sl20⟩) (c20 : PySem.W.codeIn K cd20 "delays_with" = true) (k20 : PySem.W.keepIn K (.ref f20) = true)
    (a21 : PySem.W.nsIn K mainGlobals "best_buffers" = some (some (.ref f21))) (l21 : K.lookup f21 = some ⟨oc21, od21, .func (PySem.W.fnOf "best_buffers" "best_buffers" (defArgs s_best_buffers) (defBody s_best_buffers) (defScope s_best_buffers) .none kV21 dc21 pm21 an21 cd21 ct21), sl21⟩) (c21 : PySem.W.codeIn K cd21 "best_buffers" = true) (k21 : PySem.W.keepIn K (.ref f21) = true)
    (a22 : PySem.W.nsIn K mainGlobals "options" = some (some (.ref f22))) (l22 : K.lookup f22 = some ⟨oc22, od22, .func (PySem.W.fnOf "options" "options" (defArgs s_options) (defBody s_options) (defScope s_options) .none kV22 dc22 pm22 an22 cd22 ct22), sl22⟩) (c22 : PySem.W.codeIn K cd22 "options" = true) (k22 : PySem.W.keepIn K (.ref f22) = true)
    (a23 : PySem.W.nsIn K mainGlobals "_law_refused" = some (some (.ref f23))) (l23 : K.lookup f23 = some ⟨oc23, od23, .func (PySem.W.fnOf "_law_refused" "_law_refused" (defArgs s__law_refused) (defBody s__law_refused) (defScope s__law_refused) .none kV23 dc23 pm23 an23 cd23 ct23), sl23⟩) (c23 : PySem.W.codeIn K cd23 "_law_refused" = true) (k23 : PySem.W.keepIn K (.ref f23) = true)
    (a24 : PySem.W.nsIn K mainGlobals "law" = some (some (.ref f24))) (l24 : K.lookup f24 = some ⟨oc24, od24, .func (PySem.W.fnOf "law" "law" (defArgs s_law) (defBody s_law) (defScope s_law) .none kV24 dc24 pm24 an24 cd24 ct24), sl24⟩) (c24 : PySem.W.codeIn K cd24 "law" = true) (k24 : PySem.W.keepIn K (.ref f24) = true)
    (ac_MOST_VALUE : PySem.W.nsIn K mainGlobals "MOST_VALUE" = some (some (Value.int (1000) t_MOST_VALUE)))
    (ac_MOST_NODES : PySem.W.nsIn K mainGlobals "MOST_NODES" = some (some (Value.int (9) t_MOST_NODES)))
    {C_BadTree : Addr} (gx_BadTree : PySem.W.nsIn K mainGlobals "BadTree" = some (some (.ref C_BadTree))) (kx_BadTree : PySem.W.keepIn K (.ref C_BadTree) = true) (bx_BadTree : PySem.W.subIn K (.ref C_BadTree) (.type "BaseException") = some true) (tx_BadTree : PySem.W.typeIn K (.ref C_BadTree) = some (.type "type"))
    (xx_BadTree : PySem.W.excIn K C_BadTree [.type "ValueError", .type "Exception", .type "BaseException", .type "object"] "ValueError.__new__" = true)
    (ix_BadTree : PySem.W.isClsIn K C_BadTree = true)
    {C_BoardError : Addr} (gx_BoardError : PySem.W.nsIn K mainGlobals "BoardError" = some (some (.ref C_BoardError))) (kx_BoardError : PySem.W.keepIn K (.ref C_BoardError) = true) (bx_BoardError : PySem.W.subIn K (.ref C_BoardError) (.type "BaseException") = some true) (tx_BoardError : PySem.W.typeIn K (.ref C_BoardError) = some (.type "type"))
    (xx_BoardError : PySem.W.excIn K C_BoardError [.type "ValueError", .type "Exception", .type "BaseException", .type "object"] "ValueError.__new__" = true)
    (ix_BoardError : PySem.W.isClsIn K C_BoardError = true)
    {C_BadNodes : Addr} (gx_BadNodes : PySem.W.nsIn K mainGlobals "BadNodes" = some (some (.ref C_BadNodes))) (kx_BadNodes : PySem.W.keepIn K (.ref C_BadNodes) = true) (bx_BadNodes : PySem.W.subIn K (.ref C_BadNodes) (.type "BaseException") = some true) (tx_BadNodes : PySem.W.typeIn K (.ref C_BadNodes) = some (.type "type"))
    (xx_BadNodes : PySem.W.excIn K C_BadNodes [.type "ValueError", .type "Exception", .type "BaseException", .type "object"] "ValueError.__new__" = true)
    (ix_BadNodes : PySem.W.isClsIn K C_BadNodes = true)
    {C_BadBuffer : Addr} (gx_BadBuffer : PySem.W.nsIn K mainGlobals "BadBuffer" = some (some (.ref C_BadBuffer))) (kx_BadBuffer : PySem.W.keepIn K (.ref C_BadBuffer) = true) (bx_BadBuffer : PySem.W.subIn K (.ref C_BadBuffer) (.type "BaseException") = some true) (tx_BadBuffer : PySem.W.typeIn K (.ref C_BadBuffer) = some (.type "type"))
    (xx_BadBuffer : PySem.W.excIn K C_BadBuffer [.type "ValueError", .type "Exception", .type "BaseException", .type "object"] "ValueError.__new__" = true)
    (ix_BadBuffer : PySem.W.isClsIn K C_BadBuffer = true)
    (eg_BadTree : PySem.W.findIn K (.ref C_BadTree) "__getattribute__" = some (some (.builtin "BaseException.__getattribute__"))) (ek_BadTree : PySem.W.findIn K (.ref C_BadTree) "__getattr__" = some none) (ed_BadTree : PySem.W.hasDictIn K C_BadTree = true) (ea_BadTree : PySem.W.findIn K (.ref C_BadTree) "__class__" = some (some (.builtin "object.__class__"))) (em_BadTree : PySem.W.mroIn K C_BadTree (.type "object") = some true)
    (eg_BoardError : PySem.W.findIn K (.ref C_BoardError) "__getattribute__" = some (some (.builtin "BaseException.__getattribute__"))) (ek_BoardError : PySem.W.findIn K (.ref C_BoardError) "__getattr__" = some none) (ed_BoardError : PySem.W.hasDictIn K C_BoardError = true) (ea_BoardError : PySem.W.findIn K (.ref C_BoardError) "__class__" = some (some (.builtin "object.__class__"))) (em_BoardError : PySem.W.mroIn K C_BoardError (.type "object") = some true)
    (eg_BadNodes : PySem.W.findIn K (.ref C_BadNodes) "__getattribute__" = some (some (.builtin "BaseException.__getattribute__"))) (ek_BadNodes : PySem.W.findIn K (.ref C_BadNodes) "__getattr__" = some none) (ed_BadNodes : PySem.W.hasDictIn K C_BadNodes = true) (ea_BadNodes : PySem.W.findIn K (.ref C_BadNodes) "__class__" = some (some (.builtin "object.__class__"))) (em_BadNodes : PySem.W.mroIn K C_BadNodes (.type "object") = some true)
    (eg_BadBuffer : PySem.W.findIn K (.ref C_BadBuffer) "__getattribute__" = some (some (.builtin "BaseException.__getattribute__"))) (ek_BadBuffer : PySem.W.findIn K (.ref C_BadBuffer) "__getattr__" = some none) (ed_BadBuffer : PySem.W.hasDictIn K C_BadBuffer = true) (ea_BadBuffer : PySem.W.findIn K (.ref C_BadBuffer) "__class__" = some (some (.builtin "object.__class__"))) (em_BadBuffer : PySem.W.mroIn K C_BadBuffer (.type "object") = some true)
    (en_ : PySem.W.specialIn K (.builtin "object.__class__") "__get__" = some (some (.builtin "getset_descriptor.__get__"))) (et_ : PySem.W.takesIn K (.builtin "object.__class__") = some true)
    (sx_0_0 : PySem.W.subIn K (.ref C_BadTree) (.ref C_BadTree) = some true)
    (sx_0_1 : PySem.W.subIn K (.ref C_BadTree) (.ref C_BoardError) = some true)
    (sx_1_1 : PySem.W.subIn K (.ref C_BoardError) (.ref C_BoardError) = some true)
    (sx_2_0 : PySem.W.subIn K (.ref C_BadNodes) (.ref C_BadTree) = some false)
    (sx_2_1 : PySem.W.subIn K (.ref C_BadNodes) (.ref C_BoardError) = some true)
    (sx_3_0 : PySem.W.subIn K (.ref C_BadBuffer) (.ref C_BadTree) = some false)
    (sx_3_1 : PySem.W.subIn K (.ref C_BadBuffer) (.ref C_BoardError) = some true)
    (z_len : PySem.W.nsIn K mainGlobals "len" = some none)
    (z_abs : PySem.W.nsIn K mainGlobals "abs" = some none)
    (z_int : PySem.W.nsIn K mainGlobals "int" = some none)
    (z_sum : PySem.W.nsIn K mainGlobals "sum" = some none)
    (z_min : PySem.W.nsIn K mainGlobals "min" = some none)
    (z_max : PySem.W.nsIn K mainGlobals "max" = some none)
    (z_all : PySem.W.nsIn K mainGlobals "all" = some none)
    (z_any : PySem.W.nsIn K mainGlobals "any" = some none)
    (z_sorted : PySem.W.nsIn K mainGlobals "sorted" = some none)
    (z_tuple : PySem.W.nsIn K mainGlobals "tuple" = some none)
    (z_list : PySem.W.nsIn K mainGlobals "list" = some none)
    (z_isinstance : PySem.W.nsIn K mainGlobals "isinstance" = some none)
    (z_bool : PySem.W.nsIn K mainGlobals "bool" = some none)
    (z_str : PySem.W.nsIn K mainGlobals "str" = some none)
    (z_dict : PySem.W.nsIn K mainGlobals "dict" = some none)
    (z_range : PySem.W.nsIn K mainGlobals "range" = some none)
    (z_enumerate : PySem.W.nsIn K mainGlobals "enumerate" = some none)
    (z_zip : PySem.W.nsIn K mainGlobals "zip" = some none)
    (z_set : PySem.W.nsIn K mainGlobals "set" = some none)
    (hl : ∀ ns : List Int, ns.length ≤ 63 → f_law [.scr ns] = .ok (.d (.bl true))) :
    ∃ fd : FuncData, (∀ (s : Shared) (v : Value), BindsTo s fd ⟨[v], []⟩ [("script", v)]) ∧ ∀ base : Heap, K.In base → base.Ns mainGlobals mg → FnOk l.prog w K mg base CX0 65 fa fd ["script"] (spLaw K) := by
  have e := hfa.symm.trans (PySem.W.mg_of X G a24)
  cases e
  have F1 := fun_mk (st := s__law_draws) l1 c1 k1
  have b1 := F1.binds (ps := ["script", "many"]) fun _ _ _ _ _ _ us hl => match us, hl with | [_, _], _ => rfl
  have F2 := fun_mk (st := s__law_tree) l2 c2 k2
  have b2 := F2.binds (ps := ["draws", "most"]) fun _ _ _ _ _ _ us hl => match us, hl with | [_, _], _ => rfl
  have F3 := fun_mk (st := s__law_above) l3 c3 k3
  have b3 := F3.binds (ps := ["tree", "k"]) fun _ _ _ _ _ _ us hl => match us, hl with | [_, _], _ => rfl
  have F4 := fun_mk (st := s__law_below) l4 c4 k4
  have b4 := F4.binds (ps := ["tree", "k"]) fun _ _ _ _ _ _ us hl => match us, hl with | [_, _], _ => rfl
  have F5 := fun_mk (st := s_is_whole) l5 c5 k5
  have b5 := F5.binds (ps := ["value", "least", "most"]) fun _ _ _ _ _ _ us hl => match us, hl with | [_, _, _], _ => rfl
  have F6 := fun_mk (st := s__is_node) l6 c6 k6
  have b6 := F6.binds (ps := ["number", "value"]) fun _ _ _ _ _ _ us hl => match us, hl with | [_, _], _ => rfl
  have F7 := fun_mk (st := s_is_tree) l7 c7 k7
  have b7 := F7.binds (ps := ["value"]) fun _ _ _ _ _ _ us hl => match us, hl with | [_], _ => rfl
  have F8 := fun_mk (st := s_check_tree) l8 c8 k8
  have b8 := F8.binds (ps := ["value"]) fun _ _ _ _ _ _ us hl => match us, hl with | [_], _ => rfl
  have F9 := fun_mk (st := s__loads) l9 c9 k9
  have b9 := F9.binds (ps := ["tree", "buffer", "nodes"]) fun _ _ _ _ _ _ us hl => match us, hl with | [_, _, _], _ => rfl
  have F10 := fun_mk (st := s_loads_below) l10 c10 k10
  have b10 := F10.binds (ps := ["tree"]) fun _ _ _ _ _ _ us hl => match us, hl with | [_], _ => rfl
  have F11 := fun_mk (st := s_delays_of) l11 c11 k11
  have b11 := F11.binds (ps := ["tree", "buffer", "nodes"]) fun _ _ _ _ _ _ us hl => match us, hl with | [_, _, _], _ => rfl
  have F12 := fun_mk (st := s_delays) l12 c12 k12
  have b12 := F12.binds (ps := ["tree"]) fun _ _ _ _ _ _ us hl => match us, hl with | [_], _ => rfl
  have F13 := fun_mk (st := s__law_leaves) l13 c13 k13
  have b13 := F13.binds (ps := ["tree"]) fun _ _ _ _ _ _ us hl => match us, hl with | [_], _ => rfl
  have F14 := fun_mk (st := s_leaves_of) l14 c14 k14
  have b14 := F14.binds (ps := ["tree"]) fun _ _ _ _ _ _ us hl => match us, hl with | [_], _ => rfl
  have F15 := fun_mk (st := s_worst_of) l15 c15 k15
  have b15 := F15.binds (ps := ["tree", "found"]) fun _ _ _ _ _ _ us hl => match us, hl with | [_, _], _ => rfl
  have F16 := fun_mk (st := s_worst) l16 c16 k16
  have b16 := F16.binds (ps := ["tree"]) fun _ _ _ _ _ _ us hl => match us, hl with | [_], _ => rfl
  have F17 := fun_mk (st := s__law_is_tree) l17 c17 k17
  have b17 := F17.binds (ps := ["value"]) fun _ _ _ _ _ _ us hl => match us, hl with | [_], _ => rfl
  have F18 := fun_mk (st := s_check_buffer) l18 c18 k18
  have b18 := F18.binds (ps := ["value"]) fun _ _ _ _ _ _ us hl => match us, hl with | [_], _ => rfl
  have F19 := fun_mk (st := s_ascends) l19 c19 k19
  have b19 := F19.binds (ps := ["values"]) fun _ _ _ _ _ _ us hl => match us, hl with | [_], _ => rfl
  have F20 := fun_mk (st := s_delays_with) l20 c20 k20
  have b20 := F20.binds (ps := ["tree", "buffer", "nodes"]) fun _ _ _ _ _ _ us hl => match us, hl with | [_, _, _], _ => rfl
  have F21 := fun_mk (st := s_best_buffers) l21 c21 k21
  have b21 := F21.binds (ps := ["tree", "buffer"]) fun _ _ _ _ _ _ us hl => match us, hl with | [_, _], _ => rfl
  have F22 := fun_mk (st := s_options) l22 c22 k22
  have b22 := F22.binds (ps := ["tree", "buffer"]) fun _ _ _ _ _ _ us hl => match us, hl with | [_, _], _ => rfl
  have F23 := fun_mk (st := s__law_refused) l23 c23 k23
  have b23 := F23.binds (ps := ["way", "value"]) fun _ _ _ _ _ _ us hl => match us, hl with | [_, _], _ => rfl
  have F24 := fun_mk (st := s_law) l24 c24 k24
  have hb : ∀ x ∈ builtins, mg (Str.ofString x) = none := by
    intro x hx
    simp only [builtins, List.mem_cons, List.not_mem_nil, or_false] at hx
    rcases hx with rfl | rfl | rfl | rfl | rfl | rfl | rfl | rfl | rfl | rfl | rfl | rfl | rfl | rfl | rfl | rfl | rfl | rfl | rfl
    · exact PySem.W.mg_none_of X G z_len
    · exact PySem.W.mg_none_of X G z_abs
    · exact PySem.W.mg_none_of X G z_int
    · exact PySem.W.mg_none_of X G z_sum
    · exact PySem.W.mg_none_of X G z_min
    · exact PySem.W.mg_none_of X G z_max
    · exact PySem.W.mg_none_of X G z_all
    · exact PySem.W.mg_none_of X G z_any
    · exact PySem.W.mg_none_of X G z_sorted
    · exact PySem.W.mg_none_of X G z_tuple
    · exact PySem.W.mg_none_of X G z_list
    · exact PySem.W.mg_none_of X G z_isinstance
    · exact PySem.W.mg_none_of X G z_bool
    · exact PySem.W.mg_none_of X G z_str
    · exact PySem.W.mg_none_of X G z_dict
    · exact PySem.W.mg_none_of X G z_range
    · exact PySem.W.mg_none_of X G z_enumerate
    · exact PySem.W.mg_none_of X G z_zip
    · exact PySem.W.mg_none_of X G z_set
  refine ⟨PySem.W.fnOf "law" "law" (defArgs s_law) (defBody s_law) (defScope s_law) .none kV24 dc24 pm24 an24 cd24 ct24, fun s v => .of_eq rfl, fun base _ _ => ?_⟩
  have hc_MOST_VALUE : Con K mg "MOST_VALUE" (.d (.int (1000))) := con_of X G ac_MOST_VALUE val_int
  have hc_MOST_NODES : Con K mg "MOST_NODES" (.d (.int (9))) := con_of X G ac_MOST_NODES val_int
  have hx : Excs K mg (fun k => [Value.ref C_BadTree, Value.ref C_BoardError, Value.ref C_BadNodes, Value.ref C_BadBuffer].getD k Value.none) ["BadTree", "BoardError", "BadNodes", "BadBuffer"] xsub := by
    refine ⟨fun k x h => ?_, fun j k b h => ?_⟩
    · match k, h with
      | 0, h => cases h; exact ⟨C_BadTree, rfl, PySem.W.mg_of X G gx_BadTree, kx_BadTree, bx_BadTree, tx_BadTree, xx_BadTree⟩
      | 1, h => cases h; exact ⟨C_BoardError, rfl, PySem.W.mg_of X G gx_BoardError, kx_BoardError, bx_BoardError, tx_BoardError, xx_BoardError⟩
      | 2, h => cases h; exact ⟨C_BadNodes, rfl, PySem.W.mg_of X G gx_BadNodes, kx_BadNodes, bx_BadNodes, tx_BadNodes, xx_BadNodes⟩
      | 3, h => cases h; exact ⟨C_BadBuffer, rfl, PySem.W.mg_of X G gx_BadBuffer, kx_BadBuffer, bx_BadBuffer, tx_BadBuffer, xx_BadBuffer⟩
      | _ + 4, h => cases h
    · unfold xsub at h
      split at h <;> cases h
      · exact ⟨exm_mk bx_BadTree ix_BadTree tx_BadTree sx_0_0, kit_mk ix_BadTree tx_BadTree sx_0_0 sx_0_0, C_BadTree, rfl, ⟨eg_BadTree, ek_BadTree, bx_BadTree, ed_BadTree, ea_BadTree, en_, et_, em_BadTree⟩⟩
      · exact ⟨exm_mk bx_BoardError ix_BoardError tx_BoardError sx_0_1, kit_mk ix_BoardError tx_BoardError sx_0_1 sx_1_1, C_BadTree, rfl, ⟨eg_BadTree, ek_BadTree, bx_BadTree, ed_BadTree, ea_BadTree, en_, et_, em_BadTree⟩⟩
      · exact ⟨exm_mk bx_BoardError ix_BoardError tx_BoardError sx_1_1, kit_mk ix_BoardError tx_BoardError sx_1_1 sx_1_1, C_BoardError, rfl, ⟨eg_BoardError, ek_BoardError, bx_BoardError, ed_BoardError, ea_BoardError, en_, et_, em_BoardError⟩⟩
      · exact ⟨exm_mk bx_BadTree ix_BadTree tx_BadTree sx_2_0, kit_mk ix_BadTree tx_BadTree sx_2_0 sx_0_0, C_BadNodes, rfl, ⟨eg_BadNodes, ek_BadNodes, bx_BadNodes, ed_BadNodes, ea_BadNodes, en_, et_, em_BadNodes⟩⟩
      · exact ⟨exm_mk bx_BoardError ix_BoardError tx_BoardError sx_2_1, kit_mk ix_BoardError tx_BoardError sx_2_1 sx_1_1, C_BadNodes, rfl, ⟨eg_BadNodes, ek_BadNodes, bx_BadNodes, ed_BadNodes, ea_BadNodes, en_, et_, em_BadNodes⟩⟩
      · exact ⟨exm_mk bx_BadTree ix_BadTree tx_BadTree sx_3_0, kit_mk ix_BadTree tx_BadTree sx_3_0 sx_0_0, C_BadBuffer, rfl, ⟨eg_BadBuffer, ek_BadBuffer, bx_BadBuffer, ed_BadBuffer, ea_BadBuffer, en_, et_, em_BadBuffer⟩⟩
      · exact ⟨exm_mk bx_BoardError ix_BoardError tx_BoardError sx_3_1, kit_mk ix_BoardError tx_BoardError sx_3_1 sx_1_1, C_BadBuffer, rfl, ⟨eg_BadBuffer, ek_BadBuffer, bx_BadBuffer, ed_BadBuffer, ea_BadBuffer, en_, et_, em_BadBuffer⟩⟩
  have C__law_draws : Cal l.prog w K mg base (fun k => [Value.ref C_BadTree, Value.ref C_BoardError, Value.ref C_BadNodes, Value.ref C_BadBuffer].getD k Value.none) 1 "_law_draws" f__law_draws := cal_of (I := i__law_draws) (G := g__law_draws) (k := 0) F1 (PySem.W.mg_of X G a1) b1 sc__law_draws ok__law_draws hb trivial trivial hx
  have C__law_tree : Cal l.prog w K mg base (fun k => [Value.ref C_BadTree, Value.ref C_BoardError, Value.ref C_BadNodes, Value.ref C_BadBuffer].getD k Value.none) 1 "_law_tree" f__law_tree := cal_of (I := i__law_tree) (G := g__law_tree) (k := 0) F2 (PySem.W.mg_of X G a2) b2 sc__law_tree ok__law_tree hb trivial trivial hx
  have C__law_above : Cal l.prog w K mg base (fun k => [Value.ref C_BadTree, Value.ref C_BoardError, Value.ref C_BadNodes, Value.ref C_BadBuffer].getD k Value.none) 1 "_law_above" f__law_above := cal_of (I := i__law_above) (G := g__law_above) (k := 0) F3 (PySem.W.mg_of X G a3) b3 sc__law_above ok__law_above hb trivial trivial hx
  have C__law_below : Cal l.prog w K mg base (fun k => [Value.ref C_BadTree, Value.ref C_BoardError, Value.ref C_BadNodes, Value.ref C_BadBuffer].getD k Value.none) 2 "_law_below" f__law_below := cal_of (I := i__law_below) (G := g__law_below) (k := 1) F4 (PySem.W.mg_of X G a4) b4 sc__law_below ok__law_below hb trivial ⟨_, _, rfl, C__law_above.mono (by decide), trivial⟩ hx
  have C_is_whole : Cal l.prog w K mg base (fun k => [Value.ref C_BadTree, Value.ref C_BoardError, Value.ref C_BadNodes, Value.ref C_BadBuffer].getD k Value.none) 1 "is_whole" f_is_whole := cal_of (I := i_is_whole) (G := g_is_whole) (k := 0) F5 (PySem.W.mg_of X G a5) b5 sc_is_whole ok_is_whole hb trivial trivial hx
  have C__is_node : Cal l.prog w K mg base (fun k => [Value.ref C_BadTree, Value.ref C_BoardError, Value.ref C_BadNodes, Value.ref C_BadBuffer].getD k Value.none) 2 "_is_node" f__is_node := cal_of (I := i__is_node) (G := g__is_node) (k := 1) F6 (PySem.W.mg_of X G a6) b6 sc__is_node ok__is_node hb ⟨_, _, rfl, hc_MOST_VALUE, trivial⟩ ⟨_, _, rfl, C_is_whole.mono (by decide), trivial⟩ hx
  have C_is_tree : Cal l.prog w K mg base (fun k => [Value.ref C_BadTree, Value.ref C_BoardError, Value.ref C_BadNodes, Value.ref C_BadBuffer].getD k Value.none) 3 "is_tree" f_is_tree := cal_of (I := i_is_tree) (G := g_is_tree) (k := 2) F7 (PySem.W.mg_of X G a7) b7 sc_is_tree ok_is_tree hb ⟨_, _, rfl, hc_MOST_NODES, trivial⟩ ⟨_, _, rfl, C__is_node.mono (by decide), trivial⟩ hx
  have C_check_tree : Cal l.prog w K mg base (fun k => [Value.ref C_BadTree, Value.ref C_BoardError, Value.ref C_BadNodes, Value.ref C_BadBuffer].getD k Value.none) 4 "check_tree" f_check_tree := cal_of (I := i_check_tree) (G := g_check_tree) (k := 3) F8 (PySem.W.mg_of X G a8) b8 sc_check_tree ok_check_tree hb trivial ⟨_, _, rfl, C_is_tree.mono (by decide), trivial⟩ hx
  have C__loads : Cal l.prog w K mg base (fun k => [Value.ref C_BadTree, Value.ref C_BoardError, Value.ref C_BadNodes, Value.ref C_BadBuffer].getD k Value.none) 1 "_loads" f__loads := cal_of (I := i__loads) (G := g__loads) (k := 0) F9 (PySem.W.mg_of X G a9) b9 sc__loads ok__loads hb trivial trivial hx
  have C_loads_below : Cal l.prog w K mg base (fun k => [Value.ref C_BadTree, Value.ref C_BoardError, Value.ref C_BadNodes, Value.ref C_BadBuffer].getD k Value.none) 5 "loads_below" f_loads_below := cal_of (I := i_loads_below) (G := g_loads_below) (k := 4) F10 (PySem.W.mg_of X G a10) b10 sc_loads_below ok_loads_below hb trivial ⟨_, _, rfl, C_check_tree.mono (by decide), ⟨_, _, rfl, C__loads.mono (by decide), trivial⟩⟩ hx
  have C_delays_of : Cal l.prog w K mg base (fun k => [Value.ref C_BadTree, Value.ref C_BoardError, Value.ref C_BadNodes, Value.ref C_BadBuffer].getD k Value.none) 2 "delays_of" f_delays_of := cal_of (I := i_delays_of) (G := g_delays_of) (k := 1) F11 (PySem.W.mg_of X G a11) b11 sc_delays_of ok_delays_of hb trivial ⟨_, _, rfl, C__loads.mono (by decide), trivial⟩ hx
  have C_delays : Cal l.prog w K mg base (fun k => [Value.ref C_BadTree, Value.ref C_BoardError, Value.ref C_BadNodes, Value.ref C_BadBuffer].getD k Value.none) 5 "delays" f_delays := cal_of (I := i_delays) (G := g_delays) (k := 4) F12 (PySem.W.mg_of X G a12) b12 sc_delays ok_delays hb trivial ⟨_, _, rfl, C_check_tree.mono (by decide), ⟨_, _, rfl, C_delays_of.mono (by decide), trivial⟩⟩ hx
  have C__law_leaves : Cal l.prog w K mg base (fun k => [Value.ref C_BadTree, Value.ref C_BoardError, Value.ref C_BadNodes, Value.ref C_BadBuffer].getD k Value.none) 1 "_law_leaves" f__law_leaves := cal_of (I := i__law_leaves) (G := g__law_leaves) (k := 0) F13 (PySem.W.mg_of X G a13) b13 sc__law_leaves ok__law_leaves hb trivial trivial hx
  have C_leaves_of : Cal l.prog w K mg base (fun k => [Value.ref C_BadTree, Value.ref C_BoardError, Value.ref C_BadNodes, Value.ref C_BadBuffer].getD k Value.none) 1 "leaves_of" f_leaves_of := cal_of (I := i_leaves_of) (G := g_leaves_of) (k := 0) F14 (PySem.W.mg_of X G a14) b14 sc_leaves_of ok_leaves_of hb trivial trivial hx
  have C_worst_of : Cal l.prog w K mg base (fun k => [Value.ref C_BadTree, Value.ref C_BoardError, Value.ref C_BadNodes, Value.ref C_BadBuffer].getD k Value.none) 2 "worst_of" f_worst_of := cal_of (I := i_worst_of) (G := g_worst_of) (k := 1) F15 (PySem.W.mg_of X G a15) b15 sc_worst_of ok_worst_of hb trivial ⟨_, _, rfl, C_leaves_of.mono (by decide), trivial⟩ hx
  have C_worst : Cal l.prog w K mg base (fun k => [Value.ref C_BadTree, Value.ref C_BoardError, Value.ref C_BadNodes, Value.ref C_BadBuffer].getD k Value.none) 5 "worst" f_worst := cal_of (I := i_worst) (G := g_worst) (k := 4) F16 (PySem.W.mg_of X G a16) b16 sc_worst ok_worst hb trivial ⟨_, _, rfl, C_check_tree.mono (by decide), ⟨_, _, rfl, C_delays_of.mono (by decide), ⟨_, _, rfl, C_worst_of.mono (by decide), trivial⟩⟩⟩ hx
  have C__law_is_tree : Cal l.prog w K mg base (fun k => [Value.ref C_BadTree, Value.ref C_BoardError, Value.ref C_BadNodes, Value.ref C_BadBuffer].getD k Value.none) 1 "_law_is_tree" f__law_is_tree := cal_of (I := i__law_is_tree) (G := g__law_is_tree) (k := 0) F17 (PySem.W.mg_of X G a17) b17 sc__law_is_tree ok__law_is_tree hb trivial trivial hx
  have C_check_buffer : Cal l.prog w K mg base (fun k => [Value.ref C_BadTree, Value.ref C_BoardError, Value.ref C_BadNodes, Value.ref C_BadBuffer].getD k Value.none) 2 "check_buffer" f_check_buffer := cal_of (I := i_check_buffer) (G := g_check_buffer) (k := 1) F18 (PySem.W.mg_of X G a18) b18 sc_check_buffer ok_check_buffer hb ⟨_, _, rfl, hc_MOST_VALUE, trivial⟩ ⟨_, _, rfl, C_is_whole.mono (by decide), trivial⟩ hx
  have C_ascends : Cal l.prog w K mg base (fun k => [Value.ref C_BadTree, Value.ref C_BoardError, Value.ref C_BadNodes, Value.ref C_BadBuffer].getD k Value.none) 1 "ascends" f_ascends := cal_of (I := i_ascends) (G := g_ascends) (k := 0) F19 (PySem.W.mg_of X G a19) b19 sc_ascends ok_ascends hb trivial trivial hx
  have C_delays_with : Cal l.prog w K mg base (fun k => [Value.ref C_BadTree, Value.ref C_BoardError, Value.ref C_BadNodes, Value.ref C_BadBuffer].getD k Value.none) 5 "delays_with" f_delays_with := cal_of (I := i_delays_with) (G := g_delays_with) (k := 4) F20 (PySem.W.mg_of X G a20) b20 sc_delays_with ok_delays_with hb trivial ⟨_, _, rfl, C_check_tree.mono (by decide), ⟨_, _, rfl, C_check_buffer.mono (by decide), ⟨_, _, rfl, C_is_whole.mono (by decide), ⟨_, _, rfl, C_ascends.mono (by decide), ⟨_, _, rfl, C_delays_of.mono (by decide), trivial⟩⟩⟩⟩⟩ hx
  have C_best_buffers : Cal l.prog w K mg base (fun k => [Value.ref C_BadTree, Value.ref C_BoardError, Value.ref C_BadNodes, Value.ref C_BadBuffer].getD k Value.none) 5 "best_buffers" f_best_buffers := cal_of (I := i_best_buffers) (G := g_best_buffers) (k := 4) F21 (PySem.W.mg_of X G a21) b21 sc_best_buffers ok_best_buffers hb trivial ⟨_, _, rfl, C_check_tree.mono (by decide), ⟨_, _, rfl, C_check_buffer.mono (by decide), trivial⟩⟩ hx
  have C_options : Cal l.prog w K mg base (fun k => [Value.ref C_BadTree, Value.ref C_BoardError, Value.ref C_BadNodes, Value.ref C_BadBuffer].getD k Value.none) 5 "options" f_options := cal_of (I := i_options) (G := g_options) (k := 4) F22 (PySem.W.mg_of X G a22) b22 sc_options ok_options hb trivial ⟨_, _, rfl, C_check_tree.mono (by decide), ⟨_, _, rfl, C_check_buffer.mono (by decide), trivial⟩⟩ hx
  have C__law_refused : Cal l.prog w K mg base (fun k => [Value.ref C_BadTree, Value.ref C_BoardError, Value.ref C_BadNodes, Value.ref C_BadBuffer].getD k Value.none) 6 "_law_refused" f__law_refused := cal_of (I := i__law_refused) (G := g__law_refused) (k := 5) F23 (PySem.W.mg_of X G a23) b23 sc__law_refused ok__law_refused hb trivial ⟨_, _, rfl, C_loads_below.mono (by decide), ⟨_, _, rfl, C_delays.mono (by decide), ⟨_, _, rfl, C_worst.mono (by decide), ⟨_, _, rfl, C_delays_with.mono (by decide), ⟨_, _, rfl, C_best_buffers.mono (by decide), ⟨_, _, rfl, C_options.mono (by decide), trivial⟩⟩⟩⟩⟩⟩ hx
  exact (law_ok (I := i_law) (G := g_law) (cls := (fun k => [Value.ref C_BadTree, Value.ref C_BoardError, Value.ref C_BadNodes, Value.ref C_BadBuffer].getD k Value.none)) (k := 6) F24 sc_law ok_law hb trivial ⟨_, _, rfl, C__law_draws.mono (by decide), ⟨_, _, rfl, C__law_tree.mono (by decide), ⟨_, _, rfl, C__law_below.mono (by decide), ⟨_, _, rfl, C__law_above.mono (by decide), ⟨_, _, rfl, C_loads_below.mono (by decide), ⟨_, _, rfl, C_delays.mono (by decide), ⟨_, _, rfl, C__law_leaves.mono (by decide), ⟨_, _, rfl, C_worst.mono (by decide), ⟨_, _, rfl, C__law_is_tree.mono (by decide), ⟨_, _, rfl, C_is_tree.mono (by decide), ⟨_, _, rfl, C__law_refused.mono (by decide), trivial⟩⟩⟩⟩⟩⟩⟩⟩⟩⟩⟩ hx hl).mono (by decide)
theorem walk {l : PySem.W.OpenLaw} {q : Program} {loose : List Str} {XP : (Str → Option Value) → Heap → Prop} {YP : World → Heap → Prop} {d : DefRec} {K : Params → PySem.W.Frag} (hn : l.most = some 63) (hdf : d.params.defaults = [])
    (hY : ∀ (w : World) (h : Heap), YP w h → (K w.params).In h)
    (F : ∀ (w : World) (mg : Str → Option Value) (fa : Addr) (h : Heap), (K w.params).In h → h.Ns mainGlobals mg → mg d.name = some (.ref fa) →
      ∃ fd : FuncData, (∀ (s : Shared) (u : Value), BindsTo s fd ⟨[u], []⟩ [("script", u)]) ∧ ∀ base : Heap, (K w.params).In base → base.Ns mainGlobals mg → FnOk l.prog w (K w.params) mg base CX0 65 fa fd ["script"] (spLaw (K w.params))) :
    PySem.W.WalkO q loose XP YP l.row.toRowW d [] (fun f vs => PySem.call f vs) :=
  L2.walk_of (n := 63) (k := 65) (x := "script") (CX := fun _ => CX0) (sp := fun w => spLaw (K w.params)) hn (by decide) hdf ⟨rfl, by decide, by decide⟩ hY F (fun _ _ a ns hl _ hS => ⟨a, ns, rfl, hS, hl, fun _ => rfl⟩) fun _ _ _ _ _ z => z
end K56
open PySem PySem.W PyProof.Rows
set_option maxRecDepth 100000 in
set_option maxHeartbeats 0 in
theorem PySem.Challenge.cw_boardwright_k56_wire_trees_holds : PySem.Challenge.rw_boardwright_k56_wire_trees.Holds := by
  w_on; o_law; k_head; (case hw => w_witness2)
  k_fill
  refine K56.walk (l := PySem.Challenge.rw_boardwright_k56_wire_trees) rfl rfl (fun w h Y => PySem.W.kIn_of Y) ?F
  case F =>
    intro w mg fa h KX G hmg
    refine' K56.all_mk KX G hmg ?a1 ?l1 ?c1 ?k1 ?a2 ?l2 ?c2 ?k2 ?a3 ?l3 ?c3 ?k3 ?a4 ?l4 ?c4 ?k4 ?a5 ?l5 ?c5 ?k5 ?a6 ?l6 ?c6 ?k6 ?a7 ?l7 ?c7 ?k7 ?a8 ?l8 ?c8 ?k8 ?a9 ?l9 ?c9 ?k9 ?a10 ?l10 ?c10 ?k10 ?a11 ?l11 ?c11 ?k11 ?a12 ?l12 ?c12 ?k12 ?a13 ?l13 ?c13 ?k13 ?a14 ?l14 ?c14 ?k14 ?a15 ?l15 ?c15 ?k15 ?a16 ?l16 ?c16 ?k16 ?a17 ?l17 ?c17 ?k17 ?a18 ?l18 ?c18 ?k18 ?a19 ?l19 ?c19 ?k19 ?a20 ?l20 ?c20 ?k20 ?a21 ?l21 ?c21 ?k21 ?a22 ?l22 ?c22 ?k22 ?a23 ?l23 ?c23 ?k23 ?a24 ?l24 ?c24 ?k24 ?ac_MOST_VALUE ?ac_MOST_NODES ?gx_BadTree ?kx_BadTree ?bx_BadTree ?tx_BadTree ?xx_BadTree ?ix_BadTree ?gx_BoardError ?kx_BoardError ?bx_BoardError ?tx_BoardError ?xx_BoardError ?ix_BoardError ?gx_BadNodes ?kx_BadNodes ?bx_BadNodes ?tx_BadNodes ?xx_BadNodes ?ix_BadNodes ?gx_BadBuffer ?kx_BadBuffer ?bx_BadBuffer ?tx_BadBuffer ?xx_BadBuffer ?ix_BadBuffer ?eg_BadTree ?ek_BadTree ?ed_BadTree ?ea_BadTree ?em_BadTree ?eg_BoardError ?ek_BoardError ?ed_BoardError ?ea_BoardError ?em_BoardError ?eg_BadNodes ?ek_BadNodes ?ed_BadNodes ?ea_BadNodes ?em_BadNodes ?eg_BadBuffer ?ek_BadBuffer ?ed_BadBuffer ?ea_BadBuffer ?em_BadBuffer ?en_ ?et_ ?sx_0_0 ?sx_0_1 ?sx_1_1 ?sx_2_0 ?sx_2_1 ?sx_3_0 ?sx_3_1 ?z_len ?z_abs ?z_int ?z_sum ?z_min ?z_max ?z_all ?z_any ?z_sorted ?z_tuple ?z_list ?z_isinstance ?z_bool ?z_str ?z_dict ?z_range ?z_enumerate ?z_zip ?z_set K56.law_true
    (case a1 => k_is)
    (case l1 => k_is)
    (case c1 => k_is)
    (case k1 => k_is)
    (case a2 => k_is)
    (case l2 => k_is)
    (case c2 => k_is)
    (case k2 => k_is)
    (case a3 => k_is)
    (case l3 => k_is)
    (case c3 => k_is)
    (case k3 => k_is)
    (case a4 => k_is)
    (case l4 => k_is)
    (case c4 => k_is)
    (case k4 => k_is)
    (case a5 => k_is)
    (case l5 => k_is)
    (case c5 => k_is)
    (case k5 => k_is)
    (case a6 => k_is)
    (case l6 => k_is)
    (case c6 => k_is)
    (case k6 => k_is)
    (case a7 => k_is)
    (case l7 => k_is)
    (case c7 => k_is)
    (case k7 => k_is)
    (case a8 => k_is)
    (case l8 => k_is)
    (case c8 => k_is)
    (case k8 => k_is)
    (case a9 => k_is)
    (case l9 => k_is)
    (case c9 => k_is)
    (case k9 => k_is)
    (case a10 => k_is)
    (case l10 => k_is)
    (case c10 => k_is)
    (case k10 => k_is)
    (case a11 => k_is)
    (case l11 => k_is)
    (case c11 => k_is)
    (case k11 => k_is)
    (case a12 => k_is)
    (case l12 => k_is)
    (case c12 => k_is)
    (case k12 => k_is)
    (case a13 => k_is)
    (case l13 => k_is)
    (case c13 => k_is)
    (case k13 => k_is)
    (case a14 => k_is)
    (case l14 => k_is)
    (case c14 => k_is)
    (case k14 => k_is)
    (case a15 => k_is)
    (case l15 => k_is)
    (case c15 => k_is)
    (case k15 => k_is)
    (case a16 => k_is)
    (case l16 => k_is)
    (case c16 => k_is)
    (case k16 => k_is)
    (case a17 => k_is)
    (case l17 => k_is)
    (case c17 => k_is)
    (case k17 => k_is)
    (case a18 => k_is)
    (case l18 => k_is)
    (case c18 => k_is)
    (case k18 => k_is)
    (case a19 => k_is)
    (case l19 => k_is)
    (case c19 => k_is)
    (case k19 => k_is)
    (case a20 => k_is)
    (case l20 => k_is)
    (case c20 => k_is)
    (case k20 => k_is)
    (case a21 => k_is)
    (case l21 => k_is)
    (case c21 => k_is)
    (case k21 => k_is)
    (case a22 => k_is)
    (case l22 => k_is)
    (case c22 => k_is)
    (case k22 => k_is)
    (case a23 => k_is)
    (case l23 => k_is)
    (case c23 => k_is)
    (case k23 => k_is)
    (case a24 => k_is)
    (case l24 => k_is)
    (case c24 => k_is)
    (case k24 => k_is)
    (case ac_MOST_VALUE => k_is)
    (case ac_MOST_NODES => k_is)
    (case gx_BadTree => k_is)
    (case kx_BadTree => k_is)
    (case bx_BadTree => k_is)
    (case tx_BadTree => k_is)
    (case xx_BadTree => k_exc)
    (case ix_BadTree => k_is)
    (case gx_BoardError => k_is)
    (case kx_BoardError => k_is)
    (case bx_BoardError => k_is)
    (case tx_BoardError => k_is)
    (case xx_BoardError => k_exc)
    (case ix_BoardError => k_is)
    (case gx_BadNodes => k_is)
    (case kx_BadNodes => k_is)
    (case bx_BadNodes => k_is)
    (case tx_BadNodes => k_is)
    (case xx_BadNodes => k_exc)
    (case ix_BadNodes => k_is)
    (case gx_BadBuffer => k_is)
    (case kx_BadBuffer => k_is)
    (case bx_BadBuffer => k_is)
    (case tx_BadBuffer => k_is)
    (case xx_BadBuffer => k_exc)
    (case ix_BadBuffer => k_is)
    (case eg_BadTree => first | rfl | k_is)
    (case ek_BadTree => first | rfl | k_is)
    (case ed_BadTree => first | rfl | k_is)
    (case ea_BadTree => first | rfl | k_is)
    (case em_BadTree => first | rfl | k_is)
    (case eg_BoardError => first | rfl | k_is)
    (case ek_BoardError => first | rfl | k_is)
    (case ed_BoardError => first | rfl | k_is)
    (case ea_BoardError => first | rfl | k_is)
    (case em_BoardError => first | rfl | k_is)
    (case eg_BadNodes => first | rfl | k_is)
    (case ek_BadNodes => first | rfl | k_is)
    (case ed_BadNodes => first | rfl | k_is)
    (case ea_BadNodes => first | rfl | k_is)
    (case em_BadNodes => first | rfl | k_is)
    (case eg_BadBuffer => first | rfl | k_is)
    (case ek_BadBuffer => first | rfl | k_is)
    (case ed_BadBuffer => first | rfl | k_is)
    (case ea_BadBuffer => first | rfl | k_is)
    (case em_BadBuffer => first | rfl | k_is)
    (case en_ => first | rfl | k_is)
    (case et_ => first | rfl | k_is)
    (case sx_0_0 => first | rfl | k_is)
    (case sx_0_1 => first | rfl | k_is)
    (case sx_1_1 => first | rfl | k_is)
    (case sx_2_0 => first | rfl | k_is)
    (case sx_2_1 => first | rfl | k_is)
    (case sx_3_0 => first | rfl | k_is)
    (case sx_3_1 => first | rfl | k_is)
    (case z_len => k_is)
    (case z_abs => k_is)
    (case z_int => k_is)
    (case z_sum => k_is)
    (case z_min => k_is)
    (case z_max => k_is)
    (case z_all => k_is)
    (case z_any => k_is)
    (case z_sorted => k_is)
    (case z_tuple => k_is)
    (case z_list => k_is)
    (case z_isinstance => k_is)
    (case z_bool => k_is)
    (case z_str => k_is)
    (case z_dict => k_is)
    (case z_range => k_is)
    (case z_enumerate => k_is)
    (case z_zip => k_is)
    (case z_set => k_is)
end
