import PyProof.Rows.All
import Wide.All
import OpenK.AllK
import Wide.FinOn
import HandS.ForMost
import HandS.Exc
import HandS.TryOnly
import HandS.ExcOwn
import HandS.WordsExc
import HandS.Flow
import HandS.TupAny
import HandS.TupMul
import HandS.TupLe
import HandS.IsInst
import HandS.Deep
import HandS.Zip
import HandS.Conv
import HandS.DictComp
import HandS.Style
import HandS.Defaults
import HandS.Walk
import HandS.Small
import HandS.Head0
import HandS.Head1
import HandS.Head2
import HandS.HeadEnd
import HandS.HeadHook1
import HandS.HeadHook2
import HandS.Lambda
import HandS.EndTab
import HandS.EndOwn
import HandS.ExcIs
import KE.DataAny
import KE.GoesEnum
import KE.GoesMore
import KE.GoesZip
import KE.KDictZip
import KE.KDictCopyH
import PySem.Challenge.RW_betsonbets_k01_no_books
set_option Elab.async false
set_option linter.all false
set_option maxRecDepth 100000
section
set_option maxHeartbeats 200000
namespace Bt
open PySem

inductive PV where
  | none | bool (b : Bool) | int (i : Int) | str (s : Str)
  | tup (xs : List PV) | list (xs : List PV) | dict (kvs : List (PV × PV))
  | ref (k : Nat) | exc (c : Nat) (fs : List (Str × PV)) | fn (f : Nat) | scr (ns : List Int)
instance : Inhabited PV := ⟨.none⟩

mutual
def PV.eqb : PV → PV → Bool
  | .none, .none => true
  | .bool a, .bool b => a == b
  | .int a, .int b => decide (a = b)
  | .str a, .str b => decide (a = b)
  | .tup a, .tup b => PV.eqbL a b
  | .list a, .list b => PV.eqbL a b
  | .dict a, .dict b => PV.eqbD a b
  | .ref a, .ref b => decide (a = b)
  | .exc c a, .exc d b => decide (c = d) && PV.eqbF a b
  | .fn a, .fn b => decide (a = b)
  | .scr a, .scr b => decide (a = b)
  | _, _ => false
def PV.eqbL : List PV → List PV → Bool
  | [], [] => true
  | x :: xs, y :: ys => PV.eqb x y && PV.eqbL xs ys
  | _, _ => false
def PV.eqbD : List (PV × PV) → List (PV × PV) → Bool
  | [], [] => true
  | (k, v) :: xs, (l, u) :: ys => PV.eqb k l && (PV.eqb v u && PV.eqbD xs ys)
  | _, _ => false
def PV.eqbF : List (Str × PV) → List (Str × PV) → Bool
  | [], [] => true
  | (k, v) :: xs, (l, u) :: ys => decide (k = l) && (PV.eqb v u && PV.eqbF xs ys)
  | _, _ => false
end
mutual
theorem PV.eqb_iff : ∀ a b : PV, PV.eqb a b = true ↔ a = b
  | .none, b => by cases b <;> simp [PV.eqb]
  | .bool a, b => by cases b <;> simp [PV.eqb]
  | .int a, b => by cases b <;> simp [PV.eqb]
  | .str a, b => by cases b <;> simp [PV.eqb]
  | .ref a, b => by cases b <;> simp [PV.eqb]
  | .fn a, b => by cases b <;> simp [PV.eqb]
  | .scr a, b => by cases b <;> simp [PV.eqb]
  | .tup a, b => by cases b <;> simp [PV.eqb, PV.eqbL_iff a]
  | .list a, b => by cases b <;> simp [PV.eqb, PV.eqbL_iff a]
  | .dict a, b => by cases b <;> simp [PV.eqb, PV.eqbD_iff a]
  | .exc c a, b => by cases b <;> simp [PV.eqb, PV.eqbF_iff a]
theorem PV.eqbL_iff : ∀ a b : List PV, PV.eqbL a b = true ↔ a = b
  | [], b => by cases b <;> simp [PV.eqbL]
  | x :: xs, b => by cases b <;> simp [PV.eqbL, PV.eqb_iff x, PV.eqbL_iff xs]
theorem PV.eqbD_iff : ∀ a b : List (PV × PV), PV.eqbD a b = true ↔ a = b
  | [], b => by cases b <;> simp [PV.eqbD]
  | (k, v) :: xs, b => by
    cases b with
    | nil => simp [PV.eqbD]
    | cons y ys => obtain ⟨l, u⟩ := y; simp [PV.eqbD, PV.eqb_iff k, PV.eqb_iff v, PV.eqbD_iff xs, and_assoc]
theorem PV.eqbF_iff : ∀ a b : List (Str × PV), PV.eqbF a b = true ↔ a = b
  | [], b => by cases b <;> simp [PV.eqbF]
  | (k, v) :: xs, b => by
    cases b with
    | nil => simp [PV.eqbF]
    | cons y ys => obtain ⟨l, u⟩ := y; simp [PV.eqbF, PV.eqb_iff v, PV.eqbF_iff xs, and_assoc]
end
instance : DecidableEq PV := fun a b => decidable_of_iff _ (PV.eqb_iff a b)

mutual
/-- all references lie below n -/
def PV.lo (n : Nat) : PV → Bool
  | .tup xs => loL n xs
  | .list xs => loL n xs
  | .dict kvs => loD n kvs
  | .exc _ fs => loF n fs
  | .ref k => decide (k < n)
  | .none | .bool _ | .int _ | .str _ | .fn _ | .scr _ => true
def loL (n : Nat) : List PV → Bool
  | [] => true
  | x :: r => x.lo n && loL n r
def loD (n : Nat) : List (PV × PV) → Bool
  | [] => true
  | (k, v) :: r => k.lo n && v.lo n && loD n r
def loF (n : Nat) : List (Str × PV) → Bool
  | [] => true
  | (_, v) :: r => v.lo n && loF n r
end

inductive Cell where
  | lst (xs : List PV)
  | dic (lk : Bool) (kvs : List (PV × PV))
  deriving DecidableEq
abbrev Store := List Cell
abbrev Env := List (Option PV)
def Cell.lo (n : Nat) : Cell → Bool
  | .lst xs => loL n xs
  | .dic _ kvs => loD n kvs

inductive Res (α : Type) where
  | ok (a : α) (S : Store) | exc (x : PV) (S : Store) | stuck
def Res.bind {α β : Type} (r : Res α) (f : α → Store → Res β) : Res β := match r with
  | .ok a S => f a S
  | .exc x S => .exc x S
  | .stuck => .stuck
def Res.map {α β : Type} (r : Res α) (f : α → β) : Res β := r.bind fun a S => .ok (f a) S
def Res.ofO {α : Type} (o : Option α) (S : Store) : Res α := match o with
  | some a => .ok a S
  | none => .stuck

/-- what stands behind a reference -/
def res (S : Store) (v : PV) : PV := match v with
  | .ref k => (match S[k]? with
    | some (.lst xs) => .list xs
    | some (.dic _ kvs) => .dict kvs
    | none => v)
  | v => v

mutual
def frz (n : Nat) (S : Store) : PV → Option PV
  | .ref k => if k < n then some (.ref k) else match S[k]? with
    | some (.lst xs) => if loL n xs then some (.list xs) else none
    | some (.dic _ kvs) => if loD n kvs then some (.dict kvs) else none
    | none => none
  | .tup xs => (frzL n S xs).map .tup
  | .none => some .none
  | .bool b => some (.bool b)
  | .int i => some (.int i)
  | .str s => some (.str s)
  | .fn f => some (.fn f)
  | .scr ns => some (.scr ns)
  | .list xs => if loL n xs then some (.list xs) else none
  | .dict kvs => if loD n kvs then some (.dict kvs) else none
  | .exc c fs => if loF n fs then some (.exc c fs) else none
def frzL (n : Nat) (S : Store) : List PV → Option (List PV)
  | [] => some []
  | x :: r => (frz n S x).bind fun y => (frzL n S r).map (y :: ·)
end
/-- the end of a call that began with n things in the store -/
def finish (n : Nat) (r : Res PV) : Res PV := match r with
  | .ok v S => if S.length = n then .ok v S else if (S.take n).all (Cell.lo n) then (match frz n S v with
    | some u => .ok u (S.take n)
    | none => .stuck) else .stuck
  | .exc x S => if S.length = n then .exc x S else if (S.take n).all (Cell.lo n) && x.lo n then .exc x (S.take n) else .stuck
  | .stuck => .stuck

def truth : PV → Option Bool
  | .none => some false
  | .bool b => some b
  | .int i => some (i != 0)
  | .str s => some ((s.length : Int) != 0)
  | .tup xs => some (!xs.isEmpty)
  | .list xs => some (!xs.isEmpty)
  | .dict kvs => some (!kvs.isEmpty)
  | .scr ns => some (!ns.isEmpty)
  | .ref _ | .exc _ _ | .fn _ => none

mutual
/-- data alone, no deeper than n -/
def dOk (n : Nat) : PV → Bool
  | .none | .bool _ | .int _ | .str _ => true
  | .tup xs => (match n with
    | 0 => false
    | m + 1 => dOkL m xs)
  | .list xs => (match n with
    | 0 => false
    | m + 1 => dOkL m xs)
  | .dict _ | .ref _ | .exc _ _ | .fn _ | .scr _ => false
def dOkL (n : Nat) : List PV → Bool
  | [] => true
  | x :: r => dOk n x && dOkL n r
end
mutual
/-- Python's == of data -/
def peq : PV → PV → Bool
  | .none, .none => true
  | .bool a, .bool b => a == b
  | .bool a, .int j => (if a then 1 else 0) == j
  | .int i, .bool b => i == (if b then 1 else 0)
  | .int i, .int j => i == j
  | .str x, .str y => x == y
  | .list xs, .list ys => peqL xs ys
  | .tup xs, .tup ys => peqL xs ys
  | _, _ => false
def peqL : List PV → List PV → Bool
  | [], [] => true
  | x :: xs, y :: ys => peq x y && peqL xs ys
  | _, _ => false
end

inductive Bop where | add | sub | mul | fdiv | mod | pow
  deriving DecidableEq
inductive Cop where | eq | ne | lt | le | gt | ge | inn | notin | is | isnot
  deriving DecidableEq

def small (i : Int) : Bool := decide (-(2 ^ 64) < i) && decide (i < 2 ^ 64)
def bop : Bop → PV → PV → Option PV
  | .add, .int i, .int j => some (.int (i + j))
  | .add, .str x, .str y => if x.length + y.length ≤ sizeLine then some (.str (x ++ y)) else none
  | .add, .tup xs, .tup ys => if xs.length + ys.length ≤ sizeLine then some (.tup (xs ++ ys)) else none
  | .add, .list xs, .list ys => if xs.length + ys.length ≤ sizeLine then some (.list (xs ++ ys)) else none
  | .sub, .int i, .int j => some (.int (i - j))
  | .mul, .int i, .int j => if small i || small j then some (.int (i * j)) else none
  | .fdiv, .int i, .int j => if j ≠ 0 ∧ j.natAbs < 1073741824 then some (.int (i.fdiv j)) else none
  | .mod, .int i, .int j => if j ≠ 0 then some (.int (i.fmod j)) else none
  | .pow, .int i, .int j => if 0 ≤ j ∧ j ≤ 1000000 ∧ i.natAbs < 2 ^ 64 then some (.int (i ^ j.toNat)) else none
  | .mul, .tup xs, .int j => if xs ≠ [] ∧ 1 ≤ j ∧ j ≤ 1000 ∧ xs.length ≤ 1000 then some (.tup (List.replicate j.toNat xs).flatten) else none
  | .mul, .list xs, .int j => if 0 ≤ j ∧ j ≤ 1000 ∧ xs.length ≤ 1000 then some (.list (List.replicate j.toNat xs).flatten) else none
  | _, _, _ => none

def eqv (a b : PV) : Option Bool := if dOk 64 a && dOk 64 b then some (peq a b) else none
def flatP : PV → Bool
  | .none | .bool _ | .int _ | .str _ => true
  | _ => false
def isIn (a : PV) : PV → Option Bool
  | .list xs => if dOk 64 a && dOkL 63 xs then some (xs.any fun z => peq z a) else none
  | .tup xs => if flatP a && xs.all flatP then some (xs.any fun z => peq z a) else none
  | .str z => (match a with
    | .str x => (match x.cps.toList with
      | [c] => some (decide (c ∈ z.cps.toList))
      | _ => none)
    | _ => none)
  | .dict kvs => (match a with
    | .int _ | .str _ => some (kvs.any fun kv => decide (kv.1 = a))
    | _ => none)
  | _ => none
def ltv : PV → PV → Option Bool
  | .int i, .int j => some (decide (i < j))
  | .str x, .str y => some (decide (x.cps.toList < y.cps.toList))
  | _, _ => none
def lev : PV → PV → Option Bool
  | .int i, .int j => some (decide (i ≤ j))
  | _, _ => none
/-- is: of None, True, False alone -/
def isv (a b : PV) : Option Bool := match b with
  | .none => some (decide (a = .none))
  | .bool _ => (match a with
    | .none | .bool _ => some (decide (a = b))
    | _ => none)
  | _ => none
def cop : Cop → PV → PV → Option Bool
  | .eq, a, b => eqv a b
  | .ne, a, b => (eqv a b).map (!·)
  | .lt, a, b => ltv a b
  | .gt, a, b => ltv b a
  | .le, a, b => lev a b
  | .ge, a, b => lev b a
  | .inn, a, b => isIn a b
  | .notin, a, b => (isIn a b).map (!·)
  | .is, a, b => isv a b
  | .isnot, a, b => (isv a b).map (!·)

/-- Python's place of an index -/
def place (n : Nat) (i : Int) : Option Nat := if 0 ≤ i then (if i < n then some i.toNat else none) else if -(n : Int) ≤ i then some (i + n).toNat else none
def dget (kvs : List (PV × PV)) (k : PV) : Option PV := (kvs.find? fun kv => decide (kv.1 = k)).map (·.2)
def dput (kvs : List (PV × PV)) (k v : PV) : List (PV × PV) :=
  if (kvs.any fun kv => decide (kv.1 = k)) = true then kvs.map (fun kv => if kv.1 = k then (kv.1, v) else kv) else kvs ++ [(k, v)]
def isKey : PV → Bool
  | .int _ | .str _ => true
  | _ => false
def item : PV → PV → Option PV
  | .tup xs, .int i => (place xs.length i).bind (xs[·]?)
  | .list xs, .int i => (place xs.length i).bind (xs[·]?)
  | .str z, .int i => if z.length ≤ sizeLine then (place z.cps.toList.length i).bind fun n => (z.cps.toList[n]?).map fun c => .str ⟨#[c]⟩ else none
  | .dict kvs, k => if isKey k then dget kvs k else none
  | .scr ns, .int i => (place ns.length i).bind fun n => (ns[n]?).map .int
  | _, _ => none
/-- a part of a slice, held within 0 .. n -/
def edge (n : Nat) (d : Nat) : Option Int → Nat
  | none => d
  | some i => if i < 0 then (i + n).toNat else min i.toNat n
def cut {α : Type} (xs : List α) (lo hi : Option Int) : List α := (xs.drop (edge xs.length 0 lo)).take (edge xs.length xs.length hi - edge xs.length 0 lo)
def part : PV → Option (Option Int)
  | .none => some none
  | .int i => some (some i)
  | _ => none
def slice (v : PV) (lo hi : Option Int) : Option PV := match v with
  | .tup xs => some (.tup (cut xs lo hi))
  | .list xs => some (.list (cut xs lo hi))
  | .str z => some (.str ⟨(cut z.cps.toList lo hi).toArray⟩)
  | _ => none

inductive Tg where
  | nm (i : Nat) | tp (ts : List Tg)
inductive Ty where | int | bool | str | tuple | list
  deriving DecidableEq
/-- built-in functions -/
inductive Bi where
  | len | isinst (t : Ty) | all | any | tuple | list | abs | sum | max | min
  deriving DecidableEq
/-- methods of built-in things -/
inductive Me where
  | get1 | get2 | lcount | tcount | lindex | tindex
  deriving DecidableEq
mutual
inductive Ex where
  | var (i : Nat)
  | cst (v : PV)
  | glo (g : Nat)
  | neg (a : Ex) | not (a : Ex) | and (a b : Ex) | or (a b : Ex) | ite (t a b : Ex)
  | bin (o : Bop) (a b : Ex) | cmp (o : Cop) (a b : Ex) | chain (o1 o2 : Cop) (a b c : Ex)
  | tup (es : List Ex) | lst (es : List Ex) | dic (kvs : List (Ex × Ex))
  | ix (a b : Ex) | sl (a : Ex) (lo hi : Option Ex) | rev (a : Ex)
  | call (f : Nat) (es : List Ex)
  | bi (b : Bi) (es : List Ex) | me (m : Me) (o : Ex) (es : List Ex)
  | dzip (a b : Ex) | dlst (a : Ex)
  | lc (elt : Ex) (tg : Tg) (it : It) (ifs : List Ex) (own : List Nat)
  | lc2 (elt : Ex) (tg : Tg) (it : It) (tg2 : Tg) (it2 : It) (own own2 : List Nat)
  | dc (k v : Ex) (tg : Tg) (it : It) (own : List Nat)
  | br (e : Ex) | won (a : Ex) | lbin (o : Bop) (a b : Ex)
  | heard (e : Ex) | isx (i k : Nat)
inductive It where
  | seq (e : Ex) | keys (i : Nat) | zip (a b : Ex) | enum (a : Ex) | rng1 (a : Ex) | rng2 (a b : Ex)
end
inductive Sm where
  | asg (t : Tg) (e : Ex) | par (is : List Nat) (es : List Ex)
  | aug (i : Nat) (o : Bop) (e : Ex)
  | put (o k v : Ex) | augput (o k : Ex) (b : Bop) (v : Ex)
  | app (o e : Ex) | upd (o e : Ex)
  | expr (e : Ex) | ret (e : Ex) | retN
  | ifs (t : Ex) (a b : List Sm) | forr (tg : Tg) (it : It) (body : List Sm) | whil (t : Ex) (body : List Sm)
  | brk | cont | pass | never | raise (c : Nat)

mutual
def assign : Tg → PV → Env → Option Env
  | .nm i, v, ρ => if i < ρ.length then some (ρ.set i (some v)) else none
  | .tp ts, .tup xs, ρ => assignL ts xs ρ
  | .tp ts, .list xs, ρ => assignL ts xs ρ
  | .tp _, _, _ => none
def assignL : List Tg → List PV → Env → Option Env
  | [], [], ρ => some ρ
  | t :: ts, x :: xs, ρ => (assign t x ρ).bind (assignL ts xs)
  | _, _, _ => none
end
/-- what a target takes apart: a tuple target looks through a reference -/
def opened (t : Tg) (S : Store) (v : PV) : PV := match t with
  | .nm _ => v
  | .tp _ => res S v
/-- the slots of a comprehension's own names forgotten -/
def wipeP (ρ : Env) : List Nat → Env
  | [] => ρ
  | v :: vs => (wipeP ρ vs).set v none
/-- what a loop walks: the items; the things that must stand as they are at each turn; the dicts that are locked -/
structure Items where
  items : List PV
  guard : List (Nat × Cell) := []
  lock : List Nat := []
def guardOk (S : Store) (g : List (Nat × Cell)) : Bool := g.all fun kc => decide (S[kc.1]? = some kc.2)
def guardOf (S : Store) (v : PV) : List (Nat × Cell) := match v with
  | .ref k => (match S[k]? with
    | some c => [(k, c)]
    | none => [])
  | _ => []
def setLock (S : Store) (k : Nat) (b : Bool) : Store := match S[k]? with
  | some (.dic _ kvs) => S.set k (.dic b kvs)
  | _ => S
def unlock (S : Store) (ks : List Nat) : Store := ks.foldl (fun S k => setLock S k false) S
def seqOf : PV → Option (List PV)
  | .tup xs => some xs
  | .list xs => some xs
  | .str z => some (z.cps.toList.map fun c => .str ⟨#[c]⟩)
  | _ => none
def lsOf : PV → Option (List PV)
  | .tup xs => some xs
  | .list xs => some xs
  | _ => none
def zipP : List PV → List PV → List PV
  | x :: xs, y :: ys => .tup [x, y] :: zipP xs ys
  | _, _ => []
def enumP (i : Nat) : List PV → List PV
  | [] => []
  | x :: xs => .tup [.int i, x] :: enumP (i + 1) xs
def zipOf (x y : PV) : Option (List PV) := match lsOf x, lsOf y with
  | some xs, some ys => some (zipP xs ys)
  | _, _ => none
def enumOf (x : PV) : Option (List PV) := (lsOf x).map (enumP 0)
def rangeP (a b : Int) : List PV := (List.range (b - a).toNat).map fun i => .int (a + (i : Nat))
/-- the pairs of a list of pairs -/
def pairsP : List PV → Option (List (PV × PV))
  | [] => some []
  | .tup [k, v] :: r => if isKey k then (pairsP r).map ((k, v) :: ·) else none
  | _ :: _ => none
def mergeP (kvs : List (PV × PV)) : List (PV × PV) → List (PV × PV)
  | [] => kvs
  | (k, v) :: r => mergeP (dput kvs k v) r
def dzipV : PV → PV → Option PV
  | .tup xs, .tup ys => (pairsP (zipP xs ys)).map fun ps => .dict (mergeP [] ps)
  | _, _ => none
def dlstV : PV → Option PV
  | .list xs => (pairsP xs).map fun ps => .dict (mergeP [] ps)
  | _ => none
def firstIx (p : PV → Bool) : List PV → Option Nat
  | [] => none
  | x :: r => if p x then some 0 else (firstIx p r).map (· + 1)
def intsP : List PV → Option (List Int)
  | [] => some []
  | .int i :: r => (intsP r).map (i :: ·)
  | _ :: _ => none
def isTy : Ty → PV → Option Bool
  | t, .none => some false
  | t, .bool _ => some (t == .int || t == .bool)
  | t, .int _ => some (t == .int)
  | t, .str _ => some (t == .str)
  | t, .tup _ => some (t == .tuple)
  | t, .list _ => some (t == .list)
  | t, .dict _ => some false
  | _, _ => none
def maxI : List Int → Option Int
  | [] => none
  | i :: r => some (r.foldl (fun a b => if b > a then b else a) i)
def minI : List Int → Option Int
  | [] => none
  | i :: r => some (r.foldl (fun a b => if b < a then b else a) i)
def truthsP : List PV → Option (List Bool)
  | [] => some []
  | .bool b :: r => (truthsP r).map (b :: ·)
  | _ :: _ => none
def tru (v : PV) : Bool := truth v == some true
/-- built-ins on values (looked through references) -/
def biv : Bi → List PV → Option PV
  | .len, [.str z] => some (.int z.length)
  | .len, [.tup xs] => some (.int xs.length)
  | .len, [.list xs] => some (.int xs.length)
  | .len, [.dict kvs] => some (.int kvs.length)
  | .len, [.scr ns] => some (.int ns.length)
  | .isinst t, [v] => (isTy t v).map .bool
  | .all, [.list xs] => if dOkL 63 xs then some (.bool (xs.all tru)) else none
  | .any, [.list xs] => if dOkL 63 xs then some (.bool (xs.any tru)) else none
  | .tuple, [.list xs] => some (.tup xs)
  | .tuple, [.tup xs] => some (.tup xs)
  | .list, [.list xs] => some (.list xs)
  | .list, [.tup xs] => some (.list xs)
  | .abs, [.int i] => some (.int (if i < 0 then -i else i))
  | .sum, [.list xs] => (intsP xs).map fun is => .int is.sum
  | .max, [.list xs] => (intsP xs).bind fun is => (maxI is).map .int
  | .min, [.list xs] => (intsP xs).bind fun is => (minI is).map .int
  | _, _ => none
def mev : Me → PV → List PV → Option PV
  | .get1, .dict kvs, [k] => if isKey k then some ((dget kvs k).getD .none) else none
  | .get2, .dict kvs, [k, d] => if isKey k then some ((dget kvs k).getD d) else none
  | .lcount, .list xs, [v] => if dOk 64 v && dOkL 63 xs then some (.int (xs.countP fun z => peq z v)) else none
  | .tcount, .tup xs, [v] => if dOk 64 v && dOkL 63 xs then some (.int (xs.countP fun z => peq z v)) else none
  | .lindex, .list xs, [v] => if dOk 64 v && dOkL 63 xs then (xs.findIdx? fun z => peq z v).map fun n => .int n else none
  | .tindex, .tup xs, [v] => if dOk 64 v && dOkL 63 xs then (xs.findIdx? fun z => peq z v).map fun n => .int n else none
  | _, _, _ => none

def meKind : Me → PV → Bool
  | .get1, .dict _ | .get2, .dict _ | .lcount, .list _ | .lindex, .list _ | .tcount, .tup _ | .tindex, .tup _ => true
  | _, _ => false
/-- a comprehension's loop -/
def compLoop (g : List (Nat × Cell)) (tg : Tg) (ρ : Env) (tst : Env → Store → Res Bool) (el : Env → Store → Res PV) : List PV → Store → Res (List PV)
  | [], S => if guardOk S g then .ok [] S else .stuck
  | x :: xs, S => if guardOk S g then (match assign tg x ρ with
    | none => .stuck
    | some ρ' => match tst ρ' S with
      | .ok true S1 => (match el ρ' S1 with
        | .ok v S2 => (compLoop g tg ρ tst el xs S2).map (v :: ·)
        | _ => .stuck)
      | .ok false S1 => compLoop g tg ρ tst el xs S1
      | _ => .stuck) else .stuck
def comp2Loop (g : List (Nat × Cell)) (tg : Tg) (ρ : Env) (inner : Env → Store → Res (List PV)) : List PV → Store → Res (List PV)
  | [], S => if guardOk S g then .ok [] S else .stuck
  | x :: xs, S => if guardOk S g then (match assign tg x ρ with
    | none => .stuck
    | some ρ' => match inner ρ' S with
      | .ok vs S1 => (comp2Loop g tg ρ inner xs S1).map (vs ++ ·)
      | _ => .stuck) else .stuck
/-- a dict comprehension's loop -/
def dcLoop (g : List (Nat × Cell)) (tg : Tg) (ρ : Env) (ke ve : Env → Store → Res PV) : List PV → List (PV × PV) → Store → Res (List (PV × PV))
  | [], acc, S => if guardOk S g then .ok acc S else .stuck
  | x :: xs, acc, S => if guardOk S g then (match assign tg x ρ with
    | none => .stuck
    | some ρ' => match ke ρ' S with
      | .ok k S1 => (match ve ρ' S1 with
        | .ok v S2 => if isKey k then dcLoop g tg ρ ke ve xs (dput acc k v) S2 else .stuck
        | _ => .stuck)
      | _ => .stuck) else .stuck
def toRef (v : PV) (S : Store) : Res PV := match v with
  | .list xs => .ok (.ref S.length) (S ++ [.lst xs])
  | .dict kvs => .ok (.ref S.length) (S ++ [.dic false kvs])
  | _ => .stuck
def truthR (S : Store) (v : PV) : Res Bool := Res.ofO (truth (res S v)) S

/-- lists put together -/
def lbop : Bop → PV → PV → Option PV
  | .add, .list xs, .list ys => if xs.length + ys.length ≤ sizeLine then some (.list (xs ++ ys)) else none
  | .mul, .list xs, .int j => if 0 ≤ j ∧ j ≤ 1000 ∧ xs.length ≤ 1000 then some (.list (List.replicate j.toNat xs).flatten) else none
  | _, _, _ => none
/-- the table of results -/
def wonOf : PV → Option PV
  | .bool true => some (.str "won")
  | .bool false => some (.str "lost")
  | _ => none
/-- the classes of refusals, by numbers: the words that a hearing tells, the names -/
def hearW : List Str := ["no seen", "no told", "no condition", "no world", "no person", "no bet", "no result", "no offer", "no laying", "bad desk", "bad bet", "late", "no happening", "bad truth", "no back", "no text"]
def xNames : List Str := ["NoSeen", "NoTold", "NoCondition", "NoWorld", "NoPerson", "NoBet", "NoResult", "NoOffer", "NoLaying", "BadDesk", "BadBet", "Late", "NoHappening", "BadTruth", "NoBack", "NoText", "Hung", "Known", "Settled", "BetError", "ValueError"]
def subX (c k : Nat) : Bool := decide (c = k) || decide (19 ≤ k)
def hearX (c : Nat) (S : Store) : Res PV := if S.all (Cell.lo S.length) then Res.ofO ((hearW[c]?).map fun w => PV.tup [.str w]) S else .stuck
/-- what a hearing tells -/
def hearR (r : Res PV) : Res PV := match r with
  | .ok v S => .ok (.tup [.str "told", v]) S
  | .exc (.exc c []) S => hearX c S
  | _ => .stuck
/-- of which class the exception is that was caught -/
def isxV (G : List PV) (v : PV) (k : Nat) : Option PV := if G[0]? = some v then (match v with
  | .exc c _ => some (.bool (subX c k))
  | _ => none) else none
abbrev Calls := Nat → List PV → Store → Res PV
section
variable (φ : Calls) (G : List PV)
mutual
def evE : Ex → Env → Store → Res PV
  | .var i, ρ, S => (match ρ[i]? with
    | some (some v) => .ok v S
    | _ => .stuck)
  | .cst v, _, S => .ok v S
  | .glo g, _, S => Res.ofO G[g]? S
  | .neg a, ρ, S => (evE a ρ S).bind fun v S => (match v with
    | .int i => .ok (.int (-i)) S
    | _ => .stuck)
  | .not a, ρ, S => (evE a ρ S).bind fun v S => (truthR S v).map fun b => .bool (!b)
  | .and a b, ρ, S => (evE a ρ S).bind fun v S => (truthR S v).bind fun t S => if t then evE b ρ S else .ok v S
  | .or a b, ρ, S => (evE a ρ S).bind fun v S => (truthR S v).bind fun t S => if t then .ok v S else evE b ρ S
  | .ite t a b, ρ, S => (evE t ρ S).bind fun v S => (truthR S v).bind fun t S => if t then evE a ρ S else evE b ρ S
  | .bin o a b, ρ, S => (evE a ρ S).bind fun x S => (evE b ρ S).bind fun y S => Res.ofO (bop o (res S x) (res S y)) S
  | .cmp o a b, ρ, S => (evE a ρ S).bind fun x S => (evE b ρ S).bind fun y S => Res.ofO ((cop o (res S x) (res S y)).map .bool) S
  | .chain o1 o2 a b c, ρ, S => (evE a ρ S).bind fun x S => (evE b ρ S).bind fun y S => (Res.ofO (cop o1 (res S x) (res S y)) S).bind fun k S =>
      if k then (evE c ρ S).bind fun z S => Res.ofO ((cop o2 (res S y) (res S z)).map .bool) S else .ok (.bool false) S
  | .tup es, ρ, S => (evEs es ρ S).map .tup
  | .lst es, ρ, S => (evEs es ρ S).map .list
  | .dic kvs, ρ, S => (evD kvs ρ S).map fun ps => .dict (mergeP [] ps)
  | .ix a b, ρ, S => (evE a ρ S).bind fun x S => (evE b ρ S).bind fun y S => Res.ofO (item (res S x) y) S
  | .sl a lo hi, ρ, S => (evE a ρ S).bind fun x S => (evO lo ρ S).bind fun l S => (evO hi ρ S).bind fun h S => Res.ofO ((part l).bind fun l => (part h).bind fun h => slice (res S x) l h) S
  | .rev a, ρ, S => (evE a ρ S).bind fun x S => (match res S x with
    | .list xs => .ok (.list xs.reverse) S
    | .tup xs => .ok (.tup xs.reverse) S
    | _ => .stuck)
  | .call f es, ρ, S => (evEs es ρ S).bind fun vs S => φ f vs S
  | .bi b es, ρ, S => (evEs es ρ S).bind fun vs S => Res.ofO (biv b (vs.map (res S))) S
  | .me m o es, ρ, S => (evE o ρ S).bind fun x S => if meKind m (res S x) then (evEs es ρ S).bind fun vs S => Res.ofO (mev m (res S x) vs) S else .stuck
  | .dzip a b, ρ, S => (evE a ρ S).bind fun x S => (evE b ρ S).bind fun y S => Res.ofO (dzipV (res S x) (res S y)) S
  | .dlst a, ρ, S => (evE a ρ S).bind fun x S => Res.ofO (dlstV (res S x)) S
  | .lc elt tg it ifs own, ρ, S => (evI it ρ S).bind fun iv S =>
      if iv.items.length ≤ sizeLine then (compLoop iv.guard tg (wipeP ρ own) (evTs ifs) (evE elt) iv.items S).bind fun vs S => .ok (.list vs) (unlock S iv.lock) else .stuck
  | .lc2 elt tg it tg2 it2 own own2, ρ, S => (evI it ρ S).bind fun iv S =>
      (comp2Loop iv.guard tg (wipeP ρ own) (fun ρ1 S1 => (evI it2 ρ1 S1).bind fun jv S2 => if jv.lock.isEmpty then compLoop jv.guard tg2 (wipeP ρ1 own2) (fun _ S => .ok true S) (evE elt) jv.items S2 else .stuck) iv.items S).bind fun vs S =>
      if vs.length ≤ sizeLine then .ok (.list vs) (unlock S iv.lock) else .stuck
  | .dc k v tg it own, ρ, S => (evI it ρ S).bind fun iv S => if ¬ iv.items.length ≤ sizeLine then .stuck else (dcLoop iv.guard tg (wipeP ρ own) (evE k) (evE v) iv.items [] S).bind fun ps S => .ok (.dict ps) (unlock S iv.lock)
  | .br e, ρ, S => (evE e ρ S).bind toRef
  | .won a, ρ, S => (evE a ρ S).bind fun v S => Res.ofO (wonOf v) S
  | .lbin o a b, ρ, S => (evE a ρ S).bind fun x S => (evE b ρ S).bind fun y S => Res.ofO (lbop o (res S x) (res S y)) S
  | .heard e, ρ, S => hearR (evE e ρ S)
  | .isx i k, ρ, S => (match ρ[i]? with
    | some (some v) => Res.ofO (isxV G v k) S
    | _ => .stuck)
def evEs : List Ex → Env → Store → Res (List PV)
  | [], _, S => .ok [] S
  | e :: es, ρ, S => (evE e ρ S).bind fun v S => (evEs es ρ S).map (v :: ·)
def evO : Option Ex → Env → Store → Res PV
  | none, _, S => .ok .none S
  | some e, ρ, S => (evE e ρ S).bind fun v S => (match v with
    | .int i => .ok (.int i) S
    | _ => .stuck)
def evD : List (Ex × Ex) → Env → Store → Res (List (PV × PV))
  | [], _, S => .ok [] S
  | (k, v) :: r, ρ, S => (evE k ρ S).bind fun k S => (evE v ρ S).bind fun v S => if isKey k then (evD r ρ S).map ((k, v) :: ·) else .stuck
/-- a clause's tests -/
def evTs : List Ex → Env → Store → Res Bool
  | [], _, S => .ok true S
  | t :: r, ρ, S => (evE t ρ S).bind fun v S => (truthR S v).bind fun b S => if b then evTs r ρ S else .ok false S
def evI : It → Env → Store → Res Items
  | .seq e, ρ, S => (evE e ρ S).bind fun v S => Res.ofO ((seqOf (res S v)).map fun xs => { items := xs, guard := guardOf S v }) S
  | .keys i, ρ, S => (match ρ[i]? with
    | some (some (.ref k)) => (match S[k]? with
      | some (.dic false kvs) => .ok { items := kvs.map (·.1), lock := [k] } (S.set k (.dic true kvs))
      | _ => .stuck)
    | _ => .stuck)
  | .zip a b, ρ, S => (evE a ρ S).bind fun x S => (evE b ρ S).bind fun y S => Res.ofO ((zipOf (res S x) (res S y)).map fun zs => { items := zs, guard := guardOf S x ++ guardOf S y }) S
  | .enum a, ρ, S => (evE a ρ S).bind fun x S => Res.ofO ((enumOf (res S x)).map fun zs => { items := zs, guard := guardOf S x }) S
  | .rng1 a, ρ, S => (evE a ρ S).bind fun x S => (match x with
    | .int n => if -(2 ^ 62) ≤ n ∧ n < 2 ^ 62 then .ok { items := rangeP 0 n } S else .stuck
    | _ => .stuck)
  | .rng2 a b, ρ, S => (evE a ρ S).bind fun x S => (evE b ρ S).bind fun y S => (match x, y with
    | .int m, .int n => if -(2 ^ 62) ≤ m ∧ m < 2 ^ 62 ∧ -(2 ^ 62) ≤ n ∧ n < 2 ^ 62 then .ok { items := rangeP m n } S else .stuck
    | _, _ => .stuck)
end
end

inductive Out where
  | next (ρ : Env) (S : Store) | ret (v : PV) (S : Store) | brk (ρ : Env) (S : Store) | cont (ρ : Env) (S : Store) | exc (x : PV) (ρ : Env) (S : Store) | stuck
def Out.ofR {α : Type} (ρ : Env) (r : Res α) (f : α → Store → Out) : Out := match r with
  | .ok a S => f a S
  | .exc x S => .exc x ρ S
  | .stuck => .stuck
def Out.then (o : Out) (f : Env → Store → Out) : Out := match o with
  | .next ρ S => f ρ S
  | o => o
/-- a for's turns -/
def forLoop (iv : Items) (tg : Tg) (body : Env → Store → Out) : List PV → Env → Store → Out
  | [], ρ, S => if guardOk S iv.guard then .next ρ (unlock S iv.lock) else .stuck
  | x :: xs, ρ, S => if guardOk S iv.guard then (match assign tg x ρ with
    | none => .stuck
    | some ρ' => match body ρ' S with
      | .next ρ1 S1 => forLoop iv tg body xs ρ1 S1
      | .cont ρ1 S1 => forLoop iv tg body xs ρ1 S1
      | .brk ρ1 S1 => .next ρ1 (unlock S1 iv.lock)
      | .ret v S1 => .ret v (unlock S1 iv.lock)
      | .exc x ρ1 S1 => if iv.lock.isEmpty then .exc x ρ1 S1 else .stuck
      | .stuck => .stuck) else .stuck
def whileLoop (tst : Env → Store → Res Bool) (body : Env → Store → Out) : Nat → Env → Store → Out
  | 0, _, _ => .stuck
  | n + 1, ρ, S => Out.ofR ρ (tst ρ S) fun b S => if b then (match body ρ S with
    | .next ρ1 S1 => whileLoop tst body n ρ1 S1
    | .cont ρ1 S1 => whileLoop tst body n ρ1 S1
    | .brk ρ1 S1 => .next ρ1 S1
    | o => o) else .next ρ S
def setAll : List Nat → List PV → Env → Option Env
  | [], [], ρ => some ρ
  | i :: is, v :: vs, ρ => if i < ρ.length then setAll is vs (ρ.set i (some v)) else none
  | _, _, _ => none
/-- o[k] = v -/
def putAt (S : Store) (o k v : PV) : Option Store := match o with
  | .ref a => (match S[a]? with
    | some (.lst xs) => (match k with
      | .int i => (place xs.length i).map fun n => S.set a (.lst (xs.set n v))
      | _ => none)
    | some (.dic false kvs) => if isKey k && decide (kvs.length < sizeLine) then some (S.set a (.dic false (dput kvs k v))) else none
    | _ => none)
  | _ => none
def appAt (S : Store) (o v : PV) : Option Store := match o with
  | .ref a => (match S[a]? with
    | some (.lst xs) => if xs.length < sizeLine then some (S.set a (.lst (xs ++ [v]))) else none
    | _ => none)
  | _ => none
def updAt (S : Store) (o v : PV) : Option Store := match o with
  | .ref a => if v = .ref a then none else (match S[a]? with
    | some (.dic false kvs) => (match res S v with
      | .dict more => if kvs.length + more.length < sizeLine then some (S.set a (.dic false (mergeP kvs more))) else none
      | _ => none)
    | _ => none)
  | _ => none
/-- a dict that may be changed -/
def openD (S : Store) (o : PV) : Bool := match o with
  | .ref a => (match S[a]? with
    | some (.dic false _) => true
    | _ => false)
  | _ => false
def whileFuel : Nat := 1000000
section
variable (φ : Calls) (G : List PV)
mutual
def exS : Sm → Env → Store → Out
  | .asg t e, ρ, S => Out.ofR ρ (evE φ G e ρ S) fun v S => (match assign t (opened t S v) ρ with
    | some ρ => .next ρ S
    | none => .stuck)
  | .par is es, ρ, S => Out.ofR ρ (evEs φ G es ρ S) fun vs S => (match setAll is vs ρ with
    | some ρ => .next ρ S
    | none => .stuck)
  | .aug i o e, ρ, S => (match ρ[i]? with
    | some (some x) => Out.ofR ρ (evE φ G e ρ S) fun y S => (match bop o x y with
      | some (.int z) => .next (ρ.set i (some (.int z))) S
      | _ => .stuck)
    | _ => .stuck)
  | .put o k v, ρ, S => Out.ofR ρ (evE φ G v ρ S) fun v S => Out.ofR ρ (evE φ G o ρ S) fun o S => Out.ofR ρ (evE φ G k ρ S) fun k S => (match putAt S o k v with
    | some S => .next ρ S
    | none => .stuck)
  | .augput o k b v, ρ, S => Out.ofR ρ (evE φ G o ρ S) fun o S => Out.ofR ρ (evE φ G k ρ S) fun k S => (match (if meKind .get1 (res S o) then item (res S o) k else none) with
    | some old => Out.ofR ρ (evE φ G v ρ S) fun v S => (match bop b old v with
      | some (.int z) => (match putAt S o k (.int z) with
        | some S => .next ρ S
        | none => .stuck)
      | _ => .stuck)
    | none => .stuck)
  | .app o e, ρ, S => Out.ofR ρ (evE φ G o ρ S) fun o S => if meKind .lcount (res S o) then Out.ofR ρ (evE φ G e ρ S) fun v S => (match appAt S o v with
    | some S => .next ρ S
    | none => .stuck) else .stuck
  | .upd o e, ρ, S => Out.ofR ρ (evE φ G o ρ S) fun o S => if openD S o then Out.ofR ρ (evE φ G e ρ S) fun v S => (match updAt S o v with
    | some S => .next ρ S
    | none => .stuck) else .stuck
  | .expr e, ρ, S => Out.ofR ρ (evE φ G e ρ S) fun _ S => .next ρ S
  | .ret e, ρ, S => Out.ofR ρ (evE φ G e ρ S) fun v S => .ret v S
  | .retN, _, S => .ret .none S
  | .ifs t a b, ρ, S => Out.ofR ρ (evE φ G t ρ S) fun v S => Out.ofR ρ (truthR S v) fun t S => if t then exSs a ρ S else exSs b ρ S
  | .forr tg it body, ρ, S => Out.ofR ρ (evI φ G it ρ S) fun iv S => forLoop iv tg (exSs body) iv.items ρ S
  | .whil t body, ρ, S => whileLoop (fun ρ S => (evE φ G t ρ S).bind fun v S => truthR S v) (exSs body) whileFuel ρ S
  | .brk, ρ, S => .brk ρ S
  | .cont, ρ, S => .cont ρ S
  | .pass, ρ, S => .next ρ S
  | .never, _, _ => .stuck
  | .raise c, ρ, S => .exc (.exc c []) ρ S
def exSs : List Sm → Env → Store → Out
  | [], ρ, S => .next ρ S
  | s :: r, ρ, S => (exS s ρ S).then fun ρ S => exSs r ρ S
end
end

structure Df where
  np : Nat
  nv : Nat
  body : List Sm
  keep : Bool := false
def runDf (φ : Calls) (G : List PV) (d : Df) (vs : List PV) (S : Store) : Res PV :=
  if vs.length = d.np then
    let r : Res PV := match exSs φ G d.body (vs.map some ++ List.replicate (d.nv - d.np) none) S with
      | .next _ S => .ok .none S
      | .ret v S => .ok v S
      | .exc x _ S => .exc x S
      | _ => .stuck
    if d.keep then r else finish S.length r
  else .stuck
/-- the defs of a program at a depth -/
def callP (P : List Df) (G : List PV) : Nat → Calls
  | 0 => fun _ _ _ => .stuck
  | n + 1 => fun f vs S => match P[f]? with
    | some d => runDf (callP P G n) G d vs S
    | none => .stuck
/-- one def: its place among the head's, its name, parameters, names, text -/
structure Ent where
  x : Str
  ps : List Str
  N : List Str
  d : Df
def dOf : Option Ent → Df
  | some e => e.d
  | none => { np := 0, nv := 0, body := [.never] }
def gOf : Option (Str × PV) → PV
  | some g => g.2
  | none => .none
end Bt
end
section
set_option maxHeartbeats 1000000
namespace Bt
open PySem L2

def KTup (K : PySem.W.Frag) (a : Addr) (xs : List V) : Prop := ∃ (o : Obj) (its : Array Value) (n : Nat), K.lookup a = some o ∧ o.cls = .type "tuple" ∧ o.data = .seq its n ∧ its.size ≤ sizeLine ∧ Vals xs its.toList
def KLst (K : PySem.W.Frag) (a : Addr) (xs : List V) : Prop := ∃ (o : Obj) (its : Array Value) (n : Nat), K.lookup a = some o ∧ o.cls = .type "list" ∧ o.dict = none ∧ o.data = .seq its n ∧ its.size ≤ sizeLine ∧ Vals xs its.toList
/-- the written part, and what is being made just now (no value has it in it) -/
structure Kb where
  K : PySem.W.Frag
  B : List Addr
  T : List (Addr × Str)
/-- neither a table of codes nor a code -/
def NX : HO → Prop
  | .tbl _ => False
  | .ext _ => False
  | _ => True
/-- an exception that was caught, at a -/
def xf (a : Addr) : List (Str × PV) := [(⟨#[]⟩, .int (a : Nat))]
def Away (K : Kb) (ι : List Addr) (a : Addr) : Prop := a ∉ ι ∧ a ∉ K.B
def keyP : Key → PV
  | .inl i => .int i
  | .inr s => .str s
/-- a key's text is one -/
def KyOk : Key → Prop
  | .inl _ => True
  | .inr z => z.length ≤ sizeLine ∧ PyData.strOk z = true
mutual
inductive Rep (K : Kb) (ι : List Addr) (H : Hp) : V → PV → Prop
  | non : Rep K ι H .non .none
  | bl (b : Bool) : Rep K ι H (.bl b) (.bool b)
  | int (i : Int) : Rep K ι H (.int i) (.int i)
  | str (s : Str) : s.length ≤ sizeLine → PyData.strOk s = true → Rep K ι H (.str s) (.str s)
  | tup {a : Addr} {vs : List V} {xs : List PV} : Rd H a (.tup vs) → Away K ι a → RepL K ι H vs xs → Rep K ι H (.ref a) (.tup xs)
  | tupK {a : Addr} {vs : List V} {xs : List PV} : KTup K.K a vs → RepL K ι H vs xs → Rep K ι H (.ref a) (.tup xs)
  | list {a : Addr} {vs : List V} {xs : List PV} : Rd H a (.lst vs) → Away K ι a → RepL K ι H vs xs → Rep K ι H (.ref a) (.list xs)
  | dict {a : Addr} {es : List (Key × V)} {kvs : List (PV × PV)} : Rd H a (.dK es) → Away K ι a → RepD K ι H es kvs → Rep K ι H (.ref a) (.dict kvs)
  | ref {k : Nat} {a : Addr} : ι[k]? = some a → Rep K ι H (.ref a) (.ref k)
  | scr {a : Addr} {ns : List Int} : Rd H a (.lst (ns.map V.int)) → Away K ι a → Rep K ι H (.ref a) (.scr ns)
  | scrK {a : Addr} {ns : List Int} : KLst K.K a (ns.map V.int) → Rep K ι H (.ref a) (.scr ns)
  | exc {a : Addr} {c : Nat} {fs : List (Str × PV)} : fs = xf a → Rep K ι H (.ref a) (.exc c fs)
inductive RepL (K : Kb) (ι : List Addr) (H : Hp) : List V → List PV → Prop
  | nil : RepL K ι H [] []
  | cons {v : V} {vs : List V} {x : PV} {xs : List PV} : Rep K ι H v x → RepL K ι H vs xs → RepL K ι H (v :: vs) (x :: xs)
inductive RepD (K : Kb) (ι : List Addr) (H : Hp) : List (Key × V) → List (PV × PV) → Prop
  | nil : RepD K ι H [] []
  | cons {k : Key} {v : V} {r : List (Key × V)} {x : PV} {xs : List (PV × PV)} : KyOk k → Rep K ι H v x → RepD K ι H r xs → RepD K ι H ((k, v) :: r) ((keyP k, x) :: xs)
end

/-- nothing but a table, perhaps -/
def Fr (H : Hp) (a : Addr) : Prop := ∀ o, H a = some o → ∃ ps, o = .tbl ps
theorem Fr.of {H : Hp} {a : Addr} (h : H a = none) : Fr H a := fun o e => by rw [h] at e; cases e
/-- what a run leaves as it was: all but the things of the store; new things are new -/
structure ExtR (ι : List Addr) (H : Hp) (ι' : List Addr) (H' : Hp) : Prop where
  pre : ι <+: ι'
  keep' : ∀ a o, H a = some o → a ∉ ι → H' a = some o ∨ ∃ ps, o = .tbl ps
  new : ∀ a ∈ ι', a ∈ ι ∨ Fr H a
/-- .. and what is locked -/
structure Ext (ι : List Addr) (H : Hp) (ι' : List Addr) (H' : Hp) : Prop extends ExtR ι H ι' H' where
  frz : ∀ a o u, H a = some (.frz o u) → H' a = some (.frz o u)
theorem ExtR.keep {ι ι' : List Addr} {H H' : Hp} (e : ExtR ι H ι' H') (a : Addr) (o : HO) (h : H a = some o) (n : a ∉ ι) (hn : ∀ ps, o ≠ .tbl ps := by intro _ z; cases z) : H' a = some o := by
  rcases e.keep' a o h n with q | ⟨ps, q⟩
  · exact q
  · exact absurd q (hn ps)
theorem ExtR.toFr {ι ι' : List Addr} {H H' : Hp} (e : ExtR ι H ι' H') {a : Addr} (h : Fr H' a) (n : a ∉ ι) : Fr H a := fun o ho => by
  rcases e.keep' a o ho n with q | q
  · exact h o q
  · exact q
theorem Ext.refl (ι : List Addr) (H : Hp) : Ext ι H ι H := ⟨⟨List.prefix_refl _, fun _ _ h _ => .inl h, fun _ h => .inl h⟩, fun _ _ _ h => h⟩
theorem ExtR.notin {ι ι' : List Addr} {H H' : Hp} (e : ExtR ι H ι' H') {a : Addr} {o : HO} (h : H a = some o) (n : a ∉ ι) (hn : ∀ ps, o ≠ .tbl ps := by intro _ z; cases z) : a ∉ ι' := fun m => by
  rcases e.new a m with h' | h'
  · exact n h'
  · obtain ⟨ps, z⟩ := h' o h; exact hn ps z
theorem Ext.notin {ι ι' : List Addr} {H H' : Hp} (e : Ext ι H ι' H') {a : Addr} {o : HO} (h : H a = some o) (n : a ∉ ι) (hn : ∀ ps, o ≠ .tbl ps := by intro _ z; cases z) : a ∉ ι' := e.toExtR.notin h n hn
theorem ExtR.trans {ι ι1 ι2 : List Addr} {H H1 H2 : Hp} (a : ExtR ι H ι1 H1) (b : ExtR ι1 H1 ι2 H2) : ExtR ι H ι2 H2 where
  pre := a.pre.trans b.pre
  keep' := fun c o h n => by
    by_cases hq : ∃ ps, o = .tbl ps
    · exact .inr hq
    · have hn : ∀ ps, o ≠ .tbl ps := fun ps z => hq ⟨ps, z⟩
      exact b.keep' c o (a.keep c o h n hn) (a.notin h n hn)
  new := fun c m => by
    rcases b.new c m with h | h
    · exact a.new c h
    · by_cases n : c ∈ ι
      · exact .inl n
      · exact .inr (a.toFr h n)
theorem Ext.trans {ι ι1 ι2 : List Addr} {H H1 H2 : Hp} (a : Ext ι H ι1 H1) (b : Ext ι1 H1 ι2 H2) : Ext ι H ι2 H2 := ⟨a.toExtR.trans b.toExtR, fun c o u h => b.frz c o u (a.frz c o u h)⟩
theorem Ext.upd {ι : List Addr} {H : Hp} {p : Addr} {o : HO} (h : H p = none) : Ext ι H ι (L2.upd H p o) :=
  ⟨⟨List.prefix_refl _, fun a u e _ => .inl (by rw [upd_ne (ne_of_none e h)]; exact e), fun _ m => .inl m⟩, fun a o u e => by rw [upd_ne (ne_of_none e h)]; exact e⟩
/-- a new thing of the store -/
theorem Ext.push {ι : List Addr} {H : Hp} {p : Addr} {o : HO} (h : H p = none) : Ext ι H (ι ++ [p]) (L2.upd H p o) :=
  ⟨⟨List.prefix_append _ _, fun a u e _ => .inl (by rw [upd_ne (ne_of_none e h)]; exact e), fun a m => by
    rcases List.mem_append.mp m with m | m
    · exact .inl m
    · rw [List.mem_singleton.mp m]; exact .inr (Fr.of h)⟩, fun a o u e => by rw [upd_ne (ne_of_none e h)]; exact e⟩
/-- a thing of the store changed -/
theorem ExtR.set {ι : List Addr} {H : Hp} {p : Addr} {o : HO} (h : p ∈ ι) : ExtR ι H ι (L2.upd H p o) :=
  ⟨List.prefix_refl _, fun a u e n => .inl (by
    have hne : a ≠ p := fun z => n (by rw [z]; exact h)
    rw [upd_ne hne]; exact e), fun _ m => .inl m⟩
theorem Ext.set {ι : List Addr} {H : Hp} {p : Addr} {o : HO} (h : p ∈ ι) (hn : ∀ b u, H p ≠ some (.frz b u)) : Ext ι H ι (L2.upd H p o) :=
  ⟨ExtR.set h, fun a b u e => by
    have hne : a ≠ p := fun z => hn b u (by rw [← z]; exact e)
    rw [upd_ne hne]; exact e⟩
theorem Rd.extR {K : Kb} {ι ι' : List Addr} {H H' : Hp} (e : ExtR ι H ι' H') {a : Addr} {u : HO} (h : Rd H a u) (n : Away K ι a) (hu : ∀ ps, u ≠ .tbl ps := by intro _ z; cases z) : Rd H' a u ∧ Away K ι' a := by
  rcases h with h | ⟨o, h⟩
  · exact ⟨.inl (e.keep a _ h n.1 hu), e.notin h n.1 hu, n.2⟩
  · exact ⟨.inr ⟨o, e.keep a _ h n.1⟩, e.notin h n.1, n.2⟩
theorem Rd.ext {K : Kb} {ι ι' : List Addr} {H H' : Hp} (e : Ext ι H ι' H') {a : Addr} {u : HO} (h : Rd H a u) (n : Away K ι a) (hu : ∀ ps, u ≠ .tbl ps := by intro _ z; cases z) : Rd H' a u ∧ Away K ι' a := Rd.extR e.toExtR h n hu
theorem prefix_get {α : Type} {l m : List α} (h : l <+: m) {k : Nat} {a : α} (e : l[k]? = some a) : m[k]? = some a := by
  obtain ⟨t, rfl⟩ := h
  rw [List.getElem?_append_left (List.getElem?_eq_some_iff.mp e).1]
  exact e
section
variable {K : Kb} {ι ι' : List Addr} {H H' : Hp}
mutual
theorem Rep.extR (e : ExtR ι H ι' H') : ∀ (x : PV) (v : V), Rep K ι H v x → Rep K ι' H' v x
  | .none, _, .non => .non
  | .bool b, _, .bl _ => .bl b
  | .int i, _, .int _ => .int i
  | .str s, _, .str _ h h' => .str s h h'
  | .tup xs, _, .tup h n r => .tup (Rd.extR e h n).1 (Rd.extR e h n).2 (RepL.extR e xs _ r)
  | .tup xs, _, .tupK h r => .tupK h (RepL.extR e xs _ r)
  | .list xs, _, .list h n r => .list (Rd.extR e h n).1 (Rd.extR e h n).2 (RepL.extR e xs _ r)
  | .dict xs, _, .dict h n r => .dict (Rd.extR e h n).1 (Rd.extR e h n).2 (RepD.extR e xs _ r)
  | .ref k, _, .ref h => .ref (prefix_get e.pre h)
  | .scr ns, _, .scr h n => .scr (Rd.extR e h n).1 (Rd.extR e h n).2
  | .scr ns, _, .scrK h => .scrK h
  | .exc c fs, _, .exc h => .exc h
theorem RepL.extR (e : ExtR ι H ι' H') : ∀ (xs : List PV) (vs : List V), RepL K ι H vs xs → RepL K ι' H' vs xs
  | [], _, .nil => .nil
  | x :: xs, _, .cons h r => .cons (Rep.extR e x _ h) (RepL.extR e xs _ r)
theorem RepD.extR (e : ExtR ι H ι' H') : ∀ (xs : List (PV × PV)) (es : List (Key × V)), RepD K ι H es xs → RepD K ι' H' es xs
  | [], _, .nil => .nil
  | (_, x) :: xs, _, .cons q h r => .cons q (Rep.extR e x _ h) (RepD.extR e xs _ r)
end
theorem Rep.ext (e : Ext ι H ι' H') (x : PV) (v : V) (h : Rep K ι H v x) : Rep K ι' H' v x := Rep.extR e.toExtR x v h
theorem RepL.ext (e : Ext ι H ι' H') (xs : List PV) (vs : List V) (h : RepL K ι H vs xs) : RepL K ι' H' vs xs := RepL.extR e.toExtR xs vs h
theorem RepD.ext (e : Ext ι H ι' H') (xs : List (PV × PV)) (es : List (Key × V)) (h : RepD K ι H es xs) : RepD K ι' H' es xs := RepD.extR e.toExtR xs es h
end
def CellRep (K : Kb) (ι : List Addr) (H : Hp) (a : Addr) : Cell → Prop
  | .lst xs => ∃ vs, H a = some (.lst vs) ∧ RepL K ι H vs xs
  | .dic false kvs => ∃ es, H a = some (.dK es) ∧ RepD K ι H es kvs
  | .dic true kvs => ∃ o es, H a = some (.frz o (.dK es)) ∧ RepD K ι H es kvs
structure StOk (K : Kb) (ι : List Addr) (H : Hp) (S : Store) : Prop where
  len : ι.length = S.length
  nd : ι.Nodup
  ban' : ∀ b ∈ K.B, (H b ≠ none ∧ b ∉ ι) ∧ ∀ o, H b = some o → NX o
  tab : LamX.Tabs K.T H
  cell : ∀ (k : Nat) (a : Addr) (c : Cell), ι[k]? = some a → S[k]? = some c → CellRep K ι H a c
structure EnvOk (K : Kb) (ι : List Addr) (H : Hp) (σ : St) (ρ : Env) : Prop where
  len : σ.length = ρ.length
  at_ : ∀ (i : Nat) (x : PV), ρ[i]? = some (some x) → ∃ v, σ[i]? = some (some v) ∧ Rep K ι H v x
section
variable {K : Kb} {ι ι' : List Addr} {H H' : Hp} {S : Store} {σ : St} {ρ : Env}
theorem CellRep.there {a : Addr} {c : Cell} (h : CellRep K ι H a c) : ∃ o, H a = some o := by
  cases c with
  | lst xs => obtain ⟨vs, e, _⟩ := h; exact ⟨_, e⟩
  | dic lk kvs =>
    cases lk with
    | false => obtain ⟨es, e, _⟩ := h; exact ⟨_, e⟩
    | true => obtain ⟨o, es, e, _⟩ := h; exact ⟨_, e⟩
theorem CellRep.extR {a : Addr} {c : Cell} (e : ExtR ι H ι' H') (h : CellRep K ι H a c) (k : ∀ o, H a = some o → H' a = some o) : CellRep K ι' H' a c := by
  cases c with
  | lst xs => obtain ⟨vs, q, r⟩ := h; exact ⟨vs, k _ q, r.extR e⟩
  | dic lk kvs =>
    cases lk with
    | false => obtain ⟨es, q, r⟩ := h; exact ⟨es, k _ q, r.extR e⟩
    | true => obtain ⟨o, es, q, r⟩ := h; exact ⟨o, es, k _ q, r.extR e⟩
theorem CellRep.ext {a : Addr} {c : Cell} (e : Ext ι H ι' H') (h : CellRep K ι H a c) (k : ∀ o, H a = some o → H' a = some o) : CellRep K ι' H' a c := h.extR e.toExtR k
theorem StOk.of_mem (s : StOk K ι H S) {a : Addr} (m : a ∈ ι) : ∃ (k : Nat) (c : Cell), ι[k]? = some a ∧ S[k]? = some c ∧ CellRep K ι H a c := by
  obtain ⟨k, hk⟩ := List.mem_iff_getElem?.mp m
  have lt : k < S.length := by rw [← s.len]; exact (List.getElem?_eq_some_iff.mp hk).1
  exact ⟨k, S[k], hk, List.getElem?_eq_some_iff.mpr ⟨lt, rfl⟩, s.cell k a _ hk (List.getElem?_eq_some_iff.mpr ⟨lt, rfl⟩)⟩
theorem StOk.free1 (s : StOk K ι H S) {p : Addr} (h : H p = none) : p ∉ ι := fun m => by
  obtain ⟨k, c, _, _, q⟩ := s.of_mem m
  obtain ⟨o, e⟩ := q.there
  rw [h] at e; cases e
theorem StOk.ban (s : StOk K ι H S) : ∀ b ∈ K.B, H b ≠ none ∧ b ∉ ι := fun b m => (s.ban' b m).1
theorem StOk.free (s : StOk K ι H S) {p : Addr} (h : H p = none) : Away K ι p := ⟨s.free1 h, fun m => (s.ban p m).1 h⟩
theorem upd_some {H : Hp} {p : Addr} {o : HO} {b : Addr} (h : H b ≠ none) : (L2.upd H p o) b ≠ none := by
  by_cases e : b = p
  · subst e; rw [upd_same]; simp
  · rw [upd_ne e]; exact h
theorem CellRep.nx {a : Addr} {c : Cell} (h : CellRep K ι H a c) : ∀ o, H a = some o → NX o := by
  intro u hu
  cases c with
  | lst xs => obtain ⟨vs, e, _⟩ := h; rw [e] at hu; cases hu; exact True.intro
  | dic lk kvs =>
    cases lk with
    | false => obtain ⟨es, e, _⟩ := h; rw [e] at hu; cases hu; exact True.intro
    | true => obtain ⟨o, es, e, _⟩ := h; rw [e] at hu; cases hu; exact True.intro
theorem tabs_upd {T : List (Addr × Str)} {H : Hp} {p : Addr} {o : HO} (hp : ∀ u, H p = some u → NX u) (t : LamX.Tabs T H) : LamX.Tabs T (L2.upd H p o) := fun q hq => by
  obtain ⟨ps, h1, h2, h3⟩ := t q hq
  have n1 : q.1 ≠ p := fun z => by rw [z] at h1; exact hp _ h1
  refine ⟨ps, by rw [upd_ne n1]; exact h1, h2, fun pos cv hc => ?_⟩
  obtain ⟨c, e1, e2⟩ := h3 pos cv hc
  have n2 : c ≠ p := fun z => by rw [z] at e2; exact hp _ e2
  exact ⟨c, e1, by rw [upd_ne n2]; exact e2⟩
theorem StOk.upd (s : StOk K ι H S) {p : Addr} {o : HO} (h : H p = none) : StOk K ι (L2.upd H p o) S :=
  ⟨s.len, s.nd, fun b m => ⟨⟨upd_some (s.ban b m).1, (s.ban b m).2⟩, fun u hu => (s.ban' b m).2 u (by rwa [upd_ne (fun z => (s.ban b m).1 (by rw [z]; exact h))] at hu)⟩, tabs_upd (fun u hu => by rw [h] at hu; cases hu) s.tab, fun k a c e1 e2 => (s.cell k a c e1 e2).ext (Ext.upd h) fun u q => by rw [upd_ne (ne_of_none q h)]; exact q⟩
theorem StOk.push (s : StOk K ι H S) {p : Addr} {o : HO} {c : Cell} (h : H p = none) (hc : CellRep K (ι ++ [p]) (L2.upd H p o) p c) : StOk K (ι ++ [p]) (L2.upd H p o) (S ++ [c]) := by
  refine ⟨by simp [s.len], List.nodup_append.mpr ⟨s.nd, by simp, fun a m b m' => ?_⟩, fun b m => ⟨⟨upd_some (s.ban b m).1, fun m' => ?_⟩, fun u hu => (s.ban' b m).2 u (by rwa [upd_ne (fun z => (s.ban b m).1 (by rw [z]; exact h))] at hu)⟩, tabs_upd (fun u hu => by rw [h] at hu; cases hu) s.tab, fun k a d e1 e2 => ?_⟩
  · rw [List.mem_singleton.mp m']
    intro z
    subst z
    exact s.free1 h m
  · rcases List.mem_append.mp m' with m' | m'
    · exact (s.ban b m).2 m'
    · rw [List.mem_singleton.mp m'] at m
      exact (s.ban p m).1 h
  · by_cases hk : k < ι.length
    · rw [List.getElem?_append_left hk] at e1
      rw [List.getElem?_append_left (by rw [← s.len]; exact hk)] at e2
      exact (s.cell k a d e1 e2).ext (Ext.push h) fun u q => by rw [upd_ne (ne_of_none q h)]; exact q
    · have hk' : k = ι.length := by
        have := (List.getElem?_eq_some_iff.mp e1).1
        simp at this; omega
      subst hk'
      simp at e1
      rw [s.len] at e2
      simp at e2
      subst e1 e2
      exact hc
theorem nodup_at {α : Type} {l : List α} (hn : l.Nodup) {i j : Nat} {a : α} (h1 : l[i]? = some a) (h2 : l[j]? = some a) : i = j := by
  obtain ⟨p1, e1⟩ := List.getElem?_eq_some_iff.mp h1
  obtain ⟨p2, e2⟩ := List.getElem?_eq_some_iff.mp h2
  exact (List.getElem_inj hn).mp (e1.trans e2.symm)
/-- a thing of the store changed -/
theorem StOk.set (s : StOk K ι H S) {k : Nat} {p : Addr} {o : HO} {c : Cell} (hk : ι[k]? = some p) (hc : CellRep K ι (L2.upd H p o) p c) : StOk K ι (L2.upd H p o) (S.set k c) := by
  obtain ⟨k0, c0, _, _, cr0⟩ := s.of_mem (List.mem_of_getElem? hk)
  refine ⟨by simp [s.len], s.nd, fun b m => ⟨⟨upd_some (s.ban b m).1, (s.ban b m).2⟩, fun u hu => (s.ban' b m).2 u (by rwa [upd_ne (fun z => (s.ban b m).2 (by rw [z]; exact List.mem_of_getElem? hk))] at hu)⟩, tabs_upd cr0.nx s.tab, fun j a d e1 e2 => ?_⟩
  by_cases hj : j = k
  · subst hj
    rw [hk] at e1
    cases e1
    have : j < S.length := by rw [← s.len]; exact (List.getElem?_eq_some_iff.mp hk).1
    rw [List.getElem?_set_self this] at e2
    cases e2
    exact hc
  · rw [List.getElem?_set_ne (Ne.symm hj)] at e2
    have hne : a ≠ p := fun z => hj (nodup_at s.nd (z ▸ e1) hk)
    exact (s.cell j a d e1 e2).extR (ExtR.set (List.mem_of_getElem? hk)) fun u q => by rw [upd_ne hne]; exact q
theorem EnvOk.extR (h : EnvOk K ι H σ ρ) (e : ExtR ι H ι' H') : EnvOk K ι' H' σ ρ :=
  ⟨h.len, fun i x q => let ⟨v, q1, r⟩ := h.at_ i x q; ⟨v, q1, r.extR e⟩⟩
theorem EnvOk.ext (h : EnvOk K ι H σ ρ) (e : Ext ι H ι' H') : EnvOk K ι' H' σ ρ :=
  ⟨h.len, fun i x q => let ⟨v, q1, r⟩ := h.at_ i x q; ⟨v, q1, r.ext e⟩⟩
theorem EnvOk.set (h : EnvOk K ι H σ ρ) {i : Nat} {v : V} {x : PV} (r : Rep K ι H v x) : EnvOk K ι H (σ.set i (some v)) (ρ.set i (some x)) := by
  refine ⟨by simp [h.len], fun j y q => ?_⟩
  by_cases hj : j = i
  · subst hj
    have hl : j < ρ.length := by
      have := (List.getElem?_eq_some_iff.mp q).1
      simpa using this
    rw [List.getElem?_set_self hl] at q
    cases q
    exact ⟨v, by rw [List.getElem?_set_self (by rw [h.len]; exact hl)], r⟩
  · rw [List.getElem?_set_ne (Ne.symm hj)] at q
    obtain ⟨w, q1, r1⟩ := h.at_ j y q
    exact ⟨w, by rw [List.getElem?_set_ne (Ne.symm hj)]; exact q1, r1⟩
/-- fewer slots are known -/
theorem EnvOk.weak {ρ' : Env} (h : EnvOk K ι H σ ρ) (hl : ρ'.length = ρ.length) (hw : ∀ (i : Nat) (x : PV), ρ'[i]? = some (some x) → ρ[i]? = some (some x)) : EnvOk K ι H σ ρ' :=
  ⟨h.len.trans hl.symm, fun i x q => h.at_ i x (hw i x q)⟩
theorem wipeP_len (ρ : Env) : ∀ vs : List Nat, (wipeP ρ vs).length = ρ.length
  | [] => rfl
  | v :: vs => by unfold wipeP; rw [List.length_set, wipeP_len ρ vs]
theorem wipe_set_none {σ : St} {ρ : Env} (h : EnvOk K ι H σ ρ) (i : Nat) : EnvOk K ι H (σ.set i none) (ρ.set i none) := by
  refine ⟨by simp [h.len], fun j x q => ?_⟩
  by_cases hj : j = i
  · subst hj
    have hl : j < ρ.length := by
      have := (List.getElem?_eq_some_iff.mp q).1
      simpa using this
    rw [List.getElem?_set_self hl] at q
    cases q
  · rw [List.getElem?_set_ne (Ne.symm hj)] at q
    obtain ⟨w, q1, r1⟩ := h.at_ j x q
    exact ⟨w, by rw [List.getElem?_set_ne (Ne.symm hj)]; exact q1, r1⟩
theorem EnvOk.wipe (h : EnvOk K ι H σ ρ) : ∀ vs : List Nat, EnvOk K ι H (L2.wipe σ vs) (wipeP ρ vs)
  | [] => h
  | v :: vs => by unfold L2.wipe wipeP; exact wipe_set_none (EnvOk.wipe h vs) v
end

def View (K : Kb) (ι : List Addr) (H : Hp) (x : V) : PV → Prop
  | .none => x = .non
  | .bool b => x = .bl b
  | .int i => x = .int i
  | .str s => x = .str s ∧ s.length ≤ sizeLine ∧ PyData.strOk s = true
  | .tup xs => ∃ a vs, x = .ref a ∧ SqT K.K H a vs ∧ RepL K ι H vs xs
  | .list xs => ∃ a vs, x = .ref a ∧ Rd H a (.lst vs) ∧ RepL K ι H vs xs
  | .dict kvs => ∃ a es, x = .ref a ∧ Rd H a (.dK es) ∧ RepD K ι H es kvs
  | .scr ns => ∃ a, x = .ref a ∧ SqL K.K H a (ns.map V.int)
  | .exc _ _ => ∃ a, x = .ref a
  | .ref _ | .fn _ => True
section
variable {K : Kb} {ι ι' : List Addr} {H H' : Hp} {S : Store}
theorem Rep.view0 {x : V} : ∀ {v : PV}, Rep K ι H x v → View K ι H x v
  | _, .non => rfl
  | _, .bl _ => rfl
  | _, .int _ => rfl
  | _, .str _ h h' => ⟨rfl, h, h'⟩
  | _, .tup h _ r => ⟨_, _, rfl, .inl h, r⟩
  | _, .tupK h r => ⟨_, _, rfl, .inr h, r⟩
  | _, .list h _ r => ⟨_, _, rfl, h, r⟩
  | _, .dict h _ r => ⟨_, _, rfl, h, r⟩
  | _, .ref _ => True.intro
  | _, .scr h _ => ⟨_, rfl, .inl h⟩
  | _, .scrK h => ⟨_, rfl, .inr h⟩
  | _, .exc _ => ⟨_, rfl⟩
theorem Rep.view (s : StOk K ι H S) {x : V} {v : PV} (h : Rep K ι H x v) : View K ι H x (res S v) := by
  cases v with
  | ref k =>
    cases h with
    | ref e =>
      show View K ι H _ (match S[k]? with
        | some (.lst xs) => .list xs
        | some (.dic _ kvs) => .dict kvs
        | none => .ref k)
      cases q : S[k]? with
      | none => exact True.intro
      | some c =>
        have hc := s.cell k _ c e q
        cases c with
        | lst xs =>
          obtain ⟨vs, h1, h2⟩ := hc
          exact ⟨_, vs, rfl, .inl h1, h2⟩
        | dic lk kvs =>
          cases lk with
          | false =>
            obtain ⟨es, h1, h2⟩ := hc
            exact ⟨_, es, rfl, .inl h1, h2⟩
          | true =>
            obtain ⟨o, es, h1, h2⟩ := hc
            exact ⟨_, es, rfl, .inr ⟨o, h1⟩, h2⟩
  | _ => exact h.view0
theorem RepL.length : ∀ {vs : List V} {xs : List PV}, RepL K ι H vs xs → vs.length = xs.length
  | _, _, .nil => rfl
  | _, _, .cons _ r => by simp [RepL.length r]
theorem RepD.length : ∀ {vs : List (Key × V)} {xs : List (PV × PV)}, RepD K ι H vs xs → vs.length = xs.length
  | _, _, .nil => rfl
  | _, _, .cons _ _ r => by simp [RepD.length r]
theorem RepL.get : ∀ {vs : List V} {xs : List PV} {i : Nat} {x : PV}, RepL K ι H vs xs → xs[i]? = some x → ∃ v, vs[i]? = some v ∧ Rep K ι H v x
  | _, _, _, _, .nil, e => by simp at e
  | _, _, 0, _, .cons r _, e => by simp at e; subst e; exact ⟨_, rfl, r⟩
  | _, _, i + 1, x, .cons _ t, e => by
    obtain ⟨u, h1, h2⟩ := RepL.get (i := i) (x := x) t (by simpa using e)
    exact ⟨u, by simpa using h1, h2⟩
theorem RepL.getV : ∀ {vs : List V} {xs : List PV} {i : Nat} {v : V}, RepL K ι H vs xs → vs[i]? = some v → ∃ x, xs[i]? = some x ∧ Rep K ι H v x
  | _, _, _, _, .nil, e => by simp at e
  | _, _, 0, _, .cons r _, e => by simp at e; subst e; exact ⟨_, rfl, r⟩
  | _, _, i + 1, x, .cons _ t, e => by
    obtain ⟨u, h1, h2⟩ := RepL.getV (i := i) (v := x) t (by simpa using e)
    exact ⟨u, by simpa using h1, h2⟩
theorem RepL.append : ∀ {vs ws : List V} {xs ys : List PV}, RepL K ι H vs xs → RepL K ι H ws ys → RepL K ι H (vs ++ ws) (xs ++ ys)
  | _, _, _, _, .nil, s => s
  | _, _, _, _, .cons r t, s => .cons r (RepL.append t s)
theorem RepL.take : ∀ {vs : List V} {xs : List PV} (n : Nat), RepL K ι H vs xs → RepL K ι H (vs.take n) (xs.take n)
  | _, _, 0, _ => .nil
  | _, _, _ + 1, .nil => .nil
  | _, _, n + 1, .cons r t => .cons r (RepL.take n t)
theorem RepL.drop : ∀ {vs : List V} {xs : List PV} (n : Nat), RepL K ι H vs xs → RepL K ι H (vs.drop n) (xs.drop n)
  | _, _, 0, r => r
  | _, _, _ + 1, .nil => .nil
  | _, _, n + 1, .cons _ t => RepL.drop n t
theorem RepL.reverse : ∀ {vs : List V} {xs : List PV}, RepL K ι H vs xs → RepL K ι H vs.reverse xs.reverse
  | _, _, .nil => .nil
  | _, _, .cons r t => by
    rw [List.reverse_cons, List.reverse_cons]
    exact (RepL.reverse t).append (.cons r .nil)
theorem RepL.set {v : V} {x : PV} (r : Rep K ι H v x) : ∀ {vs : List V} {xs : List PV} (i : Nat), RepL K ι H vs xs → RepL K ι H (vs.set i v) (xs.set i x)
  | _, _, _, .nil => .nil
  | _, _, 0, .cons _ t => .cons r t
  | _, _, i + 1, .cons q t => .cons q (RepL.set r i t)
theorem RepL.replicate {vs : List V} {xs : List PV} (h : RepL K ι H vs xs) : ∀ n : Nat, RepL K ι H (List.replicate n vs).flatten (List.replicate n xs).flatten
  | 0 => .nil
  | n + 1 => by
    rw [List.replicate_succ, List.replicate_succ, List.flatten_cons, List.flatten_cons]
    exact h.append (RepL.replicate h n)
end

/-- the classes of exceptions; the tables of codes -/
structure Xs where
  a : Nat → Addr
  T : List (Addr × Str)
structure Cc where
  K : Kb
  φ : Calls
  G : List PV
  W : WX
  cad : Xs
def RepF (K : Kb) (ι : List Addr) (H : Hp) : List (Str × V) → List (Str × PV) → Prop := Paired fun p q => p.1 = q.1 ∧ Rep K ι H p.2 q.2
/-- an exception by its class and its dict -/
def ExRep (C : Cc) (ι : List Addr) (H : Hp) (cls : Value) (d : Option Addr) : PV → Prop
  | .exc c fs => cls = .ref (C.cad.a c) ∧ ((fs = [] ∧ d = none) ∨ ∃ dd gs, (d = some dd ∧ fs ≠ []) ∧ H dd = some (.xd gs) ∧ dd ∉ ι ∧ RepF C.K ι H gs fs)
  | _ => False
def PostG {α β : Type} (rep : List Addr → Hp → β → α → Prop) (C : Cc) (σ : St) (ι : List Addr) (H : Hp) (r : Res α) (k : α → Store → β → List Addr → Hp → Prop) : Prop := match r with
  | .ok v S' => ∀ x H' ι', Ext ι H ι' H' → StOk C.K ι' H' S' → rep ι' H' x v → k v S' x ι' H'
  | .exc q S' => ∀ cls d H' ι', Ext ι H ι' H' → StOk C.K ι' H' S' → ExRep C ι' H' cls d q → C.W cls d σ H'
  | .stuck => False
section
variable {α β γ δ : Type} {rep : List Addr → Hp → β → α → Prop} {rep2 : List Addr → Hp → δ → γ → Prop} {C : Cc} {σ : St} {ι ι' : List Addr} {H H' : Hp}
theorem PostG.from {r : Res α} {k : α → Store → β → List Addr → Hp → Prop} (e : Ext ι H ι' H') (h : PostG rep C σ ι H r k) : PostG rep C σ ι' H' r k := by
  cases r with
  | ok v S => exact fun x H2 ι2 e2 => h x H2 ι2 (e.trans e2)
  | exc q S => exact fun c d H2 ι2 e2 => h c d H2 ι2 (e.trans e2)
  | stuck => exact h
theorem PostG.mono {r : Res α} {k k' : α → Store → β → List Addr → Hp → Prop} (h : PostG rep C σ ι H r k)
    (hk : ∀ v S' x ι' H', Ext ι H ι' H' → StOk C.K ι' H' S' → rep ι' H' x v → k v S' x ι' H' → k' v S' x ι' H') : PostG rep C σ ι H r k' := by
  cases r with
  | ok v S => exact fun x H2 ι2 e s r => hk v S x ι2 H2 e s r (h x H2 ι2 e s r)
  | exc q S => exact h
  | stuck => exact h
theorem PostG.bind {r : Res α} {f : α → Store → Res γ} {k : γ → Store → δ → List Addr → Hp → Prop} (h : PostG rep2 C σ ι H (r.bind f) k) :
    PostG rep C σ ι H r fun v S1 _ ι1 H1 => PostG rep2 C σ ι1 H1 (f v S1) k := by
  cases r with
  | ok v S => exact fun x H2 ι2 e s r => PostG.from e h
  | exc q S => exact h
  | stuck => exact h
end
abbrev PostV (C : Cc) (σ : St) (ι : List Addr) (H : Hp) (r : Res PV) (Q : VK) : Prop := PostG (Rep C.K) C σ ι H r fun _ _ x _ H' => Q x H'
/-- an expression; a list of expressions -/
def tEv (C : Cc) (c : Ex) : TE := fun σ H Q => ∃ ρ S ι, EnvOk C.K ι H σ ρ ∧ StOk C.K ι H S ∧ PostV C σ ι H (evE C.φ C.G c ρ S) Q
def tEvs (C : Cc) (cs : List Ex) : TA := fun σ H Q => ∃ ρ S ι, EnvOk C.K ι H σ ρ ∧ StOk C.K ι H S ∧ PostG (RepL C.K) C σ ι H (evEs C.φ C.G cs ρ S) fun _ _ x _ H' => Q x H'
/-- a test -/
def tTru (C : Cc) (c : Ex) : TT := fun σ H Q => ∃ ρ S ι, EnvOk C.K ι H σ ρ ∧ StOk C.K ι H S ∧ PostG (fun _ _ (b : Bool) a => b = a) C σ ι H ((evE C.φ C.G c ρ S).bind fun v S => truthR S v) fun _ _ b _ H' => Q b H'
/-- an operation on values -/
def rP2 (C : Cc) (f : PV → PV → Option PV) : R2 := fun x y H Q => ∃ σ S ι v w, StOk C.K ι H S ∧ Rep C.K ι H x v ∧ Rep C.K ι H y w ∧ PostV C σ ι H (Res.ofO (f (res S v) (res S w)) S) Q
section
variable {X : Cx}
theorem peImp {e : Expr} {t t' : TE} (h : PE X e t) (i : ∀ σ H Q, t' σ H Q → t σ H Q) : PE X e t' := ⟨fun pins s σ H Q I q => h.run pins s σ H Q I (i σ H Q q)⟩
theorem peImpI {e : Expr} {t t' : TE} (h : PE X e t) (i : ∀ pins s σ H Q, Inv X pins σ H s → t' σ H Q → t σ H Q) : PE X e t' := ⟨fun pins s σ H Q I q => h.run pins s σ H Q I (i pins s σ H Q I q)⟩
theorem ptImp {e : Expr} {t t' : TT} (h : PT X e t) (i : ∀ σ H Q, t' σ H Q → t σ H Q) : PT X e t' := ⟨fun pins s σ H Q I q => h.run pins s σ H Q I (i σ H Q q)⟩
theorem paImp {e : List Expr} {t t' : TA} (h : PA X e t) (i : ∀ σ H Q, t' σ H Q → t σ H Q) : PA X e t' := ⟨fun pos pins s σ H Q I q => h.run pos pins s σ H Q I (i σ H Q q)⟩
theorem psImp {e : Stmt} {t t' : TS} (h : PS X e t) (i : ∀ D σ H, t' D σ H → t D σ H) : PS X e t' := ⟨fun pins s σ H D I q => h.run pins s σ H D I (i D σ H q)⟩
theorem pssImp {e : List Stmt} {t t' : TS} (h : PSs X e t) (i : ∀ D σ H, t' D σ H → t D σ H) : PSs X e t' := ⟨fun pins s σ H D I q => h.run pins s σ H D I (i D σ H q)⟩
end
/-- two expressions, then something -/
theorem tEv2 {C : Cc} {a b : Ex} {σ : St} {H : Hp} {ι : List Addr} {ρ : Env} {S : Store} {α β : Type} {rep : List Addr → Hp → β → α → Prop} {f : PV → PV → Store → Res α} {k : α → Store → β → List Addr → Hp → Prop} {R : V → V → Hp → Prop}
    (hE : EnvOk C.K ι H σ ρ) (hS : StOk C.K ι H S) (h : PostG rep C σ ι H ((evE C.φ C.G a ρ S).bind fun x S => (evE C.φ C.G b ρ S).bind fun y S => f x y S) k)
    (hR : ∀ v w S2 x y ι2 H2, Ext ι H ι2 H2 → StOk C.K ι2 H2 S2 → Rep C.K ι2 H2 x v → Rep C.K ι2 H2 y w → PostG rep C σ ι2 H2 (f v w S2) k → R x y H2) :
    tEv C a σ H fun x H1 => tEv C b σ H1 fun y H2 => R x y H2 :=
  ⟨ρ, S, ι, hE, hS, (PostG.bind (rep := Rep C.K) h).mono fun v S1 x ι1 H1 e1 s1 r1 h1 => ⟨ρ, S1, ι1, hE.ext e1, s1, (PostG.bind (rep := Rep C.K) h1).mono fun w S2 y ι2 H2 e2 s2 r2 h2 =>
    hR v w S2 x y ι2 H2 (e1.trans e2) s2 (r1.ext e2) r2 h2⟩⟩
theorem tEv1 {C : Cc} {a : Ex} {σ : St} {H : Hp} {ι : List Addr} {ρ : Env} {S : Store} {α β : Type} {rep : List Addr → Hp → β → α → Prop} {f : PV → Store → Res α} {k : α → Store → β → List Addr → Hp → Prop} {R : V → Hp → Prop}
    (hE : EnvOk C.K ι H σ ρ) (hS : StOk C.K ι H S) (h : PostG rep C σ ι H ((evE C.φ C.G a ρ S).bind f) k)
    (hR : ∀ v S2 x ι2 H2, Ext ι H ι2 H2 → StOk C.K ι2 H2 S2 → Rep C.K ι2 H2 x v → PostG rep C σ ι2 H2 (f v S2) k → R x H2) :
    tEv C a σ H fun x H1 => R x H1 :=
  ⟨ρ, S, ι, hE, hS, (PostG.bind (rep := Rep C.K) h).mono fun v S1 x ι1 H1 e1 s1 r1 h1 => hR v S1 x ι1 H1 e1 s1 r1 h1⟩
section
variable {X : Cx} {C : Cc}
theorem pm_op {a b : Expr} {ca cb : Ex} {op : Operator} {pos : Pos} {o : Bop} (ho : OpR X (binaryOp op) (rP2 C (bop o))) (ha : PE X a (tEv C ca)) (hb : PE X b (tEv C cb)) : PE X (.BinOp a op b pos) (tEv C (.bin o ca cb)) := by
  refine peImp (pe_op ho ha hb) fun σ H Q ⟨ρ, S, ι, hE, hS, h⟩ => ?_
  unfold evE at h
  exact tEv2 hE hS h fun v w S2 x y ι2 H2 _ s2 r1 r2 h2 => ⟨σ, S2, ι2, v, w, s2, r1, r2, h2⟩
end
end Bt
end
section
set_option maxHeartbeats 1000000
namespace Bt
open PySem L2
section
variable {X : Cx} {C : Cc} {σ : St} {ι : List Addr} {H : Hp} {S : Store} {Q : VK}
theorem post_at {u : PV} {x : V} (h : PostV C σ ι H (.ok u S) Q) (hS : StOk C.K ι H S) (r : Rep C.K ι H x u) : Q x H := h x H ι (Ext.refl _ _) hS r
theorem post_tup {xs : List PV} {vs : List V} (h : PostV C σ ι H (.ok (.tup xs) S) Q) (hS : StOk C.K ι H S) (r : RepL C.K ι H vs xs) : ∀ p, H p = none → Q (.ref p) (upd H p (.tup vs)) := fun p hp =>
  h (.ref p) _ ι (Ext.upd hp) (hS.upd hp) (.tup (.inl upd_same) (hS.free hp) (r.ext (Ext.upd hp)))
theorem post_lst {xs : List PV} {vs : List V} (h : PostV C σ ι H (.ok (.list xs) S) Q) (hS : StOk C.K ι H S) (r : RepL C.K ι H vs xs) : ∀ p, H p = none → Q (.ref p) (upd H p (.lst vs)) := fun p hp =>
  h (.ref p) _ ι (Ext.upd hp) (hS.upd hp) (.list (.inl upd_same) (hS.free hp) (r.ext (Ext.upd hp)))
theorem post_dic {kvs : List (PV × PV)} {es : List (Key × V)} (h : PostV C σ ι H (.ok (.dict kvs) S) Q) (hS : StOk C.K ι H S) (r : RepD C.K ι H es kvs) : ∀ p, H p = none → Q (.ref p) (upd H p (.dK es)) := fun p hp =>
  h (.ref p) _ ι (Ext.upd hp) (hS.upd hp) (.dict (.inl upd_same) (hS.free hp) (r.ext (Ext.upd hp)))

theorem rd_lst {pins : List (Addr × Obj)} {s : Shared} {a : Addr} {vs : List V} (I : Inv X pins σ H s) (h : Rd H a (.lst vs)) : ∃ (its : List Value) (n : Nat), Vals vs its ∧ vs.length ≤ sizeLine ∧ s.heap.get? a = some { cls := .type "list", data := .seq its.toArray n } := by
  obtain ⟨z, its, n, r, e⟩ := h.ok I.hok
  exact ⟨its, n, r, z, e⟩
/-- list + list, of any list that may be read -/
def rCatR : R2 := fun x y H Q => ∃ l b xs zs, x = .ref l ∧ y = .ref b ∧ Rd H l (.lst xs) ∧ Rd H b (.lst zs) ∧ xs.length + zs.length ≤ sizeLine ∧ ∀ p, H p = none → Q (.ref p) (upd H p (.lst (xs ++ zs)))
theorem op_catR : OpR X (binaryOp .Add) rCatR := by
  intro pins s σ H x y v u Q I rx ry h
  obtain ⟨l, b, xs, zs, rfl, rfl, hH, hB, hz, q⟩ := h
  cases rx
  cases ry
  obtain ⟨its, n, r, z, e⟩ := rd_lst I hH
  obtain ⟨its2, n2, r2, z2, e2⟩ := rd_lst I hB
  have hl := r.length
  have hl2 := r2.length
  refine PySem.P.add_list e e2 ?_ (by rw [List.size_toArray, List.size_toArray]; omega)
  have ea : its.toArray ++ its2.toArray = (its ++ its2).toArray := by simp
  rw [ea]
  exact ⟨.ref _, _, I.lnew (t' := s.toks) (r.append r2) (by rw [List.length_append]; omega), rfl, q _ I.fresh⟩
theorem strOk_append {x y : Str} (hx : PyData.strOk x = true) (hy : PyData.strOk y = true) : PyData.strOk (x ++ y) = true := by
  unfold PyData.strOk at *
  have e : (x ++ y).cps = x.cps ++ y.cps := rfl
  rw [e, Array.all_append, hx, hy]
  rfl
theorem len_append (x y : Str) : (x ++ y).length = x.length + y.length := by
  show (x.cps ++ y.cps).size = _
  rw [Array.size_append]
  rfl
theorem op_addP (hK : C.K.K = X.K) : OpR X (binaryOp .Add) (rP2 C (bop .add)) := by
  intro pins s σ0 H x y v u Q I rx ry ⟨σ, S, ι, a, b, hS, r1, r2, h⟩
  have v1 := r1.view hS
  have v2 := r2.view hS
  have t1 := fun (xs : List PV) (e : res S a = .tup xs) => (show a = .tup xs by
    cases a with
    | ref k =>
      unfold res at e
      cases q : S[k]? with
      | none => simp [q] at e
      | some c => cases c <;> simp [q] at e
    | _ => exact e)
  have t2 := fun (xs : List PV) (e : res S b = .tup xs) => (show b = .tup xs by
    cases b with
    | ref k =>
      unfold res at e
      cases q : S[k]? with
      | none => simp [q] at e
      | some c => cases c <;> simp [q] at e
    | _ => exact e)
  generalize ea : res S a = a' at v1 h t1
  generalize eb : res S b = b' at v2 h t2
  cases a' with
  | int i =>
    cases b' with
    | int j => exact op_add pins s σ0 H x y v u Q I rx ry ⟨i, j, v1, v2, post_at h hS (.int _)⟩
    | _ => exact (show False from h).elim
  | str i =>
    cases b' with
    | str j =>
      obtain ⟨v1, l1, o1⟩ := v1
      obtain ⟨v2, l2, o2⟩ := v2
      by_cases hz : i.length + j.length ≤ sizeLine
      · have h' : PostV C σ ι H (.ok (.str (i ++ j)) S) Q := by
          simp only [bop, if_pos hz] at h
          exact h
        exact op_add_str pins s σ0 H x y v u Q I rx ry ⟨i, j, v1, v2, hz, post_at h' hS (.str _ (by rw [len_append]; exact hz) (strOk_append o1 o2))⟩
      · simp only [bop, if_neg hz] at h
        exact (show False from h).elim
    | _ => exact (show False from h).elim
  | tup xs =>
    cases b' with
    | tup ys =>
      obtain ⟨p, vs, e1, q1, l1⟩ := v1
      obtain ⟨p', ws, e2, q2, l2⟩ := v2
      by_cases hz : xs.length + ys.length ≤ sizeLine
      · have h' : PostV C σ ι H (.ok (.tup (xs ++ ys)) S) Q := by
          simp only [bop, if_pos hz] at h
          exact h
        rw [hK] at q1 q2
        refine op_catA pins s σ0 H x y v u Q I rx ry ⟨p, p', vs, ws, e1, e2, q1, q2, by rw [l1.length, l2.length]; exact hz, fun e => ?_, fun _ e => ?_, fun _ _ => post_tup h' hS (l1.append l2)⟩
        · subst e
          cases l1
          have := t2 ys rfl
          subst this
          rw [← e2]
          exact post_at h' hS r2
        · subst e
          cases l2
          have := t1 xs rfl
          subst this
          rw [← e1]
          rw [List.append_nil] at h'
          exact post_at h' hS r1
      · simp only [bop, if_neg hz] at h
        exact (show False from h).elim
    | _ => exact (show False from h).elim
  | list xs =>
    cases b' with
    | list ys =>
      obtain ⟨p, vs, e1, q1, l1⟩ := v1
      obtain ⟨p', ws, e2, q2, l2⟩ := v2
      by_cases hz : xs.length + ys.length ≤ sizeLine
      · have h' : PostV C σ ι H (.ok (.list (xs ++ ys)) S) Q := by
          simp only [bop, if_pos hz] at h
          exact h
        exact op_catR pins s σ0 H x y v u Q I rx ry ⟨p, p', vs, ws, e1, e2, q1, q2, by rw [l1.length, l2.length]; exact hz, post_lst h' hS (l1.append l2)⟩
      · simp only [bop, if_neg hz] at h
        exact (show False from h).elim
    | _ => exact (show False from h).elim
  | _ => exact (show False from h).elim

theorem res_same {a : PV} (h1 : ∀ xs, res S a ≠ .list xs) (h2 : ∀ kvs, res S a ≠ .dict kvs) : res S a = a := by
  cases a with
  | ref k =>
    unfold res at *
    cases q : S[k]? with
    | none => simp only [q]
    | some c =>
      cases c with
      | lst xs => simp only [q] at h1; exact absurd rfl (h1 xs)
      | dic lk kvs => simp only [q] at h2; exact absurd rfl (h2 kvs)
  | _ => rfl
theorem res_tup {a : PV} {xs : List PV} (h : res S a = .tup xs) : a = .tup xs := by
  rw [← h]
  exact (res_same (by rw [h]; intro _ z; cases z) (by rw [h]; intro _ z; cases z)).symm
/-- two ints -/
theorem opP_int {f : Value → Value → Sem Value} {D : Int → Int → Prop} {g : Int → Int → Int} {b : Bop} (hf : OpR X f (rI D fun i j => .int (g i j)))
    (hb : ∀ i j r, bop b (.int i) (.int j) = some r → D i j ∧ r = .int (g i j)) (hn : ∀ a c r, bop b a c = some r → ∃ i j, a = .int i ∧ c = .int j) : OpR X f (rP2 C (bop b)) := by
  intro pins s σ0 H x y v u Q I rx ry ⟨σ, S, ι, a, c, hS, r1, r2, h⟩
  have v1 := r1.view hS
  have v2 := r2.view hS
  cases e : bop b (res S a) (res S c) with
  | none => rw [e] at h; exact (show False from h).elim
  | some r =>
    obtain ⟨i, j, e1, e2⟩ := hn _ _ _ e
    rw [e1, e2] at e
    rw [e1] at v1
    rw [e2] at v2
    obtain ⟨d, rfl⟩ := hb i j r e
    rw [e1, e2, e] at h
    exact hf pins s σ0 H x y v u Q I rx ry ⟨i, j, v1, v2, d, post_at h hS (.int _)⟩
theorem op_subP : OpR X (binaryOp .Sub) (rP2 C (bop .sub)) :=
  opP_int (D := fun _ _ => True) (g := fun i j => i - j) (fun pins s σ H x y v u Q I rx ry ⟨i, j, e1, e2, _, q⟩ => op_sub pins s σ H x y v u Q I rx ry ⟨i, j, e1, e2, q⟩)
    (fun i j r h => ⟨trivial, (Option.some.inj h).symm⟩) fun a c r h => by
      cases a <;> cases c <;> first | exact ⟨_, _, rfl, rfl⟩ | cases h
theorem op_fdivP : OpR X (binaryOp .FloorDiv) (rP2 C (bop .fdiv)) :=
  opP_int op_fdivN (fun i j r h => by
      by_cases c : j ≠ 0 ∧ j.natAbs < 1073741824
      · simp only [bop, if_pos c] at h; exact ⟨c, (Option.some.inj h).symm⟩
      · simp only [bop, if_neg c] at h; cases h) fun a c r h => by
      cases a <;> cases c <;> first | exact ⟨_, _, rfl, rfl⟩ | cases h
theorem op_modP : OpR X (binaryOp .Mod) (rP2 C (bop .mod)) :=
  opP_int op_modN (fun i j r h => by
      by_cases c : j ≠ 0
      · simp only [bop, if_pos c] at h; exact ⟨c, (Option.some.inj h).symm⟩
      · simp only [bop, if_neg c] at h; cases h) fun a c r h => by
      cases a <;> cases c <;> first | exact ⟨_, _, rfl, rfl⟩ | cases h
theorem op_powP : OpR X (binaryOp .Pow) (rP2 C (bop .pow)) :=
  opP_int op_pow (fun i j r h => by
      by_cases c : 0 ≤ j ∧ j ≤ 1000000 ∧ i.natAbs < 2 ^ 64
      · simp only [bop, if_pos c] at h; exact ⟨c, (Option.some.inj h).symm⟩
      · simp only [bop, if_neg c] at h; cases h) fun a c r h => by
      cases a <;> cases c <;> first | exact ⟨_, _, rfl, rfl⟩ | cases h
theorem small_iff {i : Int} (h : small i = true) : -(2 ^ 64) < i ∧ i < 2 ^ 64 := by
  unfold small at h
  simpa using h
theorem tuple_mul1 (l : Addr) (items : Array Value) (n : Nat) (dd : Option Addr) (sl : Array (Option Value)) (u : Tok) :
    Meets (Builtin.«tuple.__mul__» ⟨[.ref l, .int 1 u], []⟩) (fun _ R s => s.heap.get? l = some { cls := .type "tuple", dict := dd, data := .seq items n, slots := sl } ∧ R (.ok (.ret (.ref l))) s) :=
  .of_wp fun prog w A R s h => by
    obtain ⟨hp, g, d, tk, os⟩ := s
    obtain ⟨hl, h⟩ := h
    have f1 := AutoSeq1.idx_int
    wp_walk using wpAny_loadPart' hl
    exact ⟨_, rfl, h⟩

/-- t * 1 -/
theorem op_rep1 : OpR X (binaryOp .Mult) (fun x y H Q => ∃ l xs, x = .ref l ∧ y = .int 1 ∧ SqT X.K H l xs ∧ Q (.ref l) H) := by
  intro pins s σ H x y v u Q I rx ry h
  obtain ⟨l, xs, rfl, rfl, hT, q⟩ := h
  cases rx
  obtain ⟨t, rfl⟩ := ry
  obtain ⟨its, r, ⟨⟨cls, dd, data, sl⟩, ho, hc, n, hd⟩, hs⟩ := I.tuple hT
  simp only at hc hd
  subst hc hd
  exact wpAny_binaryOp_repeat_ref (T := "tuple") (U := "int") (by decide) ⟨_, ho, rfl⟩ (fun s' => typeIs_int s' 1 t) noFill_tuple_mul F.fills_int_mul F.slot_int_rmul repeat_tuple F.slot_int_index.lookup
    (call_meets F.slot_int_rmul (typeIs_int s 1 t) F.entry_int_rmul (F.args_int_rmul_2 _ _) (int_rmul_tuple 1 t l its.toArray n dd sl)
      ⟨ho, rfl, ⟨_, ho, rfl⟩, call_meets F.slot_tuple_mul ⟨_, ho, rfl⟩ F.entry_tuple_mul (F.args_tuple_mul_2 _ _) (tuple_mul1 l its.toArray n dd sl t) ⟨ho, ⟨.ref l, H, I, rfl, q⟩⟩⟩)
/-- a list times an int -/
def rRepR : R2 := fun x y H Q => ∃ l k xs, x = .ref l ∧ y = .int k ∧ Rd H l (.lst xs) ∧ -(2 ^ 63) ≤ k ∧ k < 2 ^ 63 ∧ xs.length * k.toNat ≤ sizeLine ∧
  ∀ p, H p = none → Q (.ref p) (upd H p (.lst (List.replicate k.toNat xs).flatten))
theorem op_repR : OpR X (binaryOp .Mult) rRepR := by
  intro pins s σ H x y v u Q I rx ry h
  obtain ⟨l, k, xs, rfl, rfl, hH, h1, h2, hz, q⟩ := h
  cases rx
  obtain ⟨t, rfl⟩ := ry
  obtain ⟨its, n, r, z, e⟩ := rd_lst I hH
  have hl := r.length
  have hlen : its.toArray.size * k.toNat ≤ sizeLine := by rw [List.size_toArray, ← hl]; exact hz
  have hcap : ¬ its.toArray.size * k.toNat > (2 ^ 63 - 1) / 8 := by
    have : (sizeLine : Nat) ≤ (2 ^ 63 - 1) / 8 := by decide
    omega
  have hfit : ¬ (!Builtin.List.listFitsIndex k) = true := by
    rw [fitsIndex_both h1 h2]
    exact Bool.false_ne_true
  have hlong : ¬ Builtin.List.listTooLong (its.toArray.size * k.toNat) = true := by
    rw [notLongL hlen]
    exact Bool.false_ne_true
  have hnew : List.foldl (fun x1 x2 => x1 ++ x2) #[] (List.replicate (if its.toArray.isEmpty = true then 0 else k.toNat) its.toArray) = (List.replicate k.toNat its).flatten.toArray := by
    rw [size_rep]
    cases its with
    | nil => simp
    | cons a r' => rw [if_neg (by simp)]
  refine wpAny_binaryOp_repeat_ref (T := "list") (U := "int") (by decide) ⟨_, e, rfl⟩ (fun s' => typeIs_int s' k t) noFill_list_mul F.fills_int_mul F.slot_int_rmul repeat_list F.slot_int_index.lookup
    (call_meets F.slot_int_rmul (typeIs_int s k t) F.entry_int_rmul (F.args_int_rmul_2 _ _) (int___rmul___int_list k t l its.toArray n)
      ⟨e, rfl, ⟨_, e, rfl⟩, call_meets F.slot_list_mul ⟨_, e, rfl⟩ F.entry_list_mul (F.args_list_mul_2 _ _) (AutoListH.list___mul___list_int_3 l its.toArray n k t hfit hcap hlong) ⟨e, ?_⟩⟩)
  rw [hnew]
  exact ⟨.ref _, _, I.lnew (t' := s.toks) (r.rep k.toNat) (by rw [PyProof.Rows.lm_len_rep_flat, Nat.mul_comm]; exact hz), rfl, q _ I.fresh⟩
theorem op_mulP (hK : C.K.K = X.K) : OpR X (binaryOp .Mult) (rP2 C (bop .mul)) := by
  intro pins s σ0 H x y v u Q I rx ry ⟨σ, S, ι, a, b, hS, r1, r2, h⟩
  have v1 := r1.view hS
  have v2 := r2.view hS
  have t1 := fun xs => res_tup (S := S) (a := a) (xs := xs)
  generalize ea : res S a = a' at v1 h t1
  generalize eb : res S b = b' at v2 h
  cases a' with
  | int i =>
    cases b' with
    | int j =>
      by_cases hc : (small i || small j) = true
      · have h' : PostV C σ ι H (.ok (.int (i * j)) S) Q := by
          simp only [bop, if_pos hc] at h
          exact h
        refine op_mul pins s σ0 H x y v u Q I rx ry ⟨i, j, v1, v2, ?_, post_at h' hS (.int _)⟩
        rcases Bool.or_eq_true_iff.mp hc with hc | hc
        · exact .inl (small_iff hc)
        · exact .inr (small_iff hc)
      · simp only [bop, if_neg hc] at h
        exact (show False from h).elim
    | _ => exact (show False from h).elim
  | tup xs =>
    cases b' with
    | int j =>
      obtain ⟨p, vs, e1, q1, l1⟩ := v1
      by_cases hc : xs ≠ [] ∧ 1 ≤ j ∧ j ≤ 1000 ∧ xs.length ≤ 1000
      · have h' : PostV C σ ι H (.ok (.tup (List.replicate j.toNat xs).flatten) S) Q := by
          simp only [bop, if_pos hc] at h
          exact h
        rw [hK] at q1
        by_cases hj : j = 1
        · subst hj
          refine op_rep1 pins s σ0 H x y v u Q I rx ry ⟨p, vs, e1, v2, q1, ?_⟩
          have e := t1 xs rfl
          subst e
          rw [← e1]
          have e2 : (List.replicate (1 : Int).toNat xs).flatten = xs := by simp
          rw [e2] at h'
          exact post_at h' hS r1
        · refine op_repT pins s σ0 H x y v u Q I rx ry ⟨p, j, vs, e1, v2, q1, fun z => hc.1 ?_, by omega, hc.2.2.1, by rw [l1.length]; exact hc.2.2.2, post_tup h' hS (l1.replicate _)⟩
          have := l1.length
          rw [z] at this
          exact List.eq_nil_of_length_eq_zero this.symm
      · simp only [bop, if_neg hc] at h
        exact (show False from h).elim
    | _ => exact (show False from h).elim
  | list xs =>
    cases b' with
    | int j =>
      obtain ⟨p, vs, e1, q1, l1⟩ := v1
      by_cases hc : 0 ≤ j ∧ j ≤ 1000 ∧ xs.length ≤ 1000
      · have h' : PostV C σ ι H (.ok (.list (List.replicate j.toNat xs).flatten) S) Q := by
          simp only [bop, if_pos hc] at h
          exact h
        refine op_repR pins s σ0 H x y v u Q I rx ry ⟨p, j, vs, e1, v2, q1, by omega, by omega, ?_, post_lst h' hS (l1.replicate _)⟩
        rw [l1.length]
        have : xs.length * j.toNat ≤ 1000 * 1000 := Nat.mul_le_mul hc.2.2 (by omega)
        rw [sizeLine_eq]
        omega
      · simp only [bop, if_neg hc] at h
        exact (show False from h).elim
    | _ => exact (show False from h).elim
  | _ => exact (show False from h).elim
end
end Bt
end
section
set_option maxHeartbeats 1000000
namespace Bt
open PySem L2
mutual
def toD : PV → PyData
  | .bool b => .bool b
  | .int i => .int i
  | .str s => .str s
  | .tup xs => .tuple (toDL xs)
  | .list xs => .list (toDL xs)
  | .none | .dict _ | .ref _ | .exc _ _ | .fn _ | .scr _ => .none
def toDL : List PV → List PyData
  | [] => []
  | x :: r => toD x :: toDL r
end
section
variable {K : Kb} {ι : List Addr} {H : Hp}
mutual
theorem Rep.dp : ∀ (n : Nat) (v : PV) (x : V), Rep K ι H x v → dOk n v = true → Dp K.K H x (toD v) ∧ (toD v).canLay0 = true ∧ (toD v).depth ≤ n
  | n, .none, _, .non, _ => ⟨.non, rfl, Nat.zero_le _⟩
  | n, .bool b, _, .bl _, _ => ⟨.bl b, rfl, Nat.zero_le _⟩
  | n, .int b, _, .int _, _ => ⟨.int b, rfl, Nat.zero_le _⟩
  | n, .str b, _, .str _ _ h, _ => ⟨.str b, h, Nat.zero_le _⟩
  | 0, .tup xs, _, _, h => by cases h
  | 0, .list xs, _, _, h => by cases h
  | n + 1, .tup xs, _, .tup e _ r, h => by
    obtain ⟨h1, h2, h3⟩ := Rep.dpL n xs _ r h
    exact ⟨.tup (.inl e) h1, h2, Nat.succ_le_succ h3⟩
  | n + 1, .tup xs, _, .tupK e r, h => by
    obtain ⟨h1, h2, h3⟩ := Rep.dpL n xs _ r h
    exact ⟨.tup (.inr e) h1, h2, Nat.succ_le_succ h3⟩
  | n + 1, .list xs, _, .list e _ r, h => by
    obtain ⟨h1, h2, h3⟩ := Rep.dpL n xs _ r h
    exact ⟨.lst (.inl e) h1, h2, Nat.succ_le_succ h3⟩
  | _, .dict _, _, _, h => by simp [dOk] at h
  | _, .ref _, _, _, h => by simp [dOk] at h
  | _, .exc _ _, _, _, h => by simp [dOk] at h
  | _, .fn _, _, _, h => by simp [dOk] at h
  | _, .scr _, _, _, h => by simp [dOk] at h
theorem Rep.dpL : ∀ (n : Nat) (xs : List PV) (vs : List V), RepL K ι H vs xs → dOkL n xs = true → DpAll K.K H vs (toDL xs) ∧ PyData.canLayAll0 (toDL xs) = true ∧ PyData.depthAll (toDL xs) ≤ n
  | n, [], _, .nil, _ => ⟨.nil, rfl, Nat.zero_le _⟩
  | n, x :: xs, _, .cons r t, h => by
    obtain ⟨h1, h2⟩ := Bool.and_eq_true_iff.mp (show (dOk n x && dOkL n xs) = true from h)
    obtain ⟨a1, a2, a3⟩ := Rep.dp n x _ r h1
    obtain ⟨b1, b2, b3⟩ := Rep.dpL n xs _ t h2
    exact ⟨.cons a1 b1, Bool.and_eq_true_iff.mpr ⟨a2, b2⟩, Nat.max_le.mpr ⟨a3, b3⟩⟩
end
/-- seen through a reference -/
theorem View.dp {n : Nat} {v : PV} {x : V} (r : View K ι H x v) (h : dOk n v = true) : Dp K.K H x (toD v) ∧ (toD v).canLay0 = true ∧ (toD v).depth ≤ n := by
  cases v with
  | none => cases (show x = .non from r); exact Rep.dp (ι := ι) n _ _ .non h
  | bool b => cases (show x = .bl b from r); exact Rep.dp (ι := ι) n _ _ (.bl b) h
  | int b => cases (show x = .int b from r); exact Rep.dp (ι := ι) n _ _ (.int b) h
  | str b => obtain ⟨rfl, h1, h2⟩ := r; exact Rep.dp (ι := ι) n _ _ (.str b h1 h2) h
  | tup xs =>
    obtain ⟨a, vs, rfl, e, t⟩ := r
    cases n with
    | zero => cases h
    | succ n =>
      obtain ⟨h1, h2, h3⟩ := Rep.dpL n xs _ t h
      exact ⟨.tup e h1, h2, Nat.succ_le_succ h3⟩
  | list xs =>
    obtain ⟨a, vs, rfl, e, t⟩ := r
    cases n with
    | zero => cases h
    | succ n =>
      obtain ⟨h1, h2, h3⟩ := Rep.dpL n xs _ t h
      exact ⟨.lst (.inl e) h1, h2, Nat.succ_le_succ h3⟩
  | _ => simp [dOk] at h
end
theorem shaped_of {d : PyData} (h1 : d.canLay0 = true) (h2 : d.depth ≤ 64) : SeqAt.shaped d = true := by
  unfold SeqAt.shaped
  rw [h1, decide_eq_true h2]
  rfl
mutual
theorem peq_eqv : ∀ (n m : Nat) (a b : PV), dOk n a = true → dOk m b = true → PyData.eqv (toD a) (toD b) = peq a b
  | n, m, .none, b, _, h => by cases b <;> first | rfl | (simp [dOk] at h)
  | n, m, .bool a, b, _, h => by cases b <;> first | rfl | (simp [dOk] at h)
  | n, m, .int a, b, _, h => by cases b <;> first | rfl | (simp [dOk] at h)
  | n, m, .str a, b, _, h => by cases b <;> first | rfl | (simp [dOk] at h)
  | 0, m, .tup xs, b, h, _ => by cases h
  | 0, m, .list xs, b, h, _ => by cases h
  | n + 1, m, .tup xs, b, h, h' => by
    cases b with
    | tup ys => cases m with
      | zero => cases h'
      | succ m => exact peq_eqvL n m xs ys h h'
    | _ => first | rfl | (simp [dOk] at h')
  | n + 1, m, .list xs, b, h, h' => by
    cases b with
    | list ys => cases m with
      | zero => cases h'
      | succ m => exact peq_eqvL n m xs ys h h'
    | _ => first | rfl | (simp [dOk] at h')
  | _, _, .dict _, _, h, _ => by simp [dOk] at h
  | _, _, .ref _, _, h, _ => by simp [dOk] at h
  | _, _, .exc _ _, _, h, _ => by simp [dOk] at h
  | _, _, .fn _, _, h, _ => by simp [dOk] at h
  | _, _, .scr _, _, h, _ => by simp [dOk] at h
theorem peq_eqvL : ∀ (n m : Nat) (xs ys : List PV), dOkL n xs = true → dOkL m ys = true → PyData.eqvAll (toDL xs) (toDL ys) = peqL xs ys
  | n, m, [], ys, _, _ => by cases ys <;> rfl
  | n, m, x :: xs, [], _, _ => rfl
  | n, m, x :: xs, y :: ys, h, h' => by
    obtain ⟨h1, h2⟩ := Bool.and_eq_true_iff.mp (show (dOk n x && dOkL n xs) = true from h)
    obtain ⟨h3, h4⟩ := Bool.and_eq_true_iff.mp (show (dOk m y && dOkL m ys) = true from h')
    show (PyData.eqv (toD x) (toD y) && PyData.eqvAll (toDL xs) (toDL ys)) = (peq x y && peqL xs ys)
    rw [peq_eqv n m x y h1 h3, peq_eqvL n m xs ys h2 h4]
end
theorem toDL_any {n m : Nat} {a : PV} (ha : dOk m a = true) : ∀ (xs : List PV), dOkL n xs = true → ((toDL xs).any fun z => PyData.eqv z (toD a)) = xs.any fun z => peq z a
  | [], _ => rfl
  | x :: xs, h => by
    obtain ⟨h1, h2⟩ := Bool.and_eq_true_iff.mp (show (dOk n x && dOkL n xs) = true from h)
    show (PyData.eqv (toD x) (toD a) || (toDL xs).any _) = (peq x a || xs.any _)
    rw [peq_eqv n m x a h1 ha, toDL_any ha xs h2]
section
variable {X : Cx} {C : Cc} {σ : St} {ι : List Addr} {H : Hp} {S : Store} {Q : VK}
/-- a comparison -/
abbrev rC2 (C : Cc) (o : Cop) : R2 := rP2 C fun a b => (cop o a b).map .bool
theorem post_bl {o : Option Bool} {k : Bool} (h : PostV C σ ι H (Res.ofO (o.map PV.bool) S) Q) (e : o = some k) (hS : StOk C.K ι H S) : Q (.bl k) H := by
  subst e
  exact post_at h hS (.bl k)
theorem post_no {o : Option Bool} (h : PostV C σ ι H (Res.ofO (o.map PV.bool) S) Q) (e : o = none) : False := by
  subst e
  exact h
theorem op_eqP (hK : C.K.K = X.K) (hu : X.A.units + 64 < cLine) : OpR X (compareOp .Eq) (rC2 C .eq) := by
  intro pins s σ0 H x y v u Q I rx ry ⟨σ, S, ι, a, b, hS, r1, r2, h⟩
  by_cases hc : (dOk 64 (res S a) && dOk 64 (res S b)) = true
  · obtain ⟨h1, h2⟩ := Bool.and_eq_true_iff.mp hc
    obtain ⟨a1, a2, a3⟩ := (r1.view hS).dp h1
    obtain ⟨b1, b2, b3⟩ := (r2.view hS).dp h2
    rw [hK] at a1 b1
    refine op_eqD hu pins s σ0 H x y v u Q I rx ry ⟨_, _, a1, b1, shaped_of a2 a3, shaped_of b2 b3, ?_⟩
    rw [peq_eqv 64 64 _ _ h1 h2]
    exact post_bl h (by simp only [cop, eqv, if_pos hc]) hS
  · exact (post_no h (by simp only [cop, eqv, if_neg hc])).elim
theorem op_neP (hK : C.K.K = X.K) (hu : X.A.units + 64 < cLine) : OpR X (compareOp .NotEq) (rC2 C .ne) := by
  intro pins s σ0 H x y v u Q I rx ry ⟨σ, S, ι, a, b, hS, r1, r2, h⟩
  by_cases hc : (dOk 64 (res S a) && dOk 64 (res S b)) = true
  · obtain ⟨h1, h2⟩ := Bool.and_eq_true_iff.mp hc
    obtain ⟨a1, a2, a3⟩ := (r1.view hS).dp h1
    obtain ⟨b1, b2, b3⟩ := (r2.view hS).dp h2
    rw [hK] at a1 b1
    refine op_neD hu pins s σ0 H x y v u Q I rx ry ⟨_, _, a1, b1, shaped_of a2 a3, shaped_of b2 b3, ?_⟩
    rw [peq_eqv 64 64 _ _ h1 h2]
    exact post_bl h (by simp only [cop, eqv, if_pos hc, Option.map_some]) hS
  · exact (post_no h (by simp only [cop, eqv, if_neg hc, Option.map_none])).elim
/-- two ints -/
theorem opC_int {f : Value → Value → Sem Value} {g : Int → Int → Bool} {o : Cop} (hf : OpR X f (rI0 fun i j => .bl (g i j)))
    (hb : ∀ i j, cop o (.int i) (.int j) = some (g i j)) (hs : ∀ i j, cop o (.str i) (.str j) = none ∨ OpR X f (fun x y H Q => ∃ i j k, x = .str i ∧ y = .str j ∧ cop o (.str i) (.str j) = some k ∧ Q (.bl k) H))
    (hn : ∀ a c, (∀ i j, ¬ (a = .int i ∧ c = .int j)) → (∀ i j, ¬ (a = .str i ∧ c = .str j)) → cop o a c = none) : OpR X f (rC2 C o) := by
  intro pins s σ0 H x y v u Q I rx ry ⟨σ, S, ι, a, c, hS, r1, r2, h⟩
  have v1 := r1.view hS
  have v2 := r2.view hS
  generalize ea : res S a = a' at v1 h
  generalize eb : res S c = b' at v2 h
  by_cases q1 : ∃ i j, a' = .int i ∧ b' = .int j
  · obtain ⟨i, j, rfl, rfl⟩ := q1
    exact hf pins s σ0 H x y v u Q I rx ry ⟨i, j, v1, v2, post_bl h (hb i j) hS⟩
  · by_cases q2 : ∃ i j, a' = .str i ∧ b' = .str j
    · obtain ⟨i, j, rfl, rfl⟩ := q2
      rcases hs i j with e | hf2
      · exact (post_no h e).elim
      · cases e : cop o (.str i) (.str j) with
        | none => exact (post_no h e).elim
        | some k => exact hf2 pins s σ0 H x y v u Q I rx ry ⟨i, j, k, v1.1, v2.1, e, post_bl h e hS⟩
    · exact (post_no h (hn _ _ (fun i j z => q1 ⟨i, j, z⟩) fun i j z => q2 ⟨i, j, z⟩)).elim
theorem op_ltP : OpR X (compareOp .Lt) (rC2 C .lt) :=
  opC_int op_lt (fun _ _ => rfl) (fun i j => .inr fun pins s σ H x y v u Q I rx ry ⟨i, j, k, e1, e2, e3, q⟩ => op_lt_str pins s σ H x y v u Q I rx ry ⟨i, j, e1, e2, by rw [show decide (i.cps.toList < j.cps.toList) = k from Option.some.inj e3]; exact q⟩)
    fun a c h1 h2 => by
      cases a <;> cases c <;> first | rfl | exact absurd ⟨rfl, rfl⟩ (h1 _ _) | exact absurd ⟨rfl, rfl⟩ (h2 _ _)
theorem op_gtP : OpR X (compareOp .Gt) (rC2 C .gt) :=
  opC_int op_gt (fun _ _ => rfl) (fun i j => .inr fun pins s σ H x y v u Q I rx ry ⟨i, j, k, e1, e2, e3, q⟩ => op_gt_str pins s σ H x y v u Q I rx ry ⟨i, j, e1, e2, by rw [show decide (j.cps.toList < i.cps.toList) = k from Option.some.inj e3]; exact q⟩)
    fun a c h1 h2 => by
      cases a <;> cases c <;> first | rfl | exact absurd ⟨rfl, rfl⟩ (h1 _ _) | exact absurd ⟨rfl, rfl⟩ (h2 _ _)
theorem op_leP : OpR X (compareOp .LtE) (rC2 C .le) :=
  opC_int op_le (fun _ _ => rfl) (fun i j => .inl rfl) fun a c h1 h2 => by
      cases a <;> cases c <;> first | rfl | exact absurd ⟨rfl, rfl⟩ (h1 _ _)
theorem op_geP : OpR X (compareOp .GtE) (rC2 C .ge) :=
  opC_int op_ge (fun _ _ => rfl) (fun i j => .inl rfl) fun a c h1 h2 => by
      cases a <;> cases c <;> first | rfl | exact absurd ⟨rfl, rfl⟩ (h1 _ _)

theorem keyP_inj {k l : Key} (h : keyP k = keyP l) : k = l := by
  cases k <;> cases l <;> first | (cases h; rfl) | (cases h)
theorem key_of {K : Kb} {a : PV} {x : V} (r : Rep K ι H x a) (h : isKey a = true) : ∃ k, a = keyP k ∧ x = kV k := by
  cases r with
  | int i => exact ⟨.inl i, rfl, rfl⟩
  | str s => exact ⟨.inr s, rfl, rfl⟩
  | _ => cases h
theorem key_ok {K : Kb} {k : Key} (r : Rep K ι H (kV k) (keyP k)) : KyOk k := by
  cases k with
  | inl i => exact True.intro
  | inr z => cases r with | str _ h h' => exact ⟨h, h'⟩
theorem key_rep {K : Kb} {k : Key} (h : KyOk k) : Rep K ι H (kV k) (keyP k) := by
  cases k with
  | inl i => exact .int i
  | inr z => exact .str z h.1 h.2
theorem RepD.get {K : Kb} {k : Key} : ∀ {es : List (Key × V)} {kvs : List (PV × PV)}, RepD K ι H es kvs → (valV es k = none ∧ dget kvs (keyP k) = none) ∨ ∃ v x, valV es k = some v ∧ dget kvs (keyP k) = some x ∧ Rep K ι H v x
  | _, _, .nil => .inl ⟨rfl, rfl⟩
  | _, _, @RepD.cons _ _ _ l v r x xs q h t => by
    by_cases e : l = k
    · subst e
      exact .inr ⟨v, x, by simp [valV], by simp [dget], h⟩
    · have e' : ¬ keyP l = keyP k := fun z => e (keyP_inj z)
      have i1 : valV ((l, v) :: r) k = valV r k := by simp [valV, List.find?_cons, e]
      have i2 : dget ((keyP l, x) :: xs) (keyP k) = dget xs (keyP k) := by simp [dget, List.find?_cons, e']
      rw [i1, i2]
      exact RepD.get t
theorem dget_any (kvs : List (PV × PV)) (k : PV) : (kvs.any fun kv => decide (kv.1 = k)) = (dget kvs k).isSome := by
  unfold dget
  rw [Option.isSome_map]
  exact (Bool.eq_iff_iff.mpr (by rw [List.find?_isSome, List.any_eq_true]))
theorem flatRep {K : Kb} {x : V} {a : PV} (r : View K ι H x a) (h : flatP a = true) : flatV x = true := by
  cases a with
  | none => cases (show x = .non from r); rfl
  | bool b => cases (show x = .bl b from r); rfl
  | int b => cases (show x = .int b from r); rfl
  | str b => obtain ⟨rfl, _⟩ := r; rfl
  | _ => cases h
theorem eqV_peq {K : Kb} {x y : V} {a b : PV} (r1 : View K ι H x a) (r2 : View K ι H y b) (h1 : flatP a = true) (h2 : flatP b = true) : eqV x y = peq a b := by
  cases a with
  | none => cases (show x = .non from r1); cases b with
    | none => cases (show y = .non from r2); rfl
    | bool b => cases (show y = .bl b from r2); rfl
    | int b => cases (show y = .int b from r2); rfl
    | str b => obtain ⟨rfl, _⟩ := r2; rfl
    | _ => cases h2
  | bool a => cases (show x = .bl a from r1); cases b with
    | none => cases (show y = .non from r2); rfl
    | bool b => cases (show y = .bl b from r2); rfl
    | int b => cases (show y = .int b from r2); rfl
    | str b => obtain ⟨rfl, _⟩ := r2; rfl
    | _ => cases h2
  | int a => cases (show x = .int a from r1); cases b with
    | none => cases (show y = .non from r2); rfl
    | bool b => cases (show y = .bl b from r2); rfl
    | int b => cases (show y = .int b from r2); rfl
    | str b => obtain ⟨rfl, _⟩ := r2; rfl
    | _ => cases h2
  | str a => obtain ⟨rfl, _⟩ := r1; cases b with
    | none => cases (show y = .non from r2); rfl
    | bool b => cases (show y = .bl b from r2); rfl
    | int b => cases (show y = .int b from r2); rfl
    | str b => obtain ⟨rfl, _⟩ := r2; rfl
    | _ => cases h2
  | _ => cases h1
theorem flatAll {K : Kb} {x : V} {a : PV} (r : View K ι H x a) (h : flatP a = true) : ∀ {vs : List V} {xs : List PV}, RepL K ι H vs xs → xs.all flatP = true → vs.all flatV = true ∧ inV x vs = xs.any fun z => peq z a
  | _, _, .nil, _ => ⟨rfl, rfl⟩
  | _, _, .cons r1 t, q => by
    obtain ⟨q1, q2⟩ := Bool.and_eq_true_iff.mp (show (flatP _ && List.all _ flatP) = true from q)
    obtain ⟨h1, h2⟩ := flatAll r h t q2
    refine ⟨?_, ?_⟩
    · show (flatV _ && List.all _ flatV) = true
      rw [flatRep r1.view0 q1, h1]
      rfl
    · unfold inV at h2 ⊢
      rw [List.any_cons, List.any_cons, eqV_peq r1.view0 r q1 h, h2]
theorem dOkL_list {n : Nat} {xs : List PV} (h : dOkL n xs = true) : dOk (n + 1) (.list xs) = true := h
/-- in and not in at once: neg -/
theorem op_in_any (hK : C.K.K = X.K) (hu : X.A.units + 65 < cLine) (neg : Bool) {f : Value → Value → Sem Value}
    (f1 : OpR X f (fun x y H Q => ∃ d ds, Dp X.K H x d ∧ Dp X.K H y (.list ds) ∧ SeqAt.shaped d = true ∧ SeqAt.shaped (.list ds) = true ∧ Q (.bl (neg ^^ (ds.any fun z => PyData.eqv z d))) H))
    (f2 : OpR X f (fun x y H Q => ∃ p xs, y = .ref p ∧ SqT X.K H p xs ∧ flatV x = true ∧ xs.all flatV = true ∧ Q (.bl (neg ^^ inV x xs)) H))
    (f3 : OpR X f (fun x y H Q => ∃ (c : Nat) (z : Str), x = .str ⟨#[c]⟩ ∧ y = .str z ∧ Q (.bl (neg ^^ decide (c ∈ z.cps.toList))) H))
    (f4 : OpR X f (fun x y H Q => ∃ a o, y = .ref a ∧ DGet H a x o ∧ Q (.bl (neg ^^ o.isSome)) H)) : OpR X f (rP2 C fun a b => ((isIn a b).map fun k => neg ^^ k).map .bool) := by
  intro pins s σ0 H x y v u Q I rx ry ⟨σ, S, ι, a, b, hS, r1, r2, h⟩
  have v1 := r1.view hS
  have v2 := r2.view hS
  have t1 := fun (hk : isKey (res S a) = true) => (show res S a = a from res_same (fun xs z => by rw [z] at hk; cases hk) (fun xs z => by rw [z] at hk; cases hk))
  generalize ea : res S a = a' at v1 h t1
  generalize eb : res S b = b' at v2 h
  cases b' with
  | list xs =>
    obtain ⟨p, vs, e1, q1, l1⟩ := v2
    by_cases hc : (dOk 64 a' && dOkL 63 xs) = true
    · obtain ⟨h1, h2⟩ := Bool.and_eq_true_iff.mp hc
      obtain ⟨a1, a2, a3⟩ := v1.dp h1
      obtain ⟨b1, b2, b3⟩ := View.dp (K := C.K) (ι := ι) (H := H) (n := 64) (v := .list xs) (x := y) ⟨p, vs, e1, q1, l1⟩ h2
      rw [hK] at a1 b1
      refine f1 pins s σ0 H x y v u Q I rx ry ⟨_, toDL xs, a1, b1, shaped_of a2 a3, shaped_of b2 b3, ?_⟩
      rw [toDL_any h1 xs h2]
      exact post_bl h (by simp only [isIn, if_pos hc, Option.map_some]) hS
    · exact (post_no h (by simp only [isIn, if_neg hc, Option.map_none])).elim
  | tup xs =>
    obtain ⟨p, vs, e1, q1, l1⟩ := v2
    by_cases hc : (flatP a' && xs.all flatP) = true
    · obtain ⟨h1, h2⟩ := Bool.and_eq_true_iff.mp hc
      obtain ⟨c1, c2⟩ := flatAll v1 h1 l1 h2
      rw [hK] at q1
      refine f2 pins s σ0 H x y v u Q I rx ry ⟨p, vs, e1, q1, flatRep v1 h1, c1, ?_⟩
      rw [c2]
      exact post_bl h (by simp only [isIn, if_pos hc, Option.map_some]) hS
    · exact (post_no h (by simp only [isIn, if_neg hc, Option.map_none])).elim
  | str z =>
    cases a' with
    | str w =>
      obtain ⟨v1, _⟩ := v1
      obtain ⟨v2, _⟩ := v2
      cases hw : w.cps.toList with
      | nil => exact (post_no h (by simp only [isIn, hw, Option.map_none])).elim
      | cons c r =>
        cases r with
        | cons _ _ => exact (post_no h (by simp only [isIn, hw, Option.map_none])).elim
        | nil =>
          have ew : w = ⟨#[c]⟩ := by
            obtain ⟨w⟩ := w
            have : w.toList = [c] := hw
            rw [show w = #[c] from Array.ext' this]
          refine f3 pins s σ0 H x y v u Q I rx ry ⟨c, z, by rw [v1, ew], v2, post_bl h (by simp only [isIn, hw, Option.map_some]) hS⟩
    | _ => exact (post_no h rfl).elim
  | dict kvs =>
    obtain ⟨p, es, e1, q1, l1⟩ := v2
    by_cases hk : isKey a' = true
    · have e := t1 hk
      rw [e] at hk h
      obtain ⟨k, rfl, rfl⟩ := key_of r1 hk
      refine f4 pins s σ0 H _ y v u Q I rx ry ⟨p, _, e1, .inl ⟨es, k, q1, rfl, rfl⟩, ?_⟩
      have e3 : (valV es k).isSome = (dget kvs (keyP k)).isSome := by
        rcases l1.get (k := k) with ⟨z1, z2⟩ | ⟨v', x', z1, z2, _⟩ <;> rw [z1, z2] <;> rfl
      rw [e3, ← dget_any]
      exact post_bl h (by cases k <;> rfl) hS
    · refine (post_no h ?_).elim
      cases a' <;> first | rfl | exact absurd rfl hk
  | _ => exact (post_no h rfl).elim
theorem op_inP (hK : C.K.K = X.K) (hu : X.A.units + 65 < cLine) : OpR X (compareOp .In) (rC2 C .inn) := by
  have z := op_in_any (X := X) (C := C) hK hu false (f := compareOp .In)
    (fun pins s σ H x y v u Q I rx ry ⟨d, ds, h1, h2, h3, h4, q⟩ => op_inD hu pins s σ H x y v u Q I rx ry ⟨d, ds, h1, h2, h3, h4, by simpa using q⟩)
    (fun pins s σ H x y v u Q I rx ry ⟨p, xs, h1, h2, h3, h4, q⟩ => op_in_seq pins s σ H x y v u Q I rx ry ⟨p, xs, h1, .inr h2, h3, h4, by simpa using q⟩)
    (fun pins s σ H x y v u Q I rx ry ⟨c, w, h1, h2, q⟩ => op_in_sign pins s σ H x y v u Q I rx ry ⟨c, w, h1, h2, by simpa using q⟩)
    (fun pins s σ H x y v u Q I rx ry ⟨a, o, h1, h2, q⟩ => by
      subst h1
      cases ry
      exact d_in (by omega) I h2 rx fun s' I' => ⟨.bl _, H, I', rfl, by simpa using q⟩)
  intro pins s σ0 H x y v u Q I rx ry ⟨σ, S, ι, a, b, hS, r1, r2, h⟩
  refine z pins s σ0 H x y v u Q I rx ry ⟨σ, S, ι, a, b, hS, r1, r2, ?_⟩
  have e : ((isIn (res S a) (res S b)).map fun k => false ^^ k) = cop .inn (res S a) (res S b) := by
    show _ = isIn (res S a) (res S b)
    cases isIn (res S a) (res S b) <;> simp
  dsimp only
  rw [e]
  exact h
theorem op_notinP (hK : C.K.K = X.K) (hu : X.A.units + 65 < cLine) : OpR X (compareOp .NotIn) (rC2 C .notin) := by
  have z := op_in_any (X := X) (C := C) hK hu true (f := compareOp .NotIn)
    (fun pins s σ H x y v u Q I rx ry ⟨d, ds, h1, h2, h3, h4, q⟩ => op_notInD hu pins s σ H x y v u Q I rx ry ⟨d, ds, h1, h2, h3, h4, by simpa using q⟩)
    (fun pins s σ H x y v u Q I rx ry ⟨p, xs, h1, h2, h3, h4, q⟩ => op_notIn_seq pins s σ H x y v u Q I rx ry ⟨p, xs, h1, .inr h2, h3, h4, by simpa using q⟩)
    (fun pins s σ H x y v u Q I rx ry ⟨c, w, h1, h2, q⟩ => op_notIn_sign pins s σ H x y v u Q I rx ry ⟨c, w, h1, h2, by simpa using q⟩)
    (fun pins s σ H x y v u Q I rx ry ⟨a, o, h1, h2, q⟩ => by
      subst h1
      cases ry
      exact d_notIn (by omega) I h2 rx fun s' I' => ⟨.bl _, H, I', rfl, by simpa using q⟩)
  intro pins s σ0 H x y v u Q I rx ry ⟨σ, S, ι, a, b, hS, r1, r2, h⟩
  refine z pins s σ0 H x y v u Q I rx ry ⟨σ, S, ι, a, b, hS, r1, r2, ?_⟩
  have e : ((isIn (res S a) (res S b)).map fun k => true ^^ k) = cop .notin (res S a) (res S b) := by
    show _ = (isIn (res S a) (res S b)).map (!·)
    cases isIn (res S a) (res S b) <;> simp
  dsimp only
  rw [e]
  exact h
theorem is_any (neg : Bool) {f : Value → Value → Sem Value} (f1 : OpR X f (fun x y H Q => y = .non ∧ Q (.bl (neg ^^ decide (x = .non))) H)) (f2 : OpR X f (fun x y H Q => ∃ a b, x = .bl a ∧ y = .bl b ∧ Q (.bl (neg ^^ decide (a = b))) H))
    (f3 : OpR X f (fun x y H Q => ∃ b, x = .non ∧ y = .bl b ∧ Q (.bl neg) H)) : OpR X f (rP2 C fun a b => ((isv a b).map fun k => neg ^^ k).map .bool) := by
  intro pins s σ0 H x y v u Q I rx ry ⟨σ, S, ι, a, b, hS, r1, r2, h⟩
  have v1 := r1.view hS
  have v2 := r2.view hS
  have hr : decide (x = .non) = decide (res S a = .none) := by
    cases r1 with
    | ref e =>
      rename_i k p
      have : res S (.ref k) ≠ .none := by
        unfold res
        cases q : S[k]? with
        | none => simp [q]
        | some c => cases c <;> simp [q]
      simp [this]
    | _ => simp [res]
  generalize ea : res S a = a' at v1 h hr
  generalize eb : res S b = b' at v2 h
  cases b' with
  | none =>
    refine f1 pins s σ0 H x y v u Q I rx ry ⟨v2, ?_⟩
    rw [hr]
    exact post_bl h rfl hS
  | bool k =>
    cases a' with
    | none => exact f3 pins s σ0 H x y v u Q I rx ry ⟨k, v1, v2, post_bl h (by simp [isv]) hS⟩
    | bool j => exact f2 pins s σ0 H x y v u Q I rx ry ⟨j, k, v1, v2, post_bl h (by simp [isv]) hS⟩
    | _ => exact (post_no h rfl).elim
  | _ => exact (post_no h rfl).elim
theorem op_isP : OpR X (compareOp .Is) (rC2 C .is) := by
  have z := is_any (X := X) (C := C) false (f := compareOp .Is)
    (fun pins s σ H x y v u Q I rx ry ⟨h1, q⟩ => op_isN pins s σ H x y v u Q I rx ry ⟨h1, by simpa using q⟩)
    (fun pins s σ H x y v u Q I rx ry ⟨a, b, h1, h2, q⟩ => op_is_bl pins s σ H x y v u Q I rx ry ⟨a, b, h1, h2, by simpa using q⟩)
    (fun pins s σ H x y v u Q I rx ry ⟨b, h1, h2, q⟩ => by
      subst h1 h2
      cases rx
      cases ry
      exact wpAny_is_other rfl (fun z => by cases z) ⟨.bl false, H, I, rfl, q⟩)
  intro pins s σ0 H x y v u Q I rx ry ⟨σ, S, ι, a, b, hS, r1, r2, h⟩
  refine z pins s σ0 H x y v u Q I rx ry ⟨σ, S, ι, a, b, hS, r1, r2, ?_⟩
  have e : ((isv (res S a) (res S b)).map fun k => false ^^ k) = cop .is (res S a) (res S b) := by
    show _ = isv (res S a) (res S b)
    cases isv (res S a) (res S b) <;> simp
  dsimp only
  rw [e]
  exact h
theorem op_isnotP : OpR X (compareOp .IsNot) (rC2 C .isnot) := by
  have z := is_any (X := X) (C := C) true (f := compareOp .IsNot)
    (fun pins s σ H x y v u Q I rx ry ⟨h1, q⟩ => op_notN pins s σ H x y v u Q I rx ry ⟨h1, by simpa using q⟩)
    (fun pins s σ H x y v u Q I rx ry ⟨a, b, h1, h2, q⟩ => op_isnot_bl pins s σ H x y v u Q I rx ry ⟨a, b, h1, h2, by simpa using q⟩)
    (fun pins s σ H x y v u Q I rx ry ⟨b, h1, h2, q⟩ => by
      subst h1 h2
      cases rx
      cases ry
      exact wpAny_isNot_other rfl (fun z => by cases z) ⟨.bl true, H, I, rfl, q⟩)
  intro pins s σ0 H x y v u Q I rx ry ⟨σ, S, ι, a, b, hS, r1, r2, h⟩
  refine z pins s σ0 H x y v u Q I rx ry ⟨σ, S, ι, a, b, hS, r1, r2, ?_⟩
  have e : ((isv (res S a) (res S b)).map fun k => true ^^ k) = cop .isnot (res S a) (res S b) := by
    show _ = (isv (res S a) (res S b)).map (!·)
    cases isv (res S a) (res S b) <;> simp
  dsimp only
  rw [e]
  exact h
end
end Bt
end
section
set_option maxHeartbeats 1000000
namespace Bt
open PySem L2
open PyProof.Rows hiding St
theorem Res.bind_assoc {α β γ : Type} (r : Res α) (f : α → Store → Res β) (g : β → Store → Res γ) : (r.bind f).bind g = r.bind fun a S => (f a S).bind g := by
  cases r <;> rfl
theorem Res.map_bind {α β γ : Type} (r : Res α) (f : α → β) (g : β → Store → Res γ) : (r.map f).bind g = r.bind fun a S => g (f a) S := by
  cases r <;> rfl
section
variable {X : Cx} {C : Cc} {σ : St} {ι : List Addr} {H : Hp} {S : Store} {Q : VK}
def rT (C : Cc) : V → Hp → (Bool → Hp → Prop) → Prop := fun x H Q => ∃ (S : Store) (ι : List Addr) (v : PV) (k : Bool), StOk C.K ι H S ∧ Rep C.K ι H x v ∧ truth (res S v) = some k ∧ Q k H
theorem tru_P (hK : C.K.K = X.K) : TruR X (rT C) := by
  intro pins s σ H x u Q I rx ⟨S, ι, v, k, hS, r, ht, q⟩
  have vw := r.view hS
  generalize e : res S v = v' at vw ht
  cases v' with
  | none => cases (show x = .non from vw); cases ht; exact tru_ok pins s σ H _ u Q I rx ⟨false, rfl, q⟩
  | bool b => cases (show x = .bl b from vw); cases ht; exact tru_ok pins s σ H _ u Q I rx ⟨_, rfl, q⟩
  | int i => cases (show x = .int i from vw); cases ht; exact tru_ok pins s σ H _ u Q I rx ⟨_, rfl, q⟩
  | str z => obtain ⟨rfl, h1, _⟩ := vw; cases ht; exact tru_ok pins s σ H _ u Q I rx ⟨_, ⟨h1, rfl⟩, q⟩
  | tup xs =>
    obtain ⟨a, vs, rfl, h1, h2⟩ := vw
    cases ht
    rw [hK] at h1
    refine tru_ok pins s σ H _ u Q I rx ⟨_, .inr (.inl ⟨vs, h1, ?_⟩), q⟩
    cases h2 <;> rfl
  | list xs =>
    obtain ⟨a, vs, rfl, h1, h2⟩ := vw
    cases ht
    refine tru_ok pins s σ H _ u Q I rx ⟨_, .inl ⟨vs, .inl h1, ?_⟩, q⟩
    cases h2 <;> rfl
  | dict xs =>
    obtain ⟨a, vs, rfl, h1, h2⟩ := vw
    cases ht
    cases (show u = .ref a from rx)
    refine d_truth I h1 fun s' I' => ⟨H, I', ?_⟩
    have : (!vs.isEmpty) = !xs.isEmpty := by cases h2 <;> rfl
    rw [this]
    exact q
  | scr ns =>
    obtain ⟨a, rfl, h1⟩ := vw
    cases ht
    rw [hK] at h1
    refine tru_ok pins s σ H _ u Q I rx ⟨_, .inl ⟨_, h1, ?_⟩, q⟩
    cases ns <;> rfl
  | _ => cases ht
/-- a test by its value -/
theorem tTru_ev {c : Ex} {Q : Bool → Hp → Prop} (h : tTru C c σ H Q) : tEv C c σ H fun x H1 => rT C x H1 Q := by
  obtain ⟨ρ, S, ι, hE, hS, h⟩ := h
  refine tEv1 hE hS h fun v S2 x ι2 H2 _ s2 r h2 => ?_
  cases e : truth (res S2 v) with
  | none =>
    have h2' : PostG (fun _ _ (b : Bool) a => b = a) C σ ι2 H2 (Res.ofO (truth (res S2 v)) S2) fun _ _ b _ H' => Q b H' := h2
    rw [e] at h2'
    exact (show False from h2').elim
  | some k =>
    have h2' : PostG (fun _ _ (b : Bool) a => b = a) C σ ι2 H2 (Res.ofO (truth (res S2 v)) S2) fun _ _ b _ H' => Q b H' := h2
    rw [e] at h2'
    exact ⟨S2, ι2, v, k, s2, r, e, h2' k H2 ι2 (Ext.refl _ _) s2 rfl⟩
theorem pmt_val {e : Expr} {c : Ex} (hK : C.K.K = X.K) (h : PE X e (tEv C c)) (he : ∀ whole, isTrue e X.env whole = (do let v ← whole; standAt e.pos; holding [v] (truthy v))) : PT X e (tTru C c) :=
  ⟨fun pins s σ H Q I q => isTrue_plain (thn (h.run pins s σ H _ I (tTru_ev q)) fun v s1 ⟨x, H1, I1, r1, q1⟩ => tru_P hK pins s1 σ H1 x v Q I1 r1 q1) (he _)⟩

/-- behind a truth -/
theorem post_truth {α β : Type} {rep : List Addr → Hp → β → α → Prop} {f : Bool → Store → Res α} {k : α → Store → β → List Addr → Hp → Prop} {v : PV} {x : V} (hS : StOk C.K ι H S) (r : Rep C.K ι H x v)
    (h : PostG rep C σ ι H ((truthR S v).bind f) k) : ∃ b, truth (res S v) = some b ∧ PostG rep C σ ι H (f b S) k := by
  cases e : truth (res S v) with
  | none =>
    have h' : PostG rep C σ ι H ((Res.ofO (truth (res S v)) S).bind f) k := h
    rw [e] at h'
    exact (show False from h').elim
  | some b =>
    have h' : PostG rep C σ ι H ((Res.ofO (truth (res S v)) S).bind f) k := h
    rw [e] at h'
    exact ⟨b, rfl, h'⟩
theorem pm_not {a : Expr} {ca : Ex} {pos : Pos} (hK : C.K.K = X.K) (ha : PE X a (tEv C ca)) : PE X (.UnaryOp .Not a pos) (tEv C (.not ca)) := by
  refine ⟨fun pins s σ H Q I ⟨ρ, S, ι, hE, hS, h⟩ => ?_⟩
  unfold evE at h
  have h1 : tEv C ca σ H fun x H1 => rT C x H1 fun k H2 => Q (.bl (!k)) H2 := tEv1 hE hS h fun v S2 x ι2 H2 _ s2 r h2 => by
    obtain ⟨b, e, h3⟩ := post_truth (f := fun b S => Res.ok (PV.bool (!b)) S) s2 r h2
    exact ⟨S2, ι2, v, b, s2, r, e, post_at h3 s2 (.bl _)⟩
  refine UnaryOp_ (thn (ha.run pins s σ H _ I h1) fun v s1 ⟨x, H1, I1, r1, q1⟩ => ?_)
  exact not_of (thn (tru_P hK pins s1 σ H1 x v _ I1 r1 q1) fun c s2 ⟨H2, I2, q2⟩ => ⟨.bl (!c), H2, I2, rfl, q2⟩)
theorem tru_same (hK : C.K.K = X.K) {pins : List (Addr × Obj)} {s : Shared} {x : V} {u : Value} {v : PV} {k : Bool} {R : Bool → Shared → Prop} (I : Inv X pins σ H s) (rx : RelV x u) (hS : StOk C.K ι H S) (r : Rep C.K ι H x v) (e : truth (res S v) = some k)
    (h : ∀ s', Inv X pins σ H s' → R k s') : wpAny (model X.prog X.w) X.A (truthy u) R X.xe s :=
  thn (tru_P hK pins s σ H x u (fun c H2 => c = k ∧ H2 = H) I rx ⟨S, ι, v, k, hS, r, e, rfl, rfl⟩) fun c s2 ⟨H2, I2, e1, e2⟩ => by
    subst e1 e2
    exact h s2 I2
theorem pm_and {a b : Expr} {rest : List Expr} {ca cb : Ex} {pos : Pos} (hK : C.K.K = X.K) (ha : PE X a (tEv C ca)) (hb : PE X (.BoolOp .And (b :: rest) pos) (tEv C cb)) : PE X (.BoolOp .And (a :: b :: rest) pos) (tEv C (.and ca cb)) := by
  refine ⟨fun pins s σ H Q I ⟨ρ, S, ι, hE, hS, h⟩ => ?_⟩
  unfold evE at h
  have h1 : tEv C ca σ H fun x H1 => ∃ (S2 : Store) (ι2 : List Addr) (v : PV) (k : Bool), StOk C.K ι2 H1 S2 ∧ Rep C.K ι2 H1 x v ∧ truth (res S2 v) = some k ∧ (if k = true then tEv C cb σ H1 Q else Q x H1) := tEv1 hE hS h fun v S2 x ι2 H2 e2 s2 r h2 => by
    obtain ⟨b, e, h3⟩ := post_truth (f := fun b S => if b then evE C.φ C.G cb ρ S else .ok v S) s2 r h2
    refine ⟨S2, ι2, v, b, s2, r, e, ?_⟩
    cases b with
    | true => exact iteT ⟨ρ, S2, ι2, hE.ext e2, s2, h3⟩
    | false => exact iteF (post_at h3 s2 r)
  refine BoolOp_and (thn (ha.run pins s σ H _ I h1) fun v s1 ⟨x, H1, I1, r1, S2, ι2, pv, k, s2, r, e, q⟩ => ?_)
  refine tru_same hK I1 r1 s2 r e fun s3 I3 => ?_
  cases k with
  | true => exact hb.run pins s3 σ H1 Q I3 q
  | false => exact ⟨x, H1, I3, r1, q⟩
theorem pm_or {a b : Expr} {rest : List Expr} {ca cb : Ex} {pos : Pos} (hK : C.K.K = X.K) (ha : PE X a (tEv C ca)) (hb : PE X (.BoolOp .Or (b :: rest) pos) (tEv C cb)) : PE X (.BoolOp .Or (a :: b :: rest) pos) (tEv C (.or ca cb)) := by
  refine ⟨fun pins s σ H Q I ⟨ρ, S, ι, hE, hS, h⟩ => ?_⟩
  unfold evE at h
  have h1 : tEv C ca σ H fun x H1 => ∃ (S2 : Store) (ι2 : List Addr) (v : PV) (k : Bool), StOk C.K ι2 H1 S2 ∧ Rep C.K ι2 H1 x v ∧ truth (res S2 v) = some k ∧ (if k = true then Q x H1 else tEv C cb σ H1 Q) := tEv1 hE hS h fun v S2 x ι2 H2 e2 s2 r h2 => by
    obtain ⟨b, e, h3⟩ := post_truth (f := fun b S => if b then .ok v S else evE C.φ C.G cb ρ S) s2 r h2
    refine ⟨S2, ι2, v, b, s2, r, e, ?_⟩
    cases b with
    | true => exact iteT (post_at h3 s2 r)
    | false => exact iteF ⟨ρ, S2, ι2, hE.ext e2, s2, h3⟩
  refine BoolOp_or (thn (ha.run pins s σ H _ I h1) fun v s1 ⟨x, H1, I1, r1, S2, ι2, pv, k, s2, r, e, q⟩ => ?_)
  refine tru_same hK I1 r1 s2 r e fun s3 I3 => ?_
  cases k with
  | true => exact ⟨x, H1, I3, r1, q⟩
  | false => exact hb.run pins s3 σ H1 Q I3 q
/-- a test, then something -/
theorem tTru1 {t : Ex} {ρ : Env} {α β : Type} {rep : List Addr → Hp → β → α → Prop} {f : Bool → Store → Res α} {k : α → Store → β → List Addr → Hp → Prop} {R : Bool → Hp → Prop} (hE : EnvOk C.K ι H σ ρ) (hS : StOk C.K ι H S)
    (h : PostG rep C σ ι H ((evE C.φ C.G t ρ S).bind fun v S => (truthR S v).bind f) k) (hR : ∀ b S2 ι2 H2, Ext ι H ι2 H2 → StOk C.K ι2 H2 S2 → PostG rep C σ ι2 H2 (f b S2) k → R b H2) : tTru C t σ H R := by
  refine ⟨ρ, S, ι, hE, hS, ?_⟩
  rw [← Res.bind_assoc] at h
  exact (PostG.bind h).mono fun b S2 b' ι2 H2 e s2 r h2 => by
    subst r
    exact hR _ S2 ι2 H2 e s2 h2
theorem pm_ite {t a b : Expr} {ct ca cb : Ex} {pos : Pos} (ht : PT X t (tTru C ct)) (ha : PE X a (tEv C ca)) (hb : PE X b (tEv C cb)) : PE X (.IfExp t a b pos) (tEv C (.ite ct ca cb)) := by
  refine peImp (pe_ifExp ht ha hb) fun σ H Q ⟨ρ, S, ι, hE, hS, h⟩ => ?_
  unfold evE at h
  refine tTru1 (f := fun b S => if b then evE C.φ C.G ca ρ S else evE C.φ C.G cb ρ S) hE hS h fun b S2 ι2 H2 e s2 h2 => ?_
  cases b with
  | true => exact iteT ⟨ρ, S2, ι2, hE.ext e, s2, h2⟩
  | false => exact iteF ⟨ρ, S2, ι2, hE.ext e, s2, h2⟩
theorem pmt_not {a : Expr} {ca : Ex} {pos : Pos} (ha : PT X a (tTru C ca)) : PT X (.UnaryOp .Not a pos) (tTru C (.not ca)) := by
  refine ptImp (pt_not ha) fun σ H Q ⟨ρ, S, ι, hE, hS, h⟩ => ?_
  unfold evE at h
  rw [Res.bind_assoc] at h
  have e0 : (fun (a : PV) (S : Store) => ((truthR S a).map fun b => PV.bool !b).bind fun v S => truthR S v) = fun v S => (truthR S v).bind fun b S => Res.ok (!b) S := by
    funext v S
    unfold truthR
    cases truth (res S v) <;> rfl
  rw [e0] at h
  refine tTru1 (f := fun b S => Res.ok (!b) S) hE hS h fun b S2 ι2 H2 e s2 h2 => h2 (!b) H2 ι2 (Ext.refl _ _) s2 rfl
theorem pmt_and {a b : Expr} {rest : List Expr} {ca cb : Ex} {pos : Pos} (ha : PT X a (tTru C ca)) (hb : PW X (.BoolOp .And (b :: rest) pos) (tTru C cb)) : PW X (.BoolOp .And (a :: b :: rest) pos) (tTru C (.and ca cb)) := by
  refine ⟨fun wh pins s σ H Q I ⟨ρ, S, ι, hE, hS, h⟩ => (pw_and ha hb).run wh pins s σ H Q I ?_⟩
  unfold evE at h
  rw [Res.bind_assoc] at h
  have e0 : (fun (a : PV) (S : Store) => ((truthR S a).bind fun t S => if t = true then evE C.φ C.G cb ρ S else Res.ok a S).bind fun v S => truthR S v) = fun v S => (truthR S v).bind fun b S => if b then (evE C.φ C.G cb ρ S).bind fun v S => truthR S v else .ok false S := by
    funext v S
    cases e : truth (res S v) with
    | none => simp only [truthR, e, Res.ofO, Res.bind]
    | some b => cases b <;> simp only [truthR, e, Res.ofO, Res.bind, if_true, if_false, Bool.false_eq_true]
  rw [e0] at h
  refine tTru1 (f := fun b S => if b then (evE C.φ C.G cb ρ S).bind fun v S => truthR S v else .ok false S) hE hS h fun b S2 ι2 H2 e s2 h2 => ?_
  cases b with
  | true => exact iteT ⟨ρ, S2, ι2, hE.ext e, s2, h2⟩
  | false => exact iteF (h2 false H2 ι2 (Ext.refl _ _) s2 rfl)
theorem pmt_or {a b : Expr} {rest : List Expr} {ca cb : Ex} {pos : Pos} (ha : PT X a (tTru C ca)) (hb : PW X (.BoolOp .Or (b :: rest) pos) (tTru C cb)) : PW X (.BoolOp .Or (a :: b :: rest) pos) (tTru C (.or ca cb)) := by
  refine ⟨fun wh pins s σ H Q I ⟨ρ, S, ι, hE, hS, h⟩ => (pw_or ha hb).run wh pins s σ H Q I ?_⟩
  unfold evE at h
  rw [Res.bind_assoc] at h
  have e0 : (fun (a : PV) (S : Store) => ((truthR S a).bind fun t S => if t = true then Res.ok a S else evE C.φ C.G cb ρ S).bind fun v S => truthR S v) = fun v S => (truthR S v).bind fun b S => if b then .ok true S else (evE C.φ C.G cb ρ S).bind fun v S => truthR S v := by
    funext v S
    cases e : truth (res S v) with
    | none => simp only [truthR, e, Res.ofO, Res.bind]
    | some b => cases b <;> simp only [truthR, e, Res.ofO, Res.bind, if_true, if_false, Bool.false_eq_true]
  rw [e0] at h
  refine tTru1 (f := fun b S => if b then .ok true S else (evE C.φ C.G cb ρ S).bind fun v S => truthR S v) hE hS h fun b S2 ι2 H2 e s2 h2 => ?_
  cases b with
  | true => exact iteT (h2 true H2 ι2 (Ext.refl _ _) s2 rfl)
  | false => exact iteF ⟨ρ, S2, ι2, hE.ext e, s2, h2⟩

theorem pm_cmp {a b : Expr} {ca cb : Ex} {op : CmpOp} {pos : Pos} {o : Cop} (ho : OpR X (compareOp op) (rC2 C o)) (ha : PE X a (tEv C ca)) (hb : PE X b (tEv C cb)) (hm : behindInMarks op b = false) : PE X (.Compare a [op] [b] pos) (tEv C (.cmp o ca cb)) := by
  refine peImp (pe_cmpR ho ha hb hm) fun σ H Q ⟨ρ, S, ι, hE, hS, h⟩ => ?_
  unfold evE at h
  exact tEv2 hE hS h fun v w S2 x y ι2 H2 _ s2 r1 r2 h2 => ⟨σ, S2, ι2, v, w, s2, r1, r2, h2⟩
theorem post_test {o : Option Bool} {Q : Bool → Hp → Prop} (h : PostG (fun _ _ (b : Bool) a => b = a) C σ ι H ((Res.ofO (o.map PV.bool) S).bind fun v S => truthR S v) fun _ _ b _ H' => Q b H') :
    PostV C σ ι H (Res.ofO (o.map PV.bool) S) fun z H' => ∃ k, z = .bl k ∧ Q k H' := by
  cases o with
  | none => exact h
  | some b =>
    intro z H' ι' e s r
    cases r
    exact ⟨b, rfl, h b H' ι' e s rfl⟩
theorem pmt_cmp {a b : Expr} {ca cb : Ex} {op : CmpOp} {pos : Pos} {o : Cop} (ho : OpR X (compareOp op) (rC2 C o)) (ha : PE X a (tEv C ca)) (hb : PE X b (tEv C cb)) (hm : behindInMarks op b = false) : PT X (.Compare a [op] [b] pos) (tTru C (.cmp o ca cb)) := by
  refine ptImp (pt_cmpR ho ha hb hm) fun σ H Q ⟨ρ, S, ι, hE, hS, h⟩ => ?_
  unfold evE at h
  simp only [Res.bind_assoc] at h
  exact tEv2 (f := fun x y S => (Res.ofO ((cop o (res S x) (res S y)).map .bool) S).bind fun v S => truthR S v) hE hS h fun v w S2 x y ι2 H2 _ s2 r1 r2 h2 => ⟨σ, S2, ι2, v, w, s2, r1, r2, post_test h2⟩

/-- the rest of a chain -/
theorem chain_post {o1 o2 : Cop} {cc : Ex} {ρ : Env} {v w : PV} {x y : V} {α β : Type} {rep : List Addr → Hp → β → α → Prop} {g : PV → Store → Res α} {k : α → Store → β → List Addr → Hp → Prop} {R : V → Hp → Prop} (hE : EnvOk C.K ι H σ ρ) (hS : StOk C.K ι H S) (r1 : Rep C.K ι H x v) (r2 : Rep C.K ι H y w)
    (h : PostG rep C σ ι H (((Res.ofO (cop o1 (res S v) (res S w)) S).bind fun k S => if k = true then (evE C.φ C.G cc ρ S).bind fun z S => Res.ofO ((cop o2 (res S w) (res S z)).map .bool) S else .ok (.bool false) S).bind g) k)
    (hR : ∀ (u : PV) (S : Store) (z : V) (ι : List Addr) (H : Hp), StOk C.K ι H S → Rep C.K ι H z u → PostG rep C σ ι H (g u S) k → (∃ b, u = .bool b) → R z H) :
    rC2 C o1 x y H fun z H3 => ∃ k, z = .bl k ∧ (if k = true then tEv C cc σ H3 fun w' H4 => rC2 C o2 y w' H4 R else R (.bl false) H3) := by
  refine ⟨σ, S, ι, v, w, hS, r1, r2, ?_⟩
  dsimp only
  cases e : cop o1 (res S v) (res S w) with
  | none => rw [e] at h; exact h
  | some b =>
    rw [e] at h
    intro z H' ι' e' s' r'
    cases r'
    refine ⟨b, rfl, ?_⟩
    cases b with
    | false => exact iteF (hR (.bool false) S _ ι' H' s' (.bl false) (PostG.from e' h) ⟨false, rfl⟩)
    | true =>
      refine iteT ?_
      have h' : PostG rep C σ ι' H' ((evE C.φ C.G cc ρ S).bind fun z S => (Res.ofO ((cop o2 (res S w) (res S z)).map .bool) S).bind g) k := by
        rw [← Res.bind_assoc]
        exact PostG.from e' h
      refine tEv1 (hE.ext e') s' h' fun u S2 z ι2 H2 e2 s2 r h2 => ⟨σ, S2, ι2, w, u, s2, (r2.ext e').ext e2, r, ?_⟩
      dsimp only
      cases q : cop o2 (res S2 w) (res S2 u) with
      | none => rw [q] at h2; exact h2
      | some b =>
        rw [q] at h2
        intro z' H3 ι3 e3 s3 r3
        exact hR (.bool b) S2 z' ι3 H3 s3 r3 (PostG.from e3 h2) ⟨b, rfl⟩
theorem pm_chain {a b c : Expr} {ca cb cc : Ex} {op op' : CmpOp} {pos : Pos} {o1 o2 : Cop} (ho : OpR X (compareOp op) (rC2 C o1)) (ho' : OpR X (compareOp op') (rC2 C o2)) (ha : PE X a (tEv C ca)) (hb : PE X b (tEv C cb)) (hc : PE X c (tEv C cc))
    (hp : PE X (.Compare a [op, op'] [b, c] pos) (tChain (rC2 C o1) (rC2 C o2) (tEv C ca) (tEv C cb) (tEv C cc))) : PE X (.Compare a [op, op'] [b, c] pos) (tEv C (.chain o1 o2 ca cb cc)) := by
  refine peImp hp fun σ H Q ⟨ρ, S, ι, hE, hS, h⟩ => ?_
  unfold evE at h
  refine tEv2 (f := fun x y S => (Res.ofO (cop o1 (res S x) (res S y)) S).bind fun k S => if k = true then (evE C.φ C.G cc ρ S).bind fun z S => Res.ofO ((cop o2 (res S y) (res S z)).map PV.bool) S else .ok (PV.bool false) S) hE hS h fun v w S2 x y ι2 H2 e s2 r1 r2 h2 => ?_
  refine chain_post (g := fun u S => .ok u S) (hE.ext e) s2 r1 r2 (by
    refine Eq.mp (congrArg (fun z => PostG (Rep C.K) C σ ι2 H2 z fun _ _ x _ H' => Q x H') ?_) h2
    generalize ((Res.ofO (cop o1 (res S2 v) (res S2 w)) S2).bind fun k S => if k = true then (evE C.φ C.G cc ρ S).bind fun z S => Res.ofO ((cop o2 (res S w) (res S z)).map PV.bool) S else .ok (PV.bool false) S) = r0
    cases r0 <;> rfl) fun u S z ι H s r h _ => post_at h s r
theorem pmt_chain {a b c : Expr} {ca cb cc : Ex} {op op' : CmpOp} {pos : Pos} {o1 o2 : Cop} (ho : OpR X (compareOp op) (rC2 C o1)) (ho' : OpR X (compareOp op') (rC2 C o2)) (ha : PE X a (tEv C ca)) (hb : PE X b (tEv C cb)) (hc : PE X c (tEv C cc))
    (hp : PT X (.Compare a [op, op'] [b, c] pos) (tTest (tChain (rC2 C o1) (rC2 C o2) (tEv C ca) (tEv C cb) (tEv C cc)))) : PT X (.Compare a [op, op'] [b, c] pos) (tTru C (.chain o1 o2 ca cb cc)) := by
  refine ptImp hp fun σ H Q ⟨ρ, S, ι, hE, hS, h⟩ => ?_
  unfold evE at h
  simp only [Res.bind_assoc] at h
  refine tEv2 (f := fun x y S => (Res.ofO (cop o1 (res S x) (res S y)) S).bind fun k S => (if k = true then (evE C.φ C.G cc ρ S).bind fun z S => Res.ofO ((cop o2 (res S y) (res S z)).map PV.bool) S else .ok (PV.bool false) S).bind fun v S => truthR S v) hE hS h fun v w S2 x y ι2 H2 e s2 r1 r2 h2 => ?_
  refine chain_post (g := fun u S => truthR S u) (hE.ext e) s2 r1 r2 (by rw [Res.bind_assoc]; exact h2) fun u S z ι H s r h ⟨b, e⟩ => ?_
  subst e
  cases r
  exact ⟨b, rfl, h b H ι (Ext.refl _ _) s rfl⟩

theorem pm_var {i : Nat} {x : Str} {pos : Pos} (hN : X.N[i]? = some x) (hv : Vis X.env.scope x) (hd : (x == ("__debug__" : Str)) = false) (hcd : (x == ("__classdict__" : Str)) = false) : PE X (.Name x pos) (tEv C (.var i)) := by
  refine peImp (pe_var hN hv hd hcd) fun σ H Q ⟨ρ, S, ι, hE, hS, h⟩ => ?_
  unfold evE at h
  cases e : ρ[i]? with
  | none => rw [e] at h; exact (show False from h).elim
  | some o =>
    rw [e] at h
    cases o with
    | none => exact (show False from h).elim
    | some u =>
      obtain ⟨v, h1, h2⟩ := hE.at_ i u e
      exact ⟨v, h1, post_at h hS h2⟩
theorem pm_val {e : Expr} {v : V} {u : PV} (hp : PE X e (tC v)) (hr : ∀ ι H, Rep C.K ι H v u) : PE X e (tEv C (.cst u)) :=
  peImp hp fun σ H Q ⟨ρ, S, ι, hE, hS, h⟩ => post_at (u := u) (by unfold evE at h; exact h) hS (hr ι H)
theorem pm_glo {x : Str} {g : Nat} {v : V} {u : Value} {w : PV} {pos : Pos} (hg : Gl X x) (hm : X.mg x = some u) (r : RelV v u) (hG : C.G[g]? = some w) (hr : ∀ ι H, Rep C.K ι H v w) (hd : (x == ("__debug__" : Str)) = false) : PE X (.Name x pos) (tEv C (.glo g)) :=
  peImp (pe_glob hg hm r hd) fun σ H Q ⟨ρ, S, ι, hE, hS, h⟩ => post_at (u := w) (by
    unfold evE at h
    rw [hG] at h
    exact h) hS (hr ι H)
theorem pm_neg {a : Expr} {ca : Ex} {pos : Pos} (ha : PE X a (tEv C ca)) : PE X (.UnaryOp .USub a pos) (tEv C (.neg ca)) := by
  refine peImp (pe_un un_neg ha) fun σ H Q ⟨ρ, S, ι, hE, hS, h⟩ => ?_
  unfold evE at h
  refine tEv1 hE hS h fun v S2 x ι2 H2 _ s2 r h2 => ?_
  cases r with
  | int i => exact ⟨i, rfl, post_at h2 s2 (.int _)⟩
  | _ => exact (show False from h2).elim

theorem evEs_length {φ : Calls} {G : List PV} : ∀ {cs : List Ex} {ρ : Env} {S S' : Store} {vs : List PV}, evEs φ G cs ρ S = .ok vs S' → vs.length = cs.length
  | [], ρ, S, S', vs, h => by unfold evEs at h; cases h; rfl
  | c :: cs, ρ, S, S', vs, h => by
    unfold evEs at h
    cases e : evE φ G c ρ S with
    | ok v S1 =>
      rw [e] at h
      have h : ((evEs φ G cs ρ S1).map (v :: ·)) = .ok vs S' := h
      cases e2 : evEs φ G cs ρ S1 with
      | ok us S2 =>
        rw [e2] at h
        have h : Res.ok (v :: us) S2 = .ok vs S' := h
        cases h
        simp [evEs_length e2]
      | exc x S2 => rw [e2] at h; cases h
      | stuck => rw [e2] at h; cases h
    | exc x S1 => rw [e] at h; cases h
    | stuck => rw [e] at h; cases h
theorem pma_nil : PA X [] (tEvs C []) := paImp pa_nil fun σ H Q ⟨ρ, S, ι, hE, hS, h⟩ => by
  unfold evEs at h
  exact h [] H ι (Ext.refl _ _) hS .nil
theorem pma_cons {e : Expr} {es : List Expr} {c : Ex} {cs : List Ex} (ha : PE X e (tEv C c)) (hr : PA X es (tEvs C cs)) (hs : starEach (e :: es) X.env = (false, eval e X.env) :: starEach es X.env) : PA X (e :: es) (tEvs C (c :: cs)) := by
  refine paImp (pa_cons ha hr hs) fun σ H Q ⟨ρ, S, ι, hE, hS, h⟩ => ?_
  unfold evEs at h
  refine tEv1 hE hS h fun v S2 x ι2 H2 e2 s2 r h2 => ⟨ρ, S2, ι2, hE.ext e2, s2, ?_⟩
  have h3 := PostG.bind (rep := RepL C.K) (rep2 := RepL C.K) (r := evEs C.φ C.G cs ρ S2) (f := fun us S => .ok (v :: us) S) h2
  exact h3.mono fun us S3 xs ι3 H3 e3 s3 r3 h4 => h4 (x :: xs) H3 ι3 (Ext.refl _ _) s3 (.cons (r.ext e3) r3)
/-- arguments, then something -/
theorem tEvs1 {cs : List Ex} {ρ : Env} {α β : Type} {rep : List Addr → Hp → β → α → Prop} {f : List PV → Store → Res α} {k : α → Store → β → List Addr → Hp → Prop} {R : List V → Hp → Prop}
    (hE : EnvOk C.K ι H σ ρ) (hS : StOk C.K ι H S) (h : PostG rep C σ ι H ((evEs C.φ C.G cs ρ S).bind f) k)
    (hR : ∀ vs S2 xs ι2 H2, vs.length = cs.length → Ext ι H ι2 H2 → StOk C.K ι2 H2 S2 → RepL C.K ι2 H2 xs vs → PostG rep C σ ι2 H2 (f vs S2) k → R xs H2) : tEvs C cs σ H fun x H1 => R x H1 := by
  refine ⟨ρ, S, ι, hE, hS, ?_⟩
  have h1 := PostG.bind (rep := RepL C.K) h
  cases e : evEs C.φ C.G cs ρ S with
  | ok vs S2 =>
    rw [e] at h1
    exact fun x H2 ι2 e2 s2 r => hR vs S2 x ι2 H2 (evEs_length e) e2 s2 r (h1 x H2 ι2 e2 s2 r)
  | exc x S2 => rw [e] at h1; exact h1
  | stuck => rw [e] at h1; exact h1
theorem pm_tup {es : List Expr} {cs : List Ex} {k : Nat} {pos : Pos} (h : PA X es (tEvs C cs)) (hl : cs.length ≤ 1000) : PE X (.Tuple es k pos) (tEv C (.tup cs)) := by
  refine peImp (pe_tup h) fun σ H Q ⟨ρ, S, ι, hE, hS, h⟩ => ?_
  unfold evE at h
  exact tEvs1 (f := fun vs S => .ok (PV.tup vs) S) hE hS h fun vs S2 xs ι2 H2 l _ s2 r h2 => ⟨by rw [r.length, l, sizeLine_eq]; omega, post_tup h2 s2 r⟩
theorem pm_lst {es : List Expr} {cs : List Ex} {pos : Pos} (h : PA X es (tEvs C cs)) (hl : cs.length ≤ 1000) : PE X (.List es pos) (tEv C (.lst cs)) := by
  refine peImp (pe_lst h) fun σ H Q ⟨ρ, S, ι, hE, hS, h⟩ => ?_
  unfold evE at h
  exact tEvs1 (f := fun vs S => .ok (PV.list vs) S) hE hS h fun vs S2 xs ι2 H2 l _ s2 r h2 => ⟨by rw [r.length, l, sizeLine_eq]; omega, post_lst h2 s2 r⟩
end
end Bt
end
section
set_option maxHeartbeats 1000000
namespace Bt
open PySem L2
open PyProof.Rows hiding St
section
variable {X : Cx} {C : Cc} {σ : St} {ι : List Addr} {H : Hp} {S : Store} {Q : VK}
theorem atI_place {α : Type} (xs : List α) (i : Int) : atI xs i = (place xs.length i).bind (xs[·]?) := rfl
def rIx1 (C : Cc) : R2 := fun x y H Q => ∃ σ S ι v w, StOk C.K ι H S ∧ Rep C.K ι H x v ∧ Rep C.K ι H y w ∧ PostV C σ ι H (Res.ofO (item (res S v) w) S) Q
theorem ixD : X.A.units + 1 < cLine → IxR X (fun x y H Q => ∃ a v, x = .ref a ∧ DGet H a y (some v) ∧ Q v H) := by
  intro hu value slice pins s σ H x y v u Q I rx ry ⟨a, w, e, g, q⟩ hs
  subst e
  cases (show v = .ref a from rx)
  exact tail_any (dict_typeIs I g) PySem.F.slot_dict_getitem.lookup (d_getItem (by simpa using hu) I g ry fun w' s3 I3 rw' => ⟨w, H, I3, rw', q⟩) hs
theorem strOk_sign {z : Str} {c : Nat} (h : PyData.strOk z = true) (m : c ∈ z.cps.toList) : PyData.strOk ⟨#[c]⟩ = true := by
  unfold PyData.strOk at *
  rw [Array.all_eq_true_iff_forall_mem] at h
  have := h c (by simpa using m)
  simpa using this
theorem ixP (hK : C.K.K = X.K) (hu : X.A.units + 64 < cLine) : IxR X (rIx1 C) := by
  intro value slice pins s σ0 H x y v u Q I rx ry ⟨σ, S, ι, a, w, hS, r1, r2, h⟩ hs
  have v1 := r1.view hS
  generalize ea : res S a = a' at v1 h
  cases a' with
  | tup xs =>
    obtain ⟨p, vs, e1, q1, l1⟩ := v1
    cases r2 with
    | int i =>
      cases e : (place xs.length i).bind (xs[·]?) with
      | none =>
        have h' : PostV C σ ι H (Res.ofO ((place xs.length i).bind (xs[·]?)) S) Q := h
        rw [e] at h'
        exact (show False from h').elim
      | some z =>
        have h' : PostV C σ ι H (Res.ofO ((place xs.length i).bind (xs[·]?)) S) Q := h
        rw [e] at h'
        obtain ⟨n, e2, e3⟩ := Option.bind_eq_some_iff.mp e
        obtain ⟨zv, e4, r4⟩ := l1.get e3
        rw [hK] at q1
        exact ix_tup value slice pins s σ0 H x _ v u Q I rx ry ⟨p, vs, i, zv, e1, rfl, q1, by rw [atI_place, l1.length, e2]; exact e4, post_at h' hS r4⟩ hs
    | _ => exact (show False from h).elim
  | list xs =>
    obtain ⟨p, vs, e1, q1, l1⟩ := v1
    cases r2 with
    | int i =>
      have h' : PostV C σ ι H (Res.ofO ((place xs.length i).bind (xs[·]?)) S) Q := h
      cases e : (place xs.length i).bind (xs[·]?) with
      | none =>
        rw [e] at h'
        exact (show False from h').elim
      | some z =>
        rw [e] at h'
        obtain ⟨n, e2, e3⟩ := Option.bind_eq_some_iff.mp e
        obtain ⟨zv, e4, r4⟩ := l1.get e3
        exact ix_list value slice pins s σ0 H x _ v u Q I rx ry ⟨p, vs, i, zv, e1, rfl, .inl q1, by rw [atI_place, l1.length, e2]; exact e4, post_at h' hS r4⟩ hs
    | _ => exact (show False from h).elim
  | scr ns =>
    obtain ⟨p, e1, q1⟩ := v1
    cases r2 with
    | int i =>
      have h' : PostV C σ ι H (Res.ofO ((place ns.length i).bind fun n => (ns[n]?).map .int) S) Q := h
      cases e : (place ns.length i).bind fun n => (ns[n]?).map PV.int with
      | none =>
        rw [e] at h'
        exact (show False from h').elim
      | some z =>
        rw [e] at h'
        obtain ⟨n, e2, e3⟩ := Option.bind_eq_some_iff.mp e
        obtain ⟨j, e4, rfl⟩ := Option.map_eq_some_iff.mp e3
        rw [hK] at q1
        exact ix_list value slice pins s σ0 H x _ v u Q I rx ry ⟨p, _, i, .int j, e1, rfl, q1, by rw [atI_place, List.length_map, e2]; show (ns.map V.int)[n]? = _; rw [List.getElem?_map, e4]; rfl, post_at h' hS (.int j)⟩ hs
    | _ => exact (show False from h).elim
  | str z =>
    obtain ⟨e1, l1, o1⟩ := v1
    cases r2 with
    | int i =>
      have h' : PostV C σ ι H (Res.ofO (if z.length ≤ sizeLine then (place z.cps.toList.length i).bind fun n => (z.cps.toList[n]?).map fun c => .str ⟨#[c]⟩ else none) S) Q := h
      rw [if_pos l1] at h'
      cases e : (place z.cps.toList.length i).bind fun n => (z.cps.toList[n]?).map fun c => PV.str ⟨#[c]⟩ with
      | none =>
        rw [e] at h'
        exact (show False from h').elim
      | some q =>
        rw [e] at h'
        obtain ⟨n, e2, e3⟩ := Option.bind_eq_some_iff.mp e
        obtain ⟨c, e4, rfl⟩ := Option.map_eq_some_iff.mp e3
        exact ix_str value slice pins s σ0 H x _ v u Q I rx ry ⟨z, i, c, e1, rfl, l1, by rw [atI_place, e2]; exact e4, post_at h' hS (.str _ (by show 1 ≤ sizeLine; rw [sizeLine_eq]; decide) (strOk_sign o1 (List.mem_of_getElem? e4)))⟩ hs
    | _ => exact (show False from h).elim
  | dict kvs =>
    obtain ⟨p, es, e1, q1, l1⟩ := v1
    have h' : PostV C σ ι H (Res.ofO (if isKey w then dget kvs w else none) S) Q := h
    by_cases hk : isKey w = true
    · rw [if_pos hk] at h'
      obtain ⟨k, rfl, rfl⟩ := key_of r2 hk
      rcases l1.get (k := k) with ⟨z1, z2⟩ | ⟨v', x', z1, z2, z3⟩
      · rw [z2] at h'
        exact (show False from h').elim
      · rw [z2] at h'
        exact ixD (by omega) value slice pins s σ0 H x _ v u Q I rx ry ⟨p, v', e1, .inl ⟨es, k, q1, rfl, z1.symm⟩, post_at h' hS z3⟩ hs
    · rw [if_neg hk] at h'
      exact (show False from h').elim
  | _ => exact (show False from h).elim
theorem pm_ix {a b : Expr} {ca cb : Ex} {pos : Pos} (hK : C.K.K = X.K) (hu : X.A.units + 64 < cLine) (ha : PE X a (tEv C ca)) (hb : PE X b (tEv C cb)) (hs : PlainIx b) : PE X (.Subscript a b pos) (tEv C (.ix ca cb)) := by
  refine peImp (pe_ix (ixP hK hu) ha hb hs) fun σ H Q ⟨ρ, S, ι, hE, hS, h⟩ => ?_
  unfold evE at h
  exact tEv2 hE hS h fun v w S2 x y ι2 H2 _ s2 r1 r2 h2 => ⟨σ, S2, ι2, v, w, s2, r1, r2, h2⟩

theorem edge_sIx (n d : Nat) (o : Option Int) : edge n d o = HT.sIx n d o := by cases o <;> rfl
theorem RepL.cut {K : Kb} {vs : List V} {xs : List PV} (h : RepL K ι H vs xs) (lo hi : Option Int) : RepL K ι H (cutV vs lo hi) (cut xs lo hi) := by
  unfold cutV Bt.cut
  rw [edge_sIx, edge_sIx, h.length]
  exact (h.drop _).take _
theorem cut_whole {xs : List PV} {lo hi : Option Int} (h : HT.sIx xs.length 0 lo = 0 ∧ HT.sIx xs.length xs.length hi = xs.length) : cut xs lo hi = xs := by
  unfold cut
  rw [edge_sIx, edge_sIx, h.1, h.2]
  simp
theorem strOk_of {z : Str} {l : List Nat} (h : PyData.strOk z = true) (m : ∀ c ∈ l, c ∈ z.cps.toList) : PyData.strOk ⟨l.toArray⟩ = true := by
  unfold PyData.strOk at *
  rw [Array.all_eq_true_iff_forall_mem] at *
  intro c hc
  exact h c (by simpa using m c (by simpa using hc))
def rSl1 (C : Cc) : V → Option Int → Option Int → Hp → VK → Prop := fun x lo hi H Q => ∃ σ S ι v, StOk C.K ι H S ∧ Rep C.K ι H x v ∧ PostV C σ ι H (Res.ofO (slice (res S v) lo hi) S) Q
theorem slP (hK : C.K.K = X.K) : SlR X (rSl1 C) := by
  intro pins s σ0 H x v vl vu lo hi sl Q I rx hs pl pu ⟨σ, S, ι, a, hS, r1, h⟩
  have v1 := r1.view hS
  have t1 := fun xs => res_tup (S := S) (a := a) (xs := xs)
  generalize ea : res S a = a' at v1 h t1
  cases a' with
  | tup xs =>
    obtain ⟨p, vs, e1, q1, l1⟩ := v1
    rw [hK] at q1
    refine sl_tupA pins s σ0 H x v vl vu lo hi sl Q I rx hs pl pu ⟨p, vs, e1, q1, fun e => ?_, fun _ => post_tup h hS (l1.cut lo hi)⟩
    have e2 := t1 xs rfl
    subst e2
    rw [l1.length] at e
    have h' : PostV C σ ι H (.ok (.tup (cut xs lo hi)) S) Q := h
    rw [cut_whole e] at h'
    rw [← e1]
    exact post_at h' hS r1
  | list xs =>
    obtain ⟨p, vs, e1, q1, l1⟩ := v1
    exact sl_list pins s σ0 H x v vl vu lo hi sl Q I rx hs pl pu ⟨p, vs, e1, .inl q1, post_lst h hS (l1.cut lo hi)⟩
  | str z =>
    obtain ⟨e1, l1, o1⟩ := v1
    refine sl_str pins s σ0 H x v vl vu lo hi sl Q I rx hs pl pu ⟨z, e1, l1, ?_⟩
    have e3 : cutS z lo hi = ⟨(cut z.cps.toList lo hi).toArray⟩ := by
      unfold cutS cut
      rw [edge_sIx, edge_sIx]
      have : z.cps.toList.length = z.length := by simp [Str.length]
      rw [this]
    rw [e3]
    have m : ∀ c ∈ cut z.cps.toList lo hi, c ∈ z.cps.toList := fun c hc => List.mem_of_mem_drop (List.mem_of_mem_take hc)
    refine post_at h hS (.str _ ?_ (strOk_of o1 m))
    refine Nat.le_trans ?_ l1
    show (cut z.cps.toList lo hi).toArray.size ≤ z.cps.size
    unfold cut
    simp
    omega
  | _ => exact (show False from h).elim
/-- a part of a slice -/
def tPt (C : Cc) : Option Ex → St → Hp → (Option Int → Hp → Prop) → Prop
  | none => tNoPart
  | some c => tPart (tEv C c)
theorem tPt1 {c : Option Ex} {ρ : Env} {α β : Type} {rep : List Addr → Hp → β → α → Prop} {f : PV → Store → Res α} {k : α → Store → β → List Addr → Hp → Prop} {R : Option Int → Hp → Prop}
    (hE : EnvOk C.K ι H σ ρ) (hS : StOk C.K ι H S) (h : PostG rep C σ ι H ((evO C.φ C.G c ρ S).bind f) k)
    (hR : ∀ v o S2 ι2 H2, part v = some o → Ext ι H ι2 H2 → StOk C.K ι2 H2 S2 → PostG rep C σ ι2 H2 (f v S2) k → R o H2) : tPt C c σ H R := by
  cases c with
  | none => exact hR .none none S ι H rfl (Ext.refl _ _) hS (by unfold evO at h; exact h)
  | some c =>
    unfold evO at h
    rw [Res.bind_assoc] at h
    refine tEv1 hE hS h fun v S2 x ι2 H2 e2 s2 r h2 => ?_
    cases r with
    | int i => exact ⟨i, rfl, hR (.int i) (some i) S2 ι2 H2 rfl e2 s2 h2⟩
    | _ => exact (show False from h2).elim
theorem pm_sl {a : Expr} {lo hi : Option Expr} {ca : Ex} {cl ch : Option Ex} {p2 pos : Pos} (hK : C.K.K = X.K) (ha : PE X a (tEv C ca)) (hl : PO X lo (tPt C cl)) (hh : PO X hi (tPt C ch)) : PE X (.Subscript a (.Slice lo hi none p2) pos) (tEv C (.sl ca cl ch)) := by
  refine peImp (pe_slice (slP hK) ha hl hh) fun σ H Q ⟨ρ, S, ι, hE, hS, h⟩ => ?_
  unfold evE at h
  refine tEv1 hE hS h fun v S2 x ι2 H2 e2 s2 r h2 => ?_
  refine tPt1 (hE.ext e2) s2 h2 fun l lo S3 ι3 H3 el e3 s3 h3 => ?_
  refine tPt1 ((hE.ext e2).ext e3) s3 h3 fun u hi S4 ι4 H4 eu e4 s4 h4 => ?_
  refine ⟨σ, S4, ι4, v, s4, (r.ext e3).ext e4, ?_⟩
  rw [el, eu] at h4
  exact h4
theorem pmo_some {e : Expr} {c : Ex} (h : PE X e (tEv C c)) : PO X (some e) (tPt C (some c)) := po_some h
section
variable {prog : Program} {w : World} {A : Around} {E : Value → Shared → Prop} {s : Shared}
theorem sliceApplied_rev {sl : Addr} {vl vu vs : Value} {n : Nat} {Q : Int × Int × Nat → Shared → Prop} (hs : s.heap.IsSliceOf sl vl vu vs) (pl : IsPart vl none) (pu : IsPart vu none) (ps : IsPart vs (some (-1)))
    (h : Q ((n : Int) - 1, -1, n) s) : wpAny (model prog w) A (Builtin.Slice.sliceApplied (.ref sl) (pure (n : Int))) Q E s := by
  obtain ⟨os, hos, hcs, hds⟩ := id hs
  unfold Builtin.Slice.sliceApplied Builtin.Slice.sliceFields
  refine wpAny_bind (wpAny_bind (wpAny_field hos hds (x := vl) rfl (wpAny_bind (wpAny_field hos hds (x := vu) rfl (wpAny_bind (wpAny_field hos hds (x := vs) rfl (wpAny_pure ?_)))))))
  refine wpAny_bind (HT.slicePart_ ps ?_)
  show wpAny _ _ (if ((-1 : Int) == 0) = true then _ else _) _ _ s
  rw [if_neg (by decide)]
  refine wpAny_bind (HT.slicePart_ pl (wpAny_bind (HT.slicePart_ pu (wpAny_bind (wpAny_pure ?_)))))
  show wpAny _ _ (match Builtin.Slice.sliceAdjust none none (-1) (n : Int) with | (lo, hi) => pure (lo, (-1 : Int), Builtin.Slice.slicePlaces lo hi (-1))) _ _ s
  have e1 : Builtin.Slice.sliceAdjust none none (-1) (n : Int) = ((n : Int) - 1, -1) := by
    unfold Builtin.Slice.sliceAdjust
    simp
  rw [e1]
  have e2 : Builtin.Slice.slicePlaces ((n : Int) - 1) (-1) (-1) = n := by
    unfold Builtin.Slice.slicePlaces
    have h1 : ¬ ((-1 : Int) > 0) := by omega
    simp only [h1, if_false]
    by_cases hn : (n : Int) - 1 > -1
    · simp
      omega
    · simp
      omega
  show wpAny _ _ (pure ((n : Int) - 1, (-1 : Int), Builtin.Slice.slicePlaces ((n : Int) - 1) (-1) (-1))) _ _ s
  rw [e2]
  exact wpAny_pure h
theorem pick_rev (xs : Array Value) : ((List.range xs.size).filterMap fun (m : Nat) => xs[(((xs.size : Int) - 1) + (m : Int) * (-1)).toNat]?).toArray = xs.toList.reverse.toArray := by
  congr 1
  apply List.ext_getElem?
  intro i
  have e : ∀ m ∈ List.range xs.size, xs[(((xs.size : Int) - 1) + (m : Int) * (-1)).toNat]? = some (xs.getD (xs.size - 1 - m) .none) := fun m hm => by
    have hm := List.mem_range.mp hm
    have e1 : (((xs.size : Int) - 1) + (m : Int) * (-1)).toNat = xs.size - 1 - m := by omega
    rw [e1]
    have : xs.size - 1 - m < xs.size := by omega
    simp [this, Array.getD]
  have e2 : ((List.range xs.size).filterMap fun (m : Nat) => xs[(((xs.size : Int) - 1) + (m : Int) * (-1)).toNat]?) = (List.range xs.size).map fun m => xs.getD (xs.size - 1 - m) .none := by
    have gen : ∀ (l : List Nat) (f : Nat → Option Value) (g : Nat → Value), (∀ m ∈ l, f m = some (g m)) → l.filterMap f = l.map g := fun l => by
      induction l with
      | nil => intro _ _ _; rfl
      | cons a l ih => intro f g h; rw [List.filterMap_cons, h a (List.mem_cons_self), List.map_cons, ih f g fun m hm => h m (List.mem_cons_of_mem _ hm)]
    exact gen _ _ _ e
  rw [e2]
  by_cases hi : i < xs.size
  · have : xs.size - 1 - i < xs.size := by omega
    simp [List.getElem?_reverse, hi, Array.getD, this]
  · simp [hi]
theorem getItem_tuple_rev {t sl : Addr} {items : Array Value} {vl vu vs : Value} {Q : Value → Shared → Prop} (ht : IsTup s.heap t items) (hs : s.heap.IsSliceOf sl vl vu vs) (pl : IsPart vl none) (pu : IsPart vu none) (ps : IsPart vs (some (-1)))
    (h : Q (.ref s.heap.objs.size) { s with heap := s.heap.push { cls := .type "tuple", data := .seq items.toList.reverse.toArray } }) (hsz : items.size ≤ sizeLine) : wpAny (model prog w) A (getItem (.ref t) (.ref sl)) Q E s := by
  have htake : sizeOk (.seq items.toList.reverse.toArray) := by
    show items.toList.reverse.toArray.size ≤ sizeLine
    simpa using hsz
  obtain ⟨os, hos, hcs, hds⟩ := id hs
  have hTs : s.TypeIs (.ref sl) "slice" := ⟨os, hos, hcs⟩
  unfold getItem
  try with_reducible refine wpAny_holding ?_
  first | refine wpAny_bind (wpAny_pure ?_) | skip
  refine wpAny_bind (wpAny_sequenceKey ht.typeIs (by decide) ?_)
  refine wpAny_bind (wpAny_callSpecial?_slot (name := Str.ofString "__getitem__") ht.typeIs PyProof.Rows.slot_tuple_getitem
    (wpAny_call_entry PyProof.Rows.slot_tuple_getitem ht.typeIs entry_tuple_getitem ?_ (args_tuple_getitem _ _)))
  show wpAny _ _ (Builtin.Tuple.tupleItemsOf (.ref t) >>= _) _ _ s
  refine wpAny_bind (tupleItemsOf_ ht ?_)
  refine wpAny_bind (wpAny_typeOf hTs ?_)
  rw [if_pos (by decide)]
  refine wpAny_bind (sliceApplied_rev hs pl pu ps ?_)
  have hno : ¬ ((((items.size : Int) - 1) == 0 && (-1 : Int) == 1 && items.size == items.size) = true) := by
    intro q
    rw [Bool.and_eq_true, Bool.and_eq_true] at q
    exact absurd q.1.2 (by decide)
  show wpAny _ _ (if (((items.size : Int) - 1) == 0 && (-1 : Int) == 1 && items.size == items.size) = true then _ else _) _ _ s
  rw [if_neg hno, pick_rev]
  first
    | exact wpAny_bind (m := Builtin.Tuple.tupleExact _) (wpAny_newObj_type (wpAny_pure ⟨_, rfl, wpAny_pure h⟩) htake)
    | exact wpAny_bind (m := Builtin.Tuple.tupleExact _) (wpAny_newObj_type (wpAny_bind (wpAny_pure (wpAny_pure ⟨_, rfl, wpAny_pure h⟩))) htake)
    | exact wpAny_bind (wpAny_bind (m := Builtin.Tuple.tupleExact _) (wpAny_newObj_type (wpAny_pure (wpAny_pure ⟨_, rfl, wpAny_pure h⟩)) htake))
    | exact wpAny_bind (wpAny_bind (m := Builtin.Tuple.tupleExact _) (wpAny_newObj_type (wpAny_pure ⟨_, rfl, wpAny_pure h⟩) htake))
end
theorem pe_revA {e : Expr} {te : TE} {k : Nat} {p1 p2 p3 pos : Pos} (he : PE X e te) : PE X (.Subscript e (.Slice none none (some (.UnaryOp .USub (.Constant (.int 1) k p1) p2)) p3) pos) (fun σ H Q => te σ H fun x H1 =>
      (∃ a xs, x = .ref a ∧ SqL X.K H1 a xs ∧ ∀ p, H1 p = none → Q (.ref p) (upd H1 p (.lst xs.reverse))) ∨ (∃ a xs, x = .ref a ∧ SqT X.K H1 a xs ∧ ∀ p, H1 p = none → Q (.ref p) (upd H1 p (.tup xs.reverse)))) := by
  refine ⟨fun pins s σ H Q I h => ?_⟩
  refine Subscript_ (thn (he.run pins s σ H _ I h) fun v s1 ⟨x, H1, I1, r1, q1⟩ => ?_)
  have hst : PO X (some (.UnaryOp .USub (.Constant (.int 1) k p1) p2)) (tPart (tUn (rU fun i => .int (-i)) (tC (.int 1)))) := po_some (pe_un un_neg pe_int)
  refine wpAny_Slice (thn (po_none.run pins s1 σ H1 (fun o H2 => o = none ∧ H2 = H1) I1 ⟨rfl, rfl⟩) fun vl s2 ⟨l, H2, I2, pl, el, e2⟩ => ?_)
  subst el e2
  refine thn (po_none.run pins s2 σ H2 (fun o H3 => o = none ∧ H3 = H2) I2 ⟨rfl, rfl⟩) fun vu s3 ⟨u, H3, I3, pu, eu, e3⟩ => ?_
  subst eu e3
  refine thn (hst.run pins s3 σ H3 (fun o H4 => o = some (-1) ∧ H4 = H3) I3 ⟨1, rfl, -1, rfl, rfl, rfl⟩) fun vs s4 ⟨o, H4, I4, ps, eo, e4⟩ => ?_
  subst eo e4
  have I5 : Inv X pins σ H4 { s4 with heap := s4.heap.push { cls := .type "slice", data := .fields #[vl, vu, vs] } } := I4.kept (t' := s4.toks) fun b ob q => Heap.get?_push_of_some _ q
  rcases q1 with ⟨a, xs, ex, hx, q⟩ | ⟨a, xs, ex, hx, q⟩
  · subst ex
    cases r1
    obtain ⟨its, r, ht, hz⟩ := I5.list hx
    have hlen := r.length
    show wpAny (model X.prog X.w) X.A (subscriptTail e (.Slice none none (some (.UnaryOp .USub (.Constant (.int 1) k p1) p2)) p3) (.ref a) (.ref s4.heap.objs.size)) (EP X pins σ Q) X.xe { s4 with heap := s4.heap.push { cls := .type "slice", data := .fields #[vl, vu, vs] } }
    refine tail_any (ops := [.ref a, .ref s4.heap.objs.size]) ht.isList.typeIs (PySem.slot_list_getitem.lookup) ?_ (by with_unfolding_all rfl)
    refine wpAny_getItem_list_slice ht.isList (Heap.IsSliceOf.new _ vl vu vs) pl pu ps (by decide) ?_ (by rw [List.size_toArray]; omega)
    rw [PySem.W.krv_pick]
    refine ⟨.ref _, _, I5.laid (t' := s4.toks) (o := .lst xs.reverse) (fun b ob q => Heap.get?_push_of_some _ q) (Nat.le_refl _) ?_, rfl, q _ (I5.hok.fresh (Nat.le_refl _))⟩
    exact ⟨by rw [List.length_reverse]; exact hz, _, 0, r.reverse, Heap.get?_push_size _ rfl⟩
  · subst ex
    cases r1
    obtain ⟨its, r, ht, hz⟩ := I5.tuple hx
    have hlen := r.length
    show wpAny (model X.prog X.w) X.A (subscriptTail e (.Slice none none (some (.UnaryOp .USub (.Constant (.int 1) k p1) p2)) p3) (.ref a) (.ref s4.heap.objs.size)) (EP X pins σ Q) X.xe { s4 with heap := s4.heap.push { cls := .type "slice", data := .fields #[vl, vu, vs] } }
    refine tail_any (ops := [.ref a, .ref s4.heap.objs.size]) ht.typeIs PyProof.Rows.slot_tuple_getitem.lookup ?_ (by with_unfolding_all rfl)
    refine getItem_tuple_rev ht (Heap.IsSliceOf.new _ vl vu vs) pl pu ps ?_ (by rw [List.size_toArray]; omega)
    refine ⟨.ref _, _, I5.laid (t' := s4.toks) (o := .tup xs.reverse) (fun b ob q => Heap.get?_push_of_some _ q) (Nat.le_refl _) ?_, rfl, q _ (I5.hok.fresh (Nat.le_refl _))⟩
    exact ⟨by rw [List.length_reverse]; exact hz, _, r.reverse, ⟨_, Heap.get?_push_size _ rfl, rfl, _, rfl⟩⟩
theorem pm_rev {a : Expr} {ca : Ex} {k : Nat} {p1 p2 p3 pos : Pos} (hK : C.K.K = X.K) (ha : PE X a (tEv C ca)) : PE X (.Subscript a (.Slice none none (some (.UnaryOp .USub (.Constant (.int 1) k p1) p2)) p3) pos) (tEv C (.rev ca)) := by
  refine peImp (pe_revA ha) fun σ H Q ⟨ρ, S, ι, hE, hS, h⟩ => ?_
  unfold evE at h
  refine tEv1 hE hS h fun v S2 x ι2 H2 e2 s2 r h2 => ?_
  have v1 := r.view s2
  generalize res S2 v = v' at v1 h2
  cases v' with
  | list xs =>
    obtain ⟨p, vs, e1, q1, l1⟩ := v1
    exact .inl ⟨p, vs, e1, .inl q1, post_lst h2 s2 l1.reverse⟩
  | tup xs =>
    obtain ⟨p, vs, e1, q1, l1⟩ := v1
    rw [hK] at q1
    exact .inr ⟨p, vs, e1, q1, post_tup h2 s2 l1.reverse⟩
  | _ => exact (show False from h2).elim
end
end Bt
end
section
set_option maxHeartbeats 1000000
namespace Bt
open PySem L2
open PyProof.Rows hiding St
def isStar : Expr → Bool
  | .Starred .. => true
  | _ => false
theorem star_plain {e : Expr} {es : List Expr} {env : PySem.Env} (h : isStar e = false) : starEach (e :: es) env = (false, eval e env) :: starEach es env := by
  cases e <;> first | rfl | cases h
def noStar (es : List Expr) : Bool := es.all fun e => !isStar e
theorem noStar_cons {e : Expr} {es : List Expr} (h : noStar (e :: es) = true) : isStar e = false ∧ noStar es = true := by
  unfold noStar at h
  rw [List.all_cons, Bool.and_eq_true] at h
  exact ⟨by simpa using h.1, h.2⟩
theorem back_plain {pos : Pos} {env : PySem.Env} : ∀ {es : List Expr}, noStar es = true → (backTo pos (starEach es env)).any (·.1) = false
  | [], _ => rfl
  | e :: es, h => by
    obtain ⟨h1, h2⟩ := noStar_cons h
    rw [star_plain h1]
    show (false || (backTo pos (starEach es env)).any (·.1)) = false
    rw [back_plain h2]
    rfl
theorem back_all {pos : Pos} {env : PySem.Env} : ∀ {es : List Expr}, noStar es = true → (backTo pos (starEach es env)).all (fun x => !x.1) = true
  | [], _ => rfl
  | e :: es, h => by
    obtain ⟨h1, h2⟩ := noStar_cons h
    rw [star_plain h1]
    show (true && (backTo pos (starEach es env)).all _) = true
    rw [back_all h2]
    rfl
theorem back_nil {pos : Pos} {env : PySem.Env} : ∀ {es : List Expr}, noStar es = true → backTo pos (starEach es env) = starEach es env
  | [], _ => rfl
  | e :: es, h => by
    obtain ⟨h1, h2⟩ := noStar_cons h
    rw [star_plain h1]
    show (false, eval e env) :: backTo pos (starEach es env) = _
    rw [back_nil h2]
def isCall0 : Expr → Bool
  | .Call _ [] [] _ => true
  | _ => false
theorem base_plain {o : Expr} {a : Str} {env : PySem.Env} {w : Sem Value} (h : isCall0 o = false) : attributeBase o a env w = w := by
  unfold attributeBase
  split
  · simp [isCall0] at h
  · rfl
def isSlice : Expr → Bool
  | .Slice .. => true
  | _ => false
theorem plainIx {b : Expr} (h : isSlice b = false) : PlainIx b := by
  intro o i
  cases b <;> first | rfl | cases h
def isSet : Expr → Bool
  | .Set .. => true
  | _ => false
theorem marks_plain {op : CmpOp} {b : Expr} (h : isSet b = false) : behindInMarks op b = false := by
  cases b <;> first | rfl | cases h
theorem folded_plain {b : Expr} {env : PySem.Env} (h : isSet b = false) (x : Value) : foldedSetIterable b env x = pure x := by
  unfold foldedSetIterable
  cases b <;> first | rfl | cases h
section
variable {X : Cx} {C : Cc} {σ : St} {ι : List Addr} {H : Hp} {S : Store} {Q : VK}
theorem pma_cons' {e : Expr} {es : List Expr} {c : Ex} {cs : List Ex} (ha : PE X e (tEv C c)) (hr : PA X es (tEvs C cs)) (hs : isStar e = false) : PA X (e :: es) (tEvs C (c :: cs)) := pma_cons ha hr (star_plain hs)
def rB (C : Cc) (b : Bi) : List V → Hp → VK → Prop := fun xs H Q => ∃ σ S ι vs, StOk C.K ι H S ∧ RepL C.K ι H xs vs ∧ PostV C σ ι H (Res.ofO (biv b (vs.map (res S))) S) Q
theorem repL1 {K : Kb} {xs : List V} {v : PV} (h : RepL K ι H xs [v]) : ∃ x, xs = [x] ∧ Rep K ι H x v := by
  cases h with
  | cons r t => cases t; exact ⟨_, rfl, r⟩
theorem one_of {b : Bi} {vs : List PV} {S : Store} {z : PV} (h : biv b (vs.map (res S)) = some z) : ∃ v, vs = [v] := by
  match vs, h with
  | [], h => cases b <;> simp [biv] at h
  | [v], _ => exact ⟨v, rfl⟩
  | _ :: _ :: _, h => cases b <;> simp [biv] at h
/-- a built-in of one argument -/
theorem rB1 {b : Bi} {xs : List V} (h : rB C b xs H Q) : ∃ (σ : St) (S : Store) (ι : List Addr) (v z : PV) (x : V), xs = [x] ∧ StOk C.K ι H S ∧ Rep C.K ι H x v ∧ View C.K ι H x (res S v) ∧ biv b [res S v] = some z ∧ PostV C σ ι H (.ok z S) Q := by
  obtain ⟨σ, S, ι, vs, hS, r, h⟩ := h
  cases e : biv b (vs.map (res S)) with
  | none => rw [e] at h; exact (show False from h).elim
  | some z =>
    rw [e] at h
    obtain ⟨v, rfl⟩ := one_of e
    obtain ⟨x, rfl, rx⟩ := repL1 r
    exact ⟨σ, S, ι, v, z, x, rfl, hS, rx, rx.view hS, e, h⟩
theorem cb_len (hK : C.K.K = X.K) : CallR X (.builtin "len") (rB C .len) := by
  intro pins s σ0 H xs us Q I rv h
  obtain ⟨σ, S, ι, v, z, x, rfl, hS, rx, vw, e, h⟩ := rB1 h
  generalize res S v = w at vw e
  cases w with
  | str y => obtain ⟨rfl, l, _⟩ := vw; cases e; exact call_len pins s σ0 H _ us Q I rv ⟨_, _, rfl, ⟨l, rfl⟩, post_at h hS (.int _)⟩
  | tup ys =>
    obtain ⟨a, vs, rfl, q, r⟩ := vw; cases e
    rw [hK] at q
    exact call_len pins s σ0 H _ us Q I rv ⟨_, _, rfl, .inr ⟨vs, q, rfl⟩, by rw [r.length]; exact post_at h hS (.int _)⟩
  | list ys =>
    obtain ⟨a, vs, rfl, q, r⟩ := vw; cases e
    exact call_len pins s σ0 H _ us Q I rv ⟨_, _, rfl, .inl ⟨vs, .inl q, rfl⟩, by rw [r.length]; exact post_at h hS (.int _)⟩
  | scr ns =>
    obtain ⟨a, rfl, q⟩ := vw; cases e
    rw [hK] at q
    exact call_len pins s σ0 H _ us Q I rv ⟨_, _, rfl, .inl ⟨_, q, rfl⟩, by rw [List.length_map]; exact post_at h hS (.int _)⟩
  | dict kvs =>
    obtain ⟨a, es, rfl, q, r⟩ := vw; cases e
    rw [Vals.ref1 rv]
    exact d_len I q fun t s' I' => ⟨.int _, H, I', ⟨t, rfl⟩, by rw [r.length]; exact post_at h hS (.int _)⟩
  | _ => cases e
theorem cb_abs : CallR X (.builtin "abs") (rB C .abs) := by
  intro pins s σ0 H xs us Q I rv h
  obtain ⟨σ, S, ι, v, z, x, rfl, hS, rx, vw, e, h⟩ := rB1 h
  generalize res S v = w at vw e
  cases w with
  | int i => cases (show x = .int i from vw); cases e; exact call_abs pins s σ0 H _ us Q I rv ⟨i, rfl, post_at h hS (.int _)⟩
  | _ => cases e
theorem cb_tuple (hK : C.K.K = X.K) : CallR X (.type "tuple") (rB C .tuple) := by
  intro pins s σ0 H xs us Q I rv h
  obtain ⟨σ, S, ι, v, z, x, rfl, hS, rx, vw, e, h⟩ := rB1 h
  have t1 := fun xs => res_tup (S := S) (a := v) (xs := xs)
  generalize ew : res S v = w at vw e t1
  cases w with
  | list ys =>
    obtain ⟨a, vs, rfl, q, r⟩ := vw; cases e
    exact call_tuple_of pins s σ0 H _ us Q I rv ⟨a, vs, rfl, .inl ⟨.inl q, post_tup h hS r⟩⟩
  | tup ys =>
    have e2 := t1 ys rfl
    subst e2
    obtain ⟨a, vs, rfl, q, r⟩ := vw; cases e
    rw [hK] at q
    exact call_tuple_of pins s σ0 H _ us Q I rv ⟨a, vs, rfl, .inr ⟨q, post_at h hS rx⟩⟩
  | _ => cases e
theorem cb_list (hK : C.K.K = X.K) : CallR X (.type "list") (rB C .list) := by
  intro pins s σ0 H xs us Q I rv h
  obtain ⟨σ, S, ι, v, z, x, rfl, hS, rx, vw, e, h⟩ := rB1 h
  generalize res S v = w at vw e
  cases w with
  | list ys =>
    obtain ⟨a, vs, rfl, q, r⟩ := vw; cases e
    exact call_list_of pins s σ0 H _ us Q I rv ⟨a, vs, rfl, .inl (.inl q), post_lst h hS r⟩
  | tup ys =>
    obtain ⟨a, vs, rfl, q, r⟩ := vw; cases e
    rw [hK] at q
    exact call_list_of pins s σ0 H _ us Q I rv ⟨a, vs, rfl, .inr q, post_lst h hS r⟩
  | _ => cases e
theorem toD_tru (v : PV) (n : Nat) (h : dOk n v = true) : PyData.truthy (toD v) = tru v := by
  cases v with
  | none => rfl
  | bool b => cases b <;> rfl
  | int i => simp [toD, PyData.truthy, tru, truth]
  | str z => simp [toD, PyData.truthy, tru, truth]
  | tup xs => cases xs <;> simp [toD, toDL, PyData.truthy, tru, truth]
  | list xs => cases xs <;> simp [toD, toDL, PyData.truthy, tru, truth]
  | _ => simp [dOk] at h
theorem toDL_all : ∀ (n : Nat) (xs : List PV), dOkL n xs = true → (toDL xs).all PyData.truthy = xs.all tru ∧ (toDL xs).any PyData.truthy = xs.any tru
  | n, [], _ => ⟨rfl, rfl⟩
  | n, x :: xs, h => by
    obtain ⟨h1, h2⟩ := Bool.and_eq_true_iff.mp (show (dOk n x && dOkL n xs) = true from h)
    obtain ⟨i1, i2⟩ := toDL_all n xs h2
    show ((toD x :: toDL xs).all PyData.truthy = (x :: xs).all tru ∧ (toD x :: toDL xs).any PyData.truthy = (x :: xs).any tru)
    rw [List.all_cons, List.all_cons, List.any_cons, List.any_cons, i1, i2, toD_tru x n h1]
    exact ⟨rfl, rfl⟩
theorem toDL_len : ∀ xs : List PV, (toDL xs).length = xs.length
  | [] => rfl
  | x :: xs => by show (toD x :: toDL xs).length = _; simp [toDL_len xs]
theorem fits_rep {pins : List (Addr × Obj)} {s : Shared} {σ0 : St} (hK : C.K.K = X.K) (I : Inv X pins σ0 H s) {v : V} {x : PV} (r : Rep C.K ι H v x) : (toD x).fits63 := by
  have hz : ∀ n : Nat, n ≤ sizeLine → (n : Int) < 2 ^ 63 := fun n h => by rw [sizeLine_eq] at h; omega
  cases r with
  | str z h h' => exact hz _ h
  | tup h a t =>
    obtain ⟨its, _, _, hl⟩ := I.tuple (.inl h)
    show ((toDL _).length : Int) < 2 ^ 63
    rw [toDL_len, ← t.length]; exact hz _ hl
  | tupK h t =>
    rw [hK] at h
    obtain ⟨its, _, _, hl⟩ := I.tuple (.inr h)
    show ((toDL _).length : Int) < 2 ^ 63
    rw [toDL_len, ← t.length]; exact hz _ hl
  | list h a t =>
    obtain ⟨its, _, _, hl⟩ := I.list (.inl h)
    show ((toDL _).length : Int) < 2 ^ 63
    rw [toDL_len, ← t.length]; exact hz _ hl
  | _ => exact True.intro
theorem fits_repL {pins : List (Addr × Obj)} {s : Shared} {σ0 : St} (hK : C.K.K = X.K) (I : Inv X pins σ0 H s) : ∀ {vs : List V} {xs : List PV}, RepL C.K ι H vs xs → ∀ d ∈ toDL xs, d.fits63
  | _, _, .nil, d, m => by simp [toDL] at m
  | _, _, .cons r t, d, m => by
    rcases List.mem_cons.mp m with rfl | m
    · exact fits_rep hK I r
    · exact fits_repL hK I t d m
mutual
theorem toD_plain : ∀ (n : Nat) (v : PV), dOk n v = true → (toD v).plain = true
  | n, .none, _ => rfl
  | n, .bool b, _ => rfl
  | n, .int b, _ => rfl
  | n, .str b, _ => rfl
  | 0, .tup xs, h => by cases h
  | 0, .list xs, h => by cases h
  | n + 1, .tup xs, h => toDL_plain n xs h
  | n + 1, .list xs, h => toDL_plain n xs h
  | n, .dict _, h => by simp [dOk] at h
  | n, .ref _, h => by simp [dOk] at h
  | n, .exc _ _, h => by simp [dOk] at h
  | n, .fn _, h => by simp [dOk] at h
  | n, .scr _, h => by simp [dOk] at h
theorem toDL_plain : ∀ (n : Nat) (xs : List PV), dOkL n xs = true → PyData.plainAll (toDL xs) = true
  | n, [], _ => rfl
  | n, x :: xs, h => by
    obtain ⟨h1, h2⟩ := Bool.and_eq_true_iff.mp (show (dOk n x && dOkL n xs) = true from h)
    exact Bool.and_eq_true_iff.mpr ⟨toD_plain n x h1, toDL_plain n xs h2⟩
end
theorem cb_all (hK : C.K.K = X.K) (hc : X.calm = true) : CallR X (.builtin "all") (rB C .all) := by
  intro pins s σ0 H xs us Q I rv h
  obtain ⟨σ, S, ι, v, z, x, rfl, hS, rx, vw, e, h⟩ := rB1 h
  generalize res S v = w at vw e
  cases w with
  | list ys =>
    obtain ⟨a, vs, rfl, q, r⟩ := vw
    have e : (if dOkL 63 ys then some (PV.bool (ys.all tru)) else none) = some z := e
    by_cases hd : dOkL 63 ys = true
    · rw [if_pos hd] at e
      cases e
      obtain ⟨d1, d2, d3⟩ := Rep.dpL 63 ys vs r hd
      obtain ⟨u, us', rfl, ru, rr⟩ : ∃ u us', us = u :: us' ∧ RelV (.ref a) u ∧ Vals [] us' := by cases rv with | cons r rr => exact ⟨_, _, rfl, r, rr⟩
      cases rr
      obtain rfl : u = Value.ref a := ru
      rw [hK] at d1
      obtain ⟨its, ri, hl, _⟩ := I.list (.inl q)
      obtain ⟨as, h4⟩ := Dp.readsAll I (toDL ys) _ its d1 ri
      refine PySem.W.all_list_data (vs := its.toArray) (I.ok.hd hc) hl.isList (show ReadsAll s.heap its.toArray.toList (toDL ys) as from h4) (toDL_plain 63 ys hd) (fits_repL hK I r) fun h' tk hk => ?_
      rw [(toDL_all 63 ys hd).1]
      exact ⟨.bl _, H, I.kept (t' := tk) hk, rfl, post_at h hS (.bl _)⟩
    · rw [if_neg hd] at e
      cases e
  | _ => cases e
theorem cb_any (hK : C.K.K = X.K) (hc : X.calm = true) : CallR X (.builtin "any") (rB C .any) := by
  intro pins s σ0 H xs us Q I rv h
  obtain ⟨σ, S, ι, v, z, x, rfl, hS, rx, vw, e, h⟩ := rB1 h
  generalize res S v = w at vw e
  cases w with
  | list ys =>
    obtain ⟨a, vs, rfl, q, r⟩ := vw
    have e : (if dOkL 63 ys then some (PV.bool (ys.any tru)) else none) = some z := e
    by_cases hd : dOkL 63 ys = true
    · rw [if_pos hd] at e
      cases e
      obtain ⟨d1, d2, d3⟩ := Rep.dpL 63 ys vs r hd
      obtain ⟨u, us', rfl, ru, rr⟩ : ∃ u us', us = u :: us' ∧ RelV (.ref a) u ∧ Vals [] us' := by cases rv with | cons r rr => exact ⟨_, _, rfl, r, rr⟩
      cases rr
      obtain rfl : u = Value.ref a := ru
      rw [hK] at d1
      obtain ⟨its, ri, hl, _⟩ := I.list (.inl q)
      obtain ⟨as, h4⟩ := Dp.readsAll I (toDL ys) _ its d1 ri
      refine PySem.W.any_list_data (vs := its.toArray) (I.ok.hd hc) hl.isList (show ReadsAll s.heap its.toArray.toList (toDL ys) as from h4) (toDL_plain 63 ys hd) (fits_repL hK I r) fun h' tk hk => ?_
      rw [(toDL_all 63 ys hd).2]
      exact ⟨.bl _, H, I.kept (t' := tk) hk, rfl, post_at h hS (.bl _)⟩
    · rw [if_neg hd] at e
      cases e
  | _ => cases e
theorem ints_rep {K : Kb} : ∀ {ys : List PV} {vs : List V} {bs : List Int}, RepL K ι H vs ys → intsP ys = some bs → vs = bs.map V.int
  | [], _, bs, .nil, e => by cases e; rfl
  | y :: ys, _, bs, .cons r t, e => by
    cases r with
    | int b =>
      obtain ⟨bs', e1, rfl⟩ := Option.map_eq_some_iff.mp (show (intsP ys).map (b :: ·) = some bs from e)
      rw [ints_rep t e1]
      rfl
    | _ => cases e
theorem cb_sum (hc : X.calm = true) : CallR X (.builtin "sum") (rB C .sum) := by
  intro pins s σ0 H xs us Q I rv h
  obtain ⟨σ, S, ι, v, z, x, rfl, hS, rx, vw, e, h⟩ := rB1 h
  generalize res S v = w at vw e
  cases w with
  | list ys =>
    obtain ⟨a, vs, rfl, q, r⟩ := vw
    obtain ⟨bs, e1, rfl⟩ := Option.map_eq_some_iff.mp (show (intsP ys).map (fun bs => PV.int bs.sum) = some z from e)
    have e2 := ints_rep r e1
    subst e2
    exact cr_sum hc pins s σ0 H _ us Q I rv ⟨a, bs, rfl, .inl q, post_at h hS (.int _)⟩
  | _ => cases e
theorem foldmax {l : List Int} : ∀ {i : Int}, (l.foldl (fun a b => if b > a then b else a) i) ∈ i :: l ∧ ∀ y ∈ i :: l, y ≤ l.foldl (fun a b => if b > a then b else a) i := by
  induction l with
  | nil => intro i; simp
  | cons b l ih =>
    intro i
    obtain ⟨h1, h2⟩ := ih (i := if b > i then b else i)
    rw [List.foldl_cons]
    refine ⟨?_, fun y hy => ?_⟩
    · rcases List.mem_cons.mp h1 with e | e
      · by_cases hb : b > i
        · rw [e, if_pos hb]; simp
        · rw [e, if_neg hb]; simp
      · exact List.mem_cons_of_mem _ (List.mem_cons_of_mem _ e)
    · have h0 := h2 _ (List.mem_cons_self)
      rcases List.mem_cons.mp hy with e | e
      · subst e
        refine Int.le_trans ?_ h0
        split <;> omega
      · rcases List.mem_cons.mp e with e | e
        · subst e
          refine Int.le_trans ?_ h0
          split <;> omega
        · exact h2 y (List.mem_cons_of_mem _ e)
theorem foldmin {l : List Int} : ∀ {i : Int}, (l.foldl (fun a b => if b < a then b else a) i) ∈ i :: l ∧ ∀ y ∈ i :: l, l.foldl (fun a b => if b < a then b else a) i ≤ y := by
  induction l with
  | nil => intro i; simp
  | cons b l ih =>
    intro i
    obtain ⟨h1, h2⟩ := ih (i := if b < i then b else i)
    rw [List.foldl_cons]
    refine ⟨?_, fun y hy => ?_⟩
    · rcases List.mem_cons.mp h1 with e | e
      · by_cases hb : b < i
        · rw [e, if_pos hb]; simp
        · rw [e, if_neg hb]; simp
      · exact List.mem_cons_of_mem _ (List.mem_cons_of_mem _ e)
    · have h0 := h2 _ (List.mem_cons_self)
      rcases List.mem_cons.mp hy with e | e
      · subst e
        refine Int.le_trans h0 ?_
        split <;> omega
      · rcases List.mem_cons.mp e with e | e
        · subst e
          refine Int.le_trans h0 ?_
          split <;> omega
        · exact h2 y (List.mem_cons_of_mem _ e)
theorem cb_max (hc : X.calm = true) : CallR X (.builtin "max") (rB C .max) := by
  intro pins s σ0 H xs us Q I rv h
  obtain ⟨σ, S, ι, v, z, x, rfl, hS, rx, vw, e, h⟩ := rB1 h
  generalize res S v = w at vw e
  cases w with
  | list ys =>
    obtain ⟨a, vs, rfl, q, r⟩ := vw
    obtain ⟨bs, e1, e3⟩ := Option.bind_eq_some_iff.mp (show ((intsP ys).bind fun is => (maxI is).map PV.int) = some z from e)
    have e2 := ints_rep r e1
    subst e2
    obtain ⟨m, e4, rfl⟩ := Option.map_eq_some_iff.mp e3
    cases bs with
    | nil => cases e4
    | cons i l =>
      cases e4
      refine cr_max hc pins s σ0 H _ us Q I rv ⟨a, i :: l, rfl, .inl q, by simp, fun m h1 h2 => ?_⟩
      have e5 : m = l.foldl (fun a b => if b > a then b else a) i := Int.le_antisymm (foldmax.2 m h1) (h2 _ foldmax.1)
      rw [e5]
      exact post_at h hS (.int _)
  | _ => cases e
theorem cb_min (hc : X.calm = true) : CallR X (.builtin "min") (rB C .min) := by
  intro pins s σ0 H xs us Q I rv h
  obtain ⟨σ, S, ι, v, z, x, rfl, hS, rx, vw, e, h⟩ := rB1 h
  generalize res S v = w at vw e
  cases w with
  | list ys =>
    obtain ⟨a, vs, rfl, q, r⟩ := vw
    obtain ⟨bs, e1, e3⟩ := Option.bind_eq_some_iff.mp (show ((intsP ys).bind fun is => (minI is).map PV.int) = some z from e)
    have e2 := ints_rep r e1
    subst e2
    obtain ⟨m, e4, rfl⟩ := Option.map_eq_some_iff.mp e3
    cases bs with
    | nil => cases e4
    | cons i l =>
      cases e4
      refine cr_min hc pins s σ0 H _ us Q I rv ⟨a, i :: l, rfl, .inl q, by simp, fun m h1 h2 => ?_⟩
      have e5 : m = l.foldl (fun a b => if b < a then b else a) i := Int.le_antisymm (h2 _ foldmin.1) (foldmin.2 m h1)
      rw [e5]
      exact post_at h hS (.int _)
  | _ => cases e
theorem tB_imp {b : Bi} {cs : List Ex} (σ : St) (H : Hp) (Q : VK) (h : tEv C (.bi b cs) σ H Q) : tCB (rB C b) (tEvs C cs) σ H Q := by
  obtain ⟨ρ, S, ι, hE, hS, h⟩ := h
  unfold evE at h
  exact tEvs1 hE hS h fun vs S2 xs ι2 H2 l _ s2 r h2 => ⟨σ, S2, ι2, vs, s2, r, h2⟩
theorem pm_biB {b : Bi} {id : String} {x : Str} {p pos : Pos} {e : Expr} {es : List Expr} {cs : List Ex} (hc : CallR X (.builtin id) (rB C b)) (hg : Gl X x) (hm : X.mg x = none) (hv : bootBuiltins x = some (.builtin id)) (hn : x ≠ "__name__") (hdb : (x == ("__debug__" : Str)) = false)
    (ha : PA X (e :: es) (tEvs C cs)) (hst : noStar (e :: es) = true) : PE X (.Call (.Name x p) (e :: es) [] pos) (tEv C (.bi b cs)) :=
  peImp (pe_callB hc hg hm hv ha hn hdb (star_plain (noStar_cons hst).1) (back_plain (noStar_cons hst).2)) tB_imp
theorem pm_biT {b : Bi} {T : String} {x : Str} {p pos : Pos} {e : Expr} {es : List Expr} {cs : List Ex} (hc : CallR X (.type T) (rB C b)) (hg : Gl X x) (hm : X.mg x = none) (hv : bootBuiltins x = some (.type T)) (hn : x ≠ "__name__") (hdb : (x == ("__debug__" : Str)) = false)
    (ha : PA X (e :: es) (tEvs C cs)) (hst : noStar (e :: es) = true) : PE X (.Call (.Name x p) (e :: es) [] pos) (tEv C (.bi b cs)) :=
  peImp (pe_callTy hc hg hm hv ha hn hdb (star_plain (noStar_cons hst).1) (back_plain (noStar_cons hst).2)) tB_imp
end
end Bt
end
section
set_option maxHeartbeats 1000000
open PySem
namespace Bt
def plainPar (ps : List Str) (p : Arguments) : Bool := p.posonlyargs.isEmpty && decide (p.args.map (·.arg) = ps) && p.vararg.isNone && p.kwonlyargs.isEmpty && p.kw_defaults.isEmpty && p.kwarg.isNone && p.defaults.isEmpty
theorem lookup_none {α : Type} {x : Str} : ∀ {l : List (Str × α)}, x ∉ l.map (·.1) → l.lookup x = none
  | [], _ => rfl
  | (k, v) :: r, h => by
    rw [List.lookup_cons]
    have h1 : x ≠ k := fun e => h (by simp [e])
    have : (x == k) = false := by simp [h1]
    rw [this]
    exact lookup_none fun m => h (by simp at m ⊢; exact .inr m)
theorem kw_loop {β : Type} {ps : List Str} {f : Str × Value → List (Str × Value) × List (Str × Value) → Sem (ForInStep (List (Str × Value) × List (Str × Value)))}
    (hf : ∀ x slots, x.1 ∈ ps → slots.lookup x.1 = none → f x (slots, []) = pure (.yield (slots ++ [x], []))) : ∀ (kw slots : List (Str × Value)), (∀ x ∈ kw, x.1 ∈ ps) → ((slots ++ kw).map (·.1)).Nodup → forIn kw (slots, []) f = pure (slots ++ kw, [])
  | [], slots, _, _ => by rw [List.append_nil]; rfl
  | x :: kw, slots, h1, h2 => by
    have hn : slots.lookup x.1 = none := lookup_none fun m => by
      rw [List.map_append, List.nodup_append] at h2
      exact h2.2.2 x.1 m x.1 (by simp) rfl
    rw [List.forIn_cons, hf x slots (h1 x List.mem_cons_self) hn]
    have ih := kw_loop (β := β) hf kw (slots ++ [x]) (fun y hy => h1 y (List.mem_cons_of_mem _ hy)) (by simpa using h2)
    rw [List.append_assoc, List.singleton_append] at ih
    exact ih
theorem zip_map {α : Type} : ∀ {ps : List Str} {us : List α}, us.length = ps.length → (ps.zip us).map (·.1) = ps
  | [], [], _ => rfl
  | p :: ps, u :: us, h => by simp [zip_map (ps := ps) (us := us) (by simpa using h)]
theorem lookup_zip {α : Type} : ∀ {ps : List Str} {us : List α}, ps.Nodup → us.length = ps.length → (ps.filterMap fun n => ((ps.zip us).lookup n).map fun x => (n, x)) = ps.zip us := by
  have gen : ∀ (qs : List Str) (ws : List α) (pre : List (Str × α)), qs.Nodup → ws.length = qs.length → (∀ q ∈ qs, pre.lookup q = none) → (qs.filterMap fun n => ((pre ++ qs.zip ws).lookup n).map fun x => (n, x)) = qs.zip ws := by
    intro qs
    induction qs with
    | nil => intro ws pre _ _ _; rfl
    | cons q qs ih =>
      intro ws pre hn hl hp
      cases ws with
      | nil => cases hl
      | cons w ws =>
        have e1 : (pre ++ (q :: qs).zip (w :: ws)).lookup q = some w := by
          rw [List.lookup_append, hp q List.mem_cons_self]
          simp [List.lookup_cons]
        rw [List.filterMap_cons, e1]
        have ih' := ih ws (pre ++ [(q, w)]) (List.nodup_cons.mp hn).2 (by simpa using hl) (fun x hx => by
          rw [List.lookup_append, hp x (List.mem_cons_of_mem _ hx)]
          have : x ≠ q := fun e => (List.nodup_cons.mp hn).1 (e ▸ hx)
          have hb : (x == q) = false := by simp [this]
          simp [List.lookup_cons, hb])
        rw [List.append_assoc, List.singleton_append] at ih'
        rw [List.zip_cons_cons]
        simp only [Option.map_some]
        rw [ih']
  intro ps us hn hl
  exact gen ps us [] hn hl fun _ _ => rfl
theorem bind_kw {ps qs : List Str} {x qual : Str} {params : Arguments} {body : List Stmt} {scope : Scope} {kV doc pm : Value} {an : Option Addr} {cdv ct : Value} {us ws : List Value} (hp : plainPar (ps ++ qs) params = true) (hn : (ps ++ qs).Nodup) (hl : us.length = ps.length) (hw : ws.length = qs.length) :
    bindArgs (PySem.W.fnOf x qual params body scope .none kV doc pm an cdv ct) ⟨us, qs.zip ws⟩ = pure ((ps ++ qs).zip (us ++ ws)) := by
  obtain ⟨p1, p2, p3, p4, p5, p6, p7⟩ := params
  simp only [plainPar, Bool.and_eq_true, List.isEmpty_iff, decide_eq_true_eq, Option.isNone_iff_eq_none] at hp
  obtain ⟨⟨⟨⟨⟨⟨h1, h2⟩, h3⟩, h4⟩, h5⟩, h6⟩, h7⟩ := hp
  subst h1 h3 h4 h5 h6 h7
  have ez : (ps ++ qs).zip us = ps.zip us := by
    have : us = us ++ [] := by simp
    rw [this, List.zip_append hl.symm]
    simp
  have ez2 : (ps ++ qs).zip (us ++ ws) = ps.zip us ++ qs.zip ws := List.zip_append hl.symm
  have hmap : (ps.zip us ++ qs.zip ws).map (·.1) = ps ++ qs := by rw [List.map_append, zip_map hl, zip_map hw]
  have all : ∀ n ∈ ps ++ qs, ((ps.zip us ++ qs.zip ws).lookup n).isNone = false := fun n m => by
    cases e : (ps.zip us ++ qs.zip ws).lookup n with
    | some v => rfl
    | none =>
      rw [List.lookup_eq_none_iff] at e
      rw [← hmap] at m
      obtain ⟨y, hy, hyn⟩ := List.mem_map.mp m
      have := e y hy
      simp [hyn] at this
  unfold bindArgs
  simp only [PySem.W.fnOf, List.map_nil, List.nil_append, h2, ez]
  rw [kw_loop (β := Unit) (ps := ps ++ qs) (fun y slots hy hn => by
      have hc : (ps ++ qs).contains y.1 = true := by simpa using hy
      simp only [hc, Bool.true_or, if_true, hn]
      rfl) (qs.zip ws) (ps.zip us) (fun y hy => by
        have : y.1 ∈ (qs.zip ws).map (·.1) := List.mem_map.mpr ⟨y, hy, rfl⟩
        rw [zip_map hw] at this
        exact List.mem_append_right _ this) (by rw [hmap]; exact hn)]
  have hs : seqItems? Value.none = pure none := rfl
  simp only [pure_bind, hs]
  have hg : ¬ us.length > (ps ++ qs).length := by rw [List.length_append]; omega
  have hd : (decide (us.length > (ps ++ qs).length) && (none : Option Arg).isNone) = false := by rw [decide_eq_false hg]; rfl
  have hm : ((ps ++ qs).filter fun n => ((ps.zip us ++ qs.zip ws).lookup n).isNone) = [] := by
    rw [List.filter_eq_nil_iff]
    intro n m
    rw [all n m]
    simp
  simp only [hd, Option.getD_none, List.drop_nil, List.length_nil, Nat.sub_zero, List.take_length, List.drop_length, List.zip_nil_right, List.append_nil]
  rw [hm]
  simp only [List.isEmpty_nil, Bool.not_true, Bool.false_eq_true, if_false, List.forIn_nil, pure_bind]
  rw [← ez2, lookup_zip hn (by simp [hl, hw])]
end Bt
namespace Bt
open PySem L2
open PyProof.Rows hiding St
section
variable {X : Cx} {C : Cc} {σ : St} {ι : List Addr} {H : Hp} {S : Store} {Q : VK}
def tyS : Ty → String
  | .int => "int"
  | .bool => "bool"
  | .str => "str"
  | .tuple => "tuple"
  | .list => "list"
theorem tyx_list {K : PySem.W.Frag} {a : Addr} {vs : List V} (h : Rd H a (.lst vs)) : TyX K H (.ref a) (.type "list") := by
  rcases h with h | ⟨o, h⟩
  · exact .base (.lst h)
  · exact .base (.frz h)
theorem tyx_tup {K : PySem.W.Frag} {a : Addr} {vs : List V} (h : SqT K H a vs) : TyX K H (.ref a) (.type "tuple") := by
  rcases h with (h | ⟨o, h⟩) | ⟨o, its, n, h, hc, _⟩
  · exact .base (.tup h)
  · exact .fTuple h
  · exact .kTuple h hc
theorem tyx_dict {K : PySem.W.Frag} {a : Addr} {es : List (Key × V)} (h : Rd H a (.dK es)) : TyX K H (.ref a) (.type "dict") := by
  rcases h with h | ⟨o, h⟩
  · exact .base (.dK h)
  · exact .fDict h
theorem kit_is {K : PySem.W.Frag} (t : Ty) (n : String) (b : Bool) (h : kitB n (tyS t) = some b) : PySem.W.kitOne K (.type n) (.type (tyS t)) = some b := kit_ty h
theorem tyx_of {K : Kb} {x : V} {v : PV} {t : Ty} {b : Bool} (vw : View K ι H x v) (h : isTy t v = some b) : ∃ n, TyX K.K H x (.type n) ∧ kitB n (tyS t) = some b := by
  cases v with
  | none => cases (show x = .non from vw); refine ⟨"NoneType", .base .non, ?_⟩; cases t <;> (cases h; decide +kernel)
  | bool k => cases (show x = .bl k from vw); refine ⟨"bool", .base (.bl k), ?_⟩; cases t <;> (cases h; decide +kernel)
  | int i => cases (show x = .int i from vw); refine ⟨"int", .base (.int i), ?_⟩; cases t <;> (cases h; decide +kernel)
  | str z => obtain ⟨rfl, _⟩ := vw; refine ⟨"str", .base (.str z), ?_⟩; cases t <;> (cases h; decide +kernel)
  | tup xs => obtain ⟨a, vs, rfl, q, _⟩ := vw; refine ⟨"tuple", tyx_tup q, ?_⟩; cases t <;> (cases h; decide +kernel)
  | list xs => obtain ⟨a, vs, rfl, q, _⟩ := vw; refine ⟨"list", tyx_list q, ?_⟩; cases t <;> (cases h; decide +kernel)
  | dict xs => obtain ⟨a, vs, rfl, q, _⟩ := vw; refine ⟨"dict", tyx_dict q, ?_⟩; cases t <;> (cases h; decide +kernel)
  | _ => cases h
theorem pm_isi {t : Ty} {y : Str} {p1 p2 pos : Pos} {e : Expr} {c : Ex} (hK : C.K.K = X.K) (hg : Gl X "isinstance") (hm : X.mg "isinstance" = none) (hg2 : Gl X y) (hm2 : X.mg y = none) (hv2 : bootBuiltins y = some (.type (tyS t))) (hn2 : y ≠ "__name__") (hd2 : (y == ("__debug__" : Str)) = false)
    (he : PE X e (tEv C c)) (hs : isStar e = false) : PE X (.Call (.Name "isinstance" p1) [e, .Name y p2] [] pos) (tEv C (.bi (.isinst t) [c])) := by
  refine peImp (pe_callB call_isi hg hm (by decide +kernel) (pa_cons he (pa_cons (pe_bltn hg2 hm2 hv2 (v := .ty (tyS t)) rfl hn2 hd2) pa_nil rfl) (star_plain hs)) (by decide) (by decide) (star_plain hs) rfl) fun σ H Q ⟨ρ, S, ι, hE, hS, h⟩ => ?_
  unfold evE evEs evEs at h
  have e0 : ((evE C.φ C.G c ρ S).bind fun v S => (Res.ok ([] : List PV) S).map (v :: ·)) = (evE C.φ C.G c ρ S).bind fun v S => Res.ok [v] S := rfl
  rw [e0, Res.bind_assoc] at h
  refine tEv1 hE hS h fun v S2 x ι2 H2 _ s2 r h2 => ?_
  have h2' : PostV C σ ι2 H2 (Res.ofO ((isTy t (res S2 v)).map .bool) S2) Q := h2
  cases e : isTy t (res S2 v) with
  | none => rw [e] at h2'; exact (show False from h2').elim
  | some b =>
    rw [e] at h2'
    obtain ⟨n, ty, k⟩ := tyx_of (r.view s2) e
    rw [hK] at ty
    exact ⟨x, .ty (tyS t), .type n, .type (tyS t), b, rfl, .ty _, ty, kit_is t n b k, post_at h2' s2 (.bl b)⟩
def noCall0 (o : Expr) : Bool := !isCall0 o
theorem m1_of {o e : Expr} {m : Str} {apos cpos : Pos} (h1 : isCall0 o = false) (h2 : isStar e = false) (h3 : (apos.endLine == cpos.line) = true) : M1 X o m apos e cpos := by
  have hs : noStar [e] = true := by simp [noStar, h2]
  refine ⟨base_plain h1, ?_, h3, by rw [back_nil hs, star_plain h2]; rfl⟩
  rw [back_all hs]; rfl
theorem m2_of {o e f : Expr} {m : Str} {apos cpos : Pos} (h1 : isCall0 o = false) (h2 : isStar e = false) (h2' : isStar f = false) (h3 : (apos.endLine == cpos.line) = true) : M2 X o m apos e f cpos := by
  have hs : noStar [e, f] = true := by simp [noStar, h2, h2']
  refine ⟨base_plain h1, ?_, h3, by rw [back_nil hs, star_plain h2, star_plain h2']; rfl⟩
  rw [back_all hs]; rfl
theorem isD_view {K : Kb} {x : V} {v : PV} (vw : View K ι H x v) (h : ∃ kvs, v = .dict kvs) : ∃ a, x = .ref a ∧ IsD H a := by
  obtain ⟨kvs, rfl⟩ := h
  obtain ⟨a, es, rfl, q, _⟩ := vw
  exact ⟨a, rfl, .inl ⟨es, q⟩⟩
theorem pm_get1 {o e : Expr} {co ce : Ex} {apos cpos : Pos} (hu : X.A.units + 64 < cLine) (ho : PE X o (tEv C co)) (he : PE X e (tEv C ce)) (h1 : isCall0 o = false) (h2 : isStar e = false) (h3 : (apos.endLine == cpos.line) = true) : PE X (.Call (.Attribute o "get" apos) [e] [] cpos) (tEv C (.me .get1 co [ce])) := by
  refine peImp (pe_dget1 (by omega) ho he (m1_of h1 h2 h3)) fun σ H Q ⟨ρ, S, ι, hE, hS, h⟩ => ?_
  unfold evE evEs evEs at h
  refine tEv1 hE hS h fun v S2 x ι2 H2 e2 s2 r h2 => ?_
  have vw := r.view s2
  by_cases hk : meKind .get1 (res S2 v) = true
  · rw [if_pos hk] at h2
    have hd : ∃ kvs, res S2 v = .dict kvs := by
      generalize res S2 v = w at hk
      cases w <;> first | exact ⟨_, rfl⟩ | cases hk
    obtain ⟨a, ea, id⟩ := isD_view vw hd
    refine ⟨a, ea, id, ?_⟩
    have e0 : ((evE C.φ C.G ce ρ S2).bind fun v S => (Res.ok ([] : List PV) S).map (v :: ·)) = (evE C.φ C.G ce ρ S2).bind fun v S => Res.ok [v] S := rfl
    rw [e0, Res.bind_assoc] at h2
    refine tEv1 (hE.ext e2) s2 h2 fun k S3 y ι3 H3 e3 s3 r3 h4 => ?_
    have h4' : PostV C σ ι3 H3 (Res.ofO (mev .get1 (res S3 v) [k]) S3) Q := h4
    have vw3 := (r.ext e3).view s3
    generalize res S3 v = w at vw3 h4'
    cases w with
    | dict kvs =>
      obtain ⟨a', es, ea', q, l⟩ := vw3
      rw [ea] at ea'
      cases ea'
      have h5 : PostV C σ ι3 H3 (Res.ofO (if isKey k then some ((dget kvs k).getD .none) else none) S3) Q := h4'
      by_cases hkk : isKey k = true
      · rw [if_pos hkk] at h5
        obtain ⟨kk, rfl, rfl⟩ := key_of r3 hkk
        refine ⟨valV es kk, .inl ⟨es, kk, q, rfl, rfl⟩, ?_⟩
        rcases l.get (k := kk) with ⟨z1, z2⟩ | ⟨v', x', z1, z2, z3⟩
        · rw [z2] at h5
          rw [z1]
          exact post_at h5 s3 .non
        · rw [z2] at h5
          rw [z1]
          exact post_at h5 s3 z3
      · rw [if_neg hkk] at h5
        exact (show False from h5).elim
    | _ => exact (show False from h4').elim
  · rw [if_neg hk] at h2
    exact (show False from h2).elim
theorem pm_get2 {o e f : Expr} {co ce cf : Ex} {apos cpos : Pos} (hu : X.A.units + 64 < cLine) (ho : PE X o (tEv C co)) (he : PE X e (tEv C ce)) (hf : PE X f (tEv C cf)) (h1 : isCall0 o = false) (h2 : isStar e = false) (h2' : isStar f = false) (h3 : (apos.endLine == cpos.line) = true) : PE X (.Call (.Attribute o "get" apos) [e, f] [] cpos) (tEv C (.me .get2 co [ce, cf])) := by
  refine peImp (pe_dget2 (by omega) ho he hf (m2_of h1 h2 h2' h3)) fun σ H Q ⟨ρ, S, ι, hE, hS, h⟩ => ?_
  unfold evE evEs evEs evEs at h
  refine tEv1 hE hS h fun v S2 x ι2 H2 e2 s2 r h2 => ?_
  have vw := r.view s2
  by_cases hk : meKind .get2 (res S2 v) = true
  · rw [if_pos hk] at h2
    have hd : ∃ kvs, res S2 v = .dict kvs := by
      generalize res S2 v = w at hk
      cases w <;> first | exact ⟨_, rfl⟩ | cases hk
    obtain ⟨a, ea, id⟩ := isD_view vw hd
    refine ⟨a, ea, id, ?_⟩
    rw [Res.bind_assoc] at h2
    refine tEv1 (hE.ext e2) s2 h2 fun k S3 y ι3 H3 e3 s3 r3 h4 => ?_
    have e0 : (((evE C.φ C.G cf ρ S3).bind fun v S => (Res.ok ([] : List PV) S).map (v :: ·)).map (k :: ·)) = (evE C.φ C.G cf ρ S3).bind fun v S => Res.ok [k, v] S := by
      cases evE C.φ C.G cf ρ S3 <;> rfl
    rw [e0, Res.bind_assoc] at h4
    refine tEv1 ((hE.ext e2).ext e3) s3 h4 fun d S4 z ι4 H4 e4 s4 r4 h5 => ?_
    have h4' : PostV C σ ι4 H4 (Res.ofO (mev .get2 (res S4 v) [k, d]) S4) Q := h5
    have vw3 := ((r.ext e3).ext e4).view s4
    generalize res S4 v = w at vw3 h4'
    cases w with
    | dict kvs =>
      obtain ⟨a', es, ea', q, l⟩ := vw3
      rw [ea] at ea'
      cases ea'
      have h5 : PostV C σ ι4 H4 (Res.ofO (if isKey k then some ((dget kvs k).getD d) else none) S4) Q := h4'
      by_cases hkk : isKey k = true
      · rw [if_pos hkk] at h5
        obtain ⟨kk, rfl, rfl⟩ := key_of r3 hkk
        refine ⟨valV es kk, .inl ⟨es, kk, q, rfl, rfl⟩, ?_⟩
        rcases l.get (k := kk) with ⟨z1, z2⟩ | ⟨v', x', z1, z2, z3⟩
        · rw [z2] at h5
          rw [z1]
          exact post_at h5 s4 r4
        · rw [z2] at h5
          rw [z1]
          exact post_at h5 s4 z3
      · rw [if_neg hkk] at h5
        exact (show False from h5).elim
    | _ => exact (show False from h4').elim
  · rw [if_neg hk] at h2
    exact (show False from h2).elim
def rCntD (K : PySem.W.Frag) : V → List V → Hp → VK → Prop := fun x xs H Q => ∃ (a : Addr) (y : V) (d : PyData) (ds : List PyData), x = V.ref a ∧ xs = [y] ∧ Dp K H (V.ref a) (.list ds) ∧ Dp K H y d ∧
  SeqAt.shaped (.list ds) = true ∧ SeqAt.shaped d = true ∧ Q (.int (ds.countP fun z => PyData.eqv z d : Nat)) H
theorem mt_countD (hu : X.A.units + 65 < cLine) : MtR X "list.count" (rCntD X.K) := by
  intro pins s σ H x xs v us Q I rx rxs h
  obtain ⟨a, y, d, ds, rfl, rfl, hl, hy, sl, sd, q⟩ := h
  cases rx
  cases rxs with
  | cons ry rt =>
    rename_i uy ut
    cases rt
    obtain ⟨bs, r1⟩ := Dp.reads I d y uy hy ry
    have hxs : PyData.canLayAll0 ds = true := SeqAt.canLay_of_shaped sl
    have hroom : X.A.units + 1 + min (PyData.depthAll ds) d.depth < cLine := room_in_shaped sd hu
    cases hl with
    | lst hs ha =>
      obtain ⟨its, rv, ⟨⟨cls, dd, data, sls⟩, n, ho, hc, hdn, hdt⟩, hlen⟩ := I.list hs
      simp only at hc hdt
      subst hc hdt
      obtain ⟨as, h4⟩ := Dp.readsAll I ds _ its ha rv
      have hmap : its.map (SeqAt.readOf s.heap) = ds := SeqAt.readsAll_map ds its as hxs h4
      refine call_meets PySem.F.slot_list_count ⟨_, ho, rfl⟩ PySem.F.entry_list_count (PySem.F.args_list_count_2 _ _)
        (SeqAt.list_countAt a its.toArray n dd sls uy (fun u => PyData.eqv (SeqAt.readOf s.heap u) d)) ⟨ho, SeqAt.items_eqAt (vs := its.toArray) (show ReadsAll s.heap its.toArray.toList ds as from h4) r1 hxs (SeqAt.canLay_of_shaped sd) hroom, ?_⟩
      have ec : its.toArray.toList.countP (fun u => PyData.eqv (SeqAt.readOf s.heap u) d) = ds.countP fun z => PyData.eqv z d := by
        rw [← hmap, List.countP_map]
        rfl
      refine ⟨.int (ds.countP fun z => PyData.eqv z d : Nat), H, I.tok _, ⟨s.toks, ?_⟩, q⟩
      show Value.int ((its.toArray.toList.countP (fun u => PyData.eqv (SeqAt.readOf s.heap u) d) : Nat) : Int) s.toks = Value.int ((ds.countP fun z => PyData.eqv z d : Nat) : Int) s.toks
      rw [ec]
end
end Bt
end
section
set_option maxHeartbeats 1000000
namespace Bt
open PySem L2
open PyProof.Rows hiding St
section
variable {X : Cx} {C : Cc} {σ : St} {ι : List Addr} {H : Hp} {S : Store} {Q : VK}
theorem toDL_countP {n m : Nat} {a : PV} (ha : dOk m a = true) : ∀ (xs : List PV), dOkL n xs = true → ((toDL xs).countP fun z => PyData.eqv z (toD a)) = xs.countP fun z => peq z a
  | [], _ => rfl
  | x :: xs, h => by
    obtain ⟨h1, h2⟩ := Bool.and_eq_true_iff.mp (show (dOk n x && dOkL n xs) = true from h)
    show (toD x :: toDL xs).countP _ = _
    rw [List.countP_cons, List.countP_cons, peq_eqv n m x a h1 ha, toDL_countP ha xs h2]
def rMe (C : Cc) (m : Me) : V → List V → Hp → VK → Prop := fun x xs H Q => ∃ σ S ι v vs, StOk C.K ι H S ∧ Rep C.K ι H x v ∧ RepL C.K ι H xs vs ∧ PostV C σ ι H (Res.ofO (mev m (res S v) vs) S) Q
theorem mt_lcountP (hK : C.K.K = X.K) (hu : X.A.units + 65 < cLine) : MtR X "list.count" (rMe C .lcount) := by
  intro pins s σ0 H x xs v us Q I rx rxs h
  obtain ⟨σ, S, ι, u, vs, hS, r, rl, h⟩ := h
  have vw := r.view hS
  generalize res S u = w at vw h
  cases w with
  | list ys =>
    obtain ⟨a, ws, e, q, l⟩ := vw
    match vs, rl, h with
    | [], _, h => exact (show False from h).elim
    | [k], .cons rk .nil, h =>
      have h' : PostV C σ ι H (Res.ofO (if dOk 64 k && dOkL 63 ys then some (PV.int (ys.countP fun z => peq z k)) else none) S) Q := h
      by_cases hc : (dOk 64 k && dOkL 63 ys) = true
      · rw [if_pos hc] at h'
        obtain ⟨h1, h2⟩ := Bool.and_eq_true_iff.mp hc
        obtain ⟨a1, a2, a3⟩ := Rep.dp 64 k _ rk h1
        obtain ⟨b1, b2, b3⟩ := View.dp (K := C.K) (ι := ι) (H := H) (n := 64) (v := .list ys) (x := x) ⟨a, ws, e, q, l⟩ h2
        rw [hK] at a1 b1
        rw [e] at b1
        refine mt_countD hu pins s σ0 H x _ v us Q I rx rxs ⟨a, _, _, toDL ys, e, rfl, b1, a1, shaped_of b2 b3, shaped_of a2 a3, ?_⟩
        rw [toDL_countP h1 ys h2]
        exact post_at h' hS (.int _)
      · rw [if_neg hc] at h'
        exact (show False from h').elim
    | _ :: _ :: _, _, h => exact (show False from h).elim
  | _ => exact (show False from h).elim
theorem pm_lcount {o e : Expr} {es : List Expr} {co : Ex} {cs : List Ex} {apos cpos : Pos} (hK : C.K.K = X.K) (hu : X.A.units + 65 < cLine) (ho : PE X o (tEv C co)) (ha : PA X (e :: es) (tEvs C cs)) (h1 : isCall0 o = false) (h2 : noStar (e :: es) = true) (h3 : (apos.endLine == cpos.line) = true) (h4 : es.length < 20) :
    PE X (.Call (.Attribute o "count" apos) (e :: es) [] cpos) (tEv C (.me .lcount co cs)) := by
  refine peImp (pe_bm PySem.F.plainAttrs_list PySem.F.slot_list_count PySem.F.type_list_count (mt_lcountP hK hu) ho ha (base_plain h1) (by rw [back_all h2]; simp [backToKw, keywordEach]; omega) h3 (star_plain (noStar_cons h2).1) (back_plain (noStar_cons h2).2)) fun σ H Q ⟨ρ, S, ι, hE, hS, h⟩ => ?_
  unfold evE at h
  refine tEv1 hE hS h fun v S2 x ι2 H2 e2 s2 r h2 => ?_
  have vw := r.view s2
  by_cases hk : meKind .lcount (res S2 v) = true
  · rw [if_pos hk] at h2
    have hd : ∃ ys, res S2 v = .list ys := by
      generalize res S2 v = w at hk
      cases w <;> first | exact ⟨_, rfl⟩ | cases hk
    obtain ⟨ys, ey⟩ := hd
    rw [ey] at vw
    obtain ⟨a, ws, ea, q, l⟩ := vw
    subst ea
    refine ⟨.inl ⟨rfl, ws, .inl q⟩, ?_⟩
    exact tEvs1 (hE.ext e2) s2 h2 fun vs S3 xs ι3 H3 l e3 s3 r3 h4 => ⟨σ, S3, ι3, v, vs, s3, r.ext e3, r3, h4⟩
  · rw [if_neg hk] at h2
    exact (show False from h2).elim

/-- what a def promises: what φ says of it -/
def spD (K : PySem.W.Frag) (φ : Calls) (G : List PV) (cad : Xs) (f n : Nat) : Sp := fun vs H Q E => vs.length = n ∧ ∃ B S ι us, StOk ⟨K, B, cad.T⟩ ι H S ∧ RepL ⟨K, B, cad.T⟩ ι H vs us ∧
  PostV { K := ⟨K, B, cad.T⟩, φ := φ, G := G, W := fun cls d _ H => E cls d H, cad := cad } [] ι H (φ f us S) Q
/-- a def at its name -/
def FOk (P : Program) (w : World) (K : PySem.W.Frag) (mg : Str → Option Value) (base : Heap) (k : Nat) (φ : Calls) (G : List PV) (cad : Xs) (f : Nat) (x : Str) (ps : List Str) : Prop :=
  ∃ (a : Addr) (fd : FuncData), FnOk P w K mg base (L2.CX P w) k a fd ps (spD K φ G cad f ps.length) ∧ mg x = some (.ref a) ∧ PySem.W.keepIn K (.ref a) = true ∧
    ∀ (us ws : List Value), us.length + ws.length = ps.length → bindArgs fd ⟨us, (ps.drop us.length).zip ws⟩ = pure (ps.zip (us ++ ws))
theorem run_D {k : Nat} {f : Nat} {a : Addr} {fd : FuncData} {ps : List Str} {pins : List (Addr × Obj)} {s : Shared} {us ws : List Value} {xs : List V} (hK : C.K.K = X.K) (hT : C.K.T = C.cad.T) (F : FnOk X.prog X.w X.K X.mg X.base (L2.CX X.prog X.w) k a fd ps (spD X.K C.φ C.G C.cad f ps.length)) (hr : Room k X.A) (tk : Takes X C.W)
    (hb : ∀ (us ws : List Value), us.length + ws.length = ps.length → bindArgs fd ⟨us, (ps.drop us.length).zip ws⟩ = pure (ps.zip (us ++ ws))) (I : Inv X pins σ H s) (r : Vals xs (us ++ ws)) {vs : List PV} (hl : xs.length = ps.length) (hS : StOk C.K ι H S) (rv : RepL C.K ι H xs vs)
    (h : PostV C σ ι H (C.φ f vs S) Q) : wpAny (model X.prog X.w) X.A (call (.ref a) us ((ps.drop us.length).zip ws)) (EP X pins σ Q) X.xe s := by
  have hl2 : us.length + ws.length = ps.length := by rw [← List.length_append, ← r.length]; exact hl
  have sp : spD X.K C.φ C.G C.cad f ps.length xs H Q (WE C.W σ) := by
    refine ⟨hl, C.K.B, S, ι, vs, ?_, ?_, ?_⟩
    · rw [← hK, ← hT]; exact hS
    · rw [← hK, ← hT]; exact rv
    · rw [← hK, ← hT]
      have h' : PostG (Rep C.K) C σ ι H (C.φ f vs S) fun _ _ x _ H' => Q x H' := h
      show PostG (Rep C.K) _ [] ι H (C.φ f vs S) fun _ _ x _ H' => Q x H'
      cases e : C.φ f vs S with
      | ok v S' => rw [e] at h'; exact h'
      | exc q S' => rw [e] at h'; exact fun cls d H' ι' e1 s1 x1 => h' cls d H' ι' e1 s1 (by cases q <;> first | exact x1.elim | exact x1)
      | stuck => rw [e] at h'; exact h'
  have bt : BindsTo s fd ⟨us, (ps.drop us.length).zip ws⟩ (ps.zip (us ++ ws)) := by
    intro M A Q' E' q
    rw [hb us ws hl2]
    exact wpAny_pure q
  refine wpAny_call (codeAny_mono (F.run X.A X.stack s H ⟨us, (ps.drop us.length).zip ws⟩ (us ++ ws) xs Q (WE C.W σ) hr I.env0 bt r sp) fun r s' hq => ?_)
  cases r with
  | error e => exact passAt tk σ pins H s e s' I hq
  | ok fl =>
    cases fl with
    | ret u => exact I.after hq
    | next => exact False.elim hq
    | brk => exact False.elim hq
    | cont => exact False.elim hq
theorem evEs_nil {φ : Calls} {G : List PV} {ρ : Env} {S : Store} : evEs φ G [] ρ S = .ok [] S := by unfold evEs; rfl
theorem evEs_cons {φ : Calls} {G : List PV} {e : Ex} {es : List Ex} {ρ : Env} {S : Store} : evEs φ G (e :: es) ρ S = (evE φ G e ρ S).bind fun v S => (evEs φ G es ρ S).map (v :: ·) := by
  rw [evEs.eq_2]
theorem evEs_append {φ : Calls} {G : List PV} : ∀ (as bs : List Ex) (ρ : Env) (S : Store), evEs φ G (as ++ bs) ρ S = (evEs φ G as ρ S).bind fun us S => (evEs φ G bs ρ S).bind fun ws S => .ok (us ++ ws) S
  | [], bs, ρ, S => by
    rw [List.nil_append, evEs_nil]
    show _ = (evEs φ G bs ρ S).bind fun ws S => .ok ([] ++ ws) S
    cases evEs φ G bs ρ S <;> rfl
  | a :: as, bs, ρ, S => by
    rw [List.cons_append, evEs_cons, evEs_cons, Res.bind_assoc]
    congr 1
    funext v S
    rw [evEs_append as bs ρ S]
    cases evEs φ G as ρ S with
    | ok us S1 =>
      show Res.map ((evEs φ G bs ρ S1).bind fun ws S => .ok (us ++ ws) S) (v :: ·) = (evEs φ G bs ρ S1).bind fun ws S => .ok (v :: us ++ ws) S
      cases evEs φ G bs ρ S1 <;> rfl
    | exc x S1 => rfl
    | stuck => rfl
theorem pmk_nil : PK X [] (tEvs C []) := ⟨fun pos pins s σ H Q I ⟨ρ, S, ι, hE, hS, h⟩ => pk_nil.run pos pins s σ H Q I (by
  unfold evEs at h
  exact h [] H ι (Ext.refl _ _) hS .nil)⟩
theorem pmk_cons {e : Expr} {kws : List Keyword} {nm : Option Str} {kpos : Pos} {c : Ex} {cs : List Ex} (ha : PE X e (tEv C c)) (hr : PK X kws (tEvs C cs)) : PK X (⟨nm, e, kpos⟩ :: kws) (tEvs C (c :: cs)) :=
  ⟨fun pos pins s σ H Q I ⟨ρ, S, ι, hE, hS, h⟩ => (pk_cons ha hr).run pos pins s σ H Q I (by
    unfold evEs at h
    refine tEv1 hE hS h fun v S2 x ι2 H2 e2 s2 r h2 => ⟨ρ, S2, ι2, hE.ext e2, s2, ?_⟩
    have h3 := PostG.bind (rep := RepL C.K) (rep2 := RepL C.K) (r := evEs C.φ C.G cs ρ S2) (f := fun us S => .ok (v :: us) S) h2
    exact h3.mono fun us S3 xs ι3 H3 e3 s3 r3 h4 => h4 (x :: xs) H3 ι3 (Ext.refl _ _) s3 (.cons (r.ext e3) r3))⟩
def kwNames (kws : List Keyword) : List (Option Str) := kws.map fun k => k.arg
theorem kw_names {pos : Pos} {env : PySem.Env} : ∀ (kws : List Keyword), (backToKw pos (keywordEach kws env)).map (·.1) = kwNames kws
  | [] => rfl
  | ⟨n, v, p⟩ :: kws => by
    show n :: (backToKw pos (keywordEach kws env)).map (·.1) = n :: kwNames kws
    rw [kw_names kws]
theorem kw_all {pos : Pos} {env : PySem.Env} {kws : List Keyword} (h : (kwNames kws).all (·.isSome) = true) : (backToKw pos (keywordEach kws env)).all (·.1.isSome) = true := by
  rw [← kw_names (pos := pos) (env := env), List.all_map] at h
  exact h
theorem kw_none {pos : Pos} {env : PySem.Env} {kws : List Keyword} (h : (kwNames kws).all (·.isSome) = true) : (backToKw pos (keywordEach kws env)).any (·.1.isNone) = false := by
  rw [← kw_names (pos := pos) (env := env), List.all_map] at h
  rw [List.any_eq_false]
  intro x hx
  have := List.all_eq_true.mp h x hx
  simp at this ⊢
  cases hq : x.1 with
  | none => rw [hq] at this; cases this
  | some _ => simp
theorem kw_filter {pos : Pos} {env : PySem.Env} {kws : List Keyword} : (backToKw pos (keywordEach kws env)).filterMap (·.1) = (kwNames kws).filterMap id := by
  rw [← kw_names (pos := pos) (env := env), List.filterMap_map]
  rfl
/-- the arguments' values -/
theorem call_step {f : Nat} {n : Nat} {cs ds : List Ex} {ρ : Env} (hl : cs.length + ds.length = n) (hE : EnvOk C.K ι H σ ρ) (hS : StOk C.K ι H S) (h : PostV C σ ι H (evE C.φ C.G (.call f (cs ++ ds)) ρ S) Q) :
    tEvs C cs σ H fun xs H1 => xs.length = cs.length ∧ tEvs C ds σ H1 fun ys H2 => ∃ (S2 : Store) (ι2 : List Addr) (vs : List PV), (xs ++ ys).length = n ∧ StOk C.K ι2 H2 S2 ∧ RepL C.K ι2 H2 (xs ++ ys) vs ∧ PostV C σ ι2 H2 (C.φ f vs S2) Q := by
  unfold evE at h
  rw [evEs_append, Res.bind_assoc] at h
  refine tEvs1 hE hS h fun us S1 xs ι1 H1 l1 e1 s1 r1 h1 => ⟨by rw [r1.length, l1], ?_⟩
  rw [Res.bind_assoc] at h1
  refine tEvs1 (hE.ext e1) s1 h1 fun ws S2 ys ι2 H2 l2 e2 s2 r2 h2 => ⟨S2, ι2, us ++ ws, ?_, s2, (r1.ext e2).append r2, h2⟩
  rw [List.length_append, r1.length, r2.length, l1, l2, hl]
theorem call_fin {k f n : Nat} {a : Addr} {fd : FuncData} {ps : List Str} {pins : List (Addr × Obj)} (hK : C.K.K = X.K) (hT : C.K.T = C.cad.T) (F : FnOk X.prog X.w X.K X.mg X.base (L2.CX X.prog X.w) k a fd ps (spD X.K C.φ C.G C.cad f ps.length)) (hr : Room k X.A) (tk : Takes X C.W)
    (hb : ∀ (us ws : List Value), us.length + ws.length = ps.length → bindArgs fd ⟨us, (ps.drop us.length).zip ws⟩ = pure (ps.zip (us ++ ws))) {us ws : List Value} {xs ys : List V} {s2 : Shared} {H2 : Hp} (I2 : Inv X pins σ H2 s2) (r1 : Vals xs us) (r2 : Vals ys ws) (lx : xs.length = n)
    (h : ∃ (S2 : Store) (ι2 : List Addr) (vs : List PV), (xs ++ ys).length = ps.length ∧ StOk C.K ι2 H2 S2 ∧ RepL C.K ι2 H2 (xs ++ ys) vs ∧ PostV C σ ι2 H2 (C.φ f vs S2) Q) :
    wpAny (model X.prog X.w) X.A (call (.ref a) us ((ps.drop n).zip ws)) (EP X pins σ Q) X.xe s2 := by
  obtain ⟨S2, ι2, vs, l, s2', rl, h2⟩ := h
  have lu : us.length = n := by rw [← r1.length, lx]
  have := run_D (us := us) (ws := ws) hK hT F hr tk hb I2 (r1.append r2) l s2' rl h2
  rw [lu] at this
  exact this
theorem kw_some {n : Nat} {ps : List Str} {kws : List Keyword} (hks : kwNames kws = (ps.drop n).map some) : (kwNames kws).all (·.isSome) = true ∧ (kwNames kws).filterMap id = ps.drop n := by
  rw [hks]
  refine ⟨by rw [List.all_map]; simp, ?_⟩
  rw [List.filterMap_map]
  simp
/-- f(e, .., k = v, ..) -/
theorem pm_call {k f : Nat} {x : Str} {ps : List Str} {p pos : Pos} {e : Expr} {es : List Expr} {kws : List Keyword} {cs ds : List Ex} (hK : C.K.K = X.K) (hT : C.K.T = C.cad.T) (F : FOk X.prog X.w X.K X.mg X.base k C.φ C.G C.cad f x ps) (hr : Room k X.A) (tk : Takes X C.W) (hg : Gl X x) (hdb : (x == ("__debug__" : Str)) = false)
    (ha : PA X (e :: es) (tEvs C cs)) (hk : PK X kws (tEvs C ds)) (hs : noStar (e :: es) = true) (hl : cs.length + ds.length = ps.length) (hks : kwNames kws = (ps.drop cs.length).map some) : PE X (.Call (.Name x p) (e :: es) kws pos) (tEv C (.call f (cs ++ ds))) := by
  obtain ⟨a, fd, F, hm, kp, hb⟩ := F
  refine ⟨fun pins s σ H Q I ⟨ρ, S, ι, hE, hS, h⟩ => ?_⟩
  refine wpAny_Call_Name_kw (ld_glob I hg hm ?_ hdb)
  obtain ⟨k1, k2⟩ := kw_some hks
  refine PySem.W.callWith_KW (h₀ := X.base) I.ok.mod.kin kp (kw_all k1) (thn (ha.run pos pins s σ H _ I (call_step hl hE hS h)) fun us s1 ⟨xs, H1, I1, r1, lx, q1⟩ => ?_) (by rw [back_plain hs, kw_none k1]; rfl) (star_plain (noStar_cons hs).1)
  refine thn (hk.run pos pins s1 σ H1 _ I1 q1) fun ws s2 ⟨ys, H2, I2, r2, q2⟩ => ⟨I2.kIn, ?_⟩
  rw [kw_filter, k2]
  exact call_fin hK hT F hr tk hb I2 r1 r2 lx q2
theorem pm_call0 {k f : Nat} {x : Str} {ps : List Str} {p pos : Pos} {kws : List Keyword} {ds : List Ex} (hK : C.K.K = X.K) (hT : C.K.T = C.cad.T) (F : FOk X.prog X.w X.K X.mg X.base k C.φ C.G C.cad f x ps) (hr : Room k X.A) (tk : Takes X C.W) (hg : Gl X x) (hdb : (x == ("__debug__" : Str)) = false)
    (hk : PK X kws (tEvs C ds)) (hl : ds.length = ps.length) (hks : kwNames kws = ps.map some) : PE X (.Call (.Name x p) [] kws pos) (tEv C (.call f ds)) := by
  obtain ⟨a, fd, F, hm, kp, hb⟩ := F
  refine ⟨fun pins s σ H Q I ⟨ρ, S, ι, hE, hS, h⟩ => ?_⟩
  refine wpAny_Call_Name_kw (ld_glob I hg hm ?_ hdb)
  obtain ⟨k1, k2⟩ := kw_some (n := 0) (ps := ps) hks
  have st := call_step (cs := []) (ds := ds) (n := ps.length) (by simpa using hl) hE hS h
  obtain ⟨ρ1, S1, ι1, hE1, hS1, st⟩ := st
  rw [evEs_nil] at st
  have st := st [] H ι1 (Ext.refl _ _) hS1 .nil
  refine PySem.W.callWith_KW0 (h₀ := X.base) I.ok.mod.kin kp (kw_all k1) ?_ (by rw [kw_none k1]; rfl)
  refine thn (hk.run pos pins s σ H _ I st.2) fun ws s2 ⟨ys, H2, I2, r2, q2⟩ => ⟨I2.kIn, ?_⟩
  rw [kw_filter, k2]
  exact call_fin (us := []) (xs := []) (n := 0) hK hT F hr tk hb I2 .nil r2 rfl q2
end
end Bt
end
section
set_option maxHeartbeats 1000000
namespace Bt
open PySem L2
open PyProof.Rows hiding St
abbrev Kb.ban (K : Kb) (D : Addr) : Kb := ⟨K.K, D :: K.B, K.T⟩
section
variable {K : Kb} {ι ι' : List Addr} {H H' : Hp} {D : Addr} {o : HO} {S : Store}
theorem rd_ne {a : Addr} {u : HO} (h : Rd H a u) (hD : H D = none) : a ≠ D := by
  intro e
  subst e
  rcases h with h | ⟨_, h⟩ <;> (rw [hD] at h; cases h)
theorem Rd.updB {a : Addr} {u : HO} (h : Rd H a u) (hne : a ≠ D) : Rd (upd H D o) a u := by
  rcases h with h | ⟨w, h⟩
  · exact .inl (by rw [upd_ne hne]; exact h)
  · exact .inr ⟨w, by rw [upd_ne hne]; exact h⟩
theorem Away.ban {a : Addr} (h : Away K ι a) (hne : a ≠ D) : Away (K.ban D) ι a := ⟨h.1, fun m => by
  rcases List.mem_cons.mp m with e | m
  · exact hne e
  · exact h.2 m⟩
theorem Away.unban {a : Addr} (h : Away (K.ban D) ι a) : Away K ι a := ⟨h.1, fun m => h.2 (List.mem_cons_of_mem _ m)⟩
theorem Away.ne {a : Addr} (h : Away (K.ban D) ι a) : a ≠ D := fun e => h.2 (e ▸ List.mem_cons_self)
mutual
theorem Rep.ban (hD : H D = none) : ∀ (x : PV) (v : V), Rep K ι H v x → Rep (K.ban D) ι H v x
  | .none, _, .non => .non
  | .bool b, _, .bl _ => .bl b
  | .int i, _, .int _ => .int i
  | .str s, _, .str _ h h' => .str s h h'
  | .tup xs, _, .tup h n r => .tup h (n.ban (rd_ne h hD)) (RepL.ban hD xs _ r)
  | .tup xs, _, .tupK h r => .tupK h (RepL.ban hD xs _ r)
  | .list xs, _, .list h n r => .list h (n.ban (rd_ne h hD)) (RepL.ban hD xs _ r)
  | .dict xs, _, .dict h n r => .dict h (n.ban (rd_ne h hD)) (RepD.ban hD xs _ r)
  | .ref k, _, .ref h => .ref h
  | .scr ns, _, .scr h n => .scr h (n.ban (rd_ne h hD))
  | .scr ns, _, .scrK h => .scrK h
  | .exc c fs, _, .exc h => .exc h
theorem RepL.ban (hD : H D = none) : ∀ (xs : List PV) (vs : List V), RepL K ι H vs xs → RepL (K.ban D) ι H vs xs
  | [], _, .nil => .nil
  | x :: xs, _, .cons h r => .cons (Rep.ban hD x _ h) (RepL.ban hD xs _ r)
theorem RepD.ban (hD : H D = none) : ∀ (xs : List (PV × PV)) (es : List (Key × V)), RepD K ι H es xs → RepD (K.ban D) ι H es xs
  | [], _, .nil => .nil
  | (_, x) :: xs, _, .cons q h r => .cons q (Rep.ban hD x _ h) (RepD.ban hD xs _ r)
end
mutual
theorem Rep.unban : ∀ (x : PV) (v : V), Rep (K.ban D) ι H v x → Rep K ι H v x
  | .none, _, .non => .non
  | .bool b, _, .bl _ => .bl b
  | .int i, _, .int _ => .int i
  | .str s, _, .str _ h h' => .str s h h'
  | .tup xs, _, .tup h n r => .tup h n.unban (RepL.unban xs _ r)
  | .tup xs, _, .tupK h r => .tupK h (RepL.unban xs _ r)
  | .list xs, _, .list h n r => .list h n.unban (RepL.unban xs _ r)
  | .dict xs, _, .dict h n r => .dict h n.unban (RepD.unban xs _ r)
  | .ref k, _, .ref h => .ref h
  | .scr ns, _, .scr h n => .scr h n.unban
  | .scr ns, _, .scrK h => .scrK h
  | .exc c fs, _, .exc h => .exc h
theorem RepL.unban : ∀ (xs : List PV) (vs : List V), RepL (K.ban D) ι H vs xs → RepL K ι H vs xs
  | [], _, .nil => .nil
  | x :: xs, _, .cons h r => .cons (Rep.unban x _ h) (RepL.unban xs _ r)
theorem RepD.unban : ∀ (xs : List (PV × PV)) (es : List (Key × V)), RepD (K.ban D) ι H es xs → RepD K ι H es xs
  | [], _, .nil => .nil
  | (_, x) :: xs, _, .cons q h r => .cons q (Rep.unban x _ h) (RepD.unban xs _ r)
end
mutual
theorem Rep.updB : ∀ (x : PV) (v : V), Rep (K.ban D) ι H v x → Rep (K.ban D) ι (upd H D o) v x
  | .none, _, .non => .non
  | .bool b, _, .bl _ => .bl b
  | .int i, _, .int _ => .int i
  | .str s, _, .str _ h h' => .str s h h'
  | .tup xs, _, .tup h n r => .tup (Rd.updB h n.ne) n (RepL.updB xs _ r)
  | .tup xs, _, .tupK h r => .tupK h (RepL.updB xs _ r)
  | .list xs, _, .list h n r => .list (Rd.updB h n.ne) n (RepL.updB xs _ r)
  | .dict xs, _, .dict h n r => .dict (Rd.updB h n.ne) n (RepD.updB xs _ r)
  | .ref k, _, .ref h => .ref h
  | .scr ns, _, .scr h n => .scr (Rd.updB h n.ne) n
  | .scr ns, _, .scrK h => .scrK h
  | .exc c fs, _, .exc h => .exc h
theorem RepL.updB : ∀ (xs : List PV) (vs : List V), RepL (K.ban D) ι H vs xs → RepL (K.ban D) ι (upd H D o) vs xs
  | [], _, .nil => .nil
  | x :: xs, _, .cons h r => .cons (Rep.updB x _ h) (RepL.updB xs _ r)
theorem RepD.updB : ∀ (xs : List (PV × PV)) (es : List (Key × V)), RepD (K.ban D) ι H es xs → RepD (K.ban D) ι (upd H D o) es xs
  | [], _, .nil => .nil
  | (_, x) :: xs, _, .cons q h r => .cons q (Rep.updB x _ h) (RepD.updB xs _ r)
end
theorem CellRep.unban {a : Addr} {c : Cell} (h : CellRep (K.ban D) ι H a c) : CellRep K ι H a c := by
  cases c with
  | lst xs => obtain ⟨vs, e, r⟩ := h; exact ⟨vs, e, r.unban⟩
  | dic lk kvs =>
    cases lk with
    | false => obtain ⟨es, e, r⟩ := h; exact ⟨es, e, r.unban⟩
    | true => obtain ⟨ob, es, e, r⟩ := h; exact ⟨ob, es, e, r.unban⟩
theorem CellRep.ban {a : Addr} {c : Cell} (hD : H D = none) (h : CellRep K ι H a c) : CellRep (K.ban D) ι H a c := by
  cases c with
  | lst xs => obtain ⟨vs, e, r⟩ := h; exact ⟨vs, e, r.ban hD⟩
  | dic lk kvs =>
    cases lk with
    | false => obtain ⟨es, e, r⟩ := h; exact ⟨es, e, r.ban hD⟩
    | true => obtain ⟨ob, es, e, r⟩ := h; exact ⟨ob, es, e, r.ban hD⟩
theorem CellRep.updB {a : Addr} {c : Cell} (hne : a ≠ D) (h : CellRep (K.ban D) ι H a c) : CellRep (K.ban D) ι (upd H D o) a c := by
  cases c with
  | lst xs => obtain ⟨vs, e, r⟩ := h; exact ⟨vs, by rw [upd_ne hne]; exact e, r.updB⟩
  | dic lk kvs =>
    cases lk with
    | false => obtain ⟨es, e, r⟩ := h; exact ⟨es, by rw [upd_ne hne]; exact e, r.updB⟩
    | true => obtain ⟨ob, es, e, r⟩ := h; exact ⟨ob, es, by rw [upd_ne hne]; exact e, r.updB⟩
theorem StOk.updB (s : StOk (K.ban D) ι H S) (ho : NX o := by exact True.intro) : StOk (K.ban D) ι (L2.upd H D o) S := by
  have hD := (s.ban D List.mem_cons_self).2
  refine ⟨s.len, s.nd, fun b m => ⟨⟨upd_some (s.ban b m).1, (s.ban b m).2⟩, fun u hu => ?_⟩, tabs_upd (s.ban' D List.mem_cons_self).2 s.tab, fun k a c e1 e2 => (s.cell k a c e1 e2).updB fun e => hD (e ▸ List.mem_of_getElem? e1)⟩
  by_cases hb : b = D
  · rw [hb, upd_same] at hu; cases hu; exact ho
  · rw [upd_ne hb] at hu; exact (s.ban' b m).2 u hu
theorem StOk.unban (s : StOk (K.ban D) ι H S) : StOk K ι H S :=
  ⟨s.len, s.nd, fun b m => s.ban' b (List.mem_cons_of_mem _ m), s.tab, fun k a c e1 e2 => (s.cell k a c e1 e2).unban⟩
theorem StOk.banNew (s : StOk K ι H S) (hD : H D = none) (ho : NX o := by exact True.intro) : StOk (K.ban D) ι (L2.upd H D o) S := by
  have hn := s.free1 hD
  refine ⟨s.len, s.nd, fun b m => ?_, tabs_upd (fun u hu => by rw [hD] at hu; cases hu) s.tab, fun k a c e1 e2 => ((s.cell k a c e1 e2).ban hD).updB fun e => hn (e ▸ List.mem_of_getElem? e1)⟩
  rcases List.mem_cons.mp m with e | m
  · subst e; exact ⟨⟨by rw [upd_same]; simp, hn⟩, fun u hu => by rw [upd_same] at hu; cases hu; exact ho⟩
  · exact ⟨⟨upd_some (s.ban b m).1, (s.ban b m).2⟩, fun u hu => (s.ban' b m).2 u (by rwa [upd_ne (fun z => (s.ban b m).1 (by rw [z]; exact hD))] at hu)⟩
theorem Ext.updF (e : Ext ι H ι' H') (hD : H D = none) : Ext ι H ι' (L2.upd H' D o) :=
  ⟨⟨e.pre, fun a u h n => by rw [upd_ne (ne_of_none h hD)]; exact e.keep' a u h n, e.new⟩, fun a o u h => by rw [upd_ne (ne_of_none h hD)]; exact e.frz a o u h⟩
end
/-- values go along -/
structure Tr (K : Kb) (ι0 : List Addr) (H0 : Hp) (K' : Kb) (ι : List Addr) (H : Hp) : Prop where
  eqK : K'.K = K.K
  rep : ∀ (u : V) (p : PV), Rep K ι0 H0 u p → Rep K' ι H u p
  frz : ∀ a o u, H0 a = some (.frz o u) → H a = some (.frz o u)
section
variable {K K' : Kb} {ι ι' ι0 : List Addr} {H H' H0 : Hp} {D : Addr} {o : HO} {S : Store}
theorem Tr.ofExt (e : Ext ι0 H0 ι H) : Tr K ι0 H0 K ι H := ⟨rfl, fun _ _ r => r.ext e, e.frz⟩
theorem Tr.banExt (hD : H0 D = none) (e : Ext ι0 H0 ι H) : Tr K ι0 H0 (K.ban D) ι H := ⟨rfl, fun _ _ r => (r.ban hD).ext e, e.frz⟩
theorem Tr.trans {K1 : Kb} {ι1 : List Addr} {H1 : Hp} (a : Tr K ι0 H0 K1 ι1 H1) (b : Tr K1 ι1 H1 K' ι H) : Tr K ι0 H0 K' ι H := ⟨b.eqK.trans a.eqK, fun u p r => b.rep u p (a.rep u p r), fun c o u h => b.frz c o u (a.frz c o u h)⟩
theorem Tr.env {σ : St} {ρ : Env} (t : Tr K ι0 H0 K' ι H) (h : EnvOk K ι0 H0 σ ρ) : EnvOk K' ι H σ ρ := ⟨h.len, fun i x q => let ⟨v, q1, r⟩ := h.at_ i x q; ⟨v, q1, t.rep _ _ r⟩⟩
end
/-- the iterator J goes over iv's items, from the state (ι0, H0) on -/
def ItOk (K : Kb) (ι0 : List Addr) (H0 : Hp) (J : L2.It) (iv : Items) : Prop := ∀ (K' : Kb) (ι : List Addr) (H : Hp) (S : Store), Tr K ι0 H0 K' ι H → StOk K' ι H S → guardOk S iv.guard = true →
  (∀ i, i < iv.items.length → J.go i H) ∧ J.stop iv.items.length H ∧ ∀ i x H', i < iv.items.length → J.yld i H x H' → ∃ p, iv.items[i]? = some p ∧ Ext ι H ι H' ∧ StOk K' ι H' S ∧ Rep K' ι H' x p
/-- an iterable -/
def tIt (C : Cc) (c : It) : TI := fun σ H R => ∃ ρ S ι, EnvOk C.K ι H σ ρ ∧ StOk C.K ι H S ∧ PostG (fun ι' H' (J : L2.It) iv => iv.lock = [] ∧ ItOk C.K ι' H' J iv) C σ ι H (evI C.φ C.G c ρ S) fun _ _ J _ H' => R J H'
section
variable {X : Cx} {C : Cc} {σ : St} {ι : List Addr} {H : Hp} {S : Store}
theorem piImp {tg it : Expr} {t t' : TI} (h : PI X tg it t) (i : ∀ σ H R, t' σ H R → t σ H R) : PI X tg it t' := ⟨fun pins s σ H R I q => h.run pins s σ H R I (i σ H R q)⟩
/-- a list, a tuple, a text -/
def iSeq (K : PySem.W.Frag) (tl : TE) : TI := fun σ H R => tl σ H fun x H1 => (∃ a xs, x = .ref a ∧ SqL K H1 a xs ∧ R (Itl K a) H1) ∨ (∃ a xs, x = .ref a ∧ SqT K H1 a xs ∧ R (Itt K a) H1) ∨ ∃ z, x = .str z ∧ R (Its z) H1
theorem pi_seq {tg l : Expr} {tl : TE} (hl : PE X l tl) : PI X tg l (iSeq X.K tl) := by
  refine ⟨fun pins s σ H R I h => ?_⟩
  refine thn (hl.run pins s σ H _ I h) fun v s1 ⟨x, H1, I1, r1, q1⟩ => ?_
  rcases q1 with ⟨a, xs, e, hq, q⟩ | ⟨a, xs, e, hq, q⟩ | ⟨z, e, q⟩
  · subst e
    cases r1
    obtain ⟨its, rv, p, hz⟩ := I1.list hq
    refine wpAny_pyIter_list p.isList ?_
    refine ⟨s1.heap.objs.size, [s1.heap.objs.size], _, _, H1, rfl, I1.kept (t' := s1.toks) fun b o e => Heap.get?_push_of_some _ e, turn_list a _, ⟨_, Heap.get?_push_size _ rfl, rfl, rfl⟩, fun b hb => ?_, q⟩
    have e : b = s1.heap.objs.size := by simpa using hb
    subst e
    exact I1.fpOk (Nat.le_refl _) (I1.hok.fresh (Nat.le_refl _))
  · subst e
    cases r1
    obtain ⟨its, rv, p, hz⟩ := I1.tuple hq
    refine wpAny_pyIter_tuple (show s1.heap.IsTuple a its.toArray from p) ?_
    refine ⟨s1.heap.objs.size, [s1.heap.objs.size], _, _, H1, rfl, I1.kept (t' := s1.toks) fun b o e => Heap.get?_push_of_some _ e, turn_tuple a _, ⟨_, Heap.get?_push_size _ rfl, rfl, rfl⟩, fun b hb => ?_, q⟩
    have e : b = s1.heap.objs.size := by simpa using hb
    subst e
    exact I1.fpOk (Nat.le_refl _) (I1.hok.fresh (Nat.le_refl _))
  · subst e
    obtain ⟨t, rfl⟩ := r1
    cases ha : z.cps.all (· < 128)
    · exact wpAny_pyIter_wide ha (pi_one (tk := s1.toks) I1 _ (turn_str _ z t "str_iterator" (.inr rfl)) ⟨_, Heap.get?_push_size _ rfl, rfl, rfl⟩ q)
    · exact wpAny_pyIter_ascii ha (pi_one (tk := s1.toks) I1 _ (turn_str _ z t "str_ascii_iterator" (.inl rfl)) ⟨_, Heap.get?_push_size _ rfl, rfl, rfl⟩ q)
theorem rd_lst_eq {a : Addr} {xs ys : List V} (h : Rd H a (.lst xs)) (h' : Rd H a (.lst ys)) : xs = ys := by
  rcases h with h | ⟨o, h⟩ <;> rcases h' with h' | ⟨o', h'⟩ <;> (rw [h] at h'; cases h'; try rfl)
theorem guard_res {S S2 : Store} {v : PV} {u : PV} (h : guardOk S (guardOf S2 v) = true) (hr : res S2 v = u) (hu : ∀ k, u ≠ .ref k) : res S v = u := by
  cases v with
  | ref k =>
    cases e : S2[k]? with
    | none =>
      have : res S2 (.ref k) = .ref k := by simp only [res, e]
      rw [this] at hr
      exact absurd hr.symm (hu k)
    | some c =>
      have h2 : S[k]? = some c := by simpa [guardOk, guardOf, e] using h
      rw [← hr]
      simp only [res, e, h2]
  | _ => rw [← hr]; rfl
end
end Bt
end
section
set_option maxHeartbeats 1000000
namespace Bt
open PySem L2
open PyProof.Rows hiding St
section
variable {X : Cx} {C : Cc} {σ : St} {ι : List Addr} {H : Hp} {S : Store}
theorem itok_list {K : Kb} {ι0 : List Addr} {H0 : Hp} {S0 : Store} {F : PySem.W.Frag} {a : Addr} {v : PV} {xs : List PV} {iv : Items} (hF : F = K.K) (r : Rep K ι0 H0 (.ref a) v) (hr : res S0 v = .list xs) (hi : iv.items = xs) (hg : ∀ S, guardOk S iv.guard = true → guardOk S (guardOf S0 v) = true) : ItOk K ι0 H0 (Itl F a) iv := by
  intro K' ι H S tr st g
  have r' := (tr.rep _ _ r).view st
  rw [guard_res (hg S g) hr (fun k => by simp)] at r'
  obtain ⟨a', vs, e, q, l⟩ := r'
  cases e
  rw [hi]
  have hl := l.length
  refine ⟨fun i hlt => ⟨vs, vs[i]'(by omega), .inl q, by simp⟩, ⟨vs, .inl q, by omega⟩, fun i x H' hlt y => ?_⟩
  obtain ⟨e, y⟩ := y
  subst e
  obtain ⟨p, e1, e2⟩ := l.getV (y vs (.inl q))
  exact ⟨p, e1, Ext.refl _ _, st, e2⟩
theorem itok_tup {K : Kb} {ι0 : List Addr} {H0 : Hp} {S0 : Store} {F : PySem.W.Frag} {a : Addr} {v : PV} {xs : List PV} {iv : Items} (hF : F = K.K) (r : Rep K ι0 H0 (.ref a) v) (hr : res S0 v = .tup xs) (hi : iv.items = xs) (hg : ∀ S, guardOk S iv.guard = true → guardOk S (guardOf S0 v) = true) : ItOk K ι0 H0 (Itt F a) iv := by
  intro K' ι H S tr st g
  have r' := (tr.rep _ _ r).view st
  rw [guard_res (hg S g) hr (fun k => by simp)] at r'
  obtain ⟨a', vs, e, q, l⟩ := r'
  cases e
  rw [tr.eqK, ← hF] at q
  rw [hi]
  have hl := l.length
  refine ⟨fun i hlt => ⟨vs, vs[i]'(by omega), q, by simp⟩, ⟨vs, q, by omega⟩, fun i x H' hlt y => ?_⟩
  obtain ⟨e, y⟩ := y
  subst e
  obtain ⟨p, e1, e2⟩ := l.getV (y vs q)
  exact ⟨p, e1, Ext.refl _ _, st, e2⟩
theorem itok_str {K : Kb} {ι0 : List Addr} {H0 : Hp} {z : Str} {iv : Items} (hz : PyData.strOk z = true) (hi : iv.items = z.cps.toList.map fun c => .str ⟨#[c]⟩) : ItOk K ι0 H0 (Its z) iv := by
  intro K' ι H S tr st g
  rw [hi]
  simp only [List.length_map, Array.length_toList]
  refine ⟨fun i hlt => hlt, Nat.le_refl _, fun i x H' hlt y => ?_⟩
  obtain ⟨e, c, e1, e2⟩ := y
  subst e e2
  refine ⟨.str ⟨#[c]⟩, ?_, Ext.refl _ _, st, .str _ (by show 1 ≤ sizeLine; rw [sizeLine_eq]; decide) (strOk_sign hz (by
    have : z.cps.toList[i]? = some c := by simpa using e1
    exact List.mem_of_getElem? this))⟩
  rw [List.getElem?_map]
  have : z.cps.toList[i]? = some c := by simpa using e1
  rw [this]
  rfl
theorem itok_rng {K : Kb} {ι0 : List Addr} {H0 : Hp} {m n : Int} {iv : Items} (hi : iv.items = rangeP m n) : ItOk K ι0 H0 (Itr m (n - m).toNat) iv := by
  intro K' ι H S tr st g
  rw [hi]
  unfold rangeP
  simp only [List.length_map, List.length_range]
  refine ⟨fun i hlt => hlt, Nat.le_refl _, fun i x H' hlt y => ?_⟩
  obtain ⟨e, e2⟩ := y
  subst e e2
  refine ⟨.int (m + i), ?_, Ext.refl _ _, st, .int _⟩
  rw [List.getElem?_map, List.getElem?_range hlt]
  rfl
theorem guardOk_append {S : Store} {g1 g2 : List (Nat × Cell)} (h : guardOk S (g1 ++ g2) = true) : guardOk S g1 = true ∧ guardOk S g2 = true := by
  unfold guardOk at *
  rw [List.all_append, Bool.and_eq_true] at h
  exact h
theorem zipP_get : ∀ (xs ys : List PV) (i : Nat) {x y : PV}, xs[i]? = some x → ys[i]? = some y → (zipP xs ys)[i]? = some (.tup [x, y])
  | [], _, _, _, _, h, _ => by simp at h
  | _ :: _, [], _, _, _, _, h => by simp at h
  | x :: xs, y :: ys, 0, _, _, h1, h2 => by simp at h1 h2; subst h1 h2; rfl
  | x :: xs, y :: ys, i + 1, _, _, h1, h2 => zipP_get xs ys i (by simpa using h1) (by simpa using h2)
theorem zipP_len : ∀ (xs ys : List PV), (zipP xs ys).length = min xs.length ys.length
  | [], ys => by simp [zipP]
  | x :: xs, [] => by simp [zipP]
  | x :: xs, y :: ys => by
    show (zipP xs ys).length + 1 = min (xs.length + 1) (ys.length + 1)
    rw [zipP_len xs ys]; omega
theorem enumP_get : ∀ (xs : List PV) (n i : Nat) {x : PV}, xs[i]? = some x → (enumP n xs)[i]? = some (.tup [.int (n + i : Nat), x])
  | [], _, _, _, h => by simp at h
  | x :: xs, n, 0, _, h => by simp at h; subst h; rfl
  | x :: xs, n, i + 1, _, h => by
    have := enumP_get xs (n + 1) i (by simpa using h)
    show (enumP (n + 1) xs)[i]? = _
    rw [this]
    congr 5
    omega
theorem enumP_len : ∀ (xs : List PV) (n : Nat), (enumP n xs).length = xs.length
  | [], _ => rfl
  | x :: xs, n => by show (enumP (n + 1) xs).length + 1 = xs.length + 1; rw [enumP_len xs]
/-- a new pair -/
theorem pair_new {K : Kb} {T : Addr} {x y : V} {p q : PV} (st : StOk K ι H S) (hT : H T = none) (r1 : Rep K ι H x p) (r2 : Rep K ι H y q) : Ext ι H ι (upd H T (.tup [x, y])) ∧ StOk K ι (upd H T (.tup [x, y])) S ∧ Rep K ι (upd H T (.tup [x, y])) (.ref T) (.tup [p, q]) :=
  ⟨Ext.upd hT, st.upd hT, .tup (.inl upd_same) (st.free hT) (.cons (r1.ext (Ext.upd hT)) (.cons (r2.ext (Ext.upd hT)) .nil))⟩
theorem pmi_seq {tg e : Expr} {c : Ex} (hK : C.K.K = X.K) (he : PE X e (tEv C c)) : PI X tg e (tIt C (.seq c)) := by
  refine piImp (pi_seq he) fun σ H R ⟨ρ, S, ι, hE, hS, h⟩ => ?_
  unfold evI at h
  refine tEv1 hE hS h fun v S2 x ι2 H2 e2 s2 r h2 => ?_
  have vw := r.view s2
  cases hr : res S2 v with
  | list xs =>
    rw [hr] at vw h2
    obtain ⟨a, vs, rfl, q, l⟩ := vw
    exact .inl ⟨a, vs, rfl, .inl q, h2 (Itl X.K a) H2 ι2 (Ext.refl _ _) s2 ⟨rfl, itok_list hK.symm r hr rfl fun _ g => g⟩⟩
  | tup xs =>
    rw [hr] at vw h2
    obtain ⟨a, vs, rfl, q, l⟩ := vw
    rw [hK] at q
    exact .inr (.inl ⟨a, vs, rfl, q, h2 (Itt X.K a) H2 ι2 (Ext.refl _ _) s2 ⟨rfl, itok_tup hK.symm r hr rfl fun _ g => g⟩⟩)
  | str z =>
    rw [hr] at vw h2
    obtain ⟨rfl, l, o⟩ := vw
    exact .inr (.inr ⟨z, rfl, h2 (Its z) H2 ι2 (Ext.refl _ _) s2 ⟨rfl, itok_str o rfl⟩⟩)
  | _ => rw [hr] at h2; exact (show False from h2).elim
theorem tEvs_one {c : Ex} {R : List V → Hp → Prop} (h : tEv C c σ H fun x H1 => R [x] H1) : tEvs C [c] σ H R := by
  obtain ⟨ρ, S, ι, hE, hS, h⟩ := h
  refine ⟨ρ, S, ι, hE, hS, ?_⟩
  rw [evEs_cons]
  simp only [evEs_nil]
  cases e : evE C.φ C.G c ρ S with
  | ok v S1 =>
    rw [e] at h
    intro xs H' ι' e1 s1 r1
    obtain ⟨x, rfl, rx⟩ := repL1 r1
    exact h x H' ι' e1 s1 rx
  | exc q S1 => rw [e] at h; exact h
  | stuck => rw [e] at h; exact h
theorem pmi_rng1 {tg a : Expr} {c : Ex} {p pos : Pos} (hg : Gl X "range") (hm : X.mg "range" = none) (ha : PE X a (tEv C c)) (hs : isStar a = false) : PI X tg (.Call (.Name "range" p) [a] [] pos) (tIt C (.rng1 c)) := by
  refine piImp (pi_range1 hg hm (pma_cons' ha pma_nil hs) (star_plain hs)) fun σ H R ⟨ρ, S, ι, hE, hS, h⟩ => ?_
  unfold evI at h
  refine tEvs_one (tEv1 hE hS h fun v S2 x ι2 H2 e2 s2 r h2 => ?_)
  cases r with
  | int n =>
    by_cases hc : -(2 ^ 62) ≤ n ∧ n < 2 ^ 62
    · have h3 : PostG (fun ι' H' (J : L2.It) iv => iv.lock = [] ∧ ItOk C.K ι' H' J iv) C σ ι2 H2 (.ok { items := rangeP 0 n } S2) fun _ _ J _ H' => R J H' := by
        have h2' : PostG (fun ι' H' (J : L2.It) iv => iv.lock = [] ∧ ItOk C.K ι' H' J iv) C σ ι2 H2 (if -(2 ^ 62) ≤ n ∧ n < 2 ^ 62 then .ok { items := rangeP 0 n } S2 else .stuck) fun _ _ J _ H' => R J H' := h2
        rw [if_pos hc] at h2'
        exact h2'
      have := h3 (Itr 0 (n - 0).toNat) H2 ι2 (Ext.refl _ _) s2 ⟨rfl, itok_rng rfl⟩
      rw [Int.sub_zero] at this
      exact ⟨n, rfl, hc.1, hc.2, this⟩
    · have h2' : PostG (fun ι' H' (J : L2.It) iv => iv.lock = [] ∧ ItOk C.K ι' H' J iv) C σ ι2 H2 (if -(2 ^ 62) ≤ n ∧ n < 2 ^ 62 then .ok { items := rangeP 0 n } S2 else .stuck) fun _ _ J _ H' => R J H' := h2
      rw [if_neg hc] at h2'
      exact (show False from h2').elim
  | _ => exact (show False from h2).elim
theorem tEvs_two {c d : Ex} {R : List V → Hp → Prop} (h : tEv C c σ H fun x H1 => tEv C d σ H1 fun y H2 => R [x, y] H2) : True := trivial
/-- two arguments, then something -/
theorem tEvs2 {a b : Ex} {ρ : Env} {α β : Type} {rep : List Addr → Hp → β → α → Prop} {f : PV → PV → Store → Res α} {k : α → Store → β → List Addr → Hp → Prop} {R : List V → Hp → Prop}
    (hE : EnvOk C.K ι H σ ρ) (hS : StOk C.K ι H S) (h : PostG rep C σ ι H ((evE C.φ C.G a ρ S).bind fun x S => (evE C.φ C.G b ρ S).bind fun y S => f x y S) k)
    (hR : ∀ v w S2 x y ι2 H2, Ext ι H ι2 H2 → StOk C.K ι2 H2 S2 → Rep C.K ι2 H2 x v → Rep C.K ι2 H2 y w → PostG rep C σ ι2 H2 (f v w S2) k → R [x, y] H2) : tEvs C [a, b] σ H R := by
  have h' : PostG rep C σ ι H ((evEs C.φ C.G [a, b] ρ S).bind fun vs S => match vs with | [x, y] => f x y S | _ => .stuck) k := by
    rw [evEs_cons]
    refine Eq.mp (congrArg (fun z => PostG rep C σ ι H z k) ?_) h
    rw [Res.bind_assoc]
    congr 1
    funext x S
    rw [evEs_cons]
    simp only [evEs_nil]
    cases evE C.φ C.G b ρ S <;> rfl
  refine tEvs1 hE hS h' fun vs S2 xs ι2 H2 l e2 s2 r h2 => ?_
  match vs, l, r, h2 with
  | [v, w], _, .cons r1 (.cons r2 .nil), h2 => exact hR v w S2 _ _ ι2 H2 e2 s2 r1 r2 h2
theorem pmi_rng2 {tg a b : Expr} {c d : Ex} {p pos : Pos} (hg : Gl X "range") (hm : X.mg "range" = none) (ha : PE X a (tEv C c)) (hb : PE X b (tEv C d)) (hs : isStar a = false) (hs2 : isStar b = false) : PI X tg (.Call (.Name "range" p) [a, b] [] pos) (tIt C (.rng2 c d)) := by
  refine piImp (pi_range2 hg hm (pma_cons' ha (pma_cons' hb pma_nil hs2) hs) (by rw [star_plain hs, star_plain hs2]; rfl) (star_plain hs2)) fun σ H R ⟨ρ, S, ι, hE, hS, h⟩ => ?_
  unfold evI at h
  refine tEvs2 hE hS h fun v w S2 x y ι2 H2 e2 s2 r1 r2 h2 => ?_
  cases r1 with
  | int m =>
    cases r2 with
    | int n =>
      have h2' : PostG (fun ι' H' (J : L2.It) iv => iv.lock = [] ∧ ItOk C.K ι' H' J iv) C σ ι2 H2 (if -(2 ^ 62) ≤ m ∧ m < 2 ^ 62 ∧ -(2 ^ 62) ≤ n ∧ n < 2 ^ 62 then .ok { items := rangeP m n } S2 else .stuck) fun _ _ J _ H' => R J H' := h2
      by_cases hc : -(2 ^ 62) ≤ m ∧ m < 2 ^ 62 ∧ -(2 ^ 62) ≤ n ∧ n < 2 ^ 62
      · rw [if_pos hc] at h2'
        exact ⟨m, n, rfl, hc, h2' (Itr m (n - m).toNat) H2 ι2 (Ext.refl _ _) s2 ⟨rfl, itok_rng rfl⟩⟩
      · rw [if_neg hc] at h2'
        exact (show False from h2').elim
    | _ => exact (show False from h2).elim
  | _ => exact (show False from h2).elim
end
end Bt
end
section
set_option maxHeartbeats 1000000
namespace Bt
open PySem PySem.Spec L2
open PyProof.Rows hiding St
/-- the list, or the tuple (t), at a -/
def SqA (t : Bool) (F : PySem.W.Frag) (H : Hp) (a : Addr) (xs : List V) : Prop := match t with
  | true => SqT F H a xs
  | false => SqL F H a xs
def AtA (t : Bool) (h : Heap) (it a : Addr) (i : Nat) : Prop := match t with
  | true => h.IsTupleIter it a i
  | false => h.IsListIter it a i
def IsA (t : Bool) (h : Heap) (a : Addr) (its : Array Value) : Prop := match t with
  | true => h.IsTuple a its
  | false => h.IsList a its
def objA (t : Bool) (a : Addr) : Obj := match t with
  | true => { cls := .type "tuple_iterator", data := .fields #[.ref a, .int 0 0] }
  | false => { cls := .type "list_iterator", data := .fields #[.ref a, .int 0 0] }
section
variable {X : Cx} {pins : List (Addr × Obj)} {σ : L2.St} {H : Hp} {s : Shared} {t : Bool} {a it : Addr} {xs ys : List V}
theorem inv_seqA (I : Inv X pins σ H s) (h : SqA t X.K H a xs) : ∃ its : List Value, Vals xs its ∧ IsA t s.heap a its.toArray ∧ a < s.heap.objs.size := by
  cases t with
  | true =>
    obtain ⟨its, rv, p, _⟩ := I.tuple h
    exact ⟨its, rv, p, by obtain ⟨o, ho, _⟩ := id p; exact Heap.lt_size ho⟩
  | false =>
    obtain ⟨its, rv, p, _⟩ := I.list h
    exact ⟨its, rv, p.isList, p.lt⟩
theorem inv_injA (I : Inv X pins σ H s) (h : SqA t X.K H a xs) (h' : SqA t X.K H a ys) : xs = ys := by
  cases t with
  | true => exact I.tuple_inj h h'
  | false => exact I.list_inj h h'
theorem AtA.keep {h h' : Heap} {i : Nat} (st : AtA t h it a i) (k : ∀ o, h.get? it = some o → h'.get? it = some o) : AtA t h' it a i := by
  cases t with
  | true => exact Heap.IsTupleIter.at (show h.IsTupleIter it a i from st) fun o q => k o q
  | false => exact Heap.IsListIter.at (show h.IsListIter it a i from st) fun o q => k o q
theorem AtA.obj {h : Heap} {i : Nat} (st : AtA t h it a i) : ∃ o, h.get? it = some o ∧ ∀ v, o.data ≠ .cell v := by
  cases t with
  | true => obtain ⟨o, e, _, d⟩ := st; exact ⟨o, e, fun v q => by rw [d] at q; cases q⟩
  | false => obtain ⟨o, e, _, d⟩ := st; exact ⟨o, e, fun v q => by rw [d] at q; cases q⟩
theorem drawsA {prog : Program} {w : World} {A : Around} (hh : A.handled = none) (hne : a ≠ it) (items : Array Value) : Draws prog w A it [it, a] items.size (fun i v => items[i]? = some v) (fun i h => AtA t h it a i ∧ IsA t h a items) := by
  cases t with
  | true => exact Draws.tuple hh it a hne items
  | false => exact Draws.list hh it a hne items
theorem beginsA (items : Array Value) : Begins (.ref a) (objA t a) fun h => IsA t h a items := by
  cases t with
  | true => exact begins_tuple a items
  | false => exact begins_list a items
theorem AtA.start {h : Heap} (e : h.get? it = some (objA t a)) : AtA t h it a 0 := by
  cases t with
  | true => exact ⟨_, e, rfl, rfl⟩
  | false => exact ⟨_, e, rfl, rfl⟩
end
def ItzA (t1 t2 : Bool) (F : PySem.W.Frag) (a b : Addr) : L2.It where
  go := fun i H => ∃ (xs ys : List V) (x y : V), SqA t1 F H a xs ∧ SqA t2 F H b ys ∧ xs[i]? = some x ∧ ys[i]? = some y
  yld := fun i H v H' => ∃ T x y, v = .ref T ∧ H T = none ∧ H' = upd H T (.tup [x, y]) ∧ (∀ xs, SqA t1 F H a xs → xs[i]? = some x) ∧ ∀ ys, SqA t2 F H b ys → ys[i]? = some y
  stop := fun i H => ∃ xs ys : List V, SqA t1 F H a xs ∧ SqA t2 F H b ys ∧ i ≤ xs.length ∧ i ≤ ys.length ∧ (xs.length ≤ i ∨ ys.length ≤ i)
theorem turn_zipA2 {P : Program} {w : World} {F : PySem.W.Frag} {elts : List Expr} {kk : Nat} {tpos : Pos} {t1 t2 : Bool} {a b z TI TO i1 i2 : Addr} (D : ZipSep2 z TI TO i1 i2 [i1, a] [i2, b]) (na : a ≠ i1) (nb : b ≠ i2) :
    Turn P w F (.Tuple elts kk tpos) (ItzA t1 t2 F a b) [z, TI, TO, i1, i2] z (fun i h => IsZip h z TI TO .none ∧ IsTupOf2 h TI (.ref i1) (.ref i2) ∧ (∃ x y, IsTupOf2 h TO x y) ∧ AtA t1 h i1 a i ∧ AtA t2 h i2 b i) where
  mem := List.mem_cons_self
  obj := fun i h st c hc => by
    obtain ⟨hz, hTI, ⟨x, y, hTO⟩, s1, s2⟩ := st
    have hc' : c = z ∨ c = TI ∨ c = TO ∨ c = i1 ∨ c = i2 := by simpa using hc
    rcases hc' with rfl | rfl | rfl | rfl | rfl
    · exact ⟨_, hz, fun v q => nomatch q⟩
    · exact ⟨_, hTI, fun v q => nomatch q⟩
    · exact ⟨_, hTO, fun v q => nomatch q⟩
    · exact s1.obj
    · exact s2.obj
  keep := fun i h h' st k => by
    obtain ⟨hz, hTI, ⟨x, y, hTO⟩, s1, s2⟩ := st
    exact ⟨k z (by simp) _ hz, k TI (by simp) _ hTI, ⟨x, y, k TO (by simp) _ hTO⟩, s1.keep fun o q => k i1 (by simp) o q, s2.keep fun o q => k i2 (by simp) o q⟩
  item := by
    intro X hP hw hK hc i pins s σ H E I hf st hg
    subst hP hw hK
    obtain ⟨hz, hTI, ⟨x0, y0, hTO⟩, s1, s2⟩ := st
    obtain ⟨xs, ys, x, y, qx, qy, ex, ey⟩ := hg
    obtain ⟨as, ra, pa, _⟩ := inv_seqA I qx
    obtain ⟨bs, rb, pb, _⟩ := inv_seqA I qy
    obtain ⟨u, hu, ru⟩ := ra.get ex
    obtain ⟨u2, hu2, ru2⟩ := rb.get ey
    have hh : X.A.in1.handled = none := I.ok.hd hc
    have hlz : z < s.heap.objs.size := Heap.lt_size hz
    have la : i < as.toArray.size := by simpa using (List.getElem?_eq_some_iff.mp hu).1
    have lb : i < bs.toArray.size := by simpa using (List.getElem?_eq_some_iff.mp hu2).1
    refine wpAny_pyNext_zipD2_item (i := i) D (drawsA (t := t1) hh na as.toArray) (drawsA (t := t2) hh nb bs.toArray) hz hTI hTO ⟨s1, pa⟩ ⟨s2, pb⟩ la lb fun y1 y2 h' tk e1 e2 z' TO' st1 st2 hT hsz hk => ?_
    have e1' : y1 = u := by
      have : as[i]? = some y1 := by simpa using e1
      rw [hu] at this; exact (Option.some.inj this).symm
    have e2' : y2 = u2 := by
      have : bs[i]? = some y2 := by simpa using e2
      rw [hu2] at this; exact (Option.some.inj this).symm
    subst e1' e2'
    refine ⟨_, rfl, wpAny_letOwnedTupleGo_zip (s := { s with heap := h', toks := tk }) z' fun h2 z2 sb => ?_⟩
    have hT2 : h2.get? s.heap.objs.size = some { cls := .type "tuple", data := .seq #[y1, y2] } := (sb.2 _ (Nat.ne_of_gt hlz)).trans hT
    have okT : ObjOk X.prog X.w (upd H s.heap.objs.size (.tup [x, y])) h2 s.heap.objs.size (.tup [x, y]) := ⟨(by decide : 2 ≤ sizeLine), [y1, y2], .cons ru (.cons ru2 .nil), ⟨_, hT2, rfl, _, rfl⟩⟩
    have hmem : ∀ c, c ∉ [z, TI, TO, i1, i2] → c ≠ z ∧ c ≠ TO ∧ c ≠ i1 ∧ c ≠ i2 := fun c hb => by
      simp only [List.mem_cons, List.not_mem_nil, or_false, not_or] at hb
      exact ⟨hb.1, hb.2.2.1, hb.2.2.2.1, hb.2.2.2.2⟩
    have I1 : Inv X pins σ (upd H s.heap.objs.size (.tup [x, y])) { s with heap := h2, toks := tk } :=
      I.turnedNew (t' := tk) (ch := [z, TI, TO, i1, i2]) (fun c o hb q => by
        obtain ⟨c1, c2, c3, c4⟩ := hmem c hb
        exact (sb.2 c c1).trans (hk c o c1 c2 c3 c4 q)) hf (Nat.le_refl _) okT
    refine ⟨.ref s.heap.objs.size, _, I1, rfl, ⟨_, x, y, rfl, I.hok.fresh (Nat.le_refl _), rfl, fun l hl => by rw [inv_injA I hl qx]; exact ex, fun l hl => by rw [inv_injA I hl qy]; exact ey⟩, ⟨z2, ?_, ⟨y1, y2, ?_⟩, ?_, ?_⟩, fun c hcm => ?_⟩
    · exact (sb.2 _ D.TIz).trans (hk _ _ D.TIz D.TITO D.TIi1 D.TIi2 hTI)
    · exact (sb.2 _ D.TOz).trans TO'
    · exact st1.1.keep fun o q => (sb.2 _ (Ne.symm D.zi1)).trans q
    · exact st2.1.keep fun o q => (sb.2 _ (Ne.symm D.zi2)).trans q
    · have hlt : c < s.heap.objs.size := by
        have hc' : c = z ∨ c = TI ∨ c = TO ∨ c = i1 ∨ c = i2 := by simpa using hcm
        rcases hc' with rfl | rfl | rfl | rfl | rfl
        · exact hlz
        · exact Heap.lt_size hTI
        · exact Heap.lt_size hTO
        · obtain ⟨_, q, _⟩ := s1.obj; exact Heap.lt_size q
        · obtain ⟨_, q, _⟩ := s2.obj; exact Heap.lt_size q
      rw [upd_ne (Nat.ne_of_lt hlt)]
      exact (hf c hcm).1
  done := by
    intro X hP hw hK hc i pins s σ H E I hf st hg
    subst hP hw hK
    obtain ⟨hz, hTI, ⟨x0, y0, hTO⟩, s1, s2⟩ := st
    obtain ⟨xs, ys, qx, qy, l1, l2, hend⟩ := hg
    obtain ⟨as, ra, pa, _⟩ := inv_seqA I qx
    obtain ⟨bs, rb, pb, _⟩ := inv_seqA I qy
    have k1 := ra.length
    have k2 := rb.length
    have hh : X.A.in1.handled = none := I.ok.hd hc
    have z1 : as.toArray.size = as.length := by simp
    have z2 : bs.toArray.size = bs.length := by simp
    refine wpAny_pyNext_zipD2_end (i := i) D (drawsA (t := t1) hh na as.toArray) (drawsA (t := t2) hh nb bs.toArray) hz hTI hTO ⟨s1, pa⟩ ⟨s2, pb⟩ (by omega) (by omega) (by omega) fun h' tk hk => ⟨rfl, ?_⟩
    refine I.turnedL (t' := tk) (ch := [z, TI, TO, i1, i2]) (fun c o hb q => ?_) hf
    simp only [List.mem_cons, List.not_mem_nil, or_false, not_or] at hb
    exact hk c o hb.1 hb.2.2.1 hb.2.2.2.1 hb.2.2.2.2 q
  self := fun A i s Q E st h => wpAny_pyIter_zip st.1 h
def iZipX (F : PySem.W.Frag) (ta : TA) : TI := fun σ H R => ta σ H fun vs H1 => ∃ t1 t2 a b xs ys, vs = [.ref a, .ref b] ∧ SqA t1 F H1 a xs ∧ SqA t2 F H1 b ys ∧ R (ItzA t1 t2 F a b) H1
theorem pi_zipX {X : Cx} {e e2 : Expr} {ta : TA} {p pos tpos : Pos} {elts : List Expr} {kk : Nat} (hg : Gl X "zip") (hm : X.mg "zip" = none) (ha : PA X [e, e2] ta)
    (hs : starEach [e, e2] X.env = (false, eval e X.env) :: starEach [e2] X.env) (hpl : (backTo pos (starEach [e2] X.env)).any (·.1) = false) :
    PI X (.Tuple elts kk tpos) (.Call (.Name "zip" p) [e, e2] [] pos) (iZipX X.K ta) := by
  refine ⟨fun pins s σ H R I h => Call_ (ld_blt I hg hm boot_zip (callWith_type1 (thn (ha.run pos pins s σ H _ I h) fun us s1 ⟨vs, H1, I1, r1, q1⟩ => ?_) hs hpl))⟩
  obtain ⟨t1, t2, a, b, xs, ys, rfl, qx, qy, q⟩ := q1
  obtain ⟨u, us, rfl, r, rr⟩ : ∃ u us', us = u :: us' ∧ RelV (.ref a) u ∧ Vals [.ref b] us' := by cases r1 with | cons r rr => exact ⟨_, _, rfl, r, rr⟩
  obtain ⟨u2, us, rfl, r2, rr⟩ : ∃ u us', us = u :: us' ∧ RelV (.ref b) u ∧ Vals [] us' := by cases rr with | cons r rr => exact ⟨_, _, rfl, r, rr⟩
  cases rr
  cases r
  cases r2
  obtain ⟨as, ra, pa, la⟩ := inv_seqA I1 qx
  obtain ⟨bs, rb, pb, lb⟩ := inv_seqA I1 qy
  refine zip_begins2 (beginsA (t := t1) as.toArray) (beginsA (t := t2) bs.toArray) pa pb fun h' hz hTI hTO g1 g2 hsz hk => wpAny_pyIter_zip hz ?_
  have I2 : Inv X pins σ H1 { s1 with heap := h' } := I1.kept (t' := s1.toks) hk
  refine ⟨s1.heap.objs.size + 4, [s1.heap.objs.size + 4, s1.heap.objs.size + 2, s1.heap.objs.size + 3, s1.heap.objs.size, s1.heap.objs.size + 1], _, _, H1, rfl, I2, turn_zipA2 (zip_sep2 (fp1 := [a]) (fp2 := [b]) (by simpa using la) (by simpa using lb)) (Nat.ne_of_lt la) (Nat.ne_of_lt (Nat.lt_succ_of_lt lb)), ⟨hz, hTI, ⟨_, _, hTO⟩, AtA.start g1, AtA.start g2⟩, fun c hcm => ?_, q⟩
  have hle : s1.heap.objs.size ≤ c := by
    simp only [List.mem_cons, List.not_mem_nil, or_false] at hcm
    rcases hcm with rfl | rfl | rfl | rfl | rfl <;> first | exact Nat.le_refl _ | exact Nat.le_add_right _ _
  exact I1.fpOk hle (I1.hok.fresh hle)
theorem meets_enum1 {v : Value} {o : Obj} {Hq : Heap → Prop} (B : Begins v o Hq) : Meets (Builtin.«enumerate.__new__» ⟨[.type "enumerate", v], []⟩) (fun _ R s => Hq s.heap ∧
    R (.ok (.ret (.ref (s.heap.push o).objs.size))) { s with heap := (s.heap.push o).push { cls := .type "enumerate", data := .fields #[.none, .bool false, .ref s.heap.objs.size, rawInt 0, .none, .none] } }) :=
  .of_wp fun prog w A R s h => by
    obtain ⟨hp, g, d, tk, os⟩ := s; obtain ⟨h1, h⟩ := h
    have sub_ := sub_enumerate
    have q0 : ∀ {A' : Around} {E : Value → Shared → Prop} {Q : Value → Shared → Prop}, Q (.ref hp.objs.size) ⟨hp.push o, g, d, tk, os⟩ → wpAny (model prog w) A' (pyIter v) Q E ⟨hp, g, d, tk, os⟩ := fun q => B.iter prog w _ _ ⟨hp, g, d, tk, os⟩ _ h1 q
    wp_walk using q0
    refine wpAny_stack_any fun st => wpAny_pure ?_
    split
    · rename_i c _ _ _ _ _
      cases (c == Value.type "enumerate")
      · wp_walk using q0
        exact ⟨_, rfl, h⟩
      · wp_walk using q0
        exact ⟨_, rfl, h⟩
    · wp_walk using q0
      exact ⟨_, rfl, h⟩
theorem enum_new1 {prog : Program} {w : World} {A : Around} {E : Value → Shared → Prop} {s : Shared} {v : Value} {o : Obj} {Hq : Heap → Prop} {Q : Value → Shared → Prop} (B : Begins v o Hq) (h1 : Hq s.heap)
    (h : ∀ h', IsEnum h' (s.heap.objs.size + 1) s.heap.objs.size 0 .none → h'.get? s.heap.objs.size = some o → (∀ b o, s.heap.get? b = some o → h'.get? b = some o) → Q (.ref (s.heap.objs.size + 1)) { s with heap := h' }) :
    wpAny (model prog w) A (call (.type "enumerate") [v]) Q E s := by
  refine callType_new F.called_enumerate (by decide) (F.typeCall_enumerate_1 _) (F.newCall_enumerate_1 _) (fun obj => F.args_object_init_2 obj _) F.entry_enumerate_new (meets_enum1 B) ⟨h1, ?_⟩
  have hz : (s.heap.push o).objs.size = s.heap.objs.size + 1 := Heap.size_push ..
  have he := Heap.get?_push_size (s.heap.push o) (o := { cls := .type "enumerate", data := .fields #[.none, .bool false, .ref s.heap.objs.size, rawInt 0, .none, .none] }) rfl
  rw [hz] at he
  show _ ∧ _
  rw [hz]
  exact ⟨⟨_, he, rfl⟩, h _ he (Heap.get?_push_of_some _ (Heap.get?_push_size _ B.free)) fun b o x => Heap.get?_push_of_some _ (Heap.get?_push_of_some _ x)⟩
def IteA (t : Bool) (F : PySem.W.Frag) (a : Addr) : L2.It where
  go := fun i H => ∃ (xs : List V) (x : V), SqA t F H a xs ∧ xs[i]? = some x
  yld := fun i H v H' => ∃ T x, v = .ref T ∧ H T = none ∧ H' = upd H T (.tup [.int (i : Nat), x]) ∧ ∀ xs, SqA t F H a xs → xs[i]? = some x
  stop := fun i H => ∃ xs : List V, SqA t F H a xs ∧ i = xs.length
theorem turn_enumA {P : Program} {w : World} {F : PySem.W.Frag} {elts : List Expr} {kk : Nat} {tpos : Pos} {t : Bool} {a e it : Addr} (na : a ≠ it) (nea : e ≠ a) :
    Turn P w F (.Tuple elts kk tpos) (IteA t F a) [e, it] e (fun i h => (∃ old, IsEnum h e it ((i : Nat) : Int) old) ∧ AtA t h it a i ∧ e ≠ it) where
  mem := List.mem_cons_self
  obj := fun i h st b hb => by
    obtain ⟨⟨old, he⟩, s1, _⟩ := st
    have hb' : b = e ∨ b = it := by simpa using hb
    rcases hb' with rfl | rfl
    · exact ⟨_, he, fun v q => nomatch q⟩
    · exact s1.obj
  keep := fun i h h' st k => by
    obtain ⟨⟨old, he⟩, s1, ne⟩ := st
    exact ⟨⟨old, k e (by simp) _ he⟩, s1.keep fun o q => k it (by simp) o q, ne⟩
  item := by
    intro X hP hw hK hc i pins s σ H E I hf st hg
    subst hP hw hK
    obtain ⟨⟨old, he⟩, s1, ne⟩ := st
    obtain ⟨xs, x, qx, ex⟩ := hg
    obtain ⟨as, ra, pa, _⟩ := inv_seqA I qx
    obtain ⟨u, hu, ru⟩ := ra.get ex
    have hh : X.A.in1.handled = none := I.ok.hd hc
    have hle : e < s.heap.objs.size := Heap.lt_size he
    have hli : it < s.heap.objs.size := by obtain ⟨_, q, _⟩ := s1.obj; exact Heap.lt_size q
    have la : i < as.toArray.size := by simpa using (List.getElem?_eq_some_iff.mp hu).1
    refine wpAny_pyNext_enum_itemD (drawsA (t := t) hh na as.toArray) he ⟨s1, pa⟩ la ne (by simp [ne, nea]) fun y h' tk e1 ho st1 hT hsz hk => ?_
    have e1' : y = u := by
      have : as[i]? = some y := by simpa using e1
      rw [hu] at this; exact (Option.some.inj this).symm
    subst e1'
    refine ⟨_, rfl, wpAny_letOwnedTupleGo_enum (s := { s with heap := h', toks := tk + 1 }) ho fun h2 he2 sb => ?_⟩
    have hT2 : h2.get? s.heap.objs.size = some { cls := .type "tuple", data := .seq #[.int i tk, y] } := (sb.2 _ (Nat.ne_of_gt hle)).trans hT
    have okT : ObjOk X.prog X.w (upd H s.heap.objs.size (.tup [.int (i : Nat), x])) h2 s.heap.objs.size (.tup [.int (i : Nat), x]) := ⟨(by decide : 2 ≤ sizeLine), [.int i tk, y], .cons ⟨_, rfl⟩ (.cons ru .nil), ⟨_, hT2, rfl, _, rfl⟩⟩
    have hmem : ∀ c, c ∉ [e, it] → c ≠ e ∧ c ≠ it := fun c hb => by simpa using hb
    have I1 : Inv X pins σ (upd H s.heap.objs.size (.tup [.int (i : Nat), x])) { s with heap := h2, toks := tk + 1 } :=
      I.turnedNew (t' := tk + 1) (ch := [e, it]) (fun c o hb q => by
        obtain ⟨c1, c2⟩ := hmem c hb
        exact (sb.2 c c1).trans (hk c o c1 c2 q)) hf (Nat.le_refl _) okT
    refine ⟨.ref s.heap.objs.size, _, I1, rfl, ⟨_, x, rfl, I.hok.fresh (Nat.le_refl _), rfl, fun l hl => by rw [inv_injA I hl qx]; exact ex⟩, ⟨⟨y, ?_⟩, st1.1.keep fun o q => (sb.2 it (Ne.symm ne)).trans q, ne⟩, fun c hcm => ?_⟩
    · rw [show ((i + 1 : Nat) : Int) = (i : Int) + 1 by omega]; exact he2
    · have hlt : c < s.heap.objs.size := by
        have hc' : c = e ∨ c = it := by simpa using hcm
        rcases hc' with rfl | rfl
        · exact hle
        · exact hli
      rw [upd_ne (Nat.ne_of_lt hlt)]
      exact (hf c hcm).1
  done := by
    intro X hP hw hK hc i pins s σ H E I hf st hg
    subst hP hw hK
    obtain ⟨⟨old, he⟩, s1, ne⟩ := st
    obtain ⟨xs, qx, ei⟩ := hg
    obtain ⟨as, ra, pa, _⟩ := inv_seqA I qx
    have hh : X.A.in1.handled = none := I.ok.hd hc
    have k1 := ra.length
    have hn : i = as.toArray.size := by simp; omega
    obtain ⟨f0, f1, f2, f3, f4, f5⟩ := hf it (by simp)
    refine wpAny_pyNext_enum_endD (drawsA (t := t) hh na as.toArray) he (by rw [← hn]; exact ⟨s1, pa⟩) fun h' eb => ⟨rfl, I.turned (t' := s.toks) (fun b o hb q => eb b o hb q) f0 f1 f3 f4 f5⟩
  self := fun A i s Q E st h => by obtain ⟨⟨_, he⟩, _⟩ := st; exact wpAny_pyIter_enum he h
def iEnumX (F : PySem.W.Frag) (ta : TA) : TI := fun σ H R => ta σ H fun vs H1 => ∃ t a xs, vs = [.ref a] ∧ SqA t F H1 a xs ∧ R (IteA t F a) H1
theorem pi_enumX {X : Cx} {e : Expr} {ta : TA} {p pos tpos : Pos} {elts : List Expr} {kk : Nat} (hg : Gl X "enumerate") (hm : X.mg "enumerate" = none) (ha : PA X [e] ta) (hs : starEach [e] X.env = [(false, eval e X.env)]) :
    PI X (.Tuple elts kk tpos) (.Call (.Name "enumerate" p) [e] [] pos) (iEnumX X.K ta) := by
  refine ⟨fun pins s σ H R I h => Call_ (ld_blt I hg hm boot_enumerate (callWith_type1 (thn (ha.run pos pins s σ H _ I h) fun us s1 ⟨vs, H1, I1, r1, q1⟩ => ?_) hs rfl))⟩
  obtain ⟨t, a, xs, rfl, qx, q⟩ := q1
  obtain ⟨u, us, rfl, r, rr⟩ : ∃ u us', us = u :: us' ∧ RelV (.ref a) u ∧ Vals [] us' := by cases r1 with | cons r rr => exact ⟨_, _, rfl, r, rr⟩
  cases rr
  cases r
  obtain ⟨as, ra, pa, la⟩ := inv_seqA I1 qx
  refine enum_new1 (beginsA (t := t) as.toArray) pa fun h' he g1 hk => wpAny_pyIter_enum he ?_
  have I2 : Inv X pins σ H1 { s1 with heap := h' } := I1.kept (t' := s1.toks) hk
  refine ⟨s1.heap.objs.size + 1, [s1.heap.objs.size + 1, s1.heap.objs.size], _, _, H1, rfl, I2, turn_enumA (Nat.ne_of_lt la) (Nat.ne_of_gt (Nat.lt_succ_of_lt la)), ⟨⟨.none, he⟩, AtA.start g1, Nat.succ_ne_self _⟩, fun c hcm => ?_, q⟩
  have hle : s1.heap.objs.size ≤ c := by
    simp only [List.mem_cons, List.not_mem_nil, or_false] at hcm
    rcases hcm with rfl | rfl <;> first | exact Nat.le_refl _ | exact Nat.le_add_right _ _
  exact I1.fpOk hle (I1.hok.fresh hle)
section
variable {X : Cx} {C : Cc} {σ : St} {ι : List Addr} {H : Hp} {S : Store}
theorem view_seqA {K : Kb} {v : PV} {x : V} {xs : List PV} (st : StOk K ι H S) (r : Rep K ι H x v) (h : lsOf (res S v) = some xs) : ∃ t a vs, x = .ref a ∧ SqA t K.K H a vs ∧ RepL K ι H vs xs := by
  have vw := r.view st
  cases hr : res S v with
  | tup ys =>
    rw [hr] at vw h
    cases h
    obtain ⟨a, vs, e, q, l⟩ := vw
    exact ⟨true, a, vs, e, q, l⟩
  | list ys =>
    rw [hr] at vw h
    cases h
    obtain ⟨a, vs, e, q, l⟩ := vw
    exact ⟨false, a, vs, e, .inl q, l⟩
  | _ => rw [hr] at h; cases h
theorem ref_of_ls {K : Kb} {v : PV} {x : V} {xs : List PV} (st : StOk K ι H S) (r : Rep K ι H x v) (h : lsOf (res S v) = some xs) : ∃ a, x = .ref a := by
  obtain ⟨t, a, vs, e, _⟩ := view_seqA st r h
  exact ⟨a, e⟩
/-- the kind does not change -/
def kindA : PV → Bool
  | .tup _ => true
  | _ => false
theorem view_kind {K : Kb} {v : PV} {a : Addr} {xs : List PV} (st : StOk K ι H S) (r : Rep K ι H (.ref a) v) (h : lsOf (res S v) = some xs) : ∃ vs, SqA (kindA (res S v)) K.K H a vs ∧ RepL K ι H vs xs := by
  have vw := r.view st
  cases hr : res S v with
  | tup ys =>
    rw [hr] at vw h
    cases h
    obtain ⟨a, vs, e, q, l⟩ := vw
    cases e
    exact ⟨vs, q, l⟩
  | list ys =>
    rw [hr] at vw h
    cases h
    obtain ⟨a, vs, e, q, l⟩ := vw
    cases e
    exact ⟨vs, .inl q, l⟩
  | _ => rw [hr] at h; cases h
theorem guard_ls {S2 : Store} {v : PV} {xs : List PV} (h : guardOk S (guardOf S2 v) = true) (hr : lsOf (res S2 v) = some xs) : res S v = res S2 v :=
  guard_res h rfl fun k e => by rw [e] at hr; cases hr
theorem itok_zipA {K : Kb} {ι0 : List Addr} {H0 : Hp} {S0 : Store} {F : PySem.W.Frag} {a b : Addr} {v w : PV} {xs ys : List PV} {iv : Items} (hF : F = K.K) (r : Rep K ι0 H0 (.ref a) v) (r2 : Rep K ι0 H0 (.ref b) w) (hr : lsOf (res S0 v) = some xs) (hr2 : lsOf (res S0 w) = some ys) (hi : iv.items = zipP xs ys) (hg : iv.guard = guardOf S0 v ++ guardOf S0 w) : ItOk K ι0 H0 (ItzA (kindA (res S0 v)) (kindA (res S0 w)) F a b) iv := by
  intro K' ι H S tr st g
  rw [hg] at g
  obtain ⟨g1, g2⟩ := guardOk_append g
  have e1 := guard_ls g1 hr
  have e2 := guard_ls g2 hr2
  obtain ⟨vs, q, l⟩ := view_kind st (tr.rep _ _ r) (by rw [e1]; exact hr)
  obtain ⟨ws, q2, l2⟩ := view_kind st (tr.rep _ _ r2) (by rw [e2]; exact hr2)
  rw [e1, tr.eqK, ← hF] at q
  rw [e2, tr.eqK, ← hF] at q2
  rw [hi, zipP_len]
  have hl := l.length
  have hl2 := l2.length
  refine ⟨fun i hlt => ⟨vs, ws, vs[i]'(by omega), ws[i]'(by omega), q, q2, by simp, by simp⟩, ⟨vs, ws, q, q2, by omega, by omega, by omega⟩, fun i x H' hlt y => ?_⟩
  obtain ⟨T, x1, y1, f1, hT, f2, y2, y3⟩ := y
  subst f1 f2
  obtain ⟨p1, f1, f2⟩ := l.getV (y2 vs q)
  obtain ⟨p2, f3, f4⟩ := l2.getV (y3 ws q2)
  obtain ⟨z1, z2, z3⟩ := pair_new st hT f2 f4
  exact ⟨_, zipP_get xs ys i f1 f3, z1, z2, z3⟩
theorem itok_enumA {K : Kb} {ι0 : List Addr} {H0 : Hp} {S0 : Store} {F : PySem.W.Frag} {a : Addr} {v : PV} {xs : List PV} {iv : Items} (hF : F = K.K) (r : Rep K ι0 H0 (.ref a) v) (hr : lsOf (res S0 v) = some xs) (hi : iv.items = enumP 0 xs) (hg : iv.guard = guardOf S0 v) : ItOk K ι0 H0 (IteA (kindA (res S0 v)) F a) iv := by
  intro K' ι H S tr st g
  rw [hg] at g
  have e1 := guard_ls g hr
  obtain ⟨vs, q, l⟩ := view_kind st (tr.rep _ _ r) (by rw [e1]; exact hr)
  rw [e1, tr.eqK, ← hF] at q
  rw [hi, enumP_len]
  have hl := l.length
  refine ⟨fun i hlt => ⟨vs, vs[i]'(by omega), q, by simp⟩, ⟨vs, q, by omega⟩, fun i x H' hlt y => ?_⟩
  obtain ⟨T, x1, f1, hT, f2, y2⟩ := y
  subst f1 f2
  obtain ⟨p1, f1, f2⟩ := l.getV (y2 vs q)
  obtain ⟨z1, z2, z3⟩ := pair_new st hT (.int (i : Nat)) f2
  exact ⟨_, by rw [enumP_get xs 0 i f1]; simp, z1, z2, z3⟩
theorem pmi_zip {a b : Expr} {elts : List Expr} {kk : Nat} {c d : Ex} {p pos tpos : Pos} (hK : C.K.K = X.K) (hg : Gl X "zip") (hm : X.mg "zip" = none) (ha : PE X a (tEv C c)) (hb : PE X b (tEv C d)) (hs : isStar a = false) (hs2 : isStar b = false) : PI X (.Tuple elts kk tpos) (.Call (.Name "zip" p) [a, b] [] pos) (tIt C (.zip c d)) := by
  refine piImp (pi_zipX hg hm (pma_cons' ha (pma_cons' hb pma_nil hs2) hs) (star_plain hs) (by rw [star_plain hs2]; rfl)) fun σ H R ⟨ρ, S, ι, hE, hS, h⟩ => ?_
  unfold evI at h
  refine tEvs2 hE hS h fun v w S2 x y ι2 H2 e2 s2 r1 r2 h2 => ?_
  cases hr : lsOf (res S2 v) with
  | none => simp only [zipOf, hr] at h2; exact (show False from h2).elim
  | some xs =>
    cases hr2 : lsOf (res S2 w) with
    | none => simp only [zipOf, hr, hr2] at h2; exact (show False from h2).elim
    | some ys =>
      simp only [zipOf, hr, hr2] at h2
      obtain ⟨a', rfl⟩ := ref_of_ls s2 r1 hr
      obtain ⟨b', rfl⟩ := ref_of_ls s2 r2 hr2
      obtain ⟨vs, q, l⟩ := view_kind s2 r1 hr
      obtain ⟨ws, q2, l2⟩ := view_kind s2 r2 hr2
      rw [hK] at q q2
      exact ⟨_, _, a', b', vs, ws, rfl, q, q2, h2 (ItzA (kindA (res S2 v)) (kindA (res S2 w)) X.K a' b') H2 ι2 (Ext.refl _ _) s2 ⟨rfl, itok_zipA hK.symm r1 r2 hr hr2 rfl rfl⟩⟩
theorem pmi_enum {a : Expr} {elts : List Expr} {kk : Nat} {c : Ex} {p pos tpos : Pos} (hK : C.K.K = X.K) (hg : Gl X "enumerate") (hm : X.mg "enumerate" = none) (ha : PE X a (tEv C c)) (hs : isStar a = false) : PI X (.Tuple elts kk tpos) (.Call (.Name "enumerate" p) [a] [] pos) (tIt C (.enum c)) := by
  refine piImp (pi_enumX hg hm (pma_cons' ha pma_nil hs) (by rw [star_plain hs]; rfl)) fun σ H R ⟨ρ, S, ι, hE, hS, h⟩ => ?_
  unfold evI at h
  refine tEvs_one (tEv1 hE hS h fun v S2 x ι2 H2 e2 s2 r1 h2 => ?_)
  cases hr : lsOf (res S2 v) with
  | none => simp only [enumOf, hr] at h2; exact (show False from h2).elim
  | some xs =>
    simp only [enumOf, hr] at h2
    obtain ⟨a', rfl⟩ := ref_of_ls s2 r1 hr
    obtain ⟨vs, q, l⟩ := view_kind s2 r1 hr
    rw [hK] at q
    exact ⟨_, a', vs, rfl, q, h2 (IteA (kindA (res S2 v)) X.K a') H2 ι2 (Ext.refl _ _) s2 ⟨rfl, itok_enumA hK.symm r1 hr rfl rfl⟩⟩
end
end Bt
end
section
set_option maxHeartbeats 1000000
namespace Bt
open PySem L2
open PyProof.Rows hiding St
mutual
def Tg.slots : Tg → List Nat
  | .nm i => [i]
  | .tp ts => slotsL ts
def slotsL : List Tg → List Nat
  | [] => []
  | t :: ts => t.slots ++ slotsL ts
end
/-- the slots but ss are as they were -/
structure Same (ss : List Nat) (σ σ' : St) : Prop where
  len : σ'.length = σ.length
  at_ : ∀ i, i ∉ ss → σ'[i]? = σ[i]?
theorem Same.refl {ss : List Nat} (σ : St) : Same ss σ σ := ⟨rfl, fun _ _ => rfl⟩
theorem Same.trans {s1 s2 : List Nat} {σ σ' σ'' : St} (a : Same s1 σ σ') (b : Same s2 σ' σ'') : Same (s1 ++ s2) σ σ'' :=
  ⟨b.len.trans a.len, fun i h => (b.at_ i fun m => h (List.mem_append_right _ m)).trans (a.at_ i fun m => h (List.mem_append_left _ m))⟩
theorem wipe_get (σ : St) : ∀ (vs : List Nat) (i : Nat), (wipe σ vs)[i]? = if i ∈ vs ∧ i < σ.length then some none else σ[i]?
  | [], i => by simp [wipe]
  | v :: vs, i => by
    unfold wipe
    by_cases h : v = i
    · subst h
      by_cases hl : v < σ.length
      · rw [List.getElem?_set_self (by rw [wipe_length]; exact hl)]
        simp [hl]
      · rw [List.getElem?_eq_none (by rw [List.length_set, wipe_length]; omega)]
        simp [hl]
    · rw [List.getElem?_set_ne h, wipe_get σ vs i]
      have : (i ∈ v :: vs) ↔ i ∈ vs := by simp [Ne.symm h]
      simp [this]
theorem Same.wipe {ss vs : List Nat} {σ σ' : St} (h : Same ss σ σ') (hs : ∀ i ∈ ss, i ∈ vs) : L2.wipe σ' vs = L2.wipe σ vs := by
  apply List.ext_getElem?
  intro i
  rw [wipe_get, wipe_get, h.len]
  by_cases hi : i ∈ vs ∧ i < σ.length
  · rw [if_pos hi, if_pos hi]
  · rw [if_neg hi, if_neg hi]
    by_cases hl : i < σ.length
    · exact h.at_ i fun m => hi ⟨hs i m, hl⟩
    · have := h.len
      rw [List.getElem?_eq_none (by omega), List.getElem?_eq_none (by omega)]
theorem wipe_wipe (σ : St) (vs : List Nat) : L2.wipe (L2.wipe σ vs) vs = L2.wipe σ vs := by
  apply List.ext_getElem?
  intro i
  rw [wipe_get, wipe_get]
  rw [wipe_length]
  by_cases hi : i ∈ vs ∧ i < σ.length
  · rw [if_pos hi, if_pos hi]
  · rw [if_neg hi]
def gT (C : Cc) (tg : Tg) : TG := fun v σ H Q => ∃ ρ ι S p ρ', EnvOk C.K ι H σ ρ ∧ StOk C.K ι H S ∧ Rep C.K ι H v p ∧ Bt.assign tg (opened tg S p) ρ = some ρ' ∧ ∀ σ', EnvOk C.K ι H σ' ρ' → Same tg.slots σ σ' → Q σ' H
def gTs (C : Cc) (ts : List Tg) : TGs := fun vs σ H Q => ∃ ρ ι S ps ρ', EnvOk C.K ι H σ ρ ∧ StOk C.K ι H S ∧ RepL C.K ι H vs ps ∧ assignL ts ps ρ = some ρ' ∧ ∀ σ', EnvOk C.K ι H σ' ρ' → Same (slotsL ts) σ σ' → Q σ' H
section
variable {X : Cx} {C : Cc} {σ : St} {ι : List Addr} {H : Hp} {S : Store}
theorem pgImp {e : Expr} {t t' : TG} (h : PG X e t) (i : ∀ v σ H Q, t' v σ H Q → t v σ H Q) : PG X e t' := ⟨fun pins s σ H v u Q I r q => h.run pins s σ H v u Q I r (i v σ H Q q)⟩
theorem pgsImp {e : List Expr} {t t' : TGs} (h : PGs X e t) (i : ∀ v σ H Q, t' v σ H Q → t v σ H Q) : PGs X e t' := ⟨fun pins s σ H v u Q I r q => h.run pins s σ H v u Q I r (i v σ H Q q)⟩
theorem pmg_nm {i : Nat} {x : Str} {pos : Pos} (hN : X.N.Nodup) (hi : X.N[i]? = some x) (hx : Loc X.env.scope x) (hf : X.fn x = true ∨ X.env.scope.names.lookup x = some .local) : PG X (.Name x pos) (gT C (.nm i)) := by
  refine pgImp (pg_name hN hi hx hf) fun v σ H Q ⟨ρ, ι, S, p, ρ', hE, hS, r, ha, h⟩ => ?_
  have ha' : (if i < ρ.length then some (ρ.set i (some p)) else none) = some ρ' := ha
  by_cases hl : i < ρ.length
  · rw [if_pos hl] at ha'
    cases ha'
    refine h _ (hE.set r) ⟨by simp, fun j hj => ?_⟩
    have : j ≠ i := by simpa [Tg.slots] using hj
    rw [List.getElem?_set_ne (Ne.symm this)]
  · rw [if_neg hl] at ha'
    cases ha'
theorem pmgs_nil : PGs X [] (gTs C []) := pgsImp pgs_nil fun vs σ H Q ⟨ρ, ι, S, ps, ρ', hE, hS, r, ha, h⟩ => by
  cases r with
  | nil =>
    have ha' : some ρ = some ρ' := ha
    cases ha'
    exact ⟨rfl, h σ hE (Same.refl σ)⟩
  | cons _ _ => exact absurd ha (by simp [assignL])
/-- targets inside a target: names, or tuples at no reference -/
theorem assign_res {tg : Tg} {p : PV} {ρ ρ' : Env} (S : Store) (h : assign tg p ρ = some ρ') : Bt.assign tg (opened tg S p) ρ = some ρ' := by
  cases tg with
  | nm i => exact h
  | tp ts =>
    cases p with
    | ref k => simp [assign] at h
    | _ => exact h
theorem pmgs_cons {e : Expr} {es : List Expr} {t : Tg} {ts : List Tg} (h1 : PG X e (gT C t)) (h2 : PGs X es (gTs C ts)) (hs : isStar e = false) : PGs X (e :: es) (gTs C (t :: ts)) := by
  have hs' : (assignEach (e :: es) X.env).map (·.2) = PySem.assign e X.env :: (assignEach es X.env).map (·.2) := by
    cases e <;> first | rfl | cases hs
  refine pgsImp (pgs_cons h1 h2 hs') fun vs σ H Q ⟨ρ, ι, S, ps, ρ', hE, hS, r, ha, h⟩ => ?_
  cases r with
  | nil => exact absurd ha (by simp [assignL])
  | @cons v vs p ps rp rl =>
    obtain ⟨ρ1, a1, a2⟩ := Option.bind_eq_some_iff.mp (show (Bt.assign t p ρ).bind (assignL ts ps) = some ρ' from ha)
    refine ⟨v, vs, rfl, ρ, ι, S, p, ρ1, hE, hS, rp, assign_res S a1, fun σ1 hE1 same1 => ⟨ρ1, ι, S, ps, ρ', hE1, hS, rl, a2, fun σ2 hE2 same2 => h σ2 hE2 ?_⟩⟩
    exact same1.trans same2
theorem assignEach_plain {env : PySem.Env} : ∀ {es : List Expr}, noStar es = true → (assignEach es env).length = es.length ∧ (assignEach es env).findIdx? (·.1) = none
  | [], _ => ⟨rfl, rfl⟩
  | e :: es, h => by
    obtain ⟨h1, h2⟩ := noStar_cons h
    obtain ⟨i1, i2⟩ := assignEach_plain (env := env) h2
    have e0 : assignEach (e :: es) env = (false, PySem.assign e env) :: assignEach es env := by
      cases e <;> first | rfl | cases h1
    rw [e0]
    refine ⟨by simp [i1], ?_⟩
    rw [List.findIdx?_cons]
    simp [i2]
theorem assignL_len : ∀ {ts : List Tg} {ps : List PV} {ρ ρ' : Env}, assignL ts ps ρ = some ρ' → ps.length = ts.length
  | [], [], _, _, _ => rfl
  | [], _ :: _, _, _, h => by simp [assignL] at h
  | _ :: _, [], _, _, h => by simp [assignL] at h
  | t :: ts, p :: ps, ρ, ρ', h => by
    obtain ⟨ρ1, a1, a2⟩ := Option.bind_eq_some_iff.mp (show (assign t p ρ).bind (assignL ts ps) = some ρ' from h)
    simp [assignL_len a2]
theorem pmg_tp {es : List Expr} {ts : List Tg} {k : Nat} {pos : Pos} (hK : C.K.K = X.K) (hc : X.calm = true) (h : PGs X es (gTs C ts)) (hs : noStar es = true) (hl : es.length = ts.length) : PG X (.Tuple es k pos) (gT C (.tp ts)) := by
  obtain ⟨n1, n2⟩ := assignEach_plain (env := X.env) hs
  refine ⟨fun pins s σ H v u Q I r ⟨ρ, ι, S, p, ρ', hE, hS, rp, ha, q⟩ => ?_⟩
  have vw := rp.view hS
  have ha : Bt.assign (.tp ts) (res S p) ρ = some ρ' := ha
  generalize res S p = w at vw ha
  cases w with
  | tup xs =>
    obtain ⟨a, vs, e, sq, l⟩ := vw
    rw [hK] at sq
    have ha : assignL ts xs ρ = some ρ' := ha
    refine (pg_tup hc h n1 n2).run pins s σ H v u Q I r ⟨a, vs, e, sq, ?_, ρ, ι, S, xs, ρ', hE, hS, l, ha, q⟩
    rw [l.length, assignL_len ha, hl]
  | list xs =>
    obtain ⟨a, vs, e, sq, l⟩ := vw
    have ha : assignL ts xs ρ = some ρ' := ha
    refine (pg_lst hc h n1 n2).run pins s σ H v u Q I r ⟨a, vs, e, .inl sq, ?_, ρ, ι, S, xs, ρ', hE, hS, l, ha, q⟩
    rw [l.length, assignL_len ha, hl]
  | _ => simp [Bt.assign] at ha
end
/-- a new list, a new dict: at p, which no value has in it -/
def FreshL (C : Cc) (ι : List Addr) (H : Hp) (S : Store) (xs : List PV) (Q : VK) : Prop := ∀ ι' H' vs p, Ext ι H ι' H' → StOk (C.K.ban p) ι' H' S → RepL (C.K.ban p) ι' H' vs xs → Fr H p → p ∉ C.K.B → H' p = some (.lst vs) → Q (.ref p) H'
def FreshD (C : Cc) (ι : List Addr) (H : Hp) (S : Store) (kvs : List (PV × PV)) (Q : VK) : Prop := ∀ ι' H' es p, Ext ι H ι' H' → StOk (C.K.ban p) ι' H' S → RepD (C.K.ban p) ι' H' es kvs → Fr H p → p ∉ C.K.B → H' p = some (.dK es) → Q (.ref p) H'
def PostF (C : Cc) (σ : St) (ι : List Addr) (H : Hp) (r : Res PV) (Q : VK) : Prop := match r with
  | .ok (.list xs) S => FreshL C ι H S xs Q
  | .ok (.dict kvs) S => FreshD C ι H S kvs Q
  | r => PostV C σ ι H r Q
def tEvF (C : Cc) (c : Ex) : TE := fun σ H Q => ∃ ρ S ι, EnvOk C.K ι H σ ρ ∧ StOk C.K ι H S ∧ PostF C σ ι H (evE C.φ C.G c ρ S) Q
section
variable {C : Cc} {σ : St} {ι ι' : List Addr} {H H' : Hp} {S : Store} {Q : VK}
theorem StOk.freeF {K : Kb} (s : StOk K ι H S) {p : Addr} (h : Fr H p) : p ∉ ι := fun m => by
  obtain ⟨k, c, _, _, q⟩ := s.of_mem m
  obtain ⟨o, e⟩ := q.there
  obtain ⟨ps, z⟩ := h o e
  have := q.nx o e
  rw [z] at this
  exact this
theorem PostF.ofV {r : Res PV} (h : PostV C σ ι H r Q) : PostF C σ ι H r Q := by
  cases r with
  | ok v S =>
    cases v with
    | list xs => exact fun ι' H' vs p e st ra hp hb hH => h (.ref p) H' ι' e st.unban (.list (.inl hH) ⟨(st.ban p List.mem_cons_self).2, hb⟩ ra.unban)
    | dict kvs => exact fun ι' H' vs p e st ra hp hb hH => h (.ref p) H' ι' e st.unban (.dict (.inl hH) ⟨(st.ban p List.mem_cons_self).2, hb⟩ ra.unban)
    | _ => exact h
  | exc x S => exact h
  | stuck => exact h
theorem tEv_F {c : Ex} (σ : St) (H : Hp) (Q : VK) (h : tEv C c σ H Q) : tEvF C c σ H Q := by
  obtain ⟨ρ, S, ι, hE, hS, h⟩ := h
  exact ⟨ρ, S, ι, hE, hS, PostF.ofV h⟩
theorem Away.own {K : Kb} {a p : Addr} (h : Away (K.ban p) ι a) : Away K (ι ++ [p]) a := ⟨fun m => by
  rcases List.mem_append.mp m with m | m
  · exact h.1 m
  · exact h.ne (List.mem_singleton.mp m), h.unban.2⟩
mutual
theorem Rep.own {K : Kb} {p : Addr} : ∀ (x : PV) (v : V), Rep (K.ban p) ι H v x → Rep K (ι ++ [p]) H v x
  | .none, _, .non => .non
  | .bool b, _, .bl _ => .bl b
  | .int i, _, .int _ => .int i
  | .str s, _, .str _ h h' => .str s h h'
  | .tup xs, _, .tup h n r => .tup h n.own (RepL.own xs _ r)
  | .tup xs, _, .tupK h r => .tupK h (RepL.own xs _ r)
  | .list xs, _, .list h n r => .list h n.own (RepL.own xs _ r)
  | .dict xs, _, .dict h n r => .dict h n.own (RepD.own xs _ r)
  | .ref k, _, .ref h => .ref (prefix_get (List.prefix_append _ _) h)
  | .scr ns, _, .scr h n => .scr h n.own
  | .scr ns, _, .scrK h => .scrK h
  | .exc c fs, _, .exc h => .exc h
theorem RepL.own {K : Kb} {p : Addr} : ∀ (xs : List PV) (vs : List V), RepL (K.ban p) ι H vs xs → RepL K (ι ++ [p]) H vs xs
  | [], _, .nil => .nil
  | x :: xs, _, .cons h r => .cons (Rep.own x _ h) (RepL.own xs _ r)
theorem RepD.own {K : Kb} {p : Addr} : ∀ (xs : List (PV × PV)) (es : List (Key × V)), RepD (K.ban p) ι H es xs → RepD K (ι ++ [p]) H es xs
  | [], _, .nil => .nil
  | (_, x) :: xs, _, .cons q h r => .cons q (Rep.own x _ h) (RepD.own xs _ r)
end
theorem CellRep.own {K : Kb} {p a : Addr} {c : Cell} (h : CellRep (K.ban p) ι H a c) : CellRep K (ι ++ [p]) H a c := by
  cases c with
  | lst xs => obtain ⟨vs, e, r⟩ := h; exact ⟨vs, e, r.own⟩
  | dic lk kvs =>
    cases lk with
    | false => obtain ⟨es, e, r⟩ := h; exact ⟨es, e, r.own⟩
    | true => obtain ⟨ob, es, e, r⟩ := h; exact ⟨ob, es, e, r.own⟩
theorem StOk.own {K : Kb} {p : Addr} {c : Cell} (s : StOk (K.ban p) ι H S) (hb : p ∉ K.B) (hc : CellRep K (ι ++ [p]) H p c) : StOk K (ι ++ [p]) H (S ++ [c]) := by
  have hp := (s.ban p List.mem_cons_self).2
  refine ⟨by simp [s.len], List.nodup_append.mpr ⟨s.nd, by simp, fun a m b m' => ?_⟩, fun b m => ⟨⟨(s.ban b (List.mem_cons_of_mem _ m)).1, fun m' => ?_⟩, (s.ban' b (List.mem_cons_of_mem _ m)).2⟩, s.tab, fun k a d e1 e2 => ?_⟩
  · rw [List.mem_singleton.mp m']
    intro z
    subst z
    exact hp m
  · rcases List.mem_append.mp m' with m' | m'
    · exact (s.ban b (List.mem_cons_of_mem _ m)).2 m'
    · rw [List.mem_singleton.mp m'] at m
      exact hb m
  · by_cases hk : k < ι.length
    · rw [List.getElem?_append_left hk] at e1
      rw [List.getElem?_append_left (by rw [← s.len]; exact hk)] at e2
      exact (s.cell k a d e1 e2).own
    · have hk' : k = ι.length := by
        have := (List.getElem?_eq_some_iff.mp e1).1
        simp at this; omega
      subst hk'
      simp at e1
      rw [s.len] at e2
      simp at e2
      subst e1 e2
      exact hc
theorem Ext.own (e : Ext ι H ι' H') {p : Addr} (hp : Fr H p) : Ext ι H (ι' ++ [p]) H' := ⟨⟨e.pre.trans (List.prefix_append _ _), e.keep', fun a m => by
  rcases List.mem_append.mp m with m | m
  · exact e.new a m
  · rw [List.mem_singleton.mp m]; exact .inr hp⟩, e.frz⟩
theorem PostF.ofBr {r : Res PV} (h : PostV C σ ι H (r.bind toRef) Q) : PostF C σ ι H r Q := by
  cases r with
  | ok v S =>
    cases v with
    | list xs =>
      intro ι' H' vs p e st ra hp hb hH
      have h : PostV C σ ι H (.ok (.ref S.length) (S ++ [.lst xs])) Q := h
      exact h (.ref p) H' (ι' ++ [p]) (e.own hp) (st.own hb ⟨vs, hH, ra.own⟩) (.ref (by rw [← st.len]; simp))
    | dict kvs =>
      intro ι' H' vs p e st ra hp hb hH
      have h : PostV C σ ι H (.ok (.ref S.length) (S ++ [.dic false kvs])) Q := h
      exact h (.ref p) H' (ι' ++ [p]) (e.own hp) (st.own hb ⟨vs, hH, ra.own⟩) (.ref (by rw [← st.len]; simp))
    | _ => exact (show False from h).elim
  | exc x S => exact h
  | stuck => exact h
theorem tBr_F {c : Ex} (σ : St) (H : Hp) (Q : VK) (h : tEv C (.br c) σ H Q) : tEvF C c σ H Q := by
  obtain ⟨ρ, S, ι, hE, hS, h⟩ := h
  unfold evE at h
  exact ⟨ρ, S, ι, hE, hS, PostF.ofBr h⟩
theorem PostF.from {r : Res PV} {S' : Store} (e : Ext ι H ι' H') (s' : StOk C.K ι' H' S') (h : PostF C σ ι H r Q) : PostF C σ ι' H' r Q := by
  have hn : ∀ p, Fr H' p → Fr H p := fun p hp => e.toFr hp fun m => s'.freeF hp (e.pre.subset m)
  cases r with
  | ok v S =>
    cases v with
    | list xs => exact fun ι2 H2 vs p e2 st ra hp hb hH => h ι2 H2 vs p (e.trans e2) st ra (hn p hp) hb hH
    | dict kvs => exact fun ι2 H2 vs p e2 st ra hp hb hH => h ι2 H2 vs p (e.trans e2) st ra (hn p hp) hb hH
    | _ => simp only [PostF] at h ⊢; exact PostG.from e h
  | exc x S => simp only [PostF] at h ⊢; exact PostG.from e h
  | stuck => exact h
theorem PostF.bind {α β : Type} {rep : List Addr → Hp → β → α → Prop} {r : Res α} {f : α → Store → Res PV} (h : PostF C σ ι H (r.bind f) Q) : PostG rep C σ ι H r fun v S1 _ ι1 H1 => PostF C σ ι1 H1 (f v S1) Q := by
  cases r with
  | ok v S => exact fun x H2 ι2 e s r => PostF.from e s h
  | exc q S => exact h
  | stuck => exact h
theorem tEvsF1 {cs : List Ex} {ρ : Env} {f : List PV → Store → Res PV} {R : List V → Hp → Prop}
    (hE : EnvOk C.K ι H σ ρ) (hS : StOk C.K ι H S) (h : PostF C σ ι H ((evEs C.φ C.G cs ρ S).bind f) Q)
    (hR : ∀ vs S2 xs ι2 H2, vs.length = cs.length → Ext ι H ι2 H2 → StOk C.K ι2 H2 S2 → RepL C.K ι2 H2 xs vs → PostF C σ ι2 H2 (f vs S2) Q → R xs H2) : tEvs C cs σ H fun x H1 => R x H1 := by
  refine ⟨ρ, S, ι, hE, hS, ?_⟩
  have h1 := PostF.bind (rep := RepL C.K) h
  cases e : evEs C.φ C.G cs ρ S with
  | ok vs S2 =>
    rw [e] at h1
    exact fun x H2 ι2 e2 s2 r => hR vs S2 x ι2 H2 (evEs_length e) e2 s2 r (h1 x H2 ι2 e2 s2 r)
  | exc x S2 => rw [e] at h1; exact h1
  | stuck => rw [e] at h1; exact h1
/-- laid at a free place -/
theorem FreshL.laid {xs : List PV} {vs : List V} (h : FreshL C ι H S xs Q) (hS : StOk C.K ι H S) (r : RepL C.K ι H vs xs) : ∀ p, H p = none → Q (.ref p) (upd H p (.lst vs)) := fun p hp =>
  h ι _ vs p (Ext.upd hp) (hS.banNew hp) (r.ban hp).updB (Fr.of hp) (fun m => (hS.ban p m).1 hp) upd_same
theorem FreshD.laid {kvs : List (PV × PV)} {es : List (Key × V)} (h : FreshD C ι H S kvs Q) (hS : StOk C.K ι H S) (r : RepD C.K ι H es kvs) : ∀ p, H p = none → Q (.ref p) (upd H p (.dK es)) := fun p hp =>
  h ι _ es p (Ext.upd hp) (hS.banNew hp) (r.ban hp).updB (Fr.of hp) (fun m => (hS.ban p m).1 hp) upd_same
end
section
variable {X : Cx} {C : Cc} {σ : St} {ι : List Addr} {H : Hp} {S : Store}
def tTs (C : Cc) (cs : List Ex) : TT := fun σ H Q => ∃ ρ S ι, EnvOk C.K ι H σ ρ ∧ StOk C.K ι H S ∧ PostG (fun _ _ (b : Bool) a => b = a) C σ ι H (evTs C.φ C.G cs ρ S) fun _ _ b _ H' => Q b H'
theorem ptsImp {es : List Expr} {t t' : TT} (h : PTs X es t) (i : ∀ σ H Q, t' σ H Q → t σ H Q) : PTs X es t' := ⟨fun pins s σ H Q I q => h.run pins s σ H Q I (i σ H Q q)⟩
theorem pmts_nil : PTs X [] (tTs C []) := ptsImp pts_nil fun σ H Q ⟨ρ, S, ι, hE, hS, h⟩ => by
  unfold evTs at h
  exact h true H ι (Ext.refl _ _) hS rfl
theorem pmts_one {e : Expr} {c : Ex} (h : PT X e (tTru C c)) : PTs X [e] (tTs C [c]) := ptsImp (pts_one h) fun σ H Q ⟨ρ, S, ι, hE, hS, h⟩ => ⟨ρ, S, ι, hE, hS, by
  unfold evTs at h
  unfold evTs at h
  refine Eq.mp (congrArg (fun z => PostG (fun _ _ (b : Bool) a => b = a) C σ ι H z fun _ _ b _ H' => Q b H') ?_) h
  congr 1
  funext v S
  unfold truthR
  cases truth (res S v) with
  | none => rfl
  | some b => cases b <;> rfl⟩
/-- inside a comprehension -/
abbrev Cc.blk (C : Cc) (D : Addr) : Cc := { C with K := C.K.ban D, W := fun _ _ _ _ => False }
theorem compLoop_noexc {g : List (Nat × Cell)} {tg : Tg} {ρ : Env} {tst : Env → Store → Res Bool} {el : Env → Store → Res PV} : ∀ {xs : List PV} {S : Store} {x : PV} {S' : Store}, compLoop g tg ρ tst el xs S ≠ .exc x S'
  | [], S, x, S' => by unfold compLoop; split <;> simp
  | y :: ys, S, x, S' => by
    unfold compLoop
    split
    · split
      · simp
      · split
        · split
          · rename_i v S2 _
            have := compLoop_noexc (g := g) (tg := tg) (ρ := ρ) (tst := tst) (el := el) (xs := ys) (S := S2) (x := x) (S' := S')
            cases e : compLoop g tg ρ tst el ys S2 with
            | ok a b => simp [Res.map, Res.bind]
            | exc a b =>
              exact absurd e (compLoop_noexc (g := g) (tg := tg) (ρ := ρ) (tst := tst) (el := el) (xs := ys) (S := S2) (x := a) (S' := b))
            | stuck => simp [Res.map, Res.bind]
          · simp
        · exact compLoop_noexc
        · simp
    · simp
theorem Res.map_ok {α β : Type} {r : Res α} {f : α → β} {b : β} {S : Store} (h : r.map f = .ok b S) : ∃ a, r = .ok a S ∧ f a = b := by
  cases r with
  | ok a S1 =>
    have h : Res.ok (f a) S1 = .ok b S := h
    cases h
    exact ⟨a, rfl, rfl⟩
  | exc _ _ => cases h
  | stuck => cases h
/-- one turn of the loop -/
theorem compLoop_step {g : List (Nat × Cell)} {tg : Tg} {ρ : Env} {tst : Env → Store → Res Bool} {el : Env → Store → Res PV} {x : PV} {xs : List PV} {S Sf : Store} {vs : List PV} (h : compLoop g tg ρ tst el (x :: xs) S = .ok vs Sf) :
    guardOk S g = true ∧ ∃ ρ', assign tg x ρ = some ρ' ∧ ((∃ S1 v S2 ws, tst ρ' S = .ok true S1 ∧ el ρ' S1 = .ok v S2 ∧ compLoop g tg ρ tst el xs S2 = .ok ws Sf ∧ vs = v :: ws) ∨ ∃ S1, tst ρ' S = .ok false S1 ∧ compLoop g tg ρ tst el xs S1 = .ok vs Sf) := by
  unfold compLoop at h
  split at h
  · rename_i hg
    refine ⟨hg, ?_⟩
    split at h
    · cases h
    · rename_i ρ' ha
      refine ⟨ρ', ha, ?_⟩
      split at h
      · rename_i S1 ht
        split at h
        · rename_i v S2 hv
          obtain ⟨ws, e1, e2⟩ := Res.map_ok h
          exact .inl ⟨S1, v, S2, ws, ht, hv, e1, e2.symm⟩
        · cases h
      · rename_i S1 ht
        exact .inr ⟨S1, ht, h⟩
      · cases h
  · cases h
theorem compLoop_nil {g : List (Nat × Cell)} {tg : Tg} {ρ : Env} {tst : Env → Store → Res Bool} {el : Env → Store → Res PV} {S Sf : Store} {vs : List PV} (h : compLoop g tg ρ tst el [] S = .ok vs Sf) : guardOk S g = true ∧ vs = [] ∧ Sf = S := by
  unfold compLoop at h
  split at h
  · rename_i hg; cases h; exact ⟨hg, rfl, rfl⟩
  · cases h
/-- what stands at each turn: the new list at D -/
def LcInv (C : Cc) (D : Addr) (ι1 : List Addr) (H1 : Hp) (g : List (Nat × Cell)) (tg : Tg) (ρ : Env) (ifs : List Ex) (elt : Ex) (items vs : List PV) (Sf : Store) (i m : Nat) (H : Hp) : Prop :=
  ∃ ι S acc pacc ws, i ≤ items.length ∧ m = items.length - i ∧ H D = some (.lst acc) ∧ acc.length ≤ i ∧ RepL (C.K.ban D) ι H acc pacc ∧ StOk (C.K.ban D) ι H S ∧ Ext ι1 H1 ι H ∧
    compLoop g tg ρ (evTs C.φ C.G ifs) (evE C.φ C.G elt) (items.drop i) S = .ok ws Sf ∧ vs = pacc ++ ws
theorem lc_run {D : Addr} {ι1 : List Addr} {H1 : Hp} {S1 : Store} {iv : Items} {J : L2.It} {tg : Tg} {ρ : Env} {ifs : List Ex} {elt : Ex} {own : List Nat} {Q : VK} (hD : H1 D = none) (hS : StOk C.K ι1 H1 S1) (hE : EnvOk C.K ι1 H1 σ ρ) (ok : ItOk C.K ι1 H1 J iv) (hown : ∀ i ∈ tg.slots, i ∈ own) (hlock : iv.lock = [])
    (h : PostF C σ ι1 H1 (if iv.items.length ≤ sizeLine then (compLoop iv.guard tg (wipeP ρ own) (evTs C.φ C.G ifs) (evE C.φ C.G elt) iv.items S1).bind fun vs S => .ok (.list vs) (unlock S iv.lock) else .stuck) Q) :
    ∃ W : Nat → Nat → Hp → Prop, (∃ m, W 0 m (upd H1 D (.lst []))) ∧ ∀ i m H, W i m H → (J.stop i H ∧ Q (.ref D) H) ∨ (J.go i H ∧ ∃ Nx : Hp → Prop, (∀ H', Nx H' → ∃ m', m' < m ∧ W (i + 1) m' H') ∧ ∀ x H', J.yld i H x H' →
      (∃ D1, gT (C.blk D1) tg x (L2.wipe σ own) H' fun σ2 H2 => L2.wipe σ2 own = L2.wipe σ own ∧ ∃ D2, tTs (C.blk D2) ifs σ2 H2 fun b H3 =>
        if b = true then ∃ D3, tEv (C.blk D3) elt σ2 H3 fun y H4 => ∃ acc, H4 D = some (.lst acc) ∧ acc.length < sizeLine ∧ Nx (upd H4 D (.lst (acc ++ [y]))) else Nx H3)) := by
  by_cases hn : iv.items.length ≤ sizeLine
  · rw [if_pos hn] at h
    cases e0 : compLoop iv.guard tg (wipeP ρ own) (evTs C.φ C.G ifs) (evE C.φ C.G elt) iv.items S1 with
    | stuck => rw [e0] at h; exact (show False from h).elim
    | exc a b => exact absurd e0 compLoop_noexc
    | ok vs Sf =>
      rw [e0, hlock] at h
      have h : FreshL C ι1 H1 Sf vs Q := h
      refine ⟨LcInv C D ι1 H1 iv.guard tg (wipeP ρ own) ifs elt iv.items vs Sf, ⟨iv.items.length, ι1, S1, [], [], vs, Nat.zero_le _, rfl, upd_same, Nat.le_refl _, .nil, hS.banNew hD, (Ext.refl _ _).updF hD, by simpa using e0, rfl⟩, ?_⟩
      rintro i m H ⟨ι, S, acc, pacc, ws, hi, rfl, hHD, hla, ra, st, ext, el, ev⟩
      have tr : Tr C.K ι1 H1 (C.K.ban D) ι H := Tr.banExt hD ext
      have hDι : D ∉ ι := (st.ban D List.mem_cons_self).2
      by_cases hlt : i < iv.items.length
      · rw [List.drop_eq_getElem_cons hlt] at el
        obtain ⟨g, ρ', as, el⟩ := compLoop_step el
        obtain ⟨k1, k2, k3⟩ := ok _ _ _ _ tr st g
        refine .inr ⟨k1 i hlt, LcInv C D ι1 H1 iv.guard tg (wipeP ρ own) ifs elt iv.items vs Sf (i + 1) (iv.items.length - (i + 1)), fun H' hh => ⟨_, by omega, hh⟩, fun x H' y => ?_⟩
        obtain ⟨p, ep, e1, st1, rp⟩ := k3 i x H' hlt y
        have ep' : p = iv.items[i] := by
          rw [List.getElem?_eq_getElem hlt] at ep
          cases ep
          rfl
        subst ep'
        have hE1 : EnvOk (C.K.ban D) ι H' (L2.wipe σ own) (wipeP ρ own) := ((tr.env hE).ext e1).wipe own
        refine ⟨D, _, ι, S, _, ρ', hE1, st1, rp, assign_res S as, fun σ2 hE2 same => ⟨?_, D, ρ', S, ι, hE2, st1, ?_⟩⟩
        · rw [same.wipe hown, wipe_wipe]
        · rcases el with ⟨S2, v, S3, ws', t1, t2, t3, rfl⟩ | ⟨S2, t1, t3⟩
          · rw [t1]
            intro b H3 ι3 e3 st3 hb
            subst hb
            refine iteT ⟨D, ρ', S2, ι3, hE2.ext e3, st3, ?_⟩
            show PostG (Rep (C.K.ban D)) (C.blk D) σ2 ι3 H3 (evE C.φ C.G elt ρ' S2) _
            rw [t2]
            intro y H4 ι4 e4 st4 ry
            have e34 : Ext ι H ι4 H4 := (e1.trans e3).trans e4
            refine ⟨acc, e34.keep D _ hHD hDι, by omega, ι4, S3, acc ++ [y], pacc ++ [v], ws', hlt, rfl, upd_same, by rw [List.length_append, List.length_singleton]; omega, ?_, st4.updB, (ext.trans e34).updF hD, t3, by rw [ev]; simp⟩
            exact ((ra.ext e34).append (.cons ry .nil)).updB
          · rw [t1]
            intro b H3 ι3 e3 st3 hb
            subst hb
            have e13 : Ext ι H ι3 H3 := e1.trans e3
            exact iteF ⟨ι3, S2, acc, pacc, ws, hlt, rfl, e13.keep D _ hHD hDι, by omega, ra.ext e13, st3, ext.trans e13, t3, ev⟩
      · have hin : i = iv.items.length := by omega
        subst hin
        rw [List.drop_length] at el
        obtain ⟨g, rfl, rfl⟩ := compLoop_nil el
        obtain ⟨k1, k2, k3⟩ := ok _ _ _ _ tr st g
        rw [List.append_nil] at ev
        subst ev
        exact .inl ⟨k2, h ι H acc D ext st ra (Fr.of hD) (fun m => (hS.ban D m).1 hD) hHD⟩
  · rw [if_neg hn] at h
    exact (show False from h).elim
theorem pm_lcF {elt tg iter : Expr} {ifs : List Expr} {scope : Scope} {own : List (Str × Nat)} {pos : Pos} {ct : Tg} {ci : It} {ce : Ex} {cifs : List Ex} (hc : X.calm = true) (hN : X.N.Nodup) (hi : PI X tg iter (tIt C ci)) (ok : BlkOk X.N X.env.scope scope own) (hown : ∀ i ∈ ct.slots, i ∈ own.map (·.2))
    (hg : ∀ (D : Addr) (s : Shared) (H : Hp) (A : Addr) (cl : List (Str × Addr)) (fp : List Addr), PG (X.blk s H scope (compEnvC scope cl A X.env) fp) tg (gT (C.blk D) ct))
    (ht : ∀ (D : Addr) (s : Shared) (H : Hp) (A : Addr) (cl : List (Str × Addr)) (fp : List Addr), PTs (X.blk s H scope (compEnvC scope cl A X.env) fp) ifs (tTs (C.blk D) cifs))
    (he : ∀ (D : Addr) (s : Shared) (H : Hp) (A : Addr) (cl : List (Str × Addr)) (fp : List Addr), PE (X.blk s H scope (compEnvC scope cl A X.env) fp) elt (tEv (C.blk D) ce)) (hs : isSet iter = false) :
    PE X (.ListComp elt [⟨tg, iter, ifs, 0⟩] scope pos) (tEvF C (.lc ce ct ci cifs (own.map (·.2)))) := by
  refine peImp (pe_lc hc hN hi ok (g := fun v σ H Q => ∃ D, gT (C.blk D) ct v σ H Q) (tt := fun σ H Q => ∃ D, tTs (C.blk D) cifs σ H Q) (te := fun σ H Q => ∃ D, tEv (C.blk D) ce σ H Q)
    (fun s H A cl fp => ⟨fun pins s' σ H v u Q I r ⟨D, q⟩ => (hg D s _ A cl fp).run pins s' σ H v u Q I r q⟩) (fun s H A cl fp => ⟨fun pins s' σ H Q I ⟨D, q⟩ => (ht D s _ A cl fp).run pins s' σ H Q I q⟩) (fun s H A cl fp => ⟨fun pins s' σ H Q I ⟨D, q⟩ => (he D s _ A cl fp).run pins s' σ H Q I q⟩) (fun x => folded_plain hs x)) fun σ H Q ⟨ρ, S, ι, hE, hS, h⟩ => ?_
  unfold evE at h
  exact ⟨ρ, S, ι, hE, hS, (PostF.bind h).mono fun iv S1 J ι1 H1 e1 s1 ⟨hl, r⟩ h1 D hD => lc_run hD s1 (hE.ext e1) r hown hl h1⟩
theorem pm_F {e : Expr} {c : Ex} (h : PE X e (tEvF C c)) : PE X e (tEv C c) := peImp h tEv_F
theorem pm_br {e : Expr} {c : Ex} (h : PE X e (tEvF C c)) : PE X e (tEv C (.br c)) := peImp h tBr_F
theorem pm_lstF {es : List Expr} {cs : List Ex} {pos : Pos} (h : PA X es (tEvs C cs)) (hl : cs.length ≤ 1000) : PE X (.List es pos) (tEvF C (.lst cs)) := by
  refine peImp (pe_lst h) fun σ H Q ⟨ρ, S, ι, hE, hS, h⟩ => ?_
  unfold evE at h
  exact tEvsF1 (f := fun vs S => .ok (PV.list vs) S) hE hS h fun vs S2 xs ι2 H2 l _ s2 r h2 => ⟨by rw [r.length, l, sizeLine_eq]; omega, FreshL.laid h2 s2 r⟩
end
end Bt
end
section
set_option maxHeartbeats 1000000
namespace Bt
open PySem L2
open PyProof.Rows hiding St
section
variable {K : Kb} {ι ι' : List Addr} {H H' : Hp} {D : Addr} {S : Store}
theorem RepD.any {k : Key} : ∀ {es : List (Key × V)} {kvs : List (PV × PV)}, RepD K ι H es kvs → (es.any fun kv => decide (kv.1 = k)) = kvs.any fun kv => decide (kv.1 = keyP k)
  | _, _, .nil => rfl
  | _, _, @RepD.cons _ _ _ l v r x xs q h t => by
    rw [List.any_cons, List.any_cons, RepD.any t]
    congr 1
    by_cases e : l = k
    · subst e; simp
    · have e' : ¬ keyP l = keyP k := fun z => e (keyP_inj z)
      rw [decide_eq_false e, decide_eq_false e']
theorem RepD.mapPut {k : Key} {v : V} {x : PV} (rv : Rep K ι H v x) : ∀ {es : List (Key × V)} {kvs : List (PV × PV)}, RepD K ι H es kvs → RepD K ι H (es.map fun kv => if kv.1 = k then (kv.1, v) else kv) (kvs.map fun kv => if kv.1 = keyP k then (kv.1, x) else kv)
  | _, _, .nil => .nil
  | _, _, @RepD.cons _ _ _ l u r y ys q h t => by
    rw [List.map_cons, List.map_cons]
    by_cases e : l = k
    · rw [if_pos e, if_pos (congrArg keyP e)]
      exact .cons q rv (RepD.mapPut rv t)
    · have e' : ¬ keyP l = keyP k := fun z => e (keyP_inj z)
      rw [if_neg e, if_neg e']
      exact .cons q h (RepD.mapPut rv t)
theorem RepD.append : ∀ {es fs : List (Key × V)} {xs ys : List (PV × PV)}, RepD K ι H es xs → RepD K ι H fs ys → RepD K ι H (es ++ fs) (xs ++ ys)
  | _, _, _, _, .nil, s => s
  | _, _, _, _, .cons q r t, s => .cons q r (RepD.append t s)
theorem RepD.put {k : Key} {v : V} {x : PV} {es : List (Key × V)} {kvs : List (PV × PV)} (h : RepD K ι H es kvs) (q : KyOk k) (rv : Rep K ι H v x) : RepD K ι H (putK es k v) (dput kvs (keyP k) x) := by
  unfold putK dput
  rw [h.any]
  split
  · exact h.mapPut rv
  · exact h.append (.cons q rv .nil)
theorem RepD.merge : ∀ {fs : List (Key × V)} {ys : List (PV × PV)} {es : List (Key × V)} {kvs : List (PV × PV)}, RepD K ι H fs ys → RepD K ι H es kvs → RepD K ι H (mergeK es fs) (mergeP kvs ys)
  | _, _, _, _, .nil, s => s
  | _, _, _, _, @RepD.cons _ _ _ k v fr x xr q r t, s => by
    have := RepD.merge t (s.put (k := k) q r)
    exact this
theorem dput_len (kvs : List (PV × PV)) (k v : PV) : (dput kvs k v).length ≤ kvs.length + 1 := by
  unfold dput
  split <;> simp
end
/-- while a thing is being made at D -/
abbrev Cc.bn (C : Cc) (D : Addr) : Cc := { C with K := C.K.ban D }
section
variable {X : Cx} {C : Cc} {σ : St} {ι : List Addr} {H : Hp} {S : Store} {Q : VK}
theorem RepF.unban {K : Kb} {D : Addr} {gs : List (Str × V)} {fs : List (Str × PV)} (h : RepF (K.ban D) ι H gs fs) : RepF K ι H gs fs := by
  unfold RepF at *
  induction h with
  | nil => exact .nil
  | cons h _ ih => exact .cons ⟨h.1, h.2.unban⟩ ih
theorem ExRep.unban {D : Addr} {cls : Value} {d : Option Addr} {q : PV} (h : ExRep (C.bn D) ι H cls d q) : ExRep C ι H cls d q := by
  cases q with
  | exc c fs =>
    obtain ⟨h1, h2⟩ := h
    refine ⟨h1, ?_⟩
    rcases h2 with h2 | ⟨dd, gs, e1, e2, e3, e4⟩
    · exact .inl h2
    · exact .inr ⟨dd, gs, e1, e2, e3, e4.unban⟩
  | _ => exact h
/-- pairs -/
def RepP (K : Kb) (ι : List Addr) (H : Hp) (ps : List (V × V)) (kvs : List (PV × PV)) : Prop := ∃ es : List (Key × V), ps = es.map (fun kv => (kV kv.1, kv.2)) ∧ RepD K ι H es kvs
theorem evD_nil {φ : Calls} {G : List PV} {ρ : Env} : evD φ G [] ρ S = .ok [] S := by unfold evD; rfl
theorem pairs_run {p : Addr} {ρ : Env} {R : List (V × V) → Hp → Prop} : ∀ (kvs : List (Ex × Ex)) (S : Store) (ι : List Addr) (H : Hp), EnvOk (C.K.ban p) ι H σ ρ → StOk (C.K.ban p) ι H S → PostG (RepP (C.K.ban p)) (C.bn p) σ ι H (evD C.φ C.G kvs ρ S) (fun _ _ ps _ H' => R ps H') →
    tPairs (kvs.map fun kv => ((fun σ H Q => ∃ D, tEv (C.bn D) kv.1 σ H Q), fun σ H Q => ∃ D, tEv (C.bn D) kv.2 σ H Q)) σ H R
  | [], S, ι, H, hE, hS, h => by
    rw [evD_nil] at h
    exact h [] H ι (Ext.refl _ _) hS ⟨[], rfl, .nil⟩
  | (k, v) :: r, S, ι, H, hE, hS, h => by
    unfold evD at h
    refine ⟨p, tEv1 (C := C.bn p) hE hS h fun a S2 x ι2 H2 e2 s2 r2 h2 => ⟨p, tEv1 (C := C.bn p) (hE.ext e2) s2 h2 fun b S3 y ι3 H3 e3 s3 r3 h3 => ?_⟩⟩
    by_cases hk : isKey a = true
    · rw [if_pos hk] at h3
      obtain ⟨kk, rfl, rfl⟩ := key_of (r2.ext e3) hk
      refine pairs_run r S3 ι3 H3 ((hE.ext e2).ext e3) s3 ?_
      have h4 := PostG.bind (rep := RepP (C.K.ban p)) (rep2 := RepP (C.K.ban p)) (r := evD C.φ C.G r ρ S3) (f := fun us S => .ok ((keyP kk, b) :: us) S) h3
      refine h4.mono fun us S4 ps ι4 H4 e4 s4 ⟨es, e5, r5⟩ h5 => ?_
      refine h5 ((kV kk, y) :: ps) H4 ι4 (Ext.refl _ _) s4 ⟨(kk, y) :: es, by rw [e5]; rfl, .cons (key_ok r2) (r3.ext e4) r5⟩
    · rw [if_neg hk] at h3
      exact (show False from h3).elim
theorem evD_len {φ : Calls} {G : List PV} {ρ : Env} : ∀ {kvs : List (Ex × Ex)} {S S' : Store} {ps : List (PV × PV)}, evD φ G kvs ρ S = .ok ps S' → ps.length = kvs.length
  | [], S, S', ps, h => by rw [evD_nil] at h; cases h; rfl
  | (k, v) :: r, S, S', ps, h => by
    unfold evD at h
    cases e : evE φ G k ρ S with
    | ok a S1 =>
      rw [e] at h
      have h : ((evE φ G v ρ S1).bind fun v S => if isKey a then (evD φ G r ρ S).map ((a, v) :: ·) else .stuck) = .ok ps S' := h
      cases e2 : evE φ G v ρ S1 with
      | ok b S2 =>
        rw [e2] at h
        have h : (if isKey a then (evD φ G r ρ S2).map ((a, b) :: ·) else .stuck) = .ok ps S' := h
        split at h
        · obtain ⟨us, e3, e4⟩ := Res.map_ok h
          rw [← e4]
          simp [evD_len e3]
        · cases h
      | exc _ _ => rw [e2] at h; cases h
      | stuck => rw [e2] at h; cases h
    | exc _ _ => rw [e] at h; cases h
    | stuck => rw [e] at h; cases h
/-- the pairs' expressions go with the display's -/
theorem pm_dicF {pos : Pos} {keys : List (Option Expr)} {values : List Expr} {kvs : List (Ex × Ex)} (h : PPs X pos keys values (kvs.map fun kv => ((fun σ H Q => ∃ D, tEv (C.bn D) kv.1 σ H Q), fun σ H Q => ∃ D, tEv (C.bn D) kv.2 σ H Q)))
    (hall : keys.all (·.isSome) = true) (hl : keys.length = values.length) (h0 : keys ≠ []) (h15 : keys.length ≤ 15) (hk : kvs.length ≤ 15) : PE X (.Dict keys values pos) (tEvF C (.dic kvs)) := by
  refine peImp (pe_disp h hall hl h0 h15) fun σ H Q ⟨ρ, S, ι, hE, hS, h⟩ p hp => ?_
  unfold evE at h
  have hS1 : StOk (C.K.ban p) ι (upd H p (.dK [])) S := hS.banNew hp
  have tr : Tr C.K ι H (C.K.ban p) ι (upd H p (.dK [])) := ⟨rfl, fun u q r => (r.ban hp).updB, fun a o u e => by rw [upd_ne (ne_of_none e hp)]; exact e⟩
  refine pairs_run kvs S ι _ (tr.env hE) hS1 ?_
  cases e : evD C.φ C.G kvs ρ S with
  | ok ps S' =>
    rw [e] at h
    have h : FreshD C ι H S' (mergeP [] ps) Q := h
    rintro qs H' ι' e' s' ⟨es, e1, r1⟩
    have hpι : p ∉ ι := (hS1.ban p List.mem_cons_self).2
    refine ⟨e'.keep p _ upd_same hpι, es, e1, ?_, ?_⟩
    · rw [r1.length, evD_len e]; exact hk
    · exact h ι' _ _ p (((Ext.upd hp).trans e').updF hp) s'.updB (RepD.updB _ _ (r1.merge .nil)) (Fr.of hp) (fun m => (hS.ban p m).1 hp) upd_same
  | exc x S' =>
    rw [e] at h
    intro cls d H' ι' e' s' r'
    exact (show PostV C σ ι H (.exc x S') Q from h) cls d H' ι' ((Ext.upd hp).trans e') s'.unban r'.unban
  | stuck => rw [e] at h; exact h
theorem pm_dic0F {pos : Pos} : PE X (.Dict [] [] pos) (tEvF C (.dic [])) := by
  refine peImp pe_dnewK fun σ H Q ⟨ρ, S, ι, hE, hS, h⟩ p hp => ?_
  unfold evE at h
  rw [evD_nil] at h
  exact FreshD.laid (show FreshD C ι H S [] Q from h) hS .nil p hp
theorem dcLoop_noexc {g : List (Nat × Cell)} {tg : Tg} {ρ : Env} {ke ve : Env → Store → Res PV} : ∀ {xs : List PV} {acc : List (PV × PV)} {S : Store} {x : PV} {S' : Store}, dcLoop g tg ρ ke ve xs acc S ≠ .exc x S'
  | [], acc, S, x, S' => by unfold dcLoop; split <;> simp
  | y :: ys, acc, S, x, S' => by
    unfold dcLoop
    split
    · split
      · simp
      · split
        · split
          · split
            · exact dcLoop_noexc
            · simp
          · simp
        · simp
    · simp
theorem dcLoop_step {g : List (Nat × Cell)} {tg : Tg} {ρ : Env} {ke ve : Env → Store → Res PV} {x : PV} {xs : List PV} {acc ps : List (PV × PV)} {S Sf : Store} (h : dcLoop g tg ρ ke ve (x :: xs) acc S = .ok ps Sf) :
    guardOk S g = true ∧ ∃ ρ' k S1 v S2, assign tg x ρ = some ρ' ∧ ke ρ' S = .ok k S1 ∧ ve ρ' S1 = .ok v S2 ∧ isKey k = true ∧ dcLoop g tg ρ ke ve xs (dput acc k v) S2 = .ok ps Sf := by
  unfold dcLoop at h
  split at h
  · rename_i hg
    refine ⟨hg, ?_⟩
    split at h
    · cases h
    · rename_i ρ' ha
      split at h
      · rename_i k S1 hk
        split at h
        · rename_i v S2 hv
          split at h
          · rename_i hkk
            exact ⟨ρ', k, S1, v, S2, ha, hk, hv, hkk, h⟩
          · cases h
        · cases h
      · cases h
  · cases h
theorem dcLoop_nil {g : List (Nat × Cell)} {tg : Tg} {ρ : Env} {ke ve : Env → Store → Res PV} {acc ps : List (PV × PV)} {S Sf : Store} (h : dcLoop g tg ρ ke ve [] acc S = .ok ps Sf) : guardOk S g = true ∧ ps = acc ∧ Sf = S := by
  unfold dcLoop at h
  split at h
  · rename_i hg; cases h; exact ⟨hg, rfl, rfl⟩
  · cases h
def DcInv (C : Cc) (D : Addr) (ι1 : List Addr) (H1 : Hp) (g : List (Nat × Cell)) (tg : Tg) (ρ : Env) (ck cv : Ex) (items : List PV) (ps : List (PV × PV)) (Sf : Store) (i m : Nat) (H : Hp) : Prop :=
  ∃ ι S acc pacc, i ≤ items.length ∧ m = items.length - i ∧ H D = some (.dK acc) ∧ acc.length ≤ i ∧ RepD (C.K.ban D) ι H acc pacc ∧ StOk (C.K.ban D) ι H S ∧ Ext ι1 H1 ι H ∧
    dcLoop g tg ρ (evE C.φ C.G ck) (evE C.φ C.G cv) (items.drop i) pacc S = .ok ps Sf
theorem dc_run {D : Addr} {ι1 : List Addr} {H1 : Hp} {S1 : Store} {iv : Items} {J : L2.It} {tg : Tg} {ρ : Env} {ck cv : Ex} {own : List Nat} {Q : VK} (hD : H1 D = none) (hS : StOk C.K ι1 H1 S1) (hE : EnvOk C.K ι1 H1 σ ρ) (ok : ItOk C.K ι1 H1 J iv) (hown : ∀ i ∈ tg.slots, i ∈ own) (hlock : iv.lock = [])
    (h : PostF C σ ι1 H1 (if ¬ iv.items.length ≤ sizeLine then .stuck else (dcLoop iv.guard tg (wipeP ρ own) (evE C.φ C.G ck) (evE C.φ C.G cv) iv.items [] S1).bind fun ps S => .ok (.dict ps) (unlock S iv.lock)) Q) :
    ∃ W : Nat → Nat → Hp → Prop, (∃ m, W 0 m (upd H1 D (.dK []))) ∧ ∀ i m H, W i m H → (J.stop i H ∧ Q (.ref D) H) ∨ (J.go i H ∧ ∃ Nx : Hp → Prop, (∀ H', Nx H' → ∃ m', m' < m ∧ W (i + 1) m' H') ∧ ∀ x H', J.yld i H x H' →
      (∃ D1, gT (C.blk D1) tg x (L2.wipe σ own) H' fun σ2 H2 => L2.wipe σ2 own = L2.wipe σ own ∧ ∃ D2, tTs (C.blk D2) [] σ2 H2 fun b H3 =>
        if b = true then ∃ D3, tEv (C.blk D3) ck σ2 H3 fun y H4 => ∃ D4, tEv (C.blk D4) cv σ2 H4 fun z H5 => ∃ kvs k, y = kV k ∧ H5 D = some (.dK kvs) ∧ kvs.length < sizeLine ∧ Nx (upd H5 D (.dK (putK kvs k z))) else Nx H3)) := by
  by_cases hn : iv.items.length ≤ sizeLine
  · rw [if_neg (fun hh => hh hn)] at h
    cases e0 : dcLoop iv.guard tg (wipeP ρ own) (evE C.φ C.G ck) (evE C.φ C.G cv) iv.items [] S1 with
    | stuck => rw [e0] at h; exact (show False from h).elim
    | exc a b => exact absurd e0 dcLoop_noexc
    | ok ps Sf =>
      rw [e0, hlock] at h
      have h : FreshD C ι1 H1 Sf ps Q := h
      refine ⟨DcInv C D ι1 H1 iv.guard tg (wipeP ρ own) ck cv iv.items ps Sf, ⟨iv.items.length, ι1, S1, [], [], Nat.zero_le _, rfl, upd_same, Nat.le_refl _, .nil, hS.banNew hD, (Ext.refl _ _).updF hD, by simpa using e0⟩, ?_⟩
      rintro i m H ⟨ι, S, acc, pacc, hi, rfl, hHD, hla, ra, st, ext, el⟩
      have tr : Tr C.K ι1 H1 (C.K.ban D) ι H := Tr.banExt hD ext
      have hDι : D ∉ ι := (st.ban D List.mem_cons_self).2
      by_cases hlt : i < iv.items.length
      · rw [List.drop_eq_getElem_cons hlt] at el
        obtain ⟨g, ρ', kk, S2, v, S3, as, t1, t2, hkk, t3⟩ := dcLoop_step el
        obtain ⟨k1, k2, k3⟩ := ok _ _ _ _ tr st g
        refine .inr ⟨k1 i hlt, DcInv C D ι1 H1 iv.guard tg (wipeP ρ own) ck cv iv.items ps Sf (i + 1) (iv.items.length - (i + 1)), fun H' hh => ⟨_, by omega, hh⟩, fun x H' y => ?_⟩
        obtain ⟨p, ep, e1, st1, rp⟩ := k3 i x H' hlt y
        have ep' : p = iv.items[i] := by
          rw [List.getElem?_eq_getElem hlt] at ep
          cases ep
          rfl
        subst ep'
        have hE1 : EnvOk (C.K.ban D) ι H' (L2.wipe σ own) (wipeP ρ own) := ((tr.env hE).ext e1).wipe own
        refine ⟨D, _, ι, S, _, ρ', hE1, st1, rp, assign_res S as, fun σ2 hE2 same => ⟨?_, D, ρ', S, ι, hE2, st1, ?_⟩⟩
        · rw [same.wipe hown, wipe_wipe]
        · unfold evTs
          intro b H3 ι3 e3 st3 hb
          subst hb
          refine iteT ⟨D, ρ', S, ι3, hE2.ext e3, st3, ?_⟩
          show PostG (Rep (C.K.ban D)) (C.blk D) σ2 ι3 H3 (evE C.φ C.G ck ρ' S) _
          rw [t1]
          intro y H4 ι4 e4 st4 ry
          refine ⟨D, ρ', S2, ι4, (hE2.ext e3).ext e4, st4, ?_⟩
          show PostG (Rep (C.K.ban D)) (C.blk D) σ2 ι4 H4 (evE C.φ C.G cv ρ' S2) _
          rw [t2]
          intro z H5 ι5 e5 st5 rz
          obtain ⟨kq, rfl, rfl⟩ := key_of ry hkk
          have e15 : Ext ι H ι5 H5 := ((e1.trans e3).trans e4).trans e5
          have hlp : (putK acc kq z).length ≤ acc.length + 1 := length_putK acc kq z
          exact ⟨acc, kq, rfl, e15.keep D _ hHD hDι, by omega, ι5, S3, putK acc kq z, dput pacc (keyP kq) v, hlt, rfl, upd_same, by omega, ((ra.ext e15).put (key_ok ry) rz).updB, st5.updB, (ext.trans e15).updF hD, t3⟩
      · have hin : i = iv.items.length := by omega
        subst hin
        rw [List.drop_length] at el
        obtain ⟨g, rfl, rfl⟩ := dcLoop_nil el
        obtain ⟨k1, k2, k3⟩ := ok _ _ _ _ tr st g
        exact .inl ⟨k2, h ι H acc D ext st ra (Fr.of hD) (fun m => (hS.ban D m).1 hD) hHD⟩
  · rw [if_pos hn] at h
    exact (show False from h).elim
theorem pm_dcF {kx vx tg iter : Expr} {scope : Scope} {own : List (Str × Nat)} {pos : Pos} {ct : Tg} {ci : It} {ck cv : Ex} (hc : X.calm = true) (hN : X.N.Nodup) (hi : PI X tg iter (tIt C ci)) (ok : BlkOk X.N X.env.scope scope own) (hown : ∀ i ∈ ct.slots, i ∈ own.map (·.2))
    (hg : ∀ (D : Addr) (s : Shared) (H : Hp) (A : Addr) (cl : List (Str × Addr)) (fp : List Addr), PG (X.blk s H scope (compEnvC scope cl A X.env) fp) tg (gT (C.blk D) ct))
    (hk : ∀ (D : Addr) (s : Shared) (H : Hp) (A : Addr) (cl : List (Str × Addr)) (fp : List Addr), PE (X.blk s H scope (compEnvC scope cl A X.env) fp) kx (tEv (C.blk D) ck))
    (he : ∀ (D : Addr) (s : Shared) (H : Hp) (A : Addr) (cl : List (Str × Addr)) (fp : List Addr), PE (X.blk s H scope (compEnvC scope cl A X.env) fp) vx (tEv (C.blk D) cv)) (hs : isSet iter = false) :
    PE X (.DictComp kx vx [⟨tg, iter, [], 0⟩] scope pos) (tEvF C (.dc ck cv ct ci (own.map (·.2)))) := by
  refine peImp (pe_dc hc hN hi ok (g := fun v σ H Q => ∃ D, gT (C.blk D) ct v σ H Q) (tt := fun σ H Q => ∃ D, tTs (C.blk D) [] σ H Q) (tk := fun σ H Q => ∃ D, tEv (C.blk D) ck σ H Q) (tv := fun σ H Q => ∃ D, tEv (C.blk D) cv σ H Q)
    (fun s H A cl fp => ⟨fun pins s' σ H v u Q I r ⟨D, q⟩ => (hg D s _ A cl fp).run pins s' σ H v u Q I r q⟩) (fun s H A cl fp => ⟨fun pins s' σ H Q I ⟨D, q⟩ => (pmts_nil (C := C.blk D)).run pins s' σ H Q I q⟩)
    (fun s H A cl fp => ⟨fun pins s' σ H Q I ⟨D, q⟩ => (hk D s _ A cl fp).run pins s' σ H Q I q⟩) (fun s H A cl fp => ⟨fun pins s' σ H Q I ⟨D, q⟩ => (he D s _ A cl fp).run pins s' σ H Q I q⟩) (fun x => folded_plain hs x)) fun σ H Q ⟨ρ, S, ι, hE, hS, h⟩ => ?_
  unfold evE at h
  exact ⟨ρ, S, ι, hE, hS, (PostF.bind h).mono fun iv S1 J ι1 H1 e1 s1 ⟨hl, r⟩ h1 D hD => dc_run hD s1 (hE.ext e1) r hown hl h1⟩
end
end Bt
end
section
set_option maxHeartbeats 1000000
namespace Bt
open PySem L2
open PySem.W (KdxIt kdx_alive)
open PyProof.Rows hiding St
section
variable {prog : Program} {w : World} {A : Around} {E : Value → Shared → Prop} {s : Shared}
theorem zipT_next_item_held {z TI TO T i1 i2 l1 l2 : Addr} {f : Bool} {oT : Obj} {k1 k2 : Nat} {xs ys : Array Value} {x y : Value} {Q : Value → Shared → Prop} (D : ZipApart z TI TO i1 i2 l1 l2)
    (hz : IsZipHeld s.heap z TI TO T f) (hT : s.heap.get? T = some oT) (hTI : IsPair s.heap TI (.ref i1) (.ref i2))
    (h1 : s.heap.IsTupleIter i1 l1 k1) (h2 : s.heap.IsTupleIter i2 l2 k2) (hl1 : s.heap.IsTuple l1 xs) (hl2 : s.heap.IsTuple l2 ys) (hx : xs[k1]? = some x) (hy : ys[k2]? = some y)
    (hQ : ∀ h', IsZipHeld h' z TI TO T true → h'.IsTupleIter i1 l1 (k1 + 1) → h'.IsTupleIter i2 l2 (k2 + 1) → IsPair h' s.heap.objs.size x y → h'.objs.size = s.heap.objs.size + 1 →
      (∀ c o, c ≠ z → c ≠ i1 → c ≠ i2 → s.heap.get? c = some o → h'.get? c = some o) → Q (.ref s.heap.objs.size) { s with heap := h' }) :
    wpAny (model prog w) A (Builtin.«zip.__next__» ⟨[.ref z], []⟩) (fun fin s' => ∃ v, fin = .done (.ret v) ∧ Q v s') E s := by
  show wpAny _ _ (field (.ref z) 2 >>= _) _ _ _
  refine wpAny_bind (wpAny_field hz rfl (x := .bool false) rfl ?_)
  show wpAny _ _ (field (.ref z) 3 >>= _) _ _ _
  refine wpAny_bind (wpAny_field hz rfl (x := .ref TI) rfl ?_)
  refine wpAny_bind (wpAny_seqItems hTI rfl ?_)
  show wpAny _ _ (Builtin.SmallTypes.ownedTupleIsFree (.ref z) >>= _) _ _ _
  refine wpAny_bind (wpAny_tupleHeld_zip hz hT fun h₁ hz₁ hs₁ => ?_)
  simp only [Bool.false_eq_true, if_false]
  refine wpAny_bind ?_
  rw [← Array.forIn_toList]
  simp only [List.forIn_cons, List.forIn_nil]
  refine wpAny_bind (wpAny_bind (wpAny_holding ?_))
  show wpAny _ _ (Builtin.SmallTypes.nextOf (.ref i1) >>= _) _ _ _
  refine wpAny_bind (RZ.nextOf_tuple_item (s := { s with heap := h₁ }) (h1.extBut hs₁.extBut D.i1z) (hl1.extBut hs₁.extBut D.l1z) hx fun h₂ h1₂ hs₂ => wpAny_pure ?_)
  refine wpAny_pure ?_
  refine wpAny_bind (wpAny_bind (wpAny_holding ?_))
  show wpAny _ _ (Builtin.SmallTypes.nextOf (.ref i2) >>= _) _ _ _
  refine wpAny_bind (RZ.nextOf_tuple_item (s := { s with heap := h₂ }) ((h2.extBut hs₁.extBut D.i2z).extBut hs₂.extBut D.i12.symm) ((hl2.extBut hs₁.extBut D.l2z).extBut hs₂.extBut D.l2i1) hy fun h₃ h2₃ hs₃ => wpAny_pure ?_)
  refine wpAny_pure (wpAny_pure ?_)
  show wpAny _ _ (newTuple [x, y] >>= _) _ _ _
  refine wpAny_bind (wpAny_newTuple ?_)
  have hsz : h₃.objs.size = s.heap.objs.size := by rw [hs₃.1, hs₂.1, hs₁.1]
  have hz₃ : IsZipHeld h₃ z TI TO T true := hs₃.extBut _ _ D.i2z.symm (hs₂.extBut _ _ D.i1z.symm hz₁)
  have hk : ∀ c o, c ≠ z → c ≠ i1 → c ≠ i2 → s.heap.get? c = some o → h₃.get? c = some o := fun c o c1 c2 c3 e => hs₃.extBut _ _ c3 (hs₂.extBut _ _ c2 (hs₁.extBut _ _ c1 e))
  have h1₃ : h₃.IsTupleIter i1 l1 (k1 + 1) := h1₂.extBut hs₃.extBut D.i12
  refine wpAny_pure ⟨_, rfl, ?_⟩
  show Q (.ref h₃.objs.size) _
  have hp : IsPair (h₃.push { cls := .type "tuple", data := .seq #[x, y] }) h₃.objs.size x y := Heap.get?_push_size _ rfl
  have hz4 : (h₃.push { cls := .type "tuple", data := .seq #[x, y] }).objs.size = h₃.objs.size + 1 := Heap.size_push ..
  rw [hsz] at hp hz4 ⊢
  exact hQ _ (Heap.get?_push_of_some _ hz₃) (h1₃.at fun o e => Heap.get?_push_of_some _ e) (h2₃.at fun o e => Heap.get?_push_of_some _ e) hp hz4 fun c o c1 c2 c3 e => Heap.get?_push_of_some _ (hk c o c1 c2 c3 e)

theorem zipT_next_end_held {z TI TO T i1 i2 l1 l2 : Addr} {f : Bool} {oT : Obj} {k1 k2 : Nat} {xs ys : Array Value} {Q : Fin → Shared → Prop} (hh : A.handled = none) (D : ZipApart z TI TO i1 i2 l1 l2)
    (hz : IsZipHeld s.heap z TI TO T f) (hT : s.heap.get? T = some oT) (hTI : IsPair s.heap TI (.ref i1) (.ref i2))
    (h1 : s.heap.IsTupleIter i1 l1 k1) (h2 : s.heap.IsTupleIter i2 l2 k2) (hl1 : s.heap.IsTuple l1 xs) (hl2 : s.heap.IsTuple l2 ys) (hend : xs[k1]? = none ∨ ys[k2]? = none)
    (hE : ∀ h' e, (∀ c o, c ≠ z → c ≠ i1 → c ≠ i2 → s.heap.get? c = some o → h'.get? c = some o) → (∃ o, h'.get? e = some o ∧ o.cls = .type "StopIteration") → E (.ref e) { s with heap := h' }) :
    wpAny (model prog w) A (Builtin.«zip.__next__» ⟨[.ref z], []⟩) Q E s := by
  show wpAny _ _ (field (.ref z) 2 >>= _) _ _ _
  refine wpAny_bind (wpAny_field hz rfl (x := .bool false) rfl ?_)
  show wpAny _ _ (field (.ref z) 3 >>= _) _ _ _
  refine wpAny_bind (wpAny_field hz rfl (x := .ref TI) rfl ?_)
  refine wpAny_bind (wpAny_seqItems hTI rfl ?_)
  show wpAny _ _ (Builtin.SmallTypes.ownedTupleIsFree (.ref z) >>= _) _ _ _
  refine wpAny_bind (wpAny_tupleHeld_zip hz hT fun h₁ hz₁ hs₁ => ?_)
  simp only [Bool.false_eq_true, if_false]
  refine wpAny_bind ?_
  rw [← Array.forIn_toList]
  simp only [List.forIn_cons, List.forIn_nil]
  refine wpAny_bind (wpAny_bind (wpAny_holding ?_))
  show wpAny _ _ (Builtin.SmallTypes.nextOf (.ref i1) >>= _) _ _ _
  cases hx : xs[k1]? with
  | none =>
    refine wpAny_bind (RZ.nextOf_tuple_end (s := { s with heap := h₁ }) hh (h1.extBut hs₁.extBut D.i1z) (hl1.extBut hs₁.extBut D.l1z) hx fun h₂ e hs₂ he => ?_)
    exact hE h₂ e (fun c o c1 c2 _ x => hs₂ _ _ c2 (hs₁.extBut _ _ c1 x)) he
  | some x =>
    have hy : ys[k2]? = none := by rcases hend with h | h; rw [hx] at h; cases h; exact h
    refine wpAny_bind (RZ.nextOf_tuple_item (s := { s with heap := h₁ }) (h1.extBut hs₁.extBut D.i1z) (hl1.extBut hs₁.extBut D.l1z) hx fun h₂ h1₂ hs₂ => wpAny_pure ?_)
    refine wpAny_pure ?_
    refine wpAny_bind (wpAny_bind (wpAny_holding ?_))
    show wpAny _ _ (Builtin.SmallTypes.nextOf (.ref i2) >>= _) _ _ _
    refine wpAny_bind (RZ.nextOf_tuple_end (s := { s with heap := h₂ }) hh ((h2.extBut hs₁.extBut D.i2z).extBut hs₂.extBut D.i12.symm) ((hl2.extBut hs₁.extBut D.l2z).extBut hs₂.extBut D.l2i1) hy fun h₃ e hs₃ he => ?_)
    exact hE h₃ e (fun c o c1 c2 c3 x => hs₃ _ _ c3 (hs₂.extBut _ _ c2 (hs₁.extBut _ _ c1 x))) he

theorem pyNext_zipT_item_held {z TI TO T i1 i2 l1 l2 : Addr} {f : Bool} {oT : Obj} {k1 k2 : Nat} {xs ys : Array Value} {x y : Value} {Q : Option Value → Shared → Prop} (D : ZipApart z TI TO i1 i2 l1 l2)
    (hz : IsZipHeld s.heap z TI TO T f) (hT : s.heap.get? T = some oT) (hTI : IsPair s.heap TI (.ref i1) (.ref i2))
    (h1 : s.heap.IsTupleIter i1 l1 k1) (h2 : s.heap.IsTupleIter i2 l2 k2) (hl1 : s.heap.IsTuple l1 xs) (hl2 : s.heap.IsTuple l2 ys) (hx : xs[k1]? = some x) (hy : ys[k2]? = some y)
    (hQ : ∀ h', IsZipHeld h' z TI TO T true → h'.IsTupleIter i1 l1 (k1 + 1) → h'.IsTupleIter i2 l2 (k2 + 1) → IsPair h' s.heap.objs.size x y → h'.objs.size = s.heap.objs.size + 1 →
      (∀ c o, c ≠ z → c ≠ i1 → c ≠ i2 → s.heap.get? c = some o → h'.get? c = some o) → Q (some (.ref s.heap.objs.size)) { s with heap := h' }) :
    wpAny (model prog w) A (pyNext (.ref z)) Q E s := by
  have hTy : s.TypeIs (.ref z) "zip" := ⟨_, hz, rfl⟩
  unfold pyNext
  exact wpAny_bind (wpAny_attempt (wpAny_callSpecial?_slot (name := Str.ofString "__next__") hTy F.slot_zip_next
    (wpAny_call_entry F.slot_zip_next hTy F.entry_zip_next
      (zipT_next_item_held D hz hT hTI h1 h2 hl1 hl2 hx hy fun h' a1 a3 a4 a5 a6 a7 => wpAny_pure (hQ h' a1 a3 a4 a5 a6 a7)) (F.args_zip_next_1 _))))
theorem pyNext_zipT_end_held {z TI TO T i1 i2 l1 l2 : Addr} {f : Bool} {oT : Obj} {k1 k2 : Nat} {xs ys : Array Value} {Q : Option Value → Shared → Prop} (hh : A.handled = none) (D : ZipApart z TI TO i1 i2 l1 l2)
    (hz : IsZipHeld s.heap z TI TO T f) (hT : s.heap.get? T = some oT) (hTI : IsPair s.heap TI (.ref i1) (.ref i2))
    (h1 : s.heap.IsTupleIter i1 l1 k1) (h2 : s.heap.IsTupleIter i2 l2 k2) (hl1 : s.heap.IsTuple l1 xs) (hl2 : s.heap.IsTuple l2 ys) (hend : xs[k1]? = none ∨ ys[k2]? = none)
    (hQ : ∀ h', (∀ c o, c ≠ z → c ≠ i1 → c ≠ i2 → s.heap.get? c = some o → h'.get? c = some o) → Q none { s with heap := h' }) : wpAny (model prog w) A (pyNext (.ref z)) Q E s := by
  have hTy : s.TypeIs (.ref z) "zip" := ⟨_, hz, rfl⟩
  unfold pyNext
  refine wpAny_bind (wpAny_attempt (wpAny_callSpecial?_slot (name := Str.ofString "__next__") hTy F.slot_zip_next
    (wpAny_call_entry F.slot_zip_next hTy F.entry_zip_next (zipT_next_end_held hh D hz hT hTI h1 h2 hl1 hl2 hend fun h' e hk he => ?_) (F.args_zip_next_1 _))))
  obtain ⟨o, ho, hc⟩ := he
  refine wpAny_bind (wpAny_isInstance (T := "StopIteration") (b := true) ⟨o, ho, hc⟩ isSubtype_stop ?_)
  exact wpAny_pure (hQ _ hk)
end
section
variable {prog : Program} {w : World}
theorem pairArg_zipT (z TI TO i1 i2 l1 l2 : Addr) (D : ZipApart z TI TO i1 i2 l1 l2) (xs ys : Array Value) :
    PairArg prog w "zip" z [z, TI, TO, i1, i2, l1, l2] [z, TO, i1, i2] (min xs.size ys.size) (fun i k v => xs[i]? = some k ∧ ys[i]? = some v)
      (fun h => IsZip h z TI TO .none ∧ IsPair h TI (.ref i1) (.ref i2) ∧ (∃ a b, IsPair h TO a b) ∧ h.IsTupleIter i1 l1 0 ∧ h.IsTupleIter i2 l2 0 ∧ h.IsTuple l1 xs ∧ h.IsTuple l2 ys) where
  type := fun s ok => ⟨_, ok.1, rfl⟩
  notDict := by decide
  keep := fun h h' ok hk => by
    obtain ⟨hz, hTI, ⟨a, b, hTO⟩, h1, h2, hl1, hl2⟩ := ok
    exact ⟨hk _ _ hz, hk _ _ hTI, ⟨a, b, hk _ _ hTO⟩, h1.at fun o e => hk _ o e, h2.at fun o e => hk _ o e, hl1.at fun o e => hk _ o e, hl2.at fun o e => hk _ o e⟩
  there := fun h ok b hb => by
    obtain ⟨hz, hTI, ⟨a, c, hTO⟩, ⟨o1, h1, _⟩, ⟨o2, h2, _⟩, ⟨o3, hl1, _⟩, ⟨o4, hl2, _⟩⟩ := ok
    simp only [List.mem_cons, List.not_mem_nil, or_false] at hb
    rcases hb with rfl | rfl | rfl | rfl | rfl | rfl | rfl
    all_goals first | exact ⟨_, hz⟩ | exact ⟨_, hTI⟩ | exact ⟨_, hTO⟩ | exact ⟨_, h1⟩ | exact ⟨_, h2⟩ | exact ⟨_, hl1⟩ | exact ⟨_, hl2⟩
  sub := fun b hb => by simp at hb ⊢; rcases hb with rfl | rfl | rfl | rfl <;> simp
  noKeys := fun A s Q E hA ok h => getAttrOr_miss_zip ok.1 rfl rfl rfl zip_no_keys (by decide +kernel) hA h
  iter := fun A s d Q E hA ok hd hdf h => by
    obtain ⟨hz, hTI, ⟨a, b, hTO⟩, h1, h2, hl1, hl2⟩ := ok
    simp only [List.mem_cons, List.not_mem_nil, or_false, not_or] at hdf
    obtain ⟨dz, dTI, dTO, di1, di2, dl1, dl2⟩ := hdf
    refine wpAny_pyIter_zip hz (h z [z, TO, i1, i2] (fun i h => IsPair h TI (.ref i1) (.ref i2) ∧ h.IsTupleIter i1 l1 i ∧ h.IsTupleIter i2 l2 i ∧ h.IsTuple l1 xs ∧ h.IsTuple l2 ys ∧
      ((IsZip h z TI TO .none ∧ ∃ a b, IsPair h TO a b) ∨ ∃ T f oT, IsZipHeld h z TI TO T f ∧ h.get? T = some oT ∧ T ≠ z ∧ T ≠ i1 ∧ T ≠ i2 ∧ T ≠ d)) s.heap s.toks ?_
      ⟨hTI, h1, h2, hl1, hl2, .inl ⟨hz, a, b, hTO⟩⟩ (fun _ _ e => e) fun b hb => .inl hb)
    exact {
      off := fun hm => by
        simp only [List.mem_cons, List.not_mem_nil, or_false] at hm
        rcases hm with e | e | e | e
        · exact dz e
        · exact dTO e
        · exact di1 e
        · exact di2 e
      frame := fun i h₁ h₂ st hk => by
        obtain ⟨hTI, h1, h2, hl1, hl2, hz⟩ := st
        refine ⟨hk _ _ (Ne.symm dTI) hTI, h1.at fun o e => hk _ o (Ne.symm di1) e, h2.at fun o e => hk _ o (Ne.symm di2) e, hl1.at fun o e => hk _ o (Ne.symm dl1) e, hl2.at fun o e => hk _ o (Ne.symm dl2) e, ?_⟩
        rcases hz with ⟨hz, a, b, hTO⟩ | ⟨T, f, oT, hz, hT, r1, r2, r3, r4⟩
        · exact .inl ⟨hk _ _ (Ne.symm dz) hz, a, b, hk _ _ (Ne.symm dTO) hTO⟩
        · exact .inr ⟨T, f, oT, hk _ _ (Ne.symm dz) hz, hk _ _ r4 hT, r1, r2, r3, r4⟩
      item := fun i s₁ Q₁ E₁ hi st hds hQ => by
        obtain ⟨hTI, h1, h2, hl1, hl2, hz⟩ := st
        have hix : i < xs.size := Nat.lt_of_lt_of_le hi (Nat.min_le_left ..)
        have hiy : i < ys.size := Nat.lt_of_lt_of_le hi (Nat.min_le_right ..)
        have ex := Array.getElem?_eq_getElem hix
        have ey := Array.getElem?_eq_getElem hiy
        have lt : ∀ {c o}, s₁.heap.get? c = some o → s₁.heap.objs.size ≠ c := fun e => Nat.ne_of_gt (Heap.lt_size e)
        have n1 : s₁.heap.objs.size ≠ i1 := let ⟨_, e, _⟩ := h1; lt e
        have n2 : s₁.heap.objs.size ≠ i2 := let ⟨_, e, _⟩ := h2; lt e
        rcases hz with ⟨hz, a, b, hTO⟩ | ⟨T, f, oT, hz, hT, r1, r2, r3, r4⟩
        · refine RZ.pyNext_zipT_item D hz hTI hTO h1 h2 hl1 hl2 ex ey fun h' a1 a2 a3 a4 a5 a6 hk => ?_
          exact hQ s₁.heap.objs.size _ _ h' s₁.toks ⟨ex, ey⟩ (.inl ⟨_, a5, rfl, _, rfl⟩)
            ⟨hk _ _ D.TIz D.TITO D.TIi1 D.TIi2 hTI, a3, a4, hl1.at fun o e => hk _ o D.l1z D.l1TO D.l1i1 D.l1i2 e, hl2.at fun o e => hk _ o D.l2z D.l2TO D.l2i1 D.l2i2 e,
              .inr ⟨s₁.heap.objs.size, false, _, a1, a5, lt hz, n1, n2, Nat.ne_of_gt hds⟩⟩
            fun c o hc e => hk c o (fun x => hc (by simp [x])) (fun x => hc (by simp [x])) (fun x => hc (by simp [x])) (fun x => hc (by simp [x])) e
        · refine pyNext_zipT_item_held D hz hT hTI h1 h2 hl1 hl2 ex ey fun h' a1 a3 a4 a5 a6 hk => ?_
          exact hQ s₁.heap.objs.size _ _ h' s₁.toks ⟨ex, ey⟩ (.inl ⟨_, a5, rfl, _, rfl⟩)
            ⟨hk _ _ D.TIz D.TIi1 D.TIi2 hTI, a3, a4, hl1.at fun o e => hk _ o D.l1z D.l1i1 D.l1i2 e, hl2.at fun o e => hk _ o D.l2z D.l2i1 D.l2i2 e,
              .inr ⟨T, true, oT, a1, hk _ _ r1 r2 r3 hT, r1, r2, r3, r4⟩⟩
            fun c o hc e => hk c o (fun x => hc (by simp [x])) (fun x => hc (by simp [x])) (fun x => hc (by simp [x])) e
      done := fun s₁ Q₁ E₁ st hQ => by
        obtain ⟨hTI, h1, h2, hl1, hl2, hz⟩ := st
        have hend : xs[min xs.size ys.size]? = none ∨ ys[min xs.size ys.size]? = none := by
          rcases Nat.le_total xs.size ys.size with h | h
          · exact .inl (Array.getElem?_eq_none (by rw [Nat.min_eq_left h]; exact Nat.le_refl _))
          · exact .inr (Array.getElem?_eq_none (by rw [Nat.min_eq_right h]; exact Nat.le_refl _))
        rcases hz with ⟨hz, a, b, hTO⟩ | ⟨T, f, oT, hz, hT, r1, r2, r3, r4⟩
        · exact RZ.pyNext_zipT_end hA D hz hTI hTO h1 h2 hl1 hl2 hend fun h' hk => hQ h' s₁.toks fun c o hc e => hk c o (fun x => hc (by simp [x])) (fun x => hc (by simp [x])) (fun x => hc (by simp [x])) (fun x => hc (by simp [x])) e
        · exact pyNext_zipT_end_held hA D hz hT hTI h1 h2 hl1 hl2 hend fun h' hk => hQ h' s₁.toks fun c o hc e => hk c o (fun x => hc (by simp [x])) (fun x => hc (by simp [x])) (fun x => hc (by simp [x])) e }
end
section
variable {X : Cx} {C : Cc} {σ : St} {ι : List Addr} {H : Hp} {S : Store} {Q : VK}
/-- the values of kvs go with ys, its keys with xs -/
def ZipK : List V → List V → List (Key × V) → Prop
  | x :: xs, y :: ys, kv :: kvs => x = kV kv.1 ∧ kv.2 = y ∧ ZipK xs ys kvs
  | [], _, [] => True
  | _ :: _, [], [] => True
  | _, _, _ => False
theorem zipK_vals {P : Program} {w : World} : ∀ {xs ys : List V} {kvs : List (Key × V)} {us ws : List Value}, ZipK xs ys kvs → Vals xs us → Vals ys ws →
    ∃ prs : List (Key × Value), KV kvs prs ∧ prs.length = min us.length ws.length ∧ ∀ (i : Nat) (u v : Value), us[i]? = some u → ws[i]? = some v → ∃ k, prs[i]? = some (k, v) ∧ (mixKind P w).is k u = true
  | [], ys, [], us, ws, _, r1, r2 => by
    cases r1
    exact ⟨[], .nil, by simp, fun i u v h _ => by simp at h⟩
  | [], ys, _ :: _, us, ws, h, _, _ => by cases ys <;> exact h.elim
  | x :: xs, [], [], us, ws, _, r1, r2 => by
    cases r2
    exact ⟨[], .nil, by simp, fun i u v _ h => by simp at h⟩
  | x :: xs, [], _ :: _, us, ws, h, _, _ => h.elim
  | x :: xs, y :: ys, [], us, ws, h, _, _ => h.elim
  | x :: xs, y :: ys, (k, v) :: kvs, us, ws, h, r1, r2 => by
    obtain ⟨e1, e2, h⟩ := h
    cases r1 with
    | @cons _ u _ us ru tu =>
      cases r2 with
      | @cons _ z _ ws rz tz =>
        obtain ⟨prs, h1, h2, h3⟩ := zipK_vals (P := P) (w := w) h tu tz
        have e2 : v = y := e2
        have e1 : x = kV k := e1
        subst e2
        rw [e1] at ru
        refine ⟨(k, z) :: prs, .cons ⟨rfl, rz⟩ h1, by simp [h2], fun i u' v' a b => ?_⟩
        cases i with
        | zero =>
          simp at a b
          subst a b
          exact ⟨k, rfl, kV_is ru⟩
        | succ i => exact h3 i u' v' (by simpa using a) (by simpa using b)
def tDZip (K : PySem.W.Frag) (t : TA) : TE := fun σ H Q => t σ H fun vs H1 => ∃ a b xs ys kvs, vs = [.ref a, .ref b] ∧ SqT K H1 a xs ∧ SqT K H1 b ys ∧ ZipK xs ys kvs ∧ ∀ p, H1 p = none → Q (.ref p) (upd H1 p (.dK (mergeK [] kvs)))
theorem pe_dzip {e e2 : Expr} {ta : TA} {p p2 pos pos2 : Pos} (hc : X.calm = true) (hg : Gl X "dict") (hm : X.mg "dict" = none) (hg2 : Gl X "zip") (hm2 : X.mg "zip" = none) (ha : PA X [e, e2] ta)
    (hs : starEach [e, e2] X.env = (false, eval e X.env) :: starEach [e2] X.env) (hpl : (backTo pos2 (starEach [e2] X.env)).any (·.1) = false) :
    PE X (.Call (.Name "dict" p) [.Call (.Name "zip" p2) [e, e2] [] pos2] [] pos) (tDZip X.K ta) := by
  refine ⟨fun pins s σ H Q I h => ?_⟩
  refine wpAny_Call_Name_kw (ld_blt I hg hm PyProof.Rows.boot_dict ?_ (by decide) (by decide))
  refine PyProof.Rows.callWith_type1 ?_ rfl rfl
  show wpAny _ _ (spliced ((false, eval (.Call (.Name "zip" p2) [e, e2] [] pos2) X.env) :: [])) _ _ _
  refine Calls.spliced_cons ?_
  refine wpAny_Call_Name_kw (ld_blt I hg2 hm2 PyProof.Rows.boot_zip ?_ (by decide) (by decide))
  refine PyProof.Rows.callWith_type1 (thn (ha.run pos2 pins s σ H _ I h) fun us s1 ⟨vs, H1, I1, r1, q1⟩ => ?_) hs hpl
  obtain ⟨a, b, xs, ys, kvs, ex, hqx, hqy, hz, q⟩ := q1
  subst ex
  cases r1 with
  | cons r rr =>
    cases rr with
    | cons r' rr =>
      cases rr
      cases r
      cases r'
      obtain ⟨its, rv, p1, z1⟩ := I1.tuple hqx
      obtain ⟨its2, rv2, p2, z2⟩ := I1.tuple hqy
      obtain ⟨o1, ho1, _⟩ := id p1
      obtain ⟨o2, ho2, _⟩ := id p2
      have l1 := rv.length
      have l2 := rv2.length
      refine RZ.call_zipT (show s1.heap.IsTuple a its.toArray from p1) (show s1.heap.IsTuple b its2.toArray from p2) fun h' hzz hTI hTO h1 h2 hsz hk => Calls.spliced_nil ?_
      obtain ⟨prs, kv, e1, e2'⟩ := zipK_vals (P := X.prog) (w := X.w) hz rv rv2
      refine PySem.call_dict_pairs (knd := mixKind X.prog X.w) (kvs := prs) (pairArg_zipT (s1.heap.objs.size + 4) (s1.heap.objs.size + 2) (s1.heap.objs.size + 3) s1.heap.objs.size (s1.heap.objs.size + 1) a b (PySem.W.ktu_apart s1.heap.objs.size a b (Heap.lt_size ho1) (Heap.lt_size ho2)) its.toArray its2.toArray) (I1.ok.hd hc) ⟨hzz, hTI, ⟨_, _, hTO⟩, h1, h2, ?_, ?_⟩ ?_ ?_ fun h'' tk hd' k => ?_
      · exact (show s1.heap.IsTuple a its.toArray from p1).at fun o e => hk _ o e
      · exact (show s1.heap.IsTuple b its2.toArray from p2).at fun o e => hk _ o e
      · exact ⟨by simpa using e1, fun i u v ⟨h3, h4⟩ => e2' i u v (by simpa using h3) (by simpa using h4)⟩
      · simp only [List.size_toArray]; omega
      · have k' : ∀ b o, s1.heap.get? b = some o → h''.get? b = some o := fun c o e => k c o (fun m => by
          have hlt := Heap.lt_size e
          simp only [List.mem_cons, List.not_mem_nil, or_false] at m
          rcases m with m | m | m | m <;> (rw [m] at hlt; first | exact absurd hlt (Nat.not_lt.mpr (Nat.le_add_right _ _)) | exact absurd hlt (Nat.lt_irrefl _))) (hk c o e)
        have hkl : kvs.length = min its.length its2.length := by rw [← e1]; exact Paired.length kv
        have hle : s1.heap.objs.size ≤ h'.objs.size := by omega
        have hm : (h'.objs.size == sysModules) = false := beq_eq_false_iff_ne.mpr (Nat.ne_of_gt (Nat.lt_of_lt_of_le I1.big hle))
        have hlen : (mergeK [] kvs).length ≤ sizeLine := by
          refine Nat.le_trans (length_mergeK kvs []) ?_
          rw [List.length_nil, Nat.zero_add, hkl]
          omega
        exact ⟨.ref h'.objs.size, upd H1 h'.objs.size (.dK (mergeK [] kvs)), I1.laid (t' := tk) k' hle (show ObjOk X.prog X.w _ _ _ (.dK (mergeK [] kvs)) from ⟨hlen, hm, merged [] prs, KV.merge kv .nil, hd'⟩), rfl, q _ (I1.hok.fresh hle)⟩
theorem zipK_rep {K : Kb} : ∀ {xs ys : List PV} {vs ws : List V} {ps : List (PV × PV)}, RepL K ι H vs xs → RepL K ι H ws ys → pairsP (zipP xs ys) = some ps → ∃ kvs, ZipK vs ws kvs ∧ RepD K ι H kvs ps
  | [], ys, _, ws, ps, .nil, _, e => by
    cases e
    exact ⟨[], by cases ws <;> exact True.intro, .nil⟩
  | x :: xs, [], _, _, ps, .cons _ _, .nil, e => by
    cases e
    exact ⟨[], True.intro, .nil⟩
  | x :: xs, y :: ys, _, _, ps, .cons rx tx, .cons ry ty, e => by
    have e : (if isKey x then (pairsP (zipP xs ys)).map ((x, y) :: ·) else none) = some ps := e
    by_cases hk : isKey x = true
    · rw [if_pos hk] at e
      obtain ⟨qs, e1, rfl⟩ := Option.map_eq_some_iff.mp e
      obtain ⟨kvs, h1, h2⟩ := zipK_rep tx ty e1
      obtain ⟨k, rfl, rfl⟩ := key_of rx hk
      exact ⟨(k, _) :: kvs, ⟨rfl, rfl, h1⟩, .cons (key_ok rx) ry h2⟩
    · rw [if_neg hk] at e
      cases e
theorem evEs2 {φ : Calls} {G : List PV} {a b : Ex} {ρ : Env} {S : Store} {α : Type} {f : PV → PV → Store → Res α} : ((evE φ G a ρ S).bind fun x S => (evE φ G b ρ S).bind fun y S => f x y S) = (evEs φ G [a, b] ρ S).bind fun vs S => match vs with | [x, y] => f x y S | _ => .stuck := by
  rw [evEs_cons, Res.bind_assoc]
  congr 1
  funext x S
  rw [evEs_cons]
  simp only [evEs_nil]
  cases evE φ G b ρ S <;> rfl
theorem pm_dzipF {a b : Expr} {ca cb : Ex} {p p2 pos pos2 : Pos} (hK : C.K.K = X.K) (hc : X.calm = true) (hg : Gl X "dict") (hm : X.mg "dict" = none) (hg2 : Gl X "zip") (hm2 : X.mg "zip" = none) (ha : PE X a (tEv C ca)) (hb : PE X b (tEv C cb)) (hs : isStar a = false) (hs2 : isStar b = false) :
    PE X (.Call (.Name "dict" p) [.Call (.Name "zip" p2) [a, b] [] pos2] [] pos) (tEvF C (.dzip ca cb)) := by
  refine peImp (pe_dzip hc hg hm hg2 hm2 (pma_cons' ha (pma_cons' hb pma_nil hs2) hs) (star_plain hs) (by rw [star_plain hs2]; rfl)) fun σ H Q ⟨ρ, S, ι, hE, hS, h⟩ => ?_
  unfold evE at h
  rw [evEs2] at h
  refine tEvsF1 hE hS h fun vs S2 xs ι2 H2 l e2 s2 r h2 => ?_
  match vs, l, r, h2 with
  | [v, w], _, .cons r1 (.cons r2 .nil), h2 =>
    have v1 := r1.view s2
    have v2 := r2.view s2
    dsimp only at h2
    generalize res S2 v = v' at v1 h2
    generalize res S2 w = w' at v2 h2
    cases v' with
    | tup us =>
      cases w' with
      | tup ws =>
        obtain ⟨a1, ys, rfl, q, l⟩ := v1
        obtain ⟨b1, zs, rfl, q2, l2⟩ := v2
        rw [hK] at q q2
        have h3 : PostF C σ ι2 H2 (Res.ofO ((pairsP (zipP us ws)).map fun ps => .dict (mergeP [] ps)) S2) Q := h2
        cases hp : pairsP (zipP us ws) with
        | none => rw [hp] at h3; exact (show False from h3).elim
        | some ps =>
          rw [hp] at h3
          obtain ⟨kvs, k1, k2⟩ := zipK_rep l l2 hp
          exact ⟨a1, b1, ys, zs, kvs, rfl, q, q2, k1, FreshD.laid (show FreshD C ι2 H2 S2 (mergeP [] ps) Q from h3) s2 (k2.merge .nil)⟩
      | _ => exact (show False from h2).elim
    | _ => exact (show False from h2).elim
theorem pairs_rep {K : Kb} : ∀ {xs : List PV} {vs : List V} {ps : List (PV × PV)}, RepL K ι H vs xs → pairsP xs = some ps → ∃ (as : List Addr) (kvs : List (Key × V)), vs = as.map V.ref ∧ Paired (fun p kv => SqT K.K H p [kV kv.1, kv.2]) as kvs ∧ RepD K ι H kvs ps
  | [], _, ps, .nil, e => by cases e; exact ⟨[], [], rfl, .nil, .nil⟩
  | x :: xs, _, ps, .cons rx tx, e => by
    cases x with
    | tup l =>
      match l, rx, e with
      | [k, v], rx, e =>
        have e : (if isKey k then (pairsP xs).map ((k, v) :: ·) else none) = some ps := e
        by_cases hk : isKey k = true
        · rw [if_pos hk] at e
          obtain ⟨qs, e1, rfl⟩ := Option.map_eq_some_iff.mp e
          obtain ⟨as, kvs, rfl, h2, h3⟩ := pairs_rep tx e1
          obtain ⟨a, ws, rfl, sq, rl⟩ := rx.view0
          cases rl with
          | cons rk t =>
            cases t with
            | cons rv t2 =>
              cases t2
              obtain ⟨kk, rfl, rfl⟩ := key_of rk hk
              exact ⟨a :: as, (kk, _) :: kvs, rfl, .cons sq h2, .cons (key_ok rk) rv h3⟩
        · rw [if_neg hk] at e
          cases e
      | [], _, e => cases e
      | [_], _, e => cases e
      | _ :: _ :: _ :: _, _, e => cases e
    | _ => cases e
theorem pm_dlstF {a : Expr} {ca : Ex} {p pos : Pos} (hK : C.K.K = X.K) (hc : X.calm = true) (hg : Gl X "dict") (hm : X.mg "dict" = none) (ha : PE X a (tEv C ca)) (hs : isStar a = false) :
    PE X (.Call (.Name "dict" p) [a] [] pos) (tEvF C (.dlst ca)) := by
  refine peImp (pe_callTy (call_dictP hc) hg hm PyProof.Rows.boot_dict (pma_cons' ha pma_nil hs) (by decide) (by decide) (star_plain hs) rfl) fun σ H Q ⟨ρ, S, ι, hE, hS, h⟩ => ?_
  unfold evE at h
  have h' : PostF C σ ι H ((evEs C.φ C.G [ca] ρ S).bind fun vs S => match vs with | [x] => Res.ofO (dlstV (res S x)) S | _ => .stuck) Q := by
    rw [evEs_cons]
    refine Eq.mp (congrArg (fun z => PostF C σ ι H z Q) ?_) h
    rw [Res.bind_assoc]
    congr 1
  refine tEvsF1 hE hS h' fun vs S2 xs ι2 H2 l e2 s2 r h2 => ?_
  match vs, l, r, h2 with
  | [v], _, .cons r1 .nil, h2 =>
    have v1 := r1.view s2
    dsimp only at h2
    generalize res S2 v = v' at v1 h2
    cases v' with
    | list us =>
      obtain ⟨a1, ys, rfl, q, l⟩ := v1
      have h3 : PostF C σ ι2 H2 (Res.ofO ((pairsP us).map fun ps => .dict (mergeP [] ps)) S2) Q := h2
      cases hp : pairsP us with
      | none => rw [hp] at h3; exact (show False from h3).elim
      | some ps =>
        rw [hp] at h3
        obtain ⟨as, kvs, e1, k1, k2⟩ := pairs_rep l hp
        rw [hK] at k1
        subst e1
        exact ⟨a1, as, kvs, rfl, .inl q, k1, FreshD.laid (show FreshD C ι2 H2 S2 (mergeP [] ps) Q from h3) s2 (k2.merge .nil)⟩
    | _ => exact (show False from h2).elim
end
end Bt
end
section
set_option maxHeartbeats 1000000
namespace Bt
open PySem L2
open PyProof.Rows hiding St
def PostO (C : Cc) (ι : List Addr) (H : Hp) (o : Out) (D : Ends) : Prop := match o with
  | .next ρ S => ∀ σ' H' ι', Ext ι H ι' H' → StOk C.K ι' H' S → EnvOk C.K ι' H' σ' ρ → D.nx σ' H'
  | .ret v S => ∀ x H' ι', Ext ι H ι' H' → StOk C.K ι' H' S → Rep C.K ι' H' x v → D.rt x H'
  | .brk ρ S => ∀ σ' H' ι', Ext ι H ι' H' → StOk C.K ι' H' S → EnvOk C.K ι' H' σ' ρ → D.bk σ' H'
  | .cont ρ S => ∀ σ' H' ι', Ext ι H ι' H' → StOk C.K ι' H' S → EnvOk C.K ι' H' σ' ρ → D.ct σ' H'
  | .exc q ρ S => ∀ cls d σ' H' ι', Ext ι H ι' H' → StOk C.K ι' H' S → EnvOk C.K ι' H' σ' ρ → ExRep C ι' H' cls d q → C.W cls d σ' H'
  | .stuck => False
def tSt (C : Cc) (c : Sm) : TS := fun D σ H => ∃ ρ S ι, EnvOk C.K ι H σ ρ ∧ StOk C.K ι H S ∧ PostO C ι H (exS C.φ C.G c ρ S) D
def tSs (C : Cc) (cs : List Sm) : TS := fun D σ H => ∃ ρ S ι, EnvOk C.K ι H σ ρ ∧ StOk C.K ι H S ∧ PostO C ι H (exSs C.φ C.G cs ρ S) D
section
variable {X : Cx} {C : Cc} {σ : St} {ι ι' : List Addr} {H H' : Hp} {S : Store} {ρ : Env} {D : Ends}
theorem PostO.from {o : Out} (e : Ext ι H ι' H') (h : PostO C ι H o D) : PostO C ι' H' o D := by
  cases o with
  | next ρ S => exact fun a b c e2 => h a b c (e.trans e2)
  | ret v S => exact fun a b c e2 => h a b c (e.trans e2)
  | brk ρ S => exact fun a b c e2 => h a b c (e.trans e2)
  | cont ρ S => exact fun a b c e2 => h a b c (e.trans e2)
  | exc q ρ S => exact fun a b c d f e2 => h a b c d f (e.trans e2)
  | stuck => exact h
theorem PostO.ofR {α β : Type} {rep : List Addr → Hp → β → α → Prop} {r : Res α} {f : α → Store → Out} (hE : EnvOk C.K ι H σ ρ) (h : PostO C ι H (Out.ofR ρ r f) D) : PostG rep C σ ι H r fun v S1 _ ι1 H1 => PostO C ι1 H1 (f v S1) D := by
  cases r with
  | ok v S => exact fun x H2 ι2 e s r => PostO.from e h
  | exc q S => exact fun cls d H2 ι2 e s r => h cls d σ H2 ι2 e s (hE.ext e) r
  | stuck => exact h
theorem tEvO {a : Ex} {f : PV → Store → Out} {R : V → Hp → Prop} (hE : EnvOk C.K ι H σ ρ) (hS : StOk C.K ι H S) (h : PostO C ι H (Out.ofR ρ (evE C.φ C.G a ρ S) f) D)
    (hR : ∀ v S2 x ι2 H2, Ext ι H ι2 H2 → StOk C.K ι2 H2 S2 → Rep C.K ι2 H2 x v → PostO C ι2 H2 (f v S2) D → R x H2) : tEv C a σ H fun x H1 => R x H1 :=
  ⟨ρ, S, ι, hE, hS, (PostO.ofR (rep := Rep C.K) hE h).mono fun v S1 x ι1 H1 e1 s1 r1 h1 => hR v S1 x ι1 H1 e1 s1 r1 h1⟩
theorem ofR_bind {α β : Type} (r : Res α) (f : α → Store → Res β) (g : β → Store → Out) : Out.ofR ρ (r.bind f) g = Out.ofR ρ r fun a S => Out.ofR ρ (f a S) g := by
  cases r <;> rfl
theorem tTruO {t : Ex} {f : Bool → Store → Out} {R : Bool → Hp → Prop} (hE : EnvOk C.K ι H σ ρ) (hS : StOk C.K ι H S) (h : PostO C ι H (Out.ofR ρ ((evE C.φ C.G t ρ S).bind fun v S => truthR S v) f) D)
    (hR : ∀ b S2 ι2 H2, Ext ι H ι2 H2 → StOk C.K ι2 H2 S2 → PostO C ι2 H2 (f b S2) D → R b H2) : tTru C t σ H R :=
  ⟨ρ, S, ι, hE, hS, (PostO.ofR (rep := fun _ _ (b : Bool) a => b = a) hE h).mono fun b S1 b' ι1 H1 e1 s1 r1 h1 => by subst r1; exact hR _ S1 ι1 H1 e1 s1 h1⟩
theorem pms_pass {pos : Pos} : PS X (.Pass pos) (tSt C .pass) := psImp ps_pass fun D σ H ⟨ρ, S, ι, hE, hS, h⟩ => by
  unfold exS at h
  exact h σ H ι (Ext.refl _ _) hS hE
theorem pms_brk {pos : Pos} : PS X (.Break pos) (tSt C .brk) := psImp ps_break fun D σ H ⟨ρ, S, ι, hE, hS, h⟩ => by
  unfold exS at h
  exact h σ H ι (Ext.refl _ _) hS hE
theorem pms_cont {pos : Pos} : PS X (.Continue pos) (tSt C .cont) := psImp ps_continue fun D σ H ⟨ρ, S, ι, hE, hS, h⟩ => by
  unfold exS at h
  exact h σ H ι (Ext.refl _ _) hS hE
theorem pms_never {st : Stmt} : PS X st (tSt C .never) := psImp ps_never fun D σ H ⟨ρ, S, ι, hE, hS, h⟩ => by
  unfold exS at h
  exact h
theorem pms_retN {pos : Pos} : PS X (.Return none pos) (tSt C .retN) := psImp ps_retN fun D σ H ⟨ρ, S, ι, hE, hS, h⟩ => by
  unfold exS at h
  exact h .non H ι (Ext.refl _ _) hS .non
theorem pms_ret {e : Expr} {c : Ex} {pos : Pos} (he : PE X e (tEv C c)) : PS X (.Return (some e) pos) (tSt C (.ret c)) := psImp (ps_ret he) fun D σ H ⟨ρ, S, ι, hE, hS, h⟩ => by
  unfold exS at h
  exact tEvO hE hS h fun v S2 x ι2 H2 e2 s2 r h2 => h2 x H2 ι2 (Ext.refl _ _) s2 r
def isComp : Expr → Bool
  | .ListComp .. | .SetComp .. | .DictComp .. => true
  | _ => false
theorem sw_plain {e : Expr} {t : Option Expr} {l : Nat} {env : PySem.Env} (h : isComp e = false) : swapsWith e t l env = pure false := by
  cases e <;> first | rfl | cases h
theorem sole_plain {t e : Expr} {l : Nat} {env : PySem.Env} (h : isComp e = false) : swapsWithSole [t] e l env = pure false := by
  show swapsWith e (some t) l env = pure false
  exact sw_plain h
theorem pms_expr {e : Expr} {c : Ex} {pos : Pos} (he : PE X e (tEv C c)) (hc : isComp e = false) : PS X (.Expr e pos) (tSt C (.expr c)) := psImp (ps_expr he (sw_plain hc)) fun D σ H ⟨ρ, S, ι, hE, hS, h⟩ => by
  unfold exS at h
  exact tEvO hE hS h fun v S2 x ι2 H2 e2 s2 r h2 => h2 σ H2 ι2 (Ext.refl _ _) s2 (hE.ext e2)
theorem pms_if {t : Expr} {a b : List Stmt} {ct : Ex} {ca cb : List Sm} {pos : Pos} (ht : PT X t (tTru C ct)) (ha : PSs X a (tSs C ca)) (hb : PSs X b (tSs C cb)) : PS X (.If t a b pos) (tSt C (.ifs ct ca cb)) := psImp (ps_if ht ha hb) fun D σ H ⟨ρ, S, ι, hE, hS, h⟩ => by
  unfold exS at h
  rw [← ofR_bind (ρ := ρ) (evE C.φ C.G ct ρ S) (fun v S => truthR S v)] at h
  refine tTruO hE hS h fun b S2 ι2 H2 e2 s2 h2 => ?_
  cases b with
  | true => exact iteT ⟨ρ, S2, ι2, hE.ext e2, s2, h2⟩
  | false => exact iteF ⟨ρ, S2, ι2, hE.ext e2, s2, h2⟩
theorem pmss_nil : PSs X [] (tSs C []) := pssImp pss_nil fun D σ H ⟨ρ, S, ι, hE, hS, h⟩ => by
  unfold exSs at h
  exact h σ H ι (Ext.refl _ _) hS hE
theorem pmss_cons {s : Stmt} {ss : List Stmt} {c : Sm} {cs : List Sm} (h1 : PS X s (tSt C c)) (h2 : PSs X ss (tSs C cs)) : PSs X (s :: ss) (tSs C (c :: cs)) := pssImp (pss_cons h1 h2) fun D σ H ⟨ρ, S, ι, hE, hS, h⟩ => by
  refine ⟨ρ, S, ι, hE, hS, ?_⟩
  have e : exSs C.φ C.G (c :: cs) ρ S = (exS C.φ C.G c ρ S).then fun ρ S => exSs C.φ C.G cs ρ S := by rw [exSs.eq_2]
  rw [e] at h
  cases q : exS C.φ C.G c ρ S with
  | next ρ1 S1 =>
    rw [q] at h
    exact fun σ' H' ι' e1 s1 E1 => ⟨ρ1, S1, ι', E1, s1, PostO.from e1 h⟩
  | ret v S1 => rw [q] at h; exact h
  | brk ρ1 S1 => rw [q] at h; exact h
  | cont ρ1 S1 => rw [q] at h; exact h
  | exc x ρ1 S1 => rw [q] at h; exact h
  | stuck => rw [q] at h; exact h
theorem pms_asg {tg e : Expr} {t : Tg} {c : Ex} {pos : Pos} (he : PE X e (tEv C c)) (hg : PG X tg (gT C t)) (hs : swapsWithSole [tg] e pos.line X.env = pure false) (hw : swappedStores [tg] e X.env = pure none) (h1 : isStar tg = false) : PS X (.Assign [tg] e pos) (tSt C (.asg t c)) := by
  refine psImp (ps_asg he hg hs hw (by cases tg <;> first | rfl | cases h1)) fun D σ H ⟨ρ, S, ι, hE, hS, h⟩ => ?_
  unfold exS at h
  refine tEvO hE hS h fun v S2 x ι2 H2 e2 s2 r h2 => ?_
  cases ha : assign t (opened t S2 v) ρ with
  | none => rw [ha] at h2; exact (show False from h2).elim
  | some ρ' =>
    rw [ha] at h2
    exact ⟨ρ, ι2, S2, v, ρ', hE.ext e2, s2, r, ha, fun σ' hE' _ => h2 σ' H2 ι2 (Ext.refl _ _) s2 hE'⟩
theorem setAll_two {i j : Nat} {vs : List PV} {ρ' : Env} (h : setAll [i, j] vs ρ = some ρ') : ∃ v w, vs = [v, w] ∧ ρ' = (ρ.set i (some v)).set j (some w) := by
  match vs, h with
  | [], h => simp [setAll] at h
  | [_], h =>
    simp only [setAll] at h
    split at h <;> simp at h
  | [v, w], h =>
    simp only [setAll] at h
    split at h
    · split at h
      · cases h; exact ⟨v, w, rfl, rfl⟩
      · cases h
    · cases h
  | _ :: _ :: _ :: _, h =>
    simp only [setAll] at h
    split at h
    · split at h <;> simp at h
    · cases h
theorem setAll_three {i j l : Nat} {vs : List PV} {ρ' : Env} (h : setAll [i, j, l] vs ρ = some ρ') : ∃ u v w, vs = [u, v, w] ∧ ρ' = ((ρ.set i (some u)).set j (some v)).set l (some w) := by
  match vs, h with
  | [], h => simp [setAll] at h
  | [_], h =>
    simp only [setAll] at h
    split at h <;> simp at h
  | [_, _], h =>
    simp only [setAll] at h
    split at h
    · split at h <;> simp at h
    · cases h
  | [u, v, w], h =>
    simp only [setAll] at h
    split at h
    · split at h
      · split at h
        · cases h; exact ⟨u, v, w, rfl, rfl⟩
        · cases h
      · cases h
    · cases h
  | _ :: _ :: _ :: _ :: _, h =>
    simp only [setAll] at h
    split at h
    · split at h
      · split at h <;> simp at h
      · cases h
    · cases h
theorem tEvsO {as : List Ex} {f : List PV → Store → Out} {R : List V → Hp → Prop} (hE : EnvOk C.K ι H σ ρ) (hS : StOk C.K ι H S) (h : PostO C ι H (Out.ofR ρ (evEs C.φ C.G as ρ S) f) D)
    (hR : ∀ vs S2 xs ι2 H2, Ext ι H ι2 H2 → StOk C.K ι2 H2 S2 → RepL C.K ι2 H2 xs vs → PostO C ι2 H2 (f vs S2) D → R xs H2) : tEvs C as σ H fun x H1 => R x H1 :=
  ⟨ρ, S, ι, hE, hS, (PostO.ofR (rep := RepL C.K) hE h).mono fun v S1 x ι1 H1 e1 s1 r1 h1 => hR v S1 x ι1 H1 e1 s1 r1 h1⟩
theorem pms_par2 {i j : Nat} {x y : Str} {a b : Expr} {ca cb : Ex} {px py pt pos : Pos} {kt k2 : Nat} {pt2 : Pos} (hc : X.calm = true) (hN : X.N.Nodup) (hi : X.N[i]? = some x) (hj : X.N[j]? = some y) (hij : i ≠ j)
    (hx : X.env.scope.names.lookup x = some .local) (hy : X.env.scope.names.lookup y = some .local) (ha : PA X [a, b] (tEvs C [ca, cb])) (hw : swappedStores [.Tuple [.Name x px, .Name y py] kt pt] (.Tuple [a, b] k2 pt2) X.env = pure (some [x, y])) :
    PS X (.Assign [.Tuple [.Name x px, .Name y py] kt pt] (.Tuple [a, b] k2 pt2) pos) (tSt C (.par [i, j] [ca, cb])) := by
  refine psImp (ps_par hc hN hi hj hij hx hy ha hw rfl) fun D σ H ⟨ρ, S, ι, hE, hS, h⟩ => ?_
  unfold exS at h
  refine tEvsO hE hS h fun vs S2 xs ι2 H2 e2 s2 r h2 => ?_
  cases hq : setAll [i, j] vs ρ with
  | none => rw [hq] at h2; exact (show False from h2).elim
  | some ρ' =>
    rw [hq] at h2
    obtain ⟨v, w, rfl, rfl⟩ := setAll_two hq
    cases r with
    | cons r1 t =>
      cases t with
      | cons r2 t2 =>
        cases t2
        exact ⟨_, _, rfl, h2 _ H2 ι2 (Ext.refl _ _) s2 (((hE.ext e2).set r1).set r2)⟩
theorem pms_par3 {i j l : Nat} {x y z : Str} {a b c : Expr} {ca cb cc : Ex} {px py pz pt pos : Pos} {kt k2 : Nat} {pt2 : Pos} (hc : X.calm = true) (hN : X.N.Nodup) (hi : X.N[i]? = some x) (hj : X.N[j]? = some y) (hl : X.N[l]? = some z) (hij : i ≠ j) (hil : i ≠ l) (hjl : j ≠ l)
    (hx : X.env.scope.names.lookup x = some .local) (hy : X.env.scope.names.lookup y = some .local) (hz : X.env.scope.names.lookup z = some .local) (ha : PA X [a, b, c] (tEvs C [ca, cb, cc])) (hw : swappedStores [.Tuple [.Name x px, .Name y py, .Name z pz] kt pt] (.Tuple [a, b, c] k2 pt2) X.env = pure (some [x, y, z])) :
    PS X (.Assign [.Tuple [.Name x px, .Name y py, .Name z pz] kt pt] (.Tuple [a, b, c] k2 pt2) pos) (tSt C (.par [i, j, l] [ca, cb, cc])) := by
  refine psImp (ps_par3 hc hN hi hj hl hij hil hjl hx hy hz ha hw rfl) fun D σ H ⟨ρ, S, ι, hE, hS, h⟩ => ?_
  unfold exS at h
  refine tEvsO hE hS h fun vs S2 xs ι2 H2 e2 s2 r h2 => ?_
  cases hq : setAll [i, j, l] vs ρ with
  | none => rw [hq] at h2; exact (show False from h2).elim
  | some ρ' =>
    rw [hq] at h2
    obtain ⟨u, v, w, rfl, rfl⟩ := setAll_three hq
    cases r with
    | cons r1 t =>
      cases t with
      | cons r2 t2 =>
        cases t2 with
        | cons r3 t3 =>
          cases t3
          exact ⟨_, _, _, rfl, h2 _ H2 ι2 (Ext.refl _ _) s2 ((((hE.ext e2).set r1).set r2).set r3)⟩
def ipP (C : Cc) (o : Bop) : TIp := fun x y H Q => ∃ i j z, x = .int i ∧ y = .int j ∧ bop o (.int i) (.int j) = some (.int z) ∧ Q (.int z) H
theorem ip_addP : PIp X .Add (ipP C .add) := fun pins s σ H x y v u Q I r1 r2 ⟨i, j, z, e1, e2, e3, q⟩ => by
  cases e3
  exact ip_add pins s σ H x y v u Q I r1 r2 ⟨i, j, e1, e2, q⟩
theorem ip_subP : PIp X .Sub (ipP C .sub) := fun pins s σ H x y v u Q I r1 r2 ⟨i, j, z, e1, e2, e3, q⟩ => by
  cases e3
  exact ip_sub pins s σ H x y v u Q I r1 r2 ⟨i, j, e1, e2, q⟩
theorem bop_int {o : Bop} {a b : PV} {z : Int} (h : bop o a b = some (.int z)) : ∃ i j, a = .int i ∧ b = .int j := by
  cases a with
  | int i =>
    cases b with
    | int j => exact ⟨i, j, rfl, rfl⟩
    | _ => cases o <;> simp [bop] at h
  | _ =>
    cases b <;> cases o <;> simp [bop] at h
theorem pms_aug {i : Nat} {x : Str} {e : Expr} {c : Ex} {op : Operator} {o : Bop} {pos' pos : Pos} (hN : X.N.Nodup) (hi : X.N[i]? = some x) (hx : Loc X.env.scope x) (hf : X.fn x = true ∨ X.env.scope.names.lookup x = some .local) (he : PE X e (tEv C c)) (ho : PIp X op (ipP C o)) :
    PS X (.AugAssign (.Name x pos') op e pos) (tSt C (.aug i o c)) := by
  refine psImp (ps_aug hN hi hx he ho hf) fun D σ H ⟨ρ, S, ι, hE, hS, h⟩ => ?_
  unfold exS at h
  cases hq : ρ[i]? with
  | none => rw [hq] at h; exact (show False from h).elim
  | some w =>
    cases w with
    | none => rw [hq] at h; exact (show False from h).elim
    | some a =>
      rw [hq] at h
      obtain ⟨v, hv, rv⟩ := hE.at_ i a hq
      refine ⟨v, hv, tEvO hE hS h fun b S2 y ι2 H2 e2 s2 r h2 => ?_⟩
      cases hb : bop o a b with
      | none => rw [hb] at h2; exact (show False from h2).elim
      | some u =>
        rw [hb] at h2
        cases u with
        | int z =>
          obtain ⟨i1, j1, rfl, rfl⟩ := bop_int hb
          cases rv
          cases r
          exact ⟨i1, j1, z, rfl, rfl, hb, h2 _ H2 ι2 (Ext.refl _ _) s2 ((hE.ext e2).set (.int z))⟩
        | _ => exact (show False from h2).elim
def setP (C : Cc) : TSet := fun o i v H Q => ∃ S ι a k u S', StOk C.K ι H S ∧ Rep C.K ι H o a ∧ Rep C.K ι H i k ∧ Rep C.K ι H v u ∧ putAt S a k u = some S' ∧ ∀ H', Ext ι H ι H' → StOk C.K ι H' S' → Q H'
theorem ixN_place (n : Nat) (i : Int) : ixN n i = place n i := rfl
theorem putAt_inv {n : Nat} {k w : PV} {S' : Store} (h : putAt S (.ref n) k w = some S') : (∃ xs i m, S[n]? = some (.lst xs) ∧ k = .int i ∧ place xs.length i = some m ∧ S' = S.set n (.lst (xs.set m w))) ∨
    ∃ kvs, S[n]? = some (.dic false kvs) ∧ isKey k = true ∧ kvs.length < sizeLine ∧ S' = S.set n (.dic false (dput kvs k w)) := by
  unfold putAt at h
  dsimp only at h
  split at h
  · rename_i xs hc
    split at h
    · rename_i i
      obtain ⟨m, e1, e2⟩ := Option.map_eq_some_iff.mp h
      exact .inl ⟨xs, i, m, hc, rfl, e1, e2.symm⟩
    · cases h
  · rename_i kvs hc
    split at h
    · rename_i hk
      obtain ⟨h1, h2⟩ := Bool.and_eq_true_iff.mp hk
      cases h
      exact .inr ⟨kvs, hc, h1, of_decide_eq_true h2, rfl⟩
    · cases h
  · cases h
theorem putAt_ref {a k w : PV} {S' : Store} (h : putAt S a k w = some S') : ∃ n, a = .ref n := by
  cases a with
  | ref n => exact ⟨n, rfl⟩
  | _ => simp [putAt] at h
theorem set_P (hu : X.A.units + 64 < cLine) : PSet X (setP C) := by
  intro pins s σ H o i v ov iv u Q I ro ri rv ⟨S, ι, a, k, w, S', hS, r1, r2, r3, hp, q⟩
  obtain ⟨n, rfl⟩ := putAt_ref hp
  cases r1 with
  | ref en =>
    rename_i ad
    have hmem : ad ∈ ι := List.mem_of_getElem? en
    rcases putAt_inv hp with ⟨xs, j, m, hc, rfl, e1, rfl⟩ | ⟨kvs, hc, h1, h2, rfl⟩
    · obtain ⟨vs, hH, rl⟩ := hS.cell n ad _ en hc
      cases r2
      refine set_list pins s σ H _ _ v ov iv u Q I ro ri rv ⟨ad, vs, j, m, rfl, rfl, hH, by rw [ixN_place, rl.length]; exact e1, ?_⟩
      refine q _ (Ext.set hmem (fun _ _ z => by rw [hH] at z; cases z)) (hS.set en ⟨vs.set m v, upd_same, ?_⟩)
      exact (rl.set r3 m).extR (ExtR.set hmem)
    · obtain ⟨es, hH, rd⟩ := hS.cell n ad _ en hc
      obtain ⟨kk, rfl, rfl⟩ := key_of r2 h1
      refine set_dict (by omega) pins s σ H _ _ v ov iv u Q I ro ri rv ⟨ad, _, rfl, .inl ⟨es, kk, hH, rfl, by rw [rd.length]; exact h2, rfl⟩, ?_⟩
      refine q _ (Ext.set hmem (fun _ _ z => by rw [hH] at z; cases z)) (hS.set en ⟨putK es kk v, upd_same, ?_⟩)
      exact (rd.put (key_ok r2) r3).extR (ExtR.set hmem)
theorem pms_put {o k e : Expr} {co ck ce : Ex} {pos' pos : Pos} (hu : X.A.units + 64 < cLine) (ho : PE X o (tEv C co)) (hk : PE X k (tEv C ck)) (he : PE X e (tEv C ce)) (hsl : isSlice k = false) (hc : isComp e = false) : PS X (.Assign [.Subscript o k pos'] e pos) (tSt C (.put co ck ce)) := by
  refine psImp (ps_asg he (pg_sub ho hk (set_P (C := C) hu) (by intro v; cases k <;> first | rfl | cases hsl)) (sole_plain hc) (by cases e <;> rfl) rfl) fun D σ H ⟨ρ, S, ι, hE, hS, h⟩ => ?_
  unfold exS at h
  refine tEvO hE hS h fun v S2 x ι2 H2 e2 s2 r h2 => ?_
  refine tEvO (hE.ext e2) s2 h2 fun a S3 y ι3 H3 e3 s3 r3 h3 => ?_
  refine tEvO ((hE.ext e2).ext e3) s3 h3 fun b S4 z ι4 H4 e4 s4 r4 h4 => ?_
  cases hq : putAt S4 a b v with
  | none => rw [hq] at h4; exact (show False from h4).elim
  | some S' =>
    rw [hq] at h4
    exact ⟨S4, ι4, a, b, v, S', s4, r3.ext e4, r4, (r.ext e3).ext e4, hq, fun H' e' s' => h4 σ H' ι4 e' s' ((((hE.ext e2).ext e3).ext e4).ext e')⟩
def rApp (C : Cc) : V → List V → Hp → VK → Prop := fun x xs H Q => ∃ S ι a v w S', xs = [v] ∧ StOk C.K ι H S ∧ Rep C.K ι H x a ∧ Rep C.K ι H v w ∧ appAt S a w = some S' ∧ ∀ H', Ext ι H ι H' → StOk C.K ι H' S' → Q .non H'
theorem mt_appP : MtR X "list.append" (rApp C) := by
  intro pins s σ H x xs v us Q I rx rxs ⟨S, ι, a, y, w, S', e0, hS, r1, r2, hp, q⟩
  subst e0
  cases a with
  | ref n =>
    cases r1 with
    | ref en =>
      rename_i ad
      have hp : (match S[n]? with
        | some (.lst xs) => if xs.length < sizeLine then some (S.set n (.lst (xs ++ [w]))) else none
        | _ => none) = some S' := hp
      cases hc : S[n]? with
      | none => rw [hc] at hp; cases hp
      | some c =>
        rw [hc] at hp
        have cr := hS.cell n ad c en hc
        cases c with
        | lst xs =>
          obtain ⟨vs, hH, rl⟩ := cr
          have hp : (if xs.length < sizeLine then some (S.set n (.lst (xs ++ [w]))) else none) = some S' := hp
          by_cases hl : xs.length < sizeLine
          · rw [if_pos hl] at hp
            cases hp
            have hmem : ad ∈ ι := List.mem_of_getElem? en
            refine mt_append pins s σ H _ _ v us Q I rx rxs ⟨ad, vs, y, rfl, rfl, hH, by rw [rl.length]; exact hl, ?_⟩
            refine q _ (Ext.set hmem (fun _ _ z => by rw [hH] at z; cases z)) (hS.set en ⟨vs ++ [y], upd_same, ?_⟩)
            exact (rl.append (.cons r2 .nil)).extR (ExtR.set hmem)
          · rw [if_neg hl] at hp
            cases hp
        | dic lk kvs => cases lk <;> cases hp
  | _ => simp [appAt] at hp
theorem pms_app {o e : Expr} {co ce : Ex} {apos cpos pos : Pos} (ho : PE X o (tEv C co)) (he : PE X e (tEv C ce)) (h1 : isCall0 o = false) (h2 : isStar e = false) (h3 : (apos.endLine == cpos.line) = true) : PS X (.Expr (.Call (.Attribute o "append" apos) [e] [] cpos) pos) (tSt C (.app co ce)) := by
  have hs : noStar [e] = true := by simp [noStar, h2]
  refine psImp (ps_expr (pe_bm PySem.F.plainAttrs_list PySem.F.slot_list_append PySem.F.type_list_append (mt_appP (C := C)) ho (pma_cons' he pma_nil h2) (base_plain h1) (by rw [back_all hs]; rfl) h3 (star_plain h2) rfl) rfl) fun D σ H ⟨ρ, S, ι, hE, hS, h⟩ => ?_
  unfold exS at h
  refine tEvO hE hS h fun a S2 x ι2 H2 e2 s2 r h2 => ?_
  have vw := r.view s2
  by_cases hk : meKind .lcount (res S2 a) = true
  · rw [if_pos hk] at h2
    have hd : ∃ ys, res S2 a = .list ys := by
      generalize res S2 a = w at hk
      cases w <;> first | exact ⟨_, rfl⟩ | cases hk
    obtain ⟨ys, ey⟩ := hd
    rw [ey] at vw
    obtain ⟨ad, ws, ea, q, l⟩ := vw
    subst ea
    refine ⟨.inl ⟨rfl, ws, .inl q⟩, ?_⟩
    refine tEvs_one (tEvO (hE.ext e2) s2 h2 fun b S3 y ι3 H3 e3 s3 r3 h3 => ?_)
    cases hq : appAt S3 a b with
    | none => rw [hq] at h3; exact (show False from h3).elim
    | some S' =>
      rw [hq] at h3
      exact ⟨S3, ι3, a, y, b, S', rfl, s3, r.ext e3, r3, hq, fun H' e' s' => h3 σ H' ι3 e' s' (((hE.ext e2).ext e3).ext e')⟩
  · rw [if_neg hk] at h2
    exact (show False from h2).elim
theorem pms_for {tg iter : Expr} {body : List Stmt} {ct : Tg} {ci : It} {cb : List Sm} {pos : Pos} (hp : PassesOwn (model X.prog X.w) X.A X.env X.xe) (hc : X.calm = true) (hi : PI X tg iter (tIt C ci)) (hg : PG X tg (gT C ct)) (hb : PSs X body (tSs C cb)) (hs : isSet iter = false) :
    PS X (.For tg iter body [] pos) (tSt C (.forr ct ci cb)) := by
  refine psImp (ps_for hp hc hi hg hb fun x => folded_plain hs x) fun D σ H ⟨ρ, S, ι, hE, hS, h⟩ => ?_
  unfold exS at h
  refine ⟨ρ, S, ι, hE, hS, (PostO.ofR hE h).mono fun iv S1 J ι1 H1 e1 s1 ⟨hl, ok⟩ h1 => ?_⟩
  refine ⟨fun i m σ H => ∃ ι S ρ, i ≤ iv.items.length ∧ m = iv.items.length - i ∧ EnvOk C.K ι H σ ρ ∧ StOk C.K ι H S ∧ Ext ι1 H1 ι H ∧ PostO C ι H (forLoop iv ct (exSs C.φ C.G cb) (iv.items.drop i) ρ S) D, ⟨iv.items.length, ι1, S1, ρ, Nat.zero_le _, rfl, hE.ext e1, s1, Ext.refl _ _, by simpa using h1⟩, ?_⟩
  rintro i m σ H ⟨ι, S, ρ, hi, rfl, hE2, hS2, ext, h2⟩
  have tr : Tr C.K ι1 H1 C.K ι H := Tr.ofExt ext
  by_cases hlt : i < iv.items.length
  · rw [List.drop_eq_getElem_cons hlt] at h2
    unfold forLoop at h2
    by_cases g : guardOk S iv.guard = true
    · rw [if_pos g] at h2
      obtain ⟨k1, k2, k3⟩ := ok _ _ _ _ tr hS2 g
      refine .inr ⟨k1 i hlt, _, fun σ' H' hh => ⟨iv.items.length - (i + 1), by omega, hh⟩, fun x H' y => ?_⟩
      obtain ⟨p, ep, e3, st3, rp⟩ := k3 i x H' hlt y
      have ep' : p = iv.items[i] := by
        rw [List.getElem?_eq_getElem hlt] at ep
        cases ep
        rfl
      subst ep'
      cases ha : assign ct iv.items[i] ρ with
      | none => rw [ha] at h2; exact (show False from h2).elim
      | some ρ' =>
        rw [ha] at h2
        dsimp only at h2
        refine ⟨ρ, ι, S, _, ρ', hE2.ext e3, st3, rp, assign_res S ha, fun σ2 hE4 _ => ⟨ρ', S, ι, hE4, st3, ?_⟩⟩
        have h3 := PostO.from e3 h2
        cases hb : exSs C.φ C.G cb ρ' S with
        | next ρ1 S2 =>
          rw [hb] at h3
          exact fun σ5 H5 ι5 e5 s5 E5 => ⟨ι5, S2, ρ1, hlt, rfl, E5, s5, (ext.trans e3).trans e5, PostO.from e5 h3⟩
        | cont ρ1 S2 =>
          rw [hb] at h3
          exact fun σ5 H5 ι5 e5 s5 E5 => ⟨ι5, S2, ρ1, hlt, rfl, E5, s5, (ext.trans e3).trans e5, PostO.from e5 h3⟩
        | brk ρ1 S2 =>
          rw [hb] at h3
          have h3 : PostO C ι H' (.next ρ1 (unlock S2 iv.lock)) D := h3
          rw [hl] at h3
          exact h3
        | ret v S2 =>
          rw [hb] at h3
          have h3 : PostO C ι H' (.ret v (unlock S2 iv.lock)) D := h3
          rw [hl] at h3
          exact h3
        | exc q ρ1 S2 =>
          rw [hb] at h3
          have h3 : PostO C ι H' (if iv.lock.isEmpty then .exc q ρ1 S2 else .stuck) D := h3
          rw [hl] at h3
          exact h3
        | stuck => rw [hb] at h3; exact h3
    · rw [if_neg g] at h2
      exact (show False from h2).elim
  · have hin : i = iv.items.length := by omega
    subst hin
    rw [List.drop_length] at h2
    unfold forLoop at h2
    by_cases g : guardOk S iv.guard = true
    · rw [if_pos g, hl] at h2
      obtain ⟨k1, k2, k3⟩ := ok _ _ _ _ tr hS2 g
      exact .inl ⟨k2, h2 σ H ι (Ext.refl _ _) hS2 hE2⟩
    · rw [if_neg g] at h2
      exact (show False from h2).elim
theorem pms_while {t : Expr} {body : List Stmt} {ct : Ex} {cb : List Sm} {pos : Pos} (hp : PassesOwn (model X.prog X.w) X.A X.env X.xe) (ht : PT X t (tTru C ct)) (hb : PSs X body (tSs C cb)) : PS X (.While t body [] pos) (tSt C (.whil ct cb)) := by
  refine psImp (ps_while hp ht hb) fun D σ H ⟨ρ, S, ι, hE, hS, h⟩ => ?_
  unfold exS at h
  refine ⟨fun m σ H => ∃ ι S ρ, EnvOk C.K ι H σ ρ ∧ StOk C.K ι H S ∧ PostO C ι H (whileLoop (fun ρ S => (evE C.φ C.G ct ρ S).bind fun v S => truthR S v) (exSs C.φ C.G cb) m ρ S) D, ⟨whileFuel, ι, S, ρ, hE, hS, h⟩, ?_⟩
  rintro m σ H ⟨ι, S, ρ, hE, hS, h⟩
  cases m with
  | zero => exact (show False from h).elim
  | succ m =>
    unfold whileLoop at h
    refine tTruO hE hS h fun b S2 ι2 H2 e2 s2 h2 => ?_
    cases b with
    | false => exact iteF (h2 σ H2 ι2 (Ext.refl _ _) s2 (hE.ext e2))
    | true =>
      refine iteT ⟨_, fun σ' H' hh => ⟨m, Nat.lt_succ_self _, hh⟩, ρ, S2, ι2, hE.ext e2, s2, ?_⟩
      rw [if_pos rfl] at h2
      cases hb : exSs C.φ C.G cb ρ S2 with
      | next ρ1 S3 =>
        rw [hb] at h2
        exact fun σ5 H5 ι5 e5 s5 E5 => ⟨ι5, S3, ρ1, E5, s5, PostO.from e5 h2⟩
      | cont ρ1 S3 =>
        rw [hb] at h2
        exact fun σ5 H5 ι5 e5 s5 E5 => ⟨ι5, S3, ρ1, E5, s5, PostO.from e5 h2⟩
      | brk ρ1 S3 => rw [hb] at h2; exact h2
      | ret v S3 => rw [hb] at h2; exact h2
      | exc q ρ1 S3 => rw [hb] at h2; exact h2
      | stuck => rw [hb] at h2; exact h2
end
end Bt
end
section
set_option maxHeartbeats 1000000
namespace Bt
open PySem L2
open PyProof.Rows hiding St
section
variable {X : Cx} {C : Cc} {σ : St} {ι ι' : List Addr} {H H' : Hp} {S : Store} {ρ : Env} {D : Ends}
theorem lcF_imp {ct : Tg} {ci : It} {ce : Ex} {cifs : List Ex} {own : List Nat} {Q : VK} (hown : ∀ i ∈ ct.slots, i ∈ own) (h : tEvF C (.lc ce ct ci cifs own) σ H Q) :
    tLc (tIt C ci) (fun v σ H Q => ∃ D, gT (C.blk D) ct v σ H Q) (fun σ H Q => ∃ D, tTs (C.blk D) cifs σ H Q) (fun σ H Q => ∃ D, tEv (C.blk D) ce σ H Q) own σ H Q := by
  obtain ⟨ρ, S, ι, hE, hS, h⟩ := h
  unfold evE at h
  exact ⟨ρ, S, ι, hE, hS, (PostF.bind h).mono fun iv S1 J ι1 H1 e1 s1 ⟨hl, r⟩ h1 D hD => lc_run hD s1 (hE.ext e1) r hown hl h1⟩
theorem pms_setLc {i : Nat} {y : Str} {py : Pos} {elt tg iter : Expr} {ifs : List Expr} {scope : Scope} {own : List (Str × Nat)} {pos spos : Pos} {ct : Tg} {ci : It} {ce c : Ex} {cifs : List Ex} (hc : X.calm = true) (hN : X.N.Nodup) (hy : X.N[i]? = some y) (hyl : X.env.scope.names.lookup y = some .local)
    (hsw : swapsWith (.ListComp elt [⟨tg, iter, ifs, 0⟩] scope pos) (some (.Name y py)) spos.line X.env = pure true) (hi : PI X tg iter (tIt C ci)) (ok : BlkOk X.N X.env.scope scope own) (hown : ∀ i ∈ ct.slots, i ∈ own.map (·.2))
    (hg : ∀ (D : Addr) (s : Shared) (H : Hp) (A : Addr) (cl : List (Str × Addr)) (fp : List Addr), PG (X.blk s H scope (compEnvC scope cl A X.env) fp) tg (gT (C.blk D) ct))
    (ht : ∀ (D : Addr) (s : Shared) (H : Hp) (A : Addr) (cl : List (Str × Addr)) (fp : List Addr), PTs (X.blk s H scope (compEnvC scope cl A X.env) fp) ifs (tTs (C.blk D) cifs))
    (he : ∀ (D : Addr) (s : Shared) (H : Hp) (A : Addr) (cl : List (Str × Addr)) (fp : List Addr), PE (X.blk s H scope (compEnvC scope cl A X.env) fp) elt (tEv (C.blk D) ce)) (hs : isSet iter = false)
    (hF : ∀ σ H Q, tEv C c σ H Q → tEvF C (.lc ce ct ci cifs (own.map (·.2))) σ H Q) :
    PS X (.Assign [.Name y py] (.ListComp elt [⟨tg, iter, ifs, 0⟩] scope pos) spos) (tSt C (.asg (.nm i) c)) := by
  refine psImp (ps_setLc hc hN hy hyl hsw hi ok (g := fun v σ H Q => ∃ D, gT (C.blk D) ct v σ H Q) (tt := fun σ H Q => ∃ D, tTs (C.blk D) cifs σ H Q) (te := fun σ H Q => ∃ D, tEv (C.blk D) ce σ H Q)
    (fun s H A cl fp => ⟨fun pins s' σ H v u Q I r ⟨D, q⟩ => (hg D s _ A cl fp).run pins s' σ H v u Q I r q⟩) (fun s H A cl fp => ⟨fun pins s' σ H Q I ⟨D, q⟩ => (ht D s _ A cl fp).run pins s' σ H Q I q⟩) (fun s H A cl fp => ⟨fun pins s' σ H Q I ⟨D, q⟩ => (he D s _ A cl fp).run pins s' σ H Q I q⟩) (fun x => folded_plain hs x)) fun D σ H ⟨ρ, S, ι, hE, hS, h⟩ => ?_
  unfold exS at h
  refine lcF_imp hown (hF σ H (fun x H1 => gName i x σ H1 D.nx) (tEvO hE hS h fun v S2 x ι2 H2 e2 s2 r h2 => ?_))
  have h2' : PostO C ι2 H2 (match (if i < ρ.length then some (ρ.set i (some v)) else none) with
    | some ρ => .next ρ S2
    | none => .stuck) D := h2
  by_cases hl : i < ρ.length
  · rw [if_pos hl] at h2'
    exact h2' _ H2 ι2 (Ext.refl _ _) s2 ((hE.ext e2).set r)
  · rw [if_neg hl] at h2'
    exact (show False from h2').elim
end
def namesOf (sc : Scope) (ts : List Expr) : List Str := ts.filterMap fun
  | .Name id pos => if sc.names.lookup id == some .local && pos.line == (ts.head?.map (·.pos.line)).getD 0 then some id else none
  | _ => none
/-- what swappedStores says of a tuple and a tuple -/
def swT (sc : Scope) (ts vs : List Expr) : Option (Option (List Str)) :=
  if !(ts.length == 2 || ts.length == 3) || vs.length != ts.length then some none
  else if vs.any isStar then some none
  else if (namesOf sc ts).length != ts.length || (namesOf sc ts).eraseDups.length != (namesOf sc ts).length then some none
  else if vs.all (foldedForSure 8) then some none
  else if vs.all (constantsAlone 8) then none
  else some (some (namesOf sc ts))
def swS (sc : Scope) (tg e : Expr) : Option (Option (List Str)) := match tg, e with
  | .Tuple ts _ _, .Tuple vs _ _ => swT sc ts vs
  | .List .., .Tuple .. => none
  | _, _ => some none
theorem swT_ok {env : PySem.Env} {ts vs : List Expr} {k1 k2 : Nat} {p1 p2 : Pos} {r : Option (List Str)} (hk : env.scope.kind = .function) (h : swT env.scope ts vs = some r) : swappedStores [.Tuple ts k1 p1] (.Tuple vs k2 p2) env = pure r := by
  have hb : env.blockKind = .function := by unfold Env.blockKind; rw [hk]; rfl
  have hn : (ts.filterMap fun
    | .Name id pos => if env.kindOf id == some .local && pos.line == (ts.head?.map (·.pos.line)).getD 0 then some id else none
    | _ => none) = namesOf env.scope ts := rfl
  unfold swT at h
  unfold swappedStores
  simp only [hb, bne_self_eq_false, Bool.or_false]
  show (if (!(ts.length == 2 || ts.length == 3) || vs.length != ts.length) = true then pure none else if vs.any isStar = true then pure none
    else if ((namesOf env.scope ts).length != ts.length || (namesOf env.scope ts).eraseDups.length != (namesOf env.scope ts).length) = true then pure none
    else if vs.all (foldedForSure 8) = true then pure none
    else if vs.all (constantsAlone 8) = true then (unsupported "assign.tuple-of-constant-expressions:order-of-the-stores" : Sem PUnit) >>= fun _ => pure (some (namesOf env.scope ts))
    else (pure PUnit.unit : Sem PUnit) >>= fun _ => pure (some (namesOf env.scope ts))) = (pure r : Sem (Option (List Str)))
  by_cases h1 : (!(ts.length == 2 || ts.length == 3) || vs.length != ts.length) = true
  · rw [if_pos h1] at h ⊢
    cases h
    rfl
  · rw [if_neg h1] at h ⊢
    by_cases h2 : vs.any isStar = true
    · rw [if_pos h2] at h ⊢
      cases h
      rfl
    · rw [if_neg h2] at h ⊢
      by_cases h3 : ((namesOf env.scope ts).length != ts.length || (namesOf env.scope ts).eraseDups.length != (namesOf env.scope ts).length) = true
      · rw [if_pos h3] at h ⊢
        cases h
        rfl
      · rw [if_neg h3] at h ⊢
        by_cases h4 : vs.all (foldedForSure 8) = true
        · rw [if_pos h4] at h ⊢
          cases h
          rfl
        · rw [if_neg h4] at h ⊢
          by_cases h5 : vs.all (constantsAlone 8) = true
          · rw [if_pos h5] at h
            cases h
          · rw [if_neg h5] at h ⊢
            cases h
            rfl
theorem swS_ok {env : PySem.Env} {tg e : Expr} {r : Option (List Str)} (hk : env.scope.kind = .function) (h : swS env.scope tg e = some r) : swappedStores [tg] e env = pure r := by
  cases tg with
  | Tuple ts k1 p1 =>
    cases e with
    | Tuple vs k2 p2 => exact swT_ok hk h
    | _ => cases h; rfl
  | List ts p1 =>
    cases e <;> first | (cases h; rfl) | cases h
  | _ => cases h; rfl
/-- whether name = [..] swaps -/
def swL (sc : Scope) (y : Str) (py : Pos) (e : Expr) : Bool := match e with
  | .ListComp _ _ scope pos => sc.names.lookup y == some .local && py.line == pos.line && !(scope.names.any fun (n, k) => n == y && (k == .local || k == .cell))
  | .SetComp _ _ scope pos => sc.names.lookup y == some .local && py.line == pos.line && !(scope.names.any fun (n, k) => n == y && (k == .local || k == .cell))
  | .DictComp _ _ _ scope pos => sc.names.lookup y == some .local && py.line == pos.line && !(scope.names.any fun (n, k) => n == y && (k == .local || k == .cell))
  | _ => false
theorem swL_ok {env : PySem.Env} {y : Str} {py : Pos} {e : Expr} {l : Nat} (hk : env.scope.kind = .function) : swapsWith e (some (.Name y py)) l env = pure (swL env.scope y py e) := by
  have hb : env.blockKind = .function := by unfold Env.blockKind; rw [hk]; rfl
  cases e <;> first
    | rfl
    | (unfold swapsWith
       simp only [hb]
       rfl)
end Bt
end
section
set_option maxHeartbeats 4000000
namespace Bt
open PySem L2
open PyProof.Rows hiding St
section
variable {X : Cx} {C : Cc} {σ : St}
theorem comp2_noexc {g : List (Nat × Cell)} {tg : Tg} {ρ : Env} {inner : Env → Store → Res (List PV)} : ∀ {xs : List PV} {S : Store} {x : PV} {S' : Store}, comp2Loop g tg ρ inner xs S ≠ .exc x S'
  | [], S, x, S' => by unfold comp2Loop; split <;> simp
  | y :: ys, S, x, S' => by
    unfold comp2Loop
    split
    · split
      · simp
      · split
        · rename_i vs S2 _
          cases e : comp2Loop g tg ρ inner ys S2 with
          | ok a b => simp [Res.map, Res.bind]
          | exc a b => exact absurd e comp2_noexc
          | stuck => simp [Res.map, Res.bind]
        · simp
    · simp
theorem comp2_step {g : List (Nat × Cell)} {tg : Tg} {ρ : Env} {inner : Env → Store → Res (List PV)} {x : PV} {xs : List PV} {S Sf : Store} {vs : List PV} (h : comp2Loop g tg ρ inner (x :: xs) S = .ok vs Sf) :
    guardOk S g = true ∧ ∃ ρ', assign tg x ρ = some ρ' ∧ ∃ ws1 S1 ws2, inner ρ' S = .ok ws1 S1 ∧ comp2Loop g tg ρ inner xs S1 = .ok ws2 Sf ∧ vs = ws1 ++ ws2 := by
  unfold comp2Loop at h
  split at h
  · rename_i hg
    refine ⟨hg, ?_⟩
    split at h
    · cases h
    · rename_i ρ' ha
      refine ⟨ρ', ha, ?_⟩
      split at h
      · rename_i ws1 S1 hi
        obtain ⟨ws, e1, e2⟩ := Res.map_ok h
        exact ⟨ws1, S1, ws, hi, e1, e2.symm⟩
      · cases h
  · cases h
theorem comp2_nil {g : List (Nat × Cell)} {tg : Tg} {ρ : Env} {inner : Env → Store → Res (List PV)} {S Sf : Store} {vs : List PV} (h : comp2Loop g tg ρ inner [] S = .ok vs Sf) : guardOk S g = true ∧ vs = [] ∧ Sf = S := by
  unfold comp2Loop at h
  split at h
  · rename_i hg; cases h; exact ⟨hg, rfl, rfl⟩
  · cases h
/-- the inner clause -/
abbrev inner2 (C : Cc) (it2 : It) (tg2 : Tg) (own2 : List Nat) (elt : Ex) : Env → Store → Res (List PV) := fun ρ1 S1 => (evI C.φ C.G it2 ρ1 S1).bind fun jv S2 => if jv.lock.isEmpty then compLoop jv.guard tg2 (wipeP ρ1 own2) (fun _ S => .ok true S) (evE C.φ C.G elt) jv.items S2 else .stuck
def Lc2Inv (C : Cc) (D : Addr) (ι1 : List Addr) (H1 : Hp) (g : List (Nat × Cell)) (tg : Tg) (ρ : Env) (inner : Env → Store → Res (List PV)) (items vs : List PV) (Sf : Store) (i m : Nat) (H : Hp) : Prop :=
  ∃ ι S acc pacc ws, i ≤ items.length ∧ m = items.length - i ∧ H D = some (.lst acc) ∧ RepL (C.K.ban D) ι H acc pacc ∧ StOk (C.K.ban D) ι H S ∧ Ext ι1 H1 ι H ∧
    comp2Loop g tg ρ inner (items.drop i) S = .ok ws Sf ∧ vs = pacc ++ ws
def Lc2In (C : Cc) (D : Addr) (ι1 : List Addr) (H1 : Hp) (ι4 : List Addr) (H4 : Hp) (g : List (Nat × Cell)) (tg : Tg) (ρ : Env) (elt : Ex) (items vs ws2 : List PV) (S1 : Store) (j k : Nat) (H : Hp) : Prop :=
  ∃ ι S acc pacc ws, j ≤ items.length ∧ k = items.length - j ∧ H D = some (.lst acc) ∧ RepL (C.K.ban D) ι H acc pacc ∧ StOk (C.K.ban D) ι H S ∧ Ext ι1 H1 ι H ∧ Tr (C.K.ban D) ι4 H4 (C.K.ban D) ι H ∧
    compLoop g tg ρ (fun _ S => .ok true S) (evE C.φ C.G elt) (items.drop j) S = .ok ws S1 ∧ vs = pacc ++ (ws ++ ws2)
theorem Tr.updB' {K : Kb} {ι0 : List Addr} {H0 : Hp} {D : Addr} {ι : List Addr} {H : Hp} {o : HO} (t : Tr (K.ban D) ι0 H0 (K.ban D) ι H) (hn : ∀ b u, H D ≠ some (.frz b u)) : Tr (K.ban D) ι0 H0 (K.ban D) ι (upd H D o) := ⟨t.eqK, fun u p r => (t.rep u p r).updB, fun a b u e => by
  have hne : a ≠ D := fun z => hn b u (by rw [← z]; exact t.frz a b u e)
  rw [upd_ne hne]; exact t.frz a b u e⟩
theorem Tr.ext' {K : Kb} {ι0 ι ι' : List Addr} {H0 H H' : Hp} (t : Tr K ι0 H0 K ι H) (e : Ext ι H ι' H') : Tr K ι0 H0 K ι' H' := t.trans (Tr.ofExt e)
theorem lc2_run {D : Addr} {ι1 : List Addr} {H1 : Hp} {S1 : Store} {iv : Items} {J : L2.It} {tg tg2 : Tg} {ρ : Env} {it2 : It} {elt : Ex} {own own2 : List Nat} {Q : VK} (hD : H1 D = none) (hS : StOk C.K ι1 H1 S1) (hE : EnvOk C.K ι1 H1 σ ρ) (ok : ItOk C.K ι1 H1 J iv) (hown : ∀ i ∈ tg.slots, i ∈ own) (hown2 : ∀ i ∈ tg2.slots, i ∈ own2) (hlock : iv.lock = [])
    (h : PostF C σ ι1 H1 ((comp2Loop iv.guard tg (wipeP ρ own) (inner2 C it2 tg2 own2 elt) iv.items S1).bind fun vs S => if vs.length ≤ sizeLine then .ok (.list vs) (unlock S iv.lock) else .stuck) Q) :
    ∃ W : Nat → Nat → Hp → Prop, (∃ m, W 0 m (upd H1 D (.lst []))) ∧ ∀ i m H, W i m H → (J.stop i H ∧ Q (.ref D) H) ∨ (J.go i H ∧ ∃ Nx : Hp → Prop, (∀ H', Nx H' → ∃ m', m' < m ∧ W (i + 1) m' H') ∧ ∀ x H', J.yld i H x H' →
      (∃ D1, gT (C.blk D1) tg x (L2.wipe σ own) H' fun σ2 H2 => L2.wipe σ2 own = L2.wipe σ own ∧ ∃ D2, tTs (C.blk D2) [] σ2 H2 fun b H3 =>
        if b = true then ∃ D3, tIt (C.blk D3) it2 σ2 H3 fun J1 H4 => ∃ W1 : Nat → Nat → Hp → Prop, (∃ m, W1 0 m H4) ∧ ∀ j k H, W1 j k H →
          (J1.stop j H ∧ Nx H) ∨ (J1.go j H ∧ ∃ Nx1 : Hp → Prop, (∀ H', Nx1 H' → ∃ k', k' < k ∧ W1 (j + 1) k' H') ∧ ∀ x H', J1.yld j H x H' → ∃ D4, gT (C.blk D4) tg2 x (L2.wipe σ2 own2) H' fun σ3 H5 => L2.wipe σ3 own2 = L2.wipe σ2 own2 ∧ ∃ D5, tTs (C.blk D5) [] σ3 H5 fun b H6 =>
            if b = true then ∃ D6, tEv (C.blk D6) elt σ3 H6 fun y H7 => ∃ acc, H7 D = some (.lst acc) ∧ acc.length < sizeLine ∧ Nx1 (upd H7 D (.lst (acc ++ [y]))) else Nx1 H6)
        else Nx H3)) := by
  cases e0 : comp2Loop iv.guard tg (wipeP ρ own) (inner2 C it2 tg2 own2 elt) iv.items S1 with
  | stuck => rw [e0] at h; exact (show False from h).elim
  | exc a b => exact absurd e0 comp2_noexc
  | ok vs Sf =>
    rw [e0, hlock] at h
    have h : PostF C σ ι1 H1 (if vs.length ≤ sizeLine then .ok (.list vs) Sf else .stuck) Q := h
    by_cases hn : vs.length ≤ sizeLine
    · rw [if_pos hn] at h
      have h : FreshL C ι1 H1 Sf vs Q := h
      refine ⟨Lc2Inv C D ι1 H1 iv.guard tg (wipeP ρ own) (inner2 C it2 tg2 own2 elt) iv.items vs Sf, ⟨iv.items.length, ι1, S1, [], [], vs, Nat.zero_le _, rfl, upd_same, .nil, hS.banNew hD, (Ext.refl _ _).updF hD, by simpa using e0, rfl⟩, ?_⟩
      rintro i m H ⟨ι, S, acc, pacc, ws, hi, rfl, hHD, ra, st, ext, el, ev⟩
      have tr : Tr C.K ι1 H1 (C.K.ban D) ι H := Tr.banExt hD ext
      by_cases hlt : i < iv.items.length
      · rw [List.drop_eq_getElem_cons hlt] at el
        obtain ⟨g, ρ', as, ws1, S2, ws2, el1, el2, rfl⟩ := comp2_step el
        obtain ⟨k1, k2, k3⟩ := ok _ _ _ _ tr st g
        refine .inr ⟨k1 i hlt, Lc2Inv C D ι1 H1 iv.guard tg (wipeP ρ own) (inner2 C it2 tg2 own2 elt) iv.items vs Sf (i + 1) (iv.items.length - (i + 1)), fun H' hh => ⟨_, by omega, hh⟩, fun x H' y => ?_⟩
        obtain ⟨p, ep, e1, st1, rp⟩ := k3 i x H' hlt y
        have ep' : p = iv.items[i] := by
          rw [List.getElem?_eq_getElem hlt] at ep
          cases ep
          rfl
        subst ep'
        have hE1 : EnvOk (C.K.ban D) ι H' (L2.wipe σ own) (wipeP ρ own) := ((tr.env hE).ext e1).wipe own
        refine ⟨D, _, ι, S, _, ρ', hE1, st1, rp, assign_res S as, fun σ2 hE2 same => ⟨?_, D, ρ', S, ι, hE2, st1, ?_⟩⟩
        · rw [same.wipe hown, wipe_wipe]
        · have et : evTs C.φ C.G [] ρ' S = .ok true S := by unfold evTs; rfl
          show PostG (fun _ _ (b : Bool) a => b = a) (C.blk D) σ2 ι H' (evTs C.φ C.G [] ρ' S) _
          rw [et]
          intro b H3 ι3 e3 st3 hb
          subst hb
          refine iteT ⟨D, ρ', S, ι3, hE2.ext e3, st3, ?_⟩
          show PostG (fun ι' H' (J : L2.It) iv => iv.lock = [] ∧ ItOk (C.K.ban D) ι' H' J iv) (C.blk D) σ2 ι3 H3 (evI C.φ C.G it2 ρ' S) _
          have el1 : ((evI C.φ C.G it2 ρ' S).bind fun jv S2 => if jv.lock.isEmpty then compLoop jv.guard tg2 (wipeP ρ' own2) (fun _ S => .ok true S) (evE C.φ C.G elt) jv.items S2 else .stuck) = .ok ws1 S2 := el1
          cases ei : evI C.φ C.G it2 ρ' S with
          | stuck => rw [ei] at el1; cases el1
          | exc a b => rw [ei] at el1; cases el1
          | ok jv S3 =>
            rw [ei] at el1
            have el1 : (if jv.lock.isEmpty then compLoop jv.guard tg2 (wipeP ρ' own2) (fun _ S => .ok true S) (evE C.φ C.G elt) jv.items S3 else .stuck) = .ok ws1 S2 := el1
            intro J1 H4 ι4 e4 st4 ⟨hjl, ok1⟩
            rw [hjl] at el1
            rw [if_pos (by rfl)] at el1
            have e34 : Ext ι H ι4 H4 := (e1.trans e3).trans e4
            have hDι : D ∉ ι := (st.ban D List.mem_cons_self).2
            have hE4 : EnvOk (C.K.ban D) ι4 H4 σ2 ρ' := (hE2.ext e3).ext e4
            refine ⟨Lc2In C D ι1 H1 ι4 H4 jv.guard tg2 (wipeP ρ' own2) elt jv.items vs ws2 S2, ⟨jv.items.length, ι4, S3, acc, pacc, ws1, Nat.zero_le _, rfl, e34.keep D _ hHD hDι, ra.ext e34, st4, ext.trans e34, Tr.ofExt (Ext.refl _ _), by simpa using el1, ev⟩, ?_⟩
            rintro j k H5 ⟨ι5, S5, acc5, pacc5, ws5, hj, rfl, hHD5, ra5, st5, ext5, tr5, el5, ev5⟩
            by_cases hlj : j < jv.items.length
            · rw [List.drop_eq_getElem_cons hlj] at el5
              obtain ⟨g5, ρ5, as5, el5⟩ := compLoop_step el5
              obtain ⟨q1, q2, q3⟩ := ok1 _ _ _ _ tr5 st5 g5
              refine .inr ⟨q1 j hlj, Lc2In C D ι1 H1 ι4 H4 jv.guard tg2 (wipeP ρ' own2) elt jv.items vs ws2 S2 (j + 1) (jv.items.length - (j + 1)), fun H' hh => ⟨_, by omega, hh⟩, fun x6 H6 y6 => ?_⟩
              obtain ⟨p6, ep6, e6, st6, rp6⟩ := q3 j x6 H6 hlj y6
              have ep6' : p6 = jv.items[j] := by
                rw [List.getElem?_eq_getElem hlj] at ep6
                cases ep6
                rfl
              subst ep6'
              have hE6 : EnvOk (C.K.ban D) ι5 H6 (L2.wipe σ2 own2) (wipeP ρ' own2) := ((tr5.env hE4).ext e6).wipe own2
              refine ⟨D, _, ι5, S5, _, ρ5, hE6, st6, rp6, assign_res S5 as5, fun σ7 hE7 same7 => ⟨?_, D, ρ5, S5, ι5, hE7, st6, ?_⟩⟩
              · rw [same7.wipe hown2, wipe_wipe]
              · have et : evTs C.φ C.G [] ρ5 S5 = .ok true S5 := by unfold evTs; rfl
                show PostG (fun _ _ (b : Bool) a => b = a) (C.blk D) σ7 ι5 H6 (evTs C.φ C.G [] ρ5 S5) _
                rw [et]
                intro b H7 ι7 e7 st7 hb
                subst hb
                rcases el5 with ⟨S6, v, S7, ws', t1, t2, t3, rfl⟩ | ⟨S6, t1, t3⟩
                · cases t1
                  refine iteT ⟨D, ρ5, S5, ι7, hE7.ext e7, st7, ?_⟩
                  show PostG (Rep (C.K.ban D)) (C.blk D) σ7 ι7 H7 (evE C.φ C.G elt ρ5 S5) _
                  rw [t2]
                  intro y H8 ι8 e8 st8 ry
                  have e68 : Ext ι5 H5 ι8 H8 := (e6.trans e7).trans e8
                  have hDι5 : D ∉ ι5 := (st5.ban D List.mem_cons_self).2
                  have hlen : acc5.length < sizeLine := by
                    have := ra5.length
                    rw [ev5] at hn
                    simp only [List.length_append, List.length_cons] at hn
                    omega
                  refine ⟨acc5, e68.keep D _ hHD5 hDι5, hlen, ι8, S7, acc5 ++ [y], pacc5 ++ [v], ws', hlj, rfl, upd_same, ((ra5.ext e68).append (.cons ry .nil)).updB, st8.updB, (ext5.trans e68).updF hD, (tr5.ext' e68).updB' (fun b u z => by rw [e68.keep D _ hHD5 hDι5] at z; cases z), t3, by rw [ev5]; simp⟩
                · cases t1
            · have hjn : j = jv.items.length := by omega
              subst hjn
              rw [List.drop_length] at el5
              obtain ⟨g5, rfl, rfl⟩ := compLoop_nil el5
              obtain ⟨q1, q2, q3⟩ := ok1 _ _ _ _ tr5 st5 g5
              exact .inl ⟨q2, ι5, S2, acc5, pacc5, ws2, hlt, rfl, hHD5, ra5, st5, ext5, el2, by rw [ev5]; simp⟩
      · have hin : i = iv.items.length := by omega
        subst hin
        rw [List.drop_length] at el
        obtain ⟨g, rfl, rfl⟩ := comp2_nil el
        obtain ⟨k1, k2, k3⟩ := ok _ _ _ _ tr st g
        rw [List.append_nil] at ev
        subst ev
        exact .inl ⟨k2, h ι H acc D ext st ra (Fr.of hD) (fun m => (hS.ban D m).1 hD) hHD⟩
    · rw [if_neg hn] at h
      exact (show False from h).elim
end
end Bt
end
section
set_option maxHeartbeats 4000000
namespace Bt
open PySem L2
open PyProof.Rows hiding St
section
variable {X : Cx} {C : Cc} {σ : St}
theorem lc2F_imp {ct ct2 : Tg} {ci ci2 : It} {ce : Ex} {own own2 : List Nat} {H : Hp} {Q : VK} (hown : ∀ i ∈ ct.slots, i ∈ own) (hown2 : ∀ i ∈ ct2.slots, i ∈ own2) (h : tEvF C (.lc2 ce ct ci ct2 ci2 own own2) σ H Q) :
    tLc2 (tIt C ci) (fun v σ H Q => ∃ D, gT (C.blk D) ct v σ H Q) (fun σ H Q => ∃ D, tTs (C.blk D) [] σ H Q) (fun σ H R => ∃ D, tIt (C.blk D) ci2 σ H R) (fun v σ H Q => ∃ D, gT (C.blk D) ct2 v σ H Q) (fun σ H Q => ∃ D, tTs (C.blk D) [] σ H Q) (fun σ H Q => ∃ D, tEv (C.blk D) ce σ H Q) own own2 σ H Q := by
  obtain ⟨ρ, S, ι, hE, hS, h⟩ := h
  unfold evE at h
  exact ⟨ρ, S, ι, hE, hS, (PostF.bind h).mono fun iv S1 J ι1 H1 e1 s1 ⟨hl, r⟩ h1 D hD => lc2_run hD s1 (hE.ext e1) r hown hown2 hl h1⟩
section
variable {elt tg iter tg2 iter2 : Expr} {scope : Scope} {own : List (Str × Nat)} {own2 : List Nat} {pos : Pos} {ct ct2 : Tg} {ci ci2 : It} {ce : Ex} (hc : X.calm = true) (hN : X.N.Nodup) (hi : PI X tg iter (tIt C ci)) (ok : BlkOk X.N X.env.scope scope own) (hv : ∀ i ∈ own2, i ∈ own.map (·.2)) (hown : ∀ i ∈ ct.slots, i ∈ own.map (·.2)) (hown2 : ∀ i ∈ ct2.slots, i ∈ own2)
    (hg : ∀ (D : Addr) (s : Shared) (H : Hp) (A : Addr) (cl : List (Str × Addr)) (fp : List Addr), PG (X.blk s H scope (compEnvC scope cl A X.env) fp) tg (gT (C.blk D) ct))
    (hi2 : ∀ (D : Addr) (s : Shared) (H : Hp) (A : Addr) (cl : List (Str × Addr)) (fp : List Addr), PI (X.blk s H scope (compEnvC scope cl A X.env) fp) tg2 iter2 (tIt (C.blk D) ci2))
    (hg2 : ∀ (D : Addr) (s : Shared) (H : Hp) (A : Addr) (cl : List (Str × Addr)) (fp : List Addr), PG (X.blk s H scope (compEnvC scope cl A X.env) fp) tg2 (gT (C.blk D) ct2))
    (he : ∀ (D : Addr) (s : Shared) (H : Hp) (A : Addr) (cl : List (Str × Addr)) (fp : List Addr), PE (X.blk s H scope (compEnvC scope cl A X.env) fp) elt (tEv (C.blk D) ce)) (hs : isSet iter = false) (hs2 : isSet iter2 = false)
include hc hN hi ok hv hown hown2 hg hi2 hg2 he hs hs2
theorem pm_lc2F : PE X (.ListComp elt [⟨tg, iter, [], 0⟩, ⟨tg2, iter2, [], 0⟩] scope pos) (tEvF C (.lc2 ce ct ci ct2 ci2 (own.map (·.2)) own2)) :=
  peImp (pe_lc2 hc hN hi ok hv (g := fun v σ H Q => ∃ D, gT (C.blk D) ct v σ H Q) (tt := fun σ H Q => ∃ D, tTs (C.blk D) [] σ H Q) (wi1 := fun σ H R => ∃ D, tIt (C.blk D) ci2 σ H R) (g1 := fun v σ H Q => ∃ D, gT (C.blk D) ct2 v σ H Q) (tt1 := fun σ H Q => ∃ D, tTs (C.blk D) [] σ H Q) (te := fun σ H Q => ∃ D, tEv (C.blk D) ce σ H Q)
    (fun s H A cl fp => ⟨fun pins s' σ H v u Q I r ⟨D, q⟩ => (hg D s _ A cl fp).run pins s' σ H v u Q I r q⟩) (fun s H A cl fp => ⟨fun pins s' σ H Q I ⟨D, q⟩ => (pmts_nil (C := C.blk D)).run pins s' σ H Q I q⟩)
    (fun s H A cl fp => ⟨fun pins s' σ H R I ⟨D, q⟩ => (hi2 D s _ A cl fp).run pins s' σ H R I q⟩)
    (fun s H A cl fp => ⟨fun pins s' σ H v u Q I r ⟨D, q⟩ => (hg2 D s _ A cl fp).run pins s' σ H v u Q I r q⟩) (fun s H A cl fp => ⟨fun pins s' σ H Q I ⟨D, q⟩ => (pmts_nil (C := C.blk D)).run pins s' σ H Q I q⟩)
    (fun s H A cl fp => ⟨fun pins s' σ H Q I ⟨D, q⟩ => (he D s _ A cl fp).run pins s' σ H Q I q⟩) (fun x => folded_plain hs x) (fun env x => folded_plain hs2 x)) fun σ H Q h => lc2F_imp hown hown2 h
theorem pms_setLc2 {i : Nat} {y : Str} {py spos : Pos} {c : Ex} (hy : X.N[i]? = some y) (hyl : X.env.scope.names.lookup y = some .local)
    (hsw : swapsWith (.ListComp elt [⟨tg, iter, [], 0⟩, ⟨tg2, iter2, [], 0⟩] scope pos) (some (.Name y py)) spos.line X.env = pure true) (hF : ∀ σ H Q, tEv C c σ H Q → tEvF C (.lc2 ce ct ci ct2 ci2 (own.map (·.2)) own2) σ H Q) :
    PS X (.Assign [.Name y py] (.ListComp elt [⟨tg, iter, [], 0⟩, ⟨tg2, iter2, [], 0⟩] scope pos) spos) (tSt C (.asg (.nm i) c)) := by
  refine psImp (ps_setLc2 hc hN hy hyl hsw hi ok hv (g := fun v σ H Q => ∃ D, gT (C.blk D) ct v σ H Q) (tt := fun σ H Q => ∃ D, tTs (C.blk D) [] σ H Q) (wi1 := fun σ H R => ∃ D, tIt (C.blk D) ci2 σ H R) (g1 := fun v σ H Q => ∃ D, gT (C.blk D) ct2 v σ H Q) (tt1 := fun σ H Q => ∃ D, tTs (C.blk D) [] σ H Q) (te := fun σ H Q => ∃ D, tEv (C.blk D) ce σ H Q)
    (fun s H A cl fp => ⟨fun pins s' σ H v u Q I r ⟨D, q⟩ => (hg D s _ A cl fp).run pins s' σ H v u Q I r q⟩) (fun s H A cl fp => ⟨fun pins s' σ H Q I ⟨D, q⟩ => (pmts_nil (C := C.blk D)).run pins s' σ H Q I q⟩)
    (fun s H A cl fp => ⟨fun pins s' σ H R I ⟨D, q⟩ => (hi2 D s _ A cl fp).run pins s' σ H R I q⟩)
    (fun s H A cl fp => ⟨fun pins s' σ H v u Q I r ⟨D, q⟩ => (hg2 D s _ A cl fp).run pins s' σ H v u Q I r q⟩) (fun s H A cl fp => ⟨fun pins s' σ H Q I ⟨D, q⟩ => (pmts_nil (C := C.blk D)).run pins s' σ H Q I q⟩)
    (fun s H A cl fp => ⟨fun pins s' σ H Q I ⟨D, q⟩ => (he D s _ A cl fp).run pins s' σ H Q I q⟩) (fun x => folded_plain hs x) (fun env x => folded_plain hs2 x)) fun D σ H ⟨ρ, S, ι, hE, hS, h⟩ => ?_
  unfold exS at h
  refine lc2F_imp hown hown2 (hF σ H (fun x H1 => gName i x σ H1 D.nx) (tEvO hE hS h fun v S2 x ι2 H2 e2 s2 r h2 => ?_))
  have h2' : PostO C ι2 H2 (match (if i < ρ.length then some (ρ.set i (some v)) else none) with
    | some ρ => .next ρ S2
    | none => .stuck) D := h2
  by_cases hl : i < ρ.length
  · rw [if_pos hl] at h2'
    exact h2' _ H2 ι2 (Ext.refl _ _) s2 ((hE.ext e2).set r)
  · rw [if_neg hl] at h2'
    exact (show False from h2').elim
end
theorem dcF_imp {ct : Tg} {ci : It} {ck cv : Ex} {own : List Nat} {H : Hp} {Q : VK} (hown : ∀ i ∈ ct.slots, i ∈ own) (h : tEvF C (.dc ck cv ct ci own) σ H Q) :
    tDc (tIt C ci) (fun v σ H Q => ∃ D, gT (C.blk D) ct v σ H Q) (fun σ H Q => ∃ D, tTs (C.blk D) [] σ H Q) (fun σ H Q => ∃ D, tEv (C.blk D) ck σ H Q) (fun σ H Q => ∃ D, tEv (C.blk D) cv σ H Q) own σ H Q := by
  obtain ⟨ρ, S, ι, hE, hS, h⟩ := h
  unfold evE at h
  exact ⟨ρ, S, ι, hE, hS, (PostF.bind h).mono fun iv S1 J ι1 H1 e1 s1 ⟨hl, r⟩ h1 D hD => dc_run hD s1 (hE.ext e1) r hown hl h1⟩
theorem ps_setDc {i : Nat} {y : Str} {py : Pos} {kx vx tg iter : Expr} {ifs : List Expr} {scope : Scope} {own : List (Str × Nat)} {pos spos : Pos} {wi : TI} {g : TG} {tt : TT} {tk tv : TE} (hc : X.calm = true) (hN : X.N.Nodup) (hy : X.N[i]? = some y) (hyl : X.env.scope.names.lookup y = some .local)
    (hsw : swapsWith (.DictComp kx vx [⟨tg, iter, ifs, 0⟩] scope pos) (some (.Name y py)) spos.line X.env = pure true) (hi : PI X tg iter wi) (ok : BlkOk X.N X.env.scope scope own)
    (hg : ∀ (s : Shared) (H : Hp) (A : Addr) (cl : List (Str × Addr)) (fp : List Addr), PG (X.blk s H scope (compEnvC scope cl A X.env) fp) tg g) (ht : ∀ (s : Shared) (H : Hp) (A : Addr) (cl : List (Str × Addr)) (fp : List Addr), PTs (X.blk s H scope (compEnvC scope cl A X.env) fp) ifs tt)
    (hk : ∀ (s : Shared) (H : Hp) (A : Addr) (cl : List (Str × Addr)) (fp : List Addr), PE (X.blk s H scope (compEnvC scope cl A X.env) fp) kx tk) (he : ∀ (s : Shared) (H : Hp) (A : Addr) (cl : List (Str × Addr)) (fp : List Addr), PE (X.blk s H scope (compEnvC scope cl A X.env) fp) vx tv)
    (hs : ∀ x, foldedSetIterable iter X.env x = pure x) :
    PS X (.Assign [.Name y py] (.DictComp kx vx [⟨tg, iter, ifs, 0⟩] scope pos) spos) (tAsg (tDc wi g tt tk tv (own.map (·.2))) (gName i)) := by
  refine ⟨fun pins s σ H D I h => ?_⟩
  rw [exec_Assign_Name_used _ _ _ _ hsw]
  refine wpAny_bind (wpAny_standAt (wpAny_bind ?_))
  show wpAny _ X.A (do let _ ← comprehension (.DictComp kx vx [⟨tg, iter, ifs, 0⟩] scope pos) scope X.env (firstIterPos [⟨tg, iter, ifs, 0⟩] pos) newDict false (eval iter X.env) (some (PySem.assign (.Name y py) X.env))) _ _ s
  have h0 : tDc wi g tt tk tv (own.map (·.2)) σ H (fun x H1 => gName i x σ H1 D.nx) := h
  refine wpAny_bind (thn (dc_core (Qf := fun _ s' => SP X pins D .next s') hc hN I hi ok hg ht hk he hs h0 fun L B s' m H' I' q hn f => ?_) fun _ s' hq => wpAny_pure (wpAny_pure hq))
  show wpAny _ _ (PySem.assign (.Name y py) X.env (.ref L)) _ _ _
  refine wpAny_assign_Name (store_ok2 (v := V.ref L) I' hN hy (.inl hyl) rfl (fun s2 I2 ⟨a, sb, ha⟩ => ?_) (.inr hyl))
  obtain ⟨f0, f1, f2, f3, f4, f5⟩ := f
  have nBa : B ≠ a := ha.elim (fun z => by rw [z]; exact f1) fun z e => f4 y a z e.symm
  exact ⟨m, hn.sameBut sb nBa, fun h3 sb3 => ⟨_, H', I2.turned (t' := s2.toks) (fun b o hb e => (sb3.2 b hb).trans e) f0 f1 f3 f4 f5, q⟩⟩
theorem pms_setDc {i : Nat} {y : Str} {py : Pos} {kx vx tg iter : Expr} {scope : Scope} {own : List (Str × Nat)} {pos spos : Pos} {ct : Tg} {ci : It} {ck cv c : Ex} (hc : X.calm = true) (hN : X.N.Nodup) (hy : X.N[i]? = some y) (hyl : X.env.scope.names.lookup y = some .local)
    (hsw : swapsWith (.DictComp kx vx [⟨tg, iter, [], 0⟩] scope pos) (some (.Name y py)) spos.line X.env = pure true) (hi : PI X tg iter (tIt C ci)) (ok : BlkOk X.N X.env.scope scope own) (hown : ∀ i ∈ ct.slots, i ∈ own.map (·.2))
    (hg : ∀ (D : Addr) (s : Shared) (H : Hp) (A : Addr) (cl : List (Str × Addr)) (fp : List Addr), PG (X.blk s H scope (compEnvC scope cl A X.env) fp) tg (gT (C.blk D) ct))
    (hk : ∀ (D : Addr) (s : Shared) (H : Hp) (A : Addr) (cl : List (Str × Addr)) (fp : List Addr), PE (X.blk s H scope (compEnvC scope cl A X.env) fp) kx (tEv (C.blk D) ck))
    (he : ∀ (D : Addr) (s : Shared) (H : Hp) (A : Addr) (cl : List (Str × Addr)) (fp : List Addr), PE (X.blk s H scope (compEnvC scope cl A X.env) fp) vx (tEv (C.blk D) cv)) (hs : isSet iter = false)
    (hF : ∀ σ H Q, tEv C c σ H Q → tEvF C (.dc ck cv ct ci (own.map (·.2))) σ H Q) :
    PS X (.Assign [.Name y py] (.DictComp kx vx [⟨tg, iter, [], 0⟩] scope pos) spos) (tSt C (.asg (.nm i) c)) := by
  refine psImp (ps_setDc hc hN hy hyl hsw hi ok (g := fun v σ H Q => ∃ D, gT (C.blk D) ct v σ H Q) (tt := fun σ H Q => ∃ D, tTs (C.blk D) [] σ H Q) (tk := fun σ H Q => ∃ D, tEv (C.blk D) ck σ H Q) (tv := fun σ H Q => ∃ D, tEv (C.blk D) cv σ H Q)
    (fun s H A cl fp => ⟨fun pins s' σ H v u Q I r ⟨D, q⟩ => (hg D s _ A cl fp).run pins s' σ H v u Q I r q⟩) (fun s H A cl fp => ⟨fun pins s' σ H Q I ⟨D, q⟩ => (pmts_nil (C := C.blk D)).run pins s' σ H Q I q⟩)
    (fun s H A cl fp => ⟨fun pins s' σ H Q I ⟨D, q⟩ => (hk D s _ A cl fp).run pins s' σ H Q I q⟩) (fun s H A cl fp => ⟨fun pins s' σ H Q I ⟨D, q⟩ => (he D s _ A cl fp).run pins s' σ H Q I q⟩) (fun x => folded_plain hs x)) fun D σ H ⟨ρ, S, ι, hE, hS, h⟩ => ?_
  unfold exS at h
  refine dcF_imp hown (hF σ H (fun x H1 => gName i x σ H1 D.nx) (tEvO hE hS h fun v S2 x ι2 H2 e2 s2 r h2 => ?_))
  have h2' : PostO C ι2 H2 (match (if i < ρ.length then some (ρ.set i (some v)) else none) with
    | some ρ => .next ρ S2
    | none => .stuck) D := h2
  by_cases hl : i < ρ.length
  · rw [if_pos hl] at h2'
    exact h2' _ H2 ι2 (Ext.refl _ _) s2 ((hE.ext e2).set r)
  · rw [if_neg hl] at h2'
    exact (show False from h2').elim
end
end Bt
end
section
set_option maxHeartbeats 4000000
namespace Bt
open PySem L2
open PyProof.Rows hiding St
section
variable {K : Kb} {ι ι' : List Addr} {H H' : Hp} {S : Store} {k : Nat} {d : Addr} {kvs : List (PV × PV)} {es : List (Key × V)} {od : Obj}
theorem StOk.dic (s : StOk K ι H S) (hk : ι[k]? = some d) (hc : S[k]? = some (.dic false kvs)) : ∃ es, H d = some (.dK es) ∧ RepD K ι H es kvs := s.cell k d _ hk hc
theorem StOk.lock (s : StOk K ι H S) (hk : ι[k]? = some d) (r : RepD K ι H es kvs) : StOk K ι (L2.upd H d (.frz od (.dK es))) (S.set k (.dic true kvs)) :=
  s.set hk ⟨od, es, upd_same, r.extR (ExtR.set (List.mem_of_getElem? hk))⟩
theorem StOk.unlockAt (s : StOk K ι H S) (hk : ι[k]? = some d) (hd : H d = some (.frz od (.dK es))) : StOk K ι (L2.upd H d (.dK es)) (unlock S [k]) := by
  have hlt : k < S.length := by rw [← s.len]; exact (List.getElem?_eq_some_iff.mp hk).1
  have hc := List.getElem?_eq_getElem hlt
  have cr := s.cell k d _ hk hc
  have e0 : unlock S [k] = setLock S k false := rfl
  cases h : S[k] with
  | lst xs => rw [h] at cr; obtain ⟨vs, e, _⟩ := cr; rw [hd] at e; cases e
  | dic lk kvs =>
    cases lk with
    | false => rw [h] at cr; obtain ⟨vs, e, _⟩ := cr; rw [hd] at e; cases e
    | true =>
      rw [h] at cr hc
      obtain ⟨o, es', e, r⟩ := cr
      rw [hd] at e
      cases e
      have e1 : setLock S k false = S.set k (.dic false kvs) := by unfold setLock; rw [hc]
      rw [e0, e1]
      exact s.set hk ⟨es, upd_same, r.extR (ExtR.set (List.mem_of_getElem? hk))⟩
theorem Ext.locked (hd : H d = some (.dK es)) (hm : d ∈ ι) (e : Ext ι (L2.upd H d (.frz od (.dK es))) ι' H') : H' d = some (.frz od (.dK es)) ∧ Ext ι H ι' (L2.upd H' d (.dK es)) := by
  have hd' := e.frz d _ _ upd_same
  refine ⟨hd', ⟨⟨e.pre, fun a o h n => ?_, fun a m => ?_⟩, fun a o u h => ?_⟩⟩
  · have hne : a ≠ d := fun z => n (by rw [z]; exact hm)
    rw [upd_ne hne]
    exact e.keep' a o (by rw [upd_ne hne]; exact h) n
  · rcases e.new a m with q | q
    · exact .inl q
    · have hne : a ≠ d := fun z => by
        obtain ⟨ps, w⟩ := q _ (by rw [z]; exact upd_same)
        cases w
      exact .inr fun o ho => q o (by rw [upd_ne hne]; exact ho)
  · have hne : a ≠ d := fun z => by rw [z, hd] at h; cases h
    rw [upd_ne hne]
    exact e.frz a o u (by rw [upd_ne hne]; exact h)
theorem RepD.getAt : ∀ {es : List (Key × V)} {kvs : List (PV × PV)}, RepD K ι H es kvs → ∀ {i : Nat} {ky : Key} {v : V}, es[i]? = some (ky, v) → (kvs.map (·.1))[i]? = some (keyP ky) ∧ KyOk ky
  | _, _, .nil, _, _, _, h => by simp at h
  | _, _, .cons q _ t, 0, _, _, h => by
    simp at h
    obtain ⟨rfl, rfl⟩ := h
    exact ⟨rfl, q⟩
  | _, _, .cons _ _ t, i + 1, _, _, h => by
    have := RepD.getAt t (i := i) (by simpa using h)
    simpa using this
theorem itok_keys (hd : H d = some (.frz od (.dK es))) (r : RepD K ι H es kvs) : ItOk K ι H (Itk d od es) { items := kvs.map (·.1) } := by
  intro K' ι1 H1 S1 tr st g
  have hd1 := tr.frz _ _ _ hd
  have hl := r.length
  have hl' : (kvs.map (·.1)).length = es.length := by rw [List.length_map, hl]
  refine ⟨fun i hlt => ⟨hd1, by rw [← hl']; exact hlt⟩, ⟨hd1, by rw [← hl']; exact Nat.le_refl _⟩, fun i x H2 hlt y => ?_⟩
  obtain ⟨rfl, ky, v, e, rfl⟩ := y
  obtain ⟨g1, g2⟩ := r.getAt e
  exact ⟨_, g1, Ext.refl _ _, st, key_rep g2⟩
end
section
variable {X : Cx} {C : Cc} {σ : St} {ι : List Addr} {H : Hp} {S : Store} {ρ : Env}
/-- the keys of a dict that a name holds -/
theorem keys_run {i : Nat} {r : Items → Store → Res PV} {Q : VK} (hE : EnvOk C.K ι H σ ρ) (hS : StOk C.K ι H S) (h : PostF C σ ι H ((evI C.φ C.G (.keys i) ρ S).bind r) Q) :
    ∃ (k : Nat) (d : Addr) (kvs : List (PV × PV)) (es : List (Key × V)), ρ[i]? = some (some (.ref k)) ∧ ι[k]? = some d ∧ H d = some (.dK es) ∧ RepD C.K ι H es kvs ∧ PostF C σ ι H (r { items := kvs.map (·.1), lock := [k] } (S.set k (.dic true kvs))) Q := by
  unfold evI at h
  split at h
  · rename_i k hk
    split at h
    · rename_i kvs hc
      obtain ⟨v, e1, rv⟩ := hE.at_ i _ hk
      cases rv with
      | ref hι =>
        rename_i a
        obtain ⟨es, e2, e3⟩ := hS.dic hι hc
        exact ⟨k, a, kvs, es, hk, hι, e2, e3, h⟩
    · exact (show False from h).elim
  · exact (show False from h).elim
/-- behind the lock: a new list -/
theorem FreshL.locked {k : Nat} {d : Addr} {es : List (Key × V)} {od : Obj} {Sf : Store} {vs : List PV} {Q : VK} (hk : ι[k]? = some d) (hd : H d = some (.dK es)) (h : FreshL C ι H (unlock Sf [k]) vs Q) : FreshL C ι (L2.upd H d (.frz od (.dK es))) Sf vs fun v H' => H' d = some (.frz od (.dK es)) ∧ Q v (L2.upd H' d (.dK es)) := by
  intro ι' H' ws p e st r hp hb hl
  have hm : d ∈ ι := List.mem_of_getElem? hk
  obtain ⟨hd', e'⟩ := Ext.locked hd hm e
  have hk' : ι'[k]? = some d := prefix_get e.pre hk
  have hne : p ≠ d := fun z => by
    obtain ⟨ps, w⟩ := hp _ (by rw [z]; exact upd_same)
    cases w
  have hp : Fr H p := fun o ho => hp o (by rw [upd_ne hne]; exact ho)
  exact ⟨hd', h ι' _ ws p e' (st.unlockAt hk' hd') (r.extR (ExtR.set (List.mem_of_getElem? hk'))) hp hb (by rw [upd_ne hne]; exact hl)⟩
theorem FreshD.locked {k : Nat} {d : Addr} {es : List (Key × V)} {od : Obj} {Sf : Store} {vs : List (PV × PV)} {Q : VK} (hk : ι[k]? = some d) (hd : H d = some (.dK es)) (h : FreshD C ι H (unlock Sf [k]) vs Q) : FreshD C ι (L2.upd H d (.frz od (.dK es))) Sf vs fun v H' => H' d = some (.frz od (.dK es)) ∧ Q v (L2.upd H' d (.dK es)) := by
  intro ι' H' ws p e st r hp hb hl
  have hm : d ∈ ι := List.mem_of_getElem? hk
  obtain ⟨hd', e'⟩ := Ext.locked hd hm e
  have hk' : ι'[k]? = some d := prefix_get e.pre hk
  have hne : p ≠ d := fun z => by
    obtain ⟨ps, w⟩ := hp _ (by rw [z]; exact upd_same)
    cases w
  have hp : Fr H p := fun o ho => hp o (by rw [upd_ne hne]; exact ho)
  exact ⟨hd', h ι' _ ws p e' (st.unlockAt hk' hd') (r.extR (ExtR.set (List.mem_of_getElem? hk'))) hp hb (by rw [upd_ne hne]; exact hl)⟩
/-- the name's value, while the dict is locked -/
theorem keys_it {i k : Nat} {d : Addr} {kvs : List (PV × PV)} {es : List (Key × V)} {od : Obj} {R : L2.It → Hp → Prop} (hE : EnvOk C.K ι H σ ρ) (hS : StOk C.K ι H S) (hi : ρ[i]? = some (some (.ref k))) (hk : ι[k]? = some d) (hd : H d = some (.frz od (.dK es)))
    (h : ∀ ι' H', Ext ι H ι' H' → StOk C.K ι' H' S → R (Itk d od es) H') : iKeys (tEv C (.var i)) σ H R := by
  refine ⟨ρ, S, ι, hE, hS, ?_⟩
  have e0 : evE C.φ C.G (.var i) ρ S = .ok (.ref k) S := by unfold evE; rw [hi]
  show PostG (Rep C.K) C σ ι H (evE C.φ C.G (.var i) ρ S) _
  rw [e0]
  intro x H' ι' e st r
  cases r with
  | ref hι =>
    have := prefix_get e.pre hk
    rw [hι] at this
    cases this
    exact ⟨d, od, rfl, .inl ⟨es, e.frz _ _ _ hd, h ι' H' e st⟩⟩
theorem lcK_imp {ct : Tg} {i : Nat} {ce : Ex} {cifs : List Ex} {own : List Nat} {Q : VK} (hown : ∀ i ∈ ct.slots, i ∈ own) (h : tEvF C (.lc ce ct (.keys i) cifs own) σ H Q) :
    tLockE (tLc (iKeys (tEv C (.var i))) (fun v σ H Q => ∃ D, gT (C.blk D) ct v σ H Q) (fun σ H Q => ∃ D, tTs (C.blk D) cifs σ H Q) (fun σ H Q => ∃ D, tEv (C.blk D) ce σ H Q) own) σ H Q := by
  obtain ⟨ρ, S, ι, hE, hS, h⟩ := h
  unfold evE at h
  obtain ⟨k, d, kvs, es, hi, hk, hd, rd, h1⟩ := keys_run hE hS h
  refine ⟨d, _, hd, trivial, fun od => ?_⟩
  have hm : d ∈ ι := List.mem_of_getElem? hk
  have st1 : StOk C.K ι (L2.upd H d (.frz od (.dK es))) (S.set k (.dic true kvs)) := hS.lock hk rd
  have hE1 : EnvOk C.K ι (L2.upd H d (.frz od (.dK es))) σ ρ := hE.extR (ExtR.set hm)
  refine keys_it (kvs := kvs) hE1 st1 hi hk upd_same fun ι' H' e st D hD => ?_
  have rd' : RepD C.K ι' H' es kvs := (rd.extR (ExtR.set hm)).ext e
  have hd' : H' d = some (.frz od (.dK es)) := e.frz _ _ _ upd_same
  refine lc_run (iv := { items := kvs.map (·.1) }) (ifs := cifs) (elt := ce) (Q := fun v H' => H' d = some (.frz od (.dK es)) ∧ Q v (L2.upd H' d (.dK es))) hD st (hE1.ext e) (itok_keys hd' rd') hown rfl ?_
  have h1 : PostF C σ ι H (if (kvs.map (·.1)).length ≤ sizeLine then (compLoop [] ct (wipeP ρ own) (evTs C.φ C.G cifs) (evE C.φ C.G ce) (kvs.map (·.1)) (S.set k (.dic true kvs))).bind fun vs S => .ok (.list vs) (unlock S [k]) else .stuck) Q := h1
  show PostF C σ ι' H' (if (kvs.map (·.1)).length ≤ sizeLine then (compLoop [] ct (wipeP ρ own) (evTs C.φ C.G cifs) (evE C.φ C.G ce) (kvs.map (·.1)) (S.set k (.dic true kvs))).bind fun vs S => .ok (.list vs) (unlock S []) else .stuck) _
  by_cases hn : (kvs.map (·.1)).length ≤ sizeLine
  · rw [if_pos hn] at h1 ⊢
    cases e0 : compLoop [] ct (wipeP ρ own) (evTs C.φ C.G cifs) (evE C.φ C.G ce) (kvs.map (·.1)) (S.set k (.dic true kvs)) with
    | stuck => rw [e0] at h1; exact (show False from h1).elim
    | exc a b => exact absurd e0 compLoop_noexc
    | ok vs Sf =>
      rw [e0] at h1
      have h1 : FreshL C ι H (unlock Sf [k]) vs Q := h1
      have h2 := FreshL.locked (od := od) hk hd h1
      exact PostF.from e st (show PostF C σ ι _ (.ok (.list vs) Sf) _ from h2)
  · rw [if_neg hn] at h1
    exact (show False from h1).elim
theorem dcK_imp {ct : Tg} {i : Nat} {ck cv : Ex} {own : List Nat} {Q : VK} (hown : ∀ i ∈ ct.slots, i ∈ own) (h : tEvF C (.dc ck cv ct (.keys i) own) σ H Q) :
    tLockE (tDc (iKeys (tEv C (.var i))) (fun v σ H Q => ∃ D, gT (C.blk D) ct v σ H Q) (fun σ H Q => ∃ D, tTs (C.blk D) [] σ H Q) (fun σ H Q => ∃ D, tEv (C.blk D) ck σ H Q) (fun σ H Q => ∃ D, tEv (C.blk D) cv σ H Q) own) σ H Q := by
  obtain ⟨ρ, S, ι, hE, hS, h⟩ := h
  unfold evE at h
  obtain ⟨k, d, kvs, es, hi, hk, hd, rd, h1⟩ := keys_run hE hS h
  refine ⟨d, _, hd, trivial, fun od => ?_⟩
  have hm : d ∈ ι := List.mem_of_getElem? hk
  have st1 : StOk C.K ι (L2.upd H d (.frz od (.dK es))) (S.set k (.dic true kvs)) := hS.lock hk rd
  have hE1 : EnvOk C.K ι (L2.upd H d (.frz od (.dK es))) σ ρ := hE.extR (ExtR.set hm)
  refine keys_it (kvs := kvs) hE1 st1 hi hk upd_same fun ι' H' e st D hD => ?_
  have rd' : RepD C.K ι' H' es kvs := (rd.extR (ExtR.set hm)).ext e
  have hd' : H' d = some (.frz od (.dK es)) := e.frz _ _ _ upd_same
  refine dc_run (iv := { items := kvs.map (·.1) }) (ck := ck) (cv := cv) (Q := fun v H' => H' d = some (.frz od (.dK es)) ∧ Q v (L2.upd H' d (.dK es))) hD st (hE1.ext e) (itok_keys hd' rd') hown rfl ?_
  have h1 : PostF C σ ι H (if ¬ (kvs.map (·.1)).length ≤ sizeLine then .stuck else (dcLoop [] ct (wipeP ρ own) (evE C.φ C.G ck) (evE C.φ C.G cv) (kvs.map (·.1)) [] (S.set k (.dic true kvs))).bind fun ps S => .ok (.dict ps) (unlock S [k])) Q := h1
  show PostF C σ ι' H' (if ¬ (kvs.map (·.1)).length ≤ sizeLine then .stuck else (dcLoop [] ct (wipeP ρ own) (evE C.φ C.G ck) (evE C.φ C.G cv) (kvs.map (·.1)) [] (S.set k (.dic true kvs))).bind fun ps S => .ok (.dict ps) (unlock S [])) _
  by_cases hn : (kvs.map (·.1)).length ≤ sizeLine
  · rw [if_neg (by simpa using hn)] at h1 ⊢
    cases e0 : dcLoop [] ct (wipeP ρ own) (evE C.φ C.G ck) (evE C.φ C.G cv) (kvs.map (·.1)) [] (S.set k (.dic true kvs)) with
    | stuck => rw [e0] at h1; exact (show False from h1).elim
    | exc a b => exact absurd e0 dcLoop_noexc
    | ok vs Sf =>
      rw [e0] at h1
      have h1 : FreshD C ι H (unlock Sf [k]) vs Q := h1
      have h2 := FreshD.locked (od := od) hk hd h1
      exact PostF.from e st (show PostF C σ ι _ (.ok (.dict vs) Sf) _ from h2)
  · rw [if_pos hn] at h1
    exact (show False from h1).elim
end
end Bt
end
section
set_option maxHeartbeats 4000000
namespace Bt
open PySem L2
open PyProof.Rows hiding St
section
variable {X : Cx} {C : Cc} {σ : St} {ι : List Addr} {H : Hp} {S : Store} {ρ : Env} {D : Ends}
theorem for_run {ι1 : List Addr} {H1 : Hp} {S1 : Store} {iv : Items} {J : L2.It} {ct : Tg} {cb : List Sm} (ok : ItOk C.K ι1 H1 J iv) (hl : iv.lock = []) (hE : EnvOk C.K ι1 H1 σ ρ) (s1 : StOk C.K ι1 H1 S1) (h1 : PostO C ι1 H1 (forLoop iv ct (exSs C.φ C.G cb) iv.items ρ S1) D) :
    ∃ W : Nat → Nat → St → Hp → Prop, (∃ m, W 0 m σ H1) ∧ ∀ i m σ H, W i m σ H → (J.stop i H ∧ D.nx σ H) ∨ (J.go i H ∧ ∃ N : St → Hp → Prop, (∀ σ' H', N σ' H' → ∃ m', m' < m ∧ W (i + 1) m' σ' H') ∧ ∀ x H', J.yld i H x H' → gT C ct x σ H' fun σ2 H2 => tSs C cb { D with nx := N, ct := N, bk := D.nx } σ2 H2) := by
  refine ⟨fun i m σ H => ∃ ι S ρ, i ≤ iv.items.length ∧ m = iv.items.length - i ∧ EnvOk C.K ι H σ ρ ∧ StOk C.K ι H S ∧ Ext ι1 H1 ι H ∧ PostO C ι H (forLoop iv ct (exSs C.φ C.G cb) (iv.items.drop i) ρ S) D, ⟨iv.items.length, ι1, S1, ρ, Nat.zero_le _, rfl, hE, s1, Ext.refl _ _, by simpa using h1⟩, ?_⟩
  rintro i m σ H ⟨ι, S, ρ, hi, rfl, hE2, hS2, ext, h2⟩
  have tr : Tr C.K ι1 H1 C.K ι H := Tr.ofExt ext
  by_cases hlt : i < iv.items.length
  · rw [List.drop_eq_getElem_cons hlt] at h2
    unfold forLoop at h2
    by_cases g : guardOk S iv.guard = true
    · rw [if_pos g] at h2
      obtain ⟨k1, k2, k3⟩ := ok _ _ _ _ tr hS2 g
      refine .inr ⟨k1 i hlt, _, fun σ' H' hh => ⟨iv.items.length - (i + 1), by omega, hh⟩, fun x H' y => ?_⟩
      obtain ⟨p, ep, e3, st3, rp⟩ := k3 i x H' hlt y
      have ep' : p = iv.items[i] := by
        rw [List.getElem?_eq_getElem hlt] at ep
        cases ep
        rfl
      subst ep'
      cases ha : assign ct iv.items[i] ρ with
      | none => rw [ha] at h2; exact (show False from h2).elim
      | some ρ' =>
        rw [ha] at h2
        dsimp only at h2
        refine ⟨ρ, ι, S, _, ρ', hE2.ext e3, st3, rp, assign_res S ha, fun σ2 hE4 _ => ⟨ρ', S, ι, hE4, st3, ?_⟩⟩
        have h3 := PostO.from e3 h2
        cases hb : exSs C.φ C.G cb ρ' S with
        | next ρ1 S2 =>
          rw [hb] at h3
          exact fun σ5 H5 ι5 e5 s5 E5 => ⟨ι5, S2, ρ1, hlt, rfl, E5, s5, (ext.trans e3).trans e5, PostO.from e5 h3⟩
        | cont ρ1 S2 =>
          rw [hb] at h3
          exact fun σ5 H5 ι5 e5 s5 E5 => ⟨ι5, S2, ρ1, hlt, rfl, E5, s5, (ext.trans e3).trans e5, PostO.from e5 h3⟩
        | brk ρ1 S2 =>
          rw [hb] at h3
          have h3 : PostO C ι H' (.next ρ1 (unlock S2 iv.lock)) D := h3
          rw [hl] at h3
          exact h3
        | ret v S2 =>
          rw [hb] at h3
          have h3 : PostO C ι H' (.ret v (unlock S2 iv.lock)) D := h3
          rw [hl] at h3
          exact h3
        | exc q ρ1 S2 =>
          rw [hb] at h3
          have h3 : PostO C ι H' (if iv.lock.isEmpty then .exc q ρ1 S2 else .stuck) D := h3
          rw [hl] at h3
          exact h3
        | stuck => rw [hb] at h3; exact h3
    · rw [if_neg g] at h2
      exact (show False from h2).elim
  · have hin : i = iv.items.length := by omega
    subst hin
    rw [List.drop_length] at h2
    unfold forLoop at h2
    by_cases g : guardOk S iv.guard = true
    · rw [if_pos g, hl] at h2
      obtain ⟨k1, k2, k3⟩ := ok _ _ _ _ tr hS2 g
      exact .inl ⟨k2, h2 σ H ι (Ext.refl _ _) hS2 hE2⟩
    · rw [if_neg g] at h2
      exact (show False from h2).elim
/-- an end, unlocked -/
def unlkO (k : Nat) : Out → Out
  | .next ρ S => .next ρ (unlock S [k])
  | .ret v S => .ret v (unlock S [k])
  | .brk ρ S => .brk ρ (unlock S [k])
  | .cont ρ S => .cont ρ (unlock S [k])
  | .exc _ _ _ => .stuck
  | .stuck => .stuck
theorem forLoop_lock {items : List PV} {k : Nat} {ct : Tg} {body : Env → Store → Out} : ∀ (xs : List PV) (ρ : Env) (S : Store), forLoop { items := items, lock := [k] } ct body xs ρ S = unlkO k (forLoop { items := items } ct body xs ρ S)
  | [], ρ, S => by unfold forLoop; simp [guardOk, unlkO, unlock]
  | x :: xs, ρ, S => by
    unfold forLoop
    simp only [guardOk, List.all_nil, if_true]
    cases assign ct x ρ with
    | none => rfl
    | some ρ' =>
      dsimp only
      cases body ρ' S with
      | next ρ1 S1 => exact forLoop_lock xs ρ1 S1
      | cont ρ1 S1 => exact forLoop_lock xs ρ1 S1
      | brk ρ1 S1 => rfl
      | ret v S1 => rfl
      | exc q ρ1 S1 => rfl
      | stuck => rfl
/-- the ends within the lock -/
def lockD (d : Addr) (od : Obj) (es : List (Key × V)) (D : Ends) : Ends := ⟨fun σ' H' => H' d = some (.frz od (.dK es)) ∧ D.nx σ' (L2.upd H' d (.dK es)), fun v H' => H' d = some (.frz od (.dK es)) ∧ D.rt v (L2.upd H' d (.dK es)), fun σ' H' => H' d = some (.frz od (.dK es)) ∧ D.bk σ' (L2.upd H' d (.dK es)), fun σ' H' => H' d = some (.frz od (.dK es)) ∧ D.ct σ' (L2.upd H' d (.dK es))⟩
theorem PostO.locked {k : Nat} {d : Addr} {es : List (Key × V)} {od : Obj} {o : Out} (hk : ι[k]? = some d) (hd : H d = some (.dK es)) (h : PostO C ι H (unlkO k o) D) : PostO C ι (L2.upd H d (.frz od (.dK es))) o (lockD d od es D) := by
  have hm : d ∈ ι := List.mem_of_getElem? hk
  have st : ∀ {ι' : List Addr} {H' : Hp} {S : Store}, Ext ι (L2.upd H d (.frz od (.dK es))) ι' H' → StOk C.K ι' H' S → H' d = some (.frz od (.dK es)) ∧ Ext ι H ι' (L2.upd H' d (.dK es)) ∧ StOk C.K ι' (L2.upd H' d (.dK es)) (unlock S [k]) ∧ d ∈ ι' := fun e s => by
    obtain ⟨hd', e'⟩ := Ext.locked hd hm e
    have hk' := prefix_get e.pre hk
    exact ⟨hd', e', s.unlockAt hk' hd', List.mem_of_getElem? hk'⟩
  cases o with
  | next ρ1 S1 => intro σ' H' ι' e s E; obtain ⟨q1, q2, q3, q4⟩ := st e s; exact ⟨q1, h σ' _ ι' q2 q3 (E.extR (ExtR.set q4))⟩
  | ret v S1 => intro x H' ι' e s r; obtain ⟨q1, q2, q3, q4⟩ := st e s; exact ⟨q1, h x _ ι' q2 q3 (r.extR (ExtR.set q4))⟩
  | brk ρ1 S1 => intro σ' H' ι' e s E; obtain ⟨q1, q2, q3, q4⟩ := st e s; exact ⟨q1, h σ' _ ι' q2 q3 (E.extR (ExtR.set q4))⟩
  | cont ρ1 S1 => intro σ' H' ι' e s E; obtain ⟨q1, q2, q3, q4⟩ := st e s; exact ⟨q1, h σ' _ ι' q2 q3 (E.extR (ExtR.set q4))⟩
  | exc q ρ1 S1 => exact (show False from h).elim
  | stuck => exact h
theorem pms_forK {tg iter : Expr} {body : List Stmt} {ct : Tg} {i : Nat} {cb : List Sm} {pos : Pos} (hp : PassesOwn (model X.prog X.w) X.A X.env X.xe) (hc : X.calm = true) (hv : PE X iter (tEv C (.var i))) (hg : PG X tg (gT C ct)) (hb : PSs X body (tSs C cb)) (hs : isSet iter = false) :
    PS X (.For tg iter body [] pos) (tSt C (.forr ct (.keys i) cb)) := by
  refine psImp (ps_lock (ps_for hp hc (pi_keys hv) hg hb fun x => folded_plain hs x)) fun D σ H ⟨ρ, S, ι, hE, hS, h⟩ => ?_
  unfold exS at h
  unfold evI at h
  cases hr : ρ[i]? with
  | none => rw [hr] at h; exact (show False from h).elim
  | some o =>
    cases o with
    | none => rw [hr] at h; exact (show False from h).elim
    | some v =>
      rw [hr] at h
      cases v with
      | ref k =>
        dsimp only at h
        cases hcell : S[k]? with
        | none => rw [hcell] at h; exact (show False from h).elim
        | some c =>
          rw [hcell] at h
          cases c with
          | lst xs => exact (show False from h).elim
          | dic lk kvs =>
            cases lk with
            | true => exact (show False from h).elim
            | false =>
              obtain ⟨v, e1, rv⟩ := hE.at_ i _ hr
              cases rv with
              | ref hι =>
                rename_i d
                obtain ⟨es, hd, rd⟩ := hS.dic hι hcell
                have hm : d ∈ ι := List.mem_of_getElem? hι
                have h : PostO C ι H (forLoop { items := kvs.map (·.1), lock := [k] } ct (exSs C.φ C.G cb) (kvs.map (·.1)) ρ (S.set k (.dic true kvs))) D := h
                rw [forLoop_lock] at h
                refine ⟨d, _, hd, trivial, fun od => ?_⟩
                have st1 : StOk C.K ι (L2.upd H d (.frz od (.dK es))) (S.set k (.dic true kvs)) := hS.lock hι rd
                have hE1 : EnvOk C.K ι (L2.upd H d (.frz od (.dK es))) σ ρ := hE.extR (ExtR.set hm)
                refine keys_it (kvs := kvs) hE1 st1 hr hι upd_same fun ι' H' e st => ?_
                have rd' : RepD C.K ι' H' es kvs := (rd.extR (ExtR.set hm)).ext e
                have hd' : H' d = some (.frz od (.dK es)) := e.frz _ _ _ upd_same
                exact for_run (iv := { items := kvs.map (·.1) }) (D := lockD d od es D) (itok_keys hd' rd') rfl (hE1.ext e) st (PostO.from e (PostO.locked hι hd h))
      | _ => exact (show False from h).elim
theorem d_update {pins : List (Addr × Obj)} {s : Shared} {A : Around} {E : Value → Shared → Prop} {a b : Addr} {kvs more : List (Key × V)} {Q : Value → Shared → Prop} (I : Inv X pins σ H s) (e : H a = some (.dK kvs)) (e2 : Rd H b (.dK more)) (hne : a ≠ b) (hl : kvs.length + more.length ≤ sizeLine)
    (h : ∀ s', Inv X pins σ (L2.upd H a (.dK (mergeK kvs more))) s' → Q .none s') : wpAny (model X.prog X.w) A (call (.builtin "dict.update") [.ref a, .ref b]) Q E s := by
  obtain ⟨z, hd, vs, rel, dd⟩ := dk_of I.hok e
  obtain ⟨z2, hd2, ws, rel2, dd2⟩ := dk_rd I.hok e2
  refine call_meetsIn PySem.F.slot_dict_update dd.typeIs PySem.F.entry_dict_update (PySem.F.args_dict_update_2 _ _) (meets_dict_update (mixKind X.prog X.w) a b hne hd2) ⟨vs, ws, dd, dd2, by rw [← rel.length, ← rel2.length]; exact hl, fun h' dd' _ hs => h _ ?_⟩
  have he : ∃ q, h'.get? a = some q := let ⟨q, _, _, hq, _⟩ := dd'; ⟨q, hq⟩
  exact d_write (t' := s.toks) I (by rw [e]; exact True.intro) hs he (dk_new (by have := length_mergeK more kvs; omega) hd (KV.merge rel2 rel) dd')
def rUpd (C : Cc) : V → List V → Hp → VK → Prop := fun x xs H Q => ∃ S ι a v w S', xs = [v] ∧ StOk C.K ι H S ∧ Rep C.K ι H x a ∧ Rep C.K ι H v w ∧ updAt S a w = some S' ∧ ∀ H', Ext ι H ι H' → StOk C.K ι H' S' → Q .non H'
theorem mt_updP : MtR X "dict.update" (rUpd C) := by
  intro pins s σ H x xs v us Q I rx rxs ⟨S, ι, a, y, w, S', e1, hS, r1, r2, hp, q⟩
  subst e1
  obtain ⟨n, rfl⟩ : ∃ n, a = .ref n := by
    unfold updAt at hp
    split at hp
    · exact ⟨_, rfl⟩
    · cases hp
  cases r1 with
  | ref en =>
    rename_i ad
    unfold updAt at hp
    dsimp only at hp
    split at hp
    · cases hp
    · rename_i hself
      split at hp
      · rename_i kvs hc
        split at hp
        · rename_i more hm
          split at hp
          · rename_i hl
            cases hp
            obtain ⟨es, hH, rd⟩ := hS.dic en hc
            have vw := r2.view hS
            rw [hm] at vw
            obtain ⟨b, fs, rfl, q2, rf⟩ := vw
            obtain rfl : v = Value.ref ad := rx
            obtain ⟨u, us', rfl, ru, ruu⟩ : ∃ u us', us = u :: us' ∧ RelV (.ref b) u ∧ Vals [] us' := by cases rxs with | cons r rr => exact ⟨_, _, rfl, r, rr⟩
            cases ruu
            obtain rfl : u = Value.ref b := ru
            have hmem : ad ∈ ι := List.mem_of_getElem? en
            have hab : ad ≠ b := fun e => by
              subst e
              cases r2 with
              | ref eb => exact hself (by rw [nodup_at hS.nd eb en])
              | dict hr aw _ => exact aw.1 hmem
              | tup hr aw _ => exact aw.1 hmem
              | list hr aw _ => exact aw.1 hmem
              | scr hr aw => exact aw.1 hmem
              | tupK hr _ => simp [res] at hm
              | exc hr => simp [res] at hm
              | scrK hr => simp [res] at hm
            refine d_update I hH q2 hab (by rw [rd.length, rf.length]; omega) fun s' I' => ⟨.non, _, I', rfl, ?_⟩
            refine q _ (Ext.set hmem (fun _ _ z => by rw [hH] at z; cases z)) (hS.set en ⟨_, upd_same, ?_⟩)
            exact (RepD.merge rf rd).extR (ExtR.set hmem)
          · cases hp
        · cases hp
      · cases hp
theorem pms_upd {o e : Expr} {co ce : Ex} {apos cpos pos : Pos} (ho : PE X o (tEv C co)) (he : PE X e (tEv C ce)) (h1 : isCall0 o = false) (h2 : isStar e = false) (h3 : (apos.endLine == cpos.line) = true) : PS X (.Expr (.Call (.Attribute o "update" apos) [e] [] cpos) pos) (tSt C (.upd co ce)) := by
  have hs : noStar [e] = true := by simp [noStar, h2]
  refine psImp (ps_expr (pe_bm PySem.F.plainAttrs_dict PySem.F.slot_dict_update PySem.F.type_dict_update (mt_updP (C := C)) ho (pma_cons' he pma_nil h2) (base_plain h1) (by rw [back_all hs]; rfl) h3 (star_plain h2) rfl) rfl) fun D σ H ⟨ρ, S, ι, hE, hS, h⟩ => ?_
  unfold exS at h
  refine tEvO hE hS h fun a S2 x ι2 H2 e2 s2 r h2 => ?_
  have vw := r.view s2
  by_cases hk : openD S2 a = true
  · rw [if_pos hk] at h2
    have hd : ∃ n kvs, a = .ref n ∧ S2[n]? = some (.dic false kvs) := by
      unfold openD at hk
      split at hk
      · split at hk
        · rename_i n _ kvs hc
          exact ⟨n, kvs, rfl, hc⟩
        · cases hk
      · cases hk
    obtain ⟨n, kvs, rfl, hc⟩ := hd
    obtain ⟨ad, rfl, en⟩ : ∃ ad, x = .ref ad ∧ ι2[n]? = some ad := by cases r with | ref h => exact ⟨_, rfl, h⟩
    obtain ⟨es, hH, rd⟩ := s2.dic en hc
    refine ⟨.inr (.inr (.inl ⟨rfl, .inl ⟨es, hH⟩⟩)), ?_⟩
    refine tEvs_one (tEvO (hE.ext e2) s2 h2 fun b S3 y ι3 H3 e3 s3 r3 h3 => ?_)
    cases hq : updAt S3 (.ref n) b with
    | none => rw [hq] at h3; exact (show False from h3).elim
    | some S' =>
      rw [hq] at h3
      exact ⟨S3, ι3, .ref n, y, b, S', rfl, s3, r.ext e3, r3, hq, fun H' e' s' => h3 σ H' ι3 e' s' (((hE.ext e2).ext e3).ext e')⟩
  · rw [if_neg hk] at h2
    exact (show False from h2).elim
def getP (C : Cc) : V → V → Hp → VK → Prop := fun o i H Q => ∃ S ι a k kvs x, StOk C.K ι H S ∧ Rep C.K ι H o a ∧ Rep C.K ι H i k ∧ res S a = .dict kvs ∧ isKey k = true ∧ dget kvs k = some x ∧ ∀ v, Rep C.K ι H v x → Q v H
theorem get_P (hu : X.A.units + 64 < cLine) : PGet X (getP C) := by
  intro pins s σ H o i ov iv Q I ro ri ⟨S, ι, a, k, kvs, x, hS, r1, r2, hr, hk, hg, q⟩
  have vw := r1.view hS
  rw [hr] at vw
  obtain ⟨p, es, rfl, q1, l1⟩ := vw
  obtain rfl : ov = Value.ref p := ro
  obtain ⟨ky, rfl, rfl⟩ := key_of r2 hk
  rcases l1.get (k := ky) with ⟨z1, z2⟩ | ⟨v', x', z1, z2, z3⟩
  · rw [z2] at hg; cases hg
  · rw [z2] at hg
    cases hg
    exact d_getItem (by omega) I (.inl ⟨es, ky, q1, rfl, z1.symm⟩) ri fun w' s3 I3 rw' => ⟨v', H, I3, rw', q v' z3⟩
theorem pms_augput {o k e : Expr} {co ck ce : Ex} {op : Operator} {b : Bop} {pos' pos : Pos} (hu : X.A.units + 64 < cLine) (ho : PE X o (tEv C co)) (hk : PE X k (tEv C ck)) (he : PE X e (tEv C ce)) (hp : PIp X op (ipP C b)) (hsl : isSlice k = false) : PS X (.AugAssign (.Subscript o k pos') op e pos) (tSt C (.augput co ck b ce)) := by
  refine psImp (ps_augS ho hk (get_P (C := C) hu) he hp (set_P (C := C) hu) (by intro ov iv new; cases k <;> first | rfl | cases hsl)) fun D σ H ⟨ρ, S, ι, hE, hS, h⟩ => ?_
  unfold exS at h
  refine tEvO hE hS h fun a S2 x ι2 H2 e2 s2 r2 h2 => tEvO (hE.ext e2) s2 h2 fun ky S3 y ι3 H3 e3 s3 r3 h3 => ?_
  cases hit : (if meKind .get1 (res S3 a) then item (res S3 a) ky else none) with
  | none => rw [hit] at h3; exact (show False from h3).elim
  | some old =>
    rw [hit] at h3
    dsimp only at h3
    cases hres : res S3 a with
    | dict kvs =>
      rw [hres] at hit
      have hit' : (if isKey ky then dget kvs ky else none) = some old := hit
      by_cases hky : isKey ky = true
      · rw [if_pos hky] at hit'
        refine ⟨S3, ι3, a, ky, kvs, old, s3, r2.ext e3, r3, hres, hky, hit', fun v rv => ?_⟩
        refine tEvO ((hE.ext e2).ext e3) s3 h3 fun w S4 z ι4 H4 e4 s4 r4 h4 => ?_
        cases hb : bop b old w with
        | none => rw [hb] at h4; exact (show False from h4).elim
        | some nw =>
          rw [hb] at h4
          cases nw with
          | int zi =>
            dsimp only at h4
            obtain ⟨i1, j1, rfl, rfl⟩ := bop_int hb
            have rv' := rv.ext e4
            cases rv'
            cases r4
            refine ⟨i1, j1, zi, rfl, rfl, hb, ?_⟩
            cases hq : putAt S4 a ky (.int zi) with
            | none => rw [hq] at h4; exact (show False from h4).elim
            | some S' =>
              rw [hq] at h4
              exact ⟨S4, ι4, a, ky, .int zi, S', s4, (r2.ext e3).ext e4, r3.ext e4, .int zi, hq, fun H' e' s' => h4 σ H' ι4 e' s' ((((hE.ext e2).ext e3).ext e4).ext e')⟩
          | _ => exact (show False from h4).elim
      · rw [if_neg hky] at hit'
        cases hit'
    | _ => rw [hres] at hit; cases hit
end
end Bt
end
section
set_option maxHeartbeats 4000000
namespace Bt
open PySem L2
open PyProof.Rows hiding St
/-- the object is the table {True: "won", False: "lost"} -/
def resObj (o : Obj) : Bool := match o with
  | ⟨.type c, none, .dict es _, sl⟩ => decide (c = "dict") && sl.isEmpty && (match es.toList with
    | [⟨h1, .bool true, .str x _⟩, ⟨h0, .bool false, .str y _⟩] => decide (h1 = hashInt 1) && decide (h0 = hashInt 0) && decide (x = "won") && decide (y = "lost")
    | _ => false)
  | _ => false
theorem resObj_ok {o : Obj} (h : resObj o = true) (prog : Program) (w : World) : ∃ t1 t0, o.IsDictOf (leafKind prog w) [(.num 1, .str "won" t1), (.num 0, .str "lost" t0)] := by
  unfold resObj at h
  split at h
  · rename_i c es ep sl
    simp only [Bool.and_eq_true, decide_eq_true_eq] at h
    obtain ⟨⟨rfl, h2⟩, h3⟩ := h
    split at h3
    · rename_i h1 x t1 h0 y t0 he
      simp only [Bool.and_eq_true, decide_eq_true_eq] at h3
      obtain ⟨⟨⟨rfl, rfl⟩, rfl⟩, rfl⟩ := h3
      refine ⟨t1, t0, es, ep, ⟨rfl, rfl, by simpa using h2⟩, rfl, fun e m => ?_, ?_, by simp⟩
      · have m' : e ∈ es.toList := by simpa using m
        rw [he] at m'
        simp only [List.mem_cons, List.not_mem_nil, or_false] at m'
        rcases m' with rfl | rfl
        · exact ⟨.num 1, rfl, rfl⟩
        · exact ⟨.num 0, rfl, rfl⟩
      · rw [he]
        exact .cons rfl rfl (.cons rfl rfl .nil)
    · cases h3
  · cases h
section
variable {X : Cx} {C : Cc} {σ : St} {ι : List Addr} {H : Hp} {S : Store} {ρ : Env}
theorem ixWon {a : Addr} {o : Obj} (hk : X.K.lookup a = some o) (ho : resObj o = true) : IxR X (fun x y H Q => ∃ b, x = .ref a ∧ y = .bl b ∧ Q (.str (if b then "won" else "lost")) H) := by
  intro value slice pins s σ H x y v u Q I rx ry ⟨b, e1, e2, q⟩ hs
  subst e1 e2
  obtain rfl : v = Value.ref a := rx
  obtain rfl : u = Value.bool b := ry
  obtain ⟨t1, t0, hd⟩ := resObj_ok ho X.prog X.w
  have dd : s.heap.DictOf (leafKind X.prog X.w) a [(.num 1, .str "won" t1), (.num 0, .str "lost" t0)] := Heap.dictOf_iff.mpr ⟨o, I.kIn a o hk, hd⟩
  cases b with
  | true => exact tail_any dd.typeIs PySem.F.slot_dict_getitem.lookup (wpAny_getItem_of (k := Leaf.num 1) (v := .str "won" t1) rfl dd.mapOf (by rfl) ⟨.str "won", H, I.tok _, ⟨t1, rfl⟩, q⟩) hs
  | false => exact tail_any dd.typeIs PySem.F.slot_dict_getitem.lookup (wpAny_getItem_of (k := Leaf.num 0) (v := .str "lost" t0) rfl dd.mapOf (by rfl) ⟨.str "lost", H, I.tok _, ⟨t0, rfl⟩, q⟩) hs
theorem pm_won {x : Str} {a : Addr} {o : Obj} {b : Expr} {cb : Ex} {px pos : Pos} (hg : Gl X x) (hm : X.mg x = some (.ref a)) (hk : X.K.lookup a = some o) (ho : resObj o = true) (hd : (x == ("__debug__" : Str)) = false) (hb : PE X b (tEv C cb)) (hs : PlainIx b) : PE X (.Subscript (.Name x px) b pos) (tEv C (.won cb)) := by
  refine peImp (pe_ix (ixWon hk ho) (pe_glob hg hm (v := .ref a) rfl hd) hb hs) fun σ H Q ⟨ρ, S, ι, hE, hS, h⟩ => ?_
  unfold evE at h
  refine tEv1 hE hS h fun v S2 y ι2 H2 e2 s2 r h2 => ?_
  cases r with
  | bl t =>
    cases t with
    | true => exact ⟨true, rfl, rfl, post_at (u := .str "won") h2 s2 (.str _ (by decide) (by decide +kernel))⟩
    | false => exact ⟨false, rfl, rfl, post_at (u := .str "lost") h2 s2 (.str _ (by decide) (by decide +kernel))⟩
  | _ => exact (show False from h2).elim
section
variable {elt tg iter : Expr} {ifs : List Expr} {scope : Scope} {own : List (Str × Nat)} {pos : Pos} {ct : Tg} {i : Nat} {ce : Ex} {cifs : List Ex} (hc : X.calm = true) (hN : X.N.Nodup) (hv : PE X iter (tEv C (.var i))) (ok : BlkOk X.N X.env.scope scope own) (hown : ∀ i ∈ ct.slots, i ∈ own.map (·.2))
    (hg : ∀ (D : Addr) (s : Shared) (H : Hp) (A : Addr) (cl : List (Str × Addr)) (fp : List Addr), PG (X.blk s H scope (compEnvC scope cl A X.env) fp) tg (gT (C.blk D) ct))
    (ht : ∀ (D : Addr) (s : Shared) (H : Hp) (A : Addr) (cl : List (Str × Addr)) (fp : List Addr), PTs (X.blk s H scope (compEnvC scope cl A X.env) fp) ifs (tTs (C.blk D) cifs))
    (he : ∀ (D : Addr) (s : Shared) (H : Hp) (A : Addr) (cl : List (Str × Addr)) (fp : List Addr), PE (X.blk s H scope (compEnvC scope cl A X.env) fp) elt (tEv (C.blk D) ce)) (hs : isSet iter = false)
include hc hN hv ok hown hg ht he hs
theorem pm_lcKF : PE X (.ListComp elt [⟨tg, iter, ifs, 0⟩] scope pos) (tEvF C (.lc ce ct (.keys i) cifs (own.map (·.2)))) :=
  peImp (pe_lock (pe_lc hc hN (pi_keys hv) ok (g := fun v σ H Q => ∃ D, gT (C.blk D) ct v σ H Q) (tt := fun σ H Q => ∃ D, tTs (C.blk D) cifs σ H Q) (te := fun σ H Q => ∃ D, tEv (C.blk D) ce σ H Q)
    (fun s H A cl fp => ⟨fun pins s' σ H v u Q I r ⟨D, q⟩ => (hg D s _ A cl fp).run pins s' σ H v u Q I r q⟩) (fun s H A cl fp => ⟨fun pins s' σ H Q I ⟨D, q⟩ => (ht D s _ A cl fp).run pins s' σ H Q I q⟩) (fun s H A cl fp => ⟨fun pins s' σ H Q I ⟨D, q⟩ => (he D s _ A cl fp).run pins s' σ H Q I q⟩) (fun x => folded_plain hs x))) fun σ H Q h => lcK_imp hown h
theorem pms_setLcK {j : Nat} {y : Str} {py spos : Pos} {c : Ex} (hy : X.N[j]? = some y) (hyl : X.env.scope.names.lookup y = some .local)
    (hsw : swapsWith (.ListComp elt [⟨tg, iter, ifs, 0⟩] scope pos) (some (.Name y py)) spos.line X.env = pure true) (hF : ∀ σ H Q, tEv C c σ H Q → tEvF C (.lc ce ct (.keys i) cifs (own.map (·.2))) σ H Q) :
    PS X (.Assign [.Name y py] (.ListComp elt [⟨tg, iter, ifs, 0⟩] scope pos) spos) (tSt C (.asg (.nm j) c)) := by
  refine psImp (ps_lock (ps_setLc hc hN hy hyl hsw (pi_keys hv) ok (g := fun v σ H Q => ∃ D, gT (C.blk D) ct v σ H Q) (tt := fun σ H Q => ∃ D, tTs (C.blk D) cifs σ H Q) (te := fun σ H Q => ∃ D, tEv (C.blk D) ce σ H Q)
    (fun s H A cl fp => ⟨fun pins s' σ H v u Q I r ⟨D, q⟩ => (hg D s _ A cl fp).run pins s' σ H v u Q I r q⟩) (fun s H A cl fp => ⟨fun pins s' σ H Q I ⟨D, q⟩ => (ht D s _ A cl fp).run pins s' σ H Q I q⟩) (fun s H A cl fp => ⟨fun pins s' σ H Q I ⟨D, q⟩ => (he D s _ A cl fp).run pins s' σ H Q I q⟩) (fun x => folded_plain hs x))) fun D σ H ⟨ρ, S, ι, hE, hS, h⟩ => ?_
  unfold exS at h
  refine lcK_imp hown (hF σ H (fun x H1 => gName j x σ H1 D.nx) (tEvO hE hS h fun v S2 x ι2 H2 e2 s2 r h2 => ?_))
  have h2' : PostO C ι2 H2 (match (if j < ρ.length then some (ρ.set j (some v)) else none) with
    | some ρ => .next ρ S2
    | none => .stuck) D := h2
  by_cases hl : j < ρ.length
  · rw [if_pos hl] at h2'
    exact h2' _ H2 ι2 (Ext.refl _ _) s2 ((hE.ext e2).set r)
  · rw [if_neg hl] at h2'
    exact (show False from h2').elim
end
section
variable {kx vx tg iter : Expr} {scope : Scope} {own : List (Str × Nat)} {pos : Pos} {ct : Tg} {i : Nat} {ck cv : Ex} (hc : X.calm = true) (hN : X.N.Nodup) (hv : PE X iter (tEv C (.var i))) (ok : BlkOk X.N X.env.scope scope own) (hown : ∀ i ∈ ct.slots, i ∈ own.map (·.2))
    (hg : ∀ (D : Addr) (s : Shared) (H : Hp) (A : Addr) (cl : List (Str × Addr)) (fp : List Addr), PG (X.blk s H scope (compEnvC scope cl A X.env) fp) tg (gT (C.blk D) ct))
    (hk : ∀ (D : Addr) (s : Shared) (H : Hp) (A : Addr) (cl : List (Str × Addr)) (fp : List Addr), PE (X.blk s H scope (compEnvC scope cl A X.env) fp) kx (tEv (C.blk D) ck))
    (he : ∀ (D : Addr) (s : Shared) (H : Hp) (A : Addr) (cl : List (Str × Addr)) (fp : List Addr), PE (X.blk s H scope (compEnvC scope cl A X.env) fp) vx (tEv (C.blk D) cv)) (hs : isSet iter = false)
include hc hN hv ok hown hg hk he hs
theorem pm_dcKF : PE X (.DictComp kx vx [⟨tg, iter, [], 0⟩] scope pos) (tEvF C (.dc ck cv ct (.keys i) (own.map (·.2)))) :=
  peImp (pe_lock (pe_dc hc hN (pi_keys hv) ok (g := fun v σ H Q => ∃ D, gT (C.blk D) ct v σ H Q) (tt := fun σ H Q => ∃ D, tTs (C.blk D) [] σ H Q) (tk := fun σ H Q => ∃ D, tEv (C.blk D) ck σ H Q) (tv := fun σ H Q => ∃ D, tEv (C.blk D) cv σ H Q)
    (fun s H A cl fp => ⟨fun pins s' σ H v u Q I r ⟨D, q⟩ => (hg D s _ A cl fp).run pins s' σ H v u Q I r q⟩) (fun s H A cl fp => ⟨fun pins s' σ H Q I ⟨D, q⟩ => (pmts_nil (C := C.blk D)).run pins s' σ H Q I q⟩)
    (fun s H A cl fp => ⟨fun pins s' σ H Q I ⟨D, q⟩ => (hk D s _ A cl fp).run pins s' σ H Q I q⟩) (fun s H A cl fp => ⟨fun pins s' σ H Q I ⟨D, q⟩ => (he D s _ A cl fp).run pins s' σ H Q I q⟩) (fun x => folded_plain hs x))) fun σ H Q h => dcK_imp hown h
end
end
end Bt
end
section
set_option maxHeartbeats 4000000
namespace Bt
open PySem L2
open PyProof.Rows hiding St
section
variable {X : Cx} {C : Cc} {σ : St} {ι : List Addr} {H : Hp} {S : Store} {ρ : Env}
def rLb (C : Cc) (o : Bop) : R2 := fun x y H Q => ∃ σ S ι v w, StOk C.K ι H S ∧ Rep C.K ι H x v ∧ Rep C.K ι H y w ∧ PostF C σ ι H (Res.ofO (lbop o (res S v) (res S w)) S) Q
theorem lb_add : OpR X (binaryOp .Add) (rLb C .add) := by
  intro pins s σ0 H x y v u Q I rx ry ⟨σ, S, ι, a, b, hS, r1, r2, h⟩
  have v1 := r1.view hS
  have v2 := r2.view hS
  generalize res S a = a' at v1 h
  generalize res S b = b' at v2 h
  cases a' with
  | list xs =>
    cases b' with
    | list ys =>
      obtain ⟨p, vs, e1, q1, l1⟩ := v1
      obtain ⟨p', ws, e2, q2, l2⟩ := v2
      by_cases hz : xs.length + ys.length ≤ sizeLine
      · have h' : FreshL C ι H S (xs ++ ys) Q := by
          simp only [lbop, if_pos hz] at h
          exact h
        exact op_catR pins s σ0 H x y v u Q I rx ry ⟨p, p', vs, ws, e1, e2, q1, q2, by rw [l1.length, l2.length]; exact hz, FreshL.laid h' hS (l1.append l2)⟩
      · simp only [lbop, if_neg hz] at h
        exact (show False from h).elim
    | _ => exact (show False from h).elim
  | _ => cases b' <;> exact (show False from h).elim
theorem lb_mul : OpR X (binaryOp .Mult) (rLb C .mul) := by
  intro pins s σ0 H x y v u Q I rx ry ⟨σ, S, ι, a, b, hS, r1, r2, h⟩
  have v1 := r1.view hS
  have v2 := r2.view hS
  generalize res S a = a' at v1 h
  generalize res S b = b' at v2 h
  cases a' with
  | list xs =>
    cases b' with
    | int j =>
      obtain ⟨p, vs, e1, q1, l1⟩ := v1
      by_cases hc : 0 ≤ j ∧ j ≤ 1000 ∧ xs.length ≤ 1000
      · have h' : FreshL C ι H S (List.replicate j.toNat xs).flatten Q := by
          simp only [lbop, if_pos hc] at h
          exact h
        refine op_repR pins s σ0 H x y v u Q I rx ry ⟨p, j, vs, e1, v2, q1, by omega, by omega, ?_, FreshL.laid h' hS (l1.replicate _)⟩
        rw [l1.length, sizeLine_eq]
        have h1 : j.toNat ≤ 1000 := by omega
        calc xs.length * j.toNat ≤ 1000 * 1000 := Nat.mul_le_mul hc.2.2 h1
          _ ≤ _ := by decide
      · simp only [lbop, if_neg hc] at h
        exact (show False from h).elim
    | _ => exact (show False from h).elim
  | _ => cases b' <;> exact (show False from h).elim
theorem pm_lbinF {op : Operator} {o : Bop} {a b : Expr} {ca cb : Ex} {pos : Pos} (ho : OpR X (binaryOp op) (rLb C o)) (ha : PE X a (tEv C ca)) (hb : PE X b (tEv C cb)) : PE X (.BinOp a op b pos) (tEvF C (.lbin o ca cb)) := by
  refine peImp (pe_op ho ha hb) fun σ H Q ⟨ρ, S, ι, hE, hS, h⟩ => ?_
  unfold evE at h
  refine ⟨ρ, S, ι, hE, hS, (PostF.bind h).mono fun v S1 x ι1 H1 e1 s1 r1 h1 => ?_⟩
  refine ⟨ρ, S1, ι1, hE.ext e1, s1, (PostF.bind h1).mono fun w S2 y ι2 H2 e2 s2 r2 h2 => ?_⟩
  exact ⟨σ, S2, ι2, v, w, s2, r1.ext e2, r2, h2⟩
end
end Bt
end
section
set_option maxHeartbeats 4000000
namespace Bt
open PySem PySem.Spec PyProof.Rows L2
section
variable {X : Cx} {pins : List (Addr × Obj)} {σ : L2.St} {H : Hp} {s : Shared}
/-- behind the suite the exception stays pinned -/
theorem unsuiteP {a : Addr} {q : Addr × Obj} {pn' : List (Addr × Obj)} (I : Inv (X.suite a (q :: (X.pn ++ pins))) pn' σ H s) (ok : X.Ok) : Inv X (q :: pins) σ H s := by
  refine ⟨ok, I.os, I.bare, I.base, I.loc, I.cell, I.free, I.freeC, fun p hp => I.pin p (List.mem_append_left _ ?_), I.hok, I.len⟩
  rcases List.mem_append.mp hp with h | h
  · exact List.mem_cons_of_mem _ (List.mem_append_left _ h)
  · rcases List.mem_cons.mp h with rfl | h
    · exact List.mem_cons_self
    · exact List.mem_cons_of_mem _ (List.mem_append_right _ h)
theorem unpin {q : Addr × Obj} (I : Inv X (q :: pins) σ H s) : Inv X pins σ H s :=
  ⟨I.ok, I.os, I.bare, I.base, I.loc, I.cell, I.free, I.freeC, fun p hp => I.pin p (by
    rcases List.mem_append.mp hp with h | h
    · exact List.mem_append_left _ h
    · exact List.mem_append_right _ (List.mem_cons_of_mem _ h)), I.hok, I.len⟩
end
/-- what the clause wants of an exception out of the body: ur is what is wanted of the rest -/
def wRest (K : PySem.W.Frag) (n : Nat) (c : Value) (i : Nat) (ts ur : Addr → Value → Option Addr → TS) (D : Ends) : WX := fun cls d σ H =>
  PySem.W.exmOne K cls c = some true ∧ (σ.length = n → ∀ a, H a = none → ts a cls d { nx := fun σ' H' => ur a cls d D (σ'.set i none) H', rt := fun _ _ => False, bk := fun _ _ => False, ct := fun _ _ => False } (σ.set i (some (.ref a))) H)
section
variable {X : Cx} {x n : Str} {c : Value} {i : Nat} {body suite rest : List Stmt} {b₀ : Stmt} {np pos pos' : Pos} {tb : WX → TS} {ts ur : Addr → Value → Option Addr → TS} {u : TS}
theorem pss_try_rest (hs : X.stack = X.env :: X.outer) (hf : X.env.frame = some X.env.locals) (hN : X.N.Nodup) (hi : X.N[i]? = some n) (hln : X.env.kindOf n = some .local) (hc : Names X x c)
    (hb : ∀ (W : WX) (pn : List (Addr × Obj)) (xe : Value → Shared → Prop), Takes (X.tr pn xe) W → PSs (X.tr pn xe) body (tb W))
    (hsu : ∀ (a : Addr) (oe : Obj) (cls : Value) (d : Option Addr) (pn : List (Addr × Obj)), PSs (X.suite a ((a, oe) :: pn)) (b₀ :: suite) (ts a cls d))
    (hr0 : PSs X rest u) (hr : ∀ (a : Addr) (oe : Obj) (cls : Value) (d : Option Addr) (pn : List (Addr × Obj)), (a, oe) ∈ pn → Zc cls d oe → (∃ vs, oe.data = .fields vs) → PSs (X.tr pn X.xe) rest (ur a cls d)) :
    PSs X (.Try body [.ExceptHandler (some (.Name x np)) (some n) (b₀ :: suite) pos'] [] [] pos :: rest) (fun D σ H => tb (wRest X.K X.N.length c i ts ur D) { D with nx := u D } σ H) := by
  refine ⟨fun pins s σ H D I h => ?_⟩
  have ok := I.ok
  have hfr : X.A.frames = some (X.env :: X.outer) := by rw [ok.frames, hs]
  let R : Flow → Shared → Prop := fun f s' => match f with
    | .next => (∃ σ' H', Inv X pins σ' H' s' ∧ u D σ' H') ∨ ∃ a oe cls d σ' H', Inv X ((a, oe) :: pins) σ' H' s' ∧ Zc cls d oe ∧ (∃ vs, oe.data = .fields vs) ∧ ur a cls d D σ' H'
    | f => SP X pins D f s'
  have key : wpAny (model X.prog X.w) X.A (exec (.Try body [.ExceptHandler (some (.Name x np)) (some n) (b₀ :: suite) pos'] [] [] pos) X.env) R X.xe s := by
    refine wpAny_Try_except (wpAny_mono ((hb (wRest X.K X.N.length c i ts ur D) (X.pn ++ pins) (fun e s₁ => wpAny (model X.prog X.w) X.A (noteFrame e X.env) (fun _ s₂ => wpAny (model X.prog X.w) X.A (setFlight e none) (fun _ s₃ => wpAny (model X.prog X.w) X.A (handleBy e X.env [.ExceptHandler (some (.Name x np)) (some n) (b₀ :: suite) pos']) R X.xe s₃) X.xe s₂) X.xe s₁) (fun v s' xx => ?_)).run [] s σ H _ (I.toTry _) h) (fun f s1 q => ?_) fun _ _ he => he)
    · obtain ⟨a, B, sI, pins', σ', H', cls, d, rfl, J', nb, up, sky, na, os, ag, hb1, hyes⟩ := xx
      have J : Inv X pins σ' H' sI := J'.ofTry ok
      refine Sky.land (B := B) Zc.steady hfr hf (by rw [← hs]; exact sky) fun h3 fl3 up3 => ?_
      have J3 : Inv X pins σ' H' { s' with heap := h3 } := J.landed nb fl3.1 (up.trans up3) os ag
      obtain ⟨oe3, vs3, he3, hz3, hd3⟩ := fl3.there
      have nfr : a ∉ frs (X.env :: X.outer) := fun hm => by
        obtain ⟨_, o', e', hnf⟩ := fl3.2.2.1.mem hm
        rw [he3] at e'
        cases e'
        exact hnf _ hd3
      have nL : a ≠ X.env.locals := fun z => nfr (List.mem_filterMap.mpr ⟨X.env, List.mem_cons_self, by rw [hf, z]⟩)
      have nF : a ∉ X.fs := fun hm => by
        obtain ⟨e, he, q⟩ := List.mem_filterMap.mp hm
        exact nfr (List.mem_filterMap.mpr ⟨e, List.mem_cons_of_mem _ he, q⟩)
      have S3 := J3.suite he3 hd3 na nL nF
      refine wpAny_handleBy_cons (codeAny_handlers_test ?_) (fun q => nomatch q)
      have LM := PySem.W.exm_one (M := model X.prog X.w) J3.kIn (fun A Q E s k q => wpAny_typeOf_ref (k _ _ he3) (by rw [hz3.1]; exact q)) hb1
      obtain ⟨hg, hdbg, hm⟩ := hc
      have look : ∀ {Q : Value → Shared → Prop} {E : Value → Shared → Prop}, Q c { s' with heap := h3 } → wpAny (model X.prog X.w) (X.A.mark (some (.ref a))) (eval (.Name x np) X.env) Q E { s' with heap := h3 } := fun {Q E} q => by
        rcases hm with hm | ⟨hm, hv, hnn⟩
        · exact ld_glob (X := X.suite a ((a, oe3) :: (X.pn ++ pins))) S3 hg hm q hdbg
        · exact ld_blt (X := X.suite a ((a, oe3) :: (X.pn ++ pins))) S3 hg hm hv q hnn hdbg
      refine look (LM.here (codeAny_handlers_suite_as (HandSPX.lands_againZ fl3 fun h4 fl4 up4 => ?_)))
      have J4 : Inv X pins σ' H' { s' with heap := h4 } := J.landed nb fl4.1 ((up.trans up3).trans up4) os ag
      obtain ⟨oe4, vs4, he4, hz4, hd4⟩ := fl4.there
      have S4 := J4.suite he4 hd4 na nL nF
      refine store_ok (X := X.suite a ((a, oe4) :: (X.pn ++ pins))) (v := .ref a) S4 hN hi (.inl hln) rfl (fun s5 S5 => ?_) (.inr hln)
      refine wpAny_mono ((hsu a oe4 cls d (X.pn ++ pins)).run [] s5 _ H' _ S5 (hyes J.len a na)) (fun f s6 q6 => ?_) (fun _ _ z => False.elim z)
      cases f with
      | next =>
        obtain ⟨σ6, H6, S6, q6⟩ := q6
        exact gone_ok (unsuiteP S6 ok) hN hi hln fun s7 J7 => .inr ⟨a, oe4, cls, d, _, _, J7, hz4, ⟨_, hd4⟩, q6⟩
      | brk => obtain ⟨_, _, _, q6⟩ := q6; exact q6.elim
      | cont => obtain ⟨_, _, _, q6⟩ := q6; exact q6.elim
      | ret u => obtain ⟨_, _, _, _, _, q6⟩ := q6; exact q6.elim
    · cases f with
      | next => obtain ⟨σ', H', J', q⟩ := q; exact wpAny_execs_nil (.inl ⟨σ', H', J'.ofTry ok, q⟩)
      | brk => obtain ⟨σ', H', J', q⟩ := q; exact ⟨σ', H', J'.ofTry ok, q⟩
      | cont => obtain ⟨σ', H', J', q⟩ := q; exact ⟨σ', H', J'.ofTry ok, q⟩
      | ret v => obtain ⟨w, σ', H', J', r, q⟩ := q; exact ⟨w, σ', H', J'.ofTry ok, r, q⟩
  refine wpAny_execs_cons (thn key fun f s1 q => ?_)
  cases f with
  | next =>
    rcases q with ⟨σ', H', I', q⟩ | ⟨a, oe, cls, d, σ', H', I', z, zf, q⟩
    · exact hr0.run pins s1 σ' H' D I' q
    · have I2 := I'.toTry X.xe
      refine wpAny_mono ((hr a oe cls d (X.pn ++ (a, oe) :: pins) (List.mem_append_right _ List.mem_cons_self) z zf).run [] s1 σ' H' D I2 q) (fun f s2 q2 => ?_) fun _ _ z => z
      cases f with
      | next => obtain ⟨σ2, H2, J2, q2⟩ := q2; exact ⟨σ2, H2, unpin (J2.ofTry ok), q2⟩
      | brk => obtain ⟨σ2, H2, J2, q2⟩ := q2; exact ⟨σ2, H2, unpin (J2.ofTry ok), q2⟩
      | cont => obtain ⟨σ2, H2, J2, q2⟩ := q2; exact ⟨σ2, H2, unpin (J2.ofTry ok), q2⟩
      | ret v => obtain ⟨w, σ2, H2, J2, r2, q2⟩ := q2; exact ⟨w, σ2, H2, unpin (J2.ofTry ok), r2, q2⟩
  | brk => exact q
  | cont => exact q
  | ret v => exact q
end
/-- isinstance(e, C) of a pinned exception -/
def rIsP (K : PySem.W.Frag) (D a : Addr) : List V → Hp → VK → Prop := fun xs H Q => ∃ (c : V) (cv : Value) (b : Bool), xs = [.ref a, c] ∧ (∀ u, RelV c u → u = cv) ∧ PySem.W.kitOne K (.ref D) cv = some b ∧ Q (.bl b) H
theorem call_isP {X : Cx} {a D : Addr} {oe : Obj} (C : ExcC X.K D) (hm : (a, oe) ∈ X.pn) (hz : Zc (.ref D) none oe) (hf : ∃ vs, oe.data = .fields vs) : CallR X (.builtin "isinstance") (rIsP X.K D a) := by
  intro pins s σ H xs us Q I r h
  obtain ⟨c, cv, b, rfl, hcv, e, q⟩ := h
  obtain ⟨u1, u2, rfl, r1, r2⟩ : ∃ u1 u2, us = [u1, u2] ∧ RelV (.ref a) u1 ∧ RelV c u2 := by
    cases r with
    | cons rx rr => cases rr with
      | cons rt rn => cases rn; exact ⟨_, _, rfl, rx, rt⟩
  cases r1
  rw [hcv _ r2]
  have hget := (I.pin (a, oe) (List.mem_append_left _ hm)).1
  obtain ⟨vs, hv⟩ := hf
  have J : PySem.W.InstAt s.heap a oe D none := by
    obtain ⟨oc, od, oda, osl⟩ := oe
    obtain ⟨h1, h2⟩ := hz
    dsimp only at h1 h2 hv
    subst h1 h2 hv
    exact ⟨hget, rfl, rfl, trivial⟩
  refine PySem.W.kia_one (PySem.W.handS_kitx_exc C.hg C.hk C.hs C.hd C.ha C.hn C.ht C.hm) I.kIn J e (fun z => nomatch z) fun tk => ?_
  exact ⟨.bl b, H, I.kept (t' := tk) fun _ _ z => z, rfl, q⟩
end Bt
end
section
set_option maxHeartbeats 4000000
namespace Bt
open PySem L2
open PyProof.Rows hiding St
def xName (k : Nat) : Str := (xNames[k]?).getD ""
/-- what is known of the class c -/
structure XC (K : PySem.W.Frag) (cad : Xs) (c : Nat) : Prop where
  ei : PySem.W.excIn K (cad.a c) [.type "ValueError", .type "Exception", .type "BaseException", .type "object"] "ValueError.__new__" = true
  kp : PySem.W.keepIn K (.ref (cad.a c)) = true
  sb : PySem.W.subIn K (.ref (cad.a c)) (.type "BaseException") = some true
  ty : PySem.W.typeIn K (.ref (cad.a c)) = some (.type "type")
  ec : ExcC K (cad.a c)
  em : PySem.W.exmOne K (.ref (cad.a c)) (.ref (cad.a 19)) = some true
  ki : ∀ k, k < 20 → PySem.W.kitOne K (.ref (cad.a c)) (.ref (cad.a k)) = some (subX c k)
  kv : PySem.W.kitOne K (.ref (cad.a c)) (.type "ValueError") = some true
structure XOkC (K : PySem.W.Frag) (mg : Str → Option Value) (cad : Xs) : Prop where
  at_ : ∀ k, k < 20 → mg (xName k) = some (.ref (cad.a k))
  ve : mg "ValueError" = none
  cl : ∀ c, c < 16 → XC K cad c
section
variable {X : Cx} {C : Cc}
theorem pms_raise {c : Nat} {x m : Str} {j : Nat} {p p2 pos1 pos : Pos} (hK : C.K.K = X.K) (hc : X.calm = true) (tk : Takes X C.W) (h : XOkC X.K X.mg C.cad) (hm : c < 16) (hx : xNames[c]? = some x) (hg : Gl X x) (hd : (x == ("__debug__" : Str)) = false) :
    PS X (.Raise (some (.Call (.Name x p) [.Constant (.str m) j p2] [] pos1)) none pos) (tSt C (.raise c)) := by
  have q := h.cl c hm
  have hn : X.mg x = some (.ref (C.cad.a c)) := by
    have := h.at_ c (by omega)
    unfold xName at this
    rw [hx] at this
    exact this
  refine psImp (ps_raise hc tk (pmk_own PySem.F.excBase_ValueError q.ei hn q.kp (raises_own q.sb q.ty) hg hd)) fun D σ H ⟨ρ, S, ι, hE, hS, h⟩ => ?_
  unfold exS at h
  exact h (.ref (C.cad.a c)) none σ H ι (Ext.refl _ _) hS hE ⟨rfl, .inl ⟨rfl, rfl⟩⟩
theorem xf_inj {a b : Addr} (h : xf a = xf b) : a = b := by
  unfold xf at h
  injection h with h _
  injection h with _ h
  injection h with h
  exact Int.ofNat.inj h
/-- the exception that was caught stands at its place -/
def PxOk (X : Cx) (C : Cc) : Prop := ∀ v, C.G[0]? = some v → ∃ c a oe, v = .exc c (xf a) ∧ c < 16 ∧ (a, oe) ∈ X.pn ∧ Zc (.ref (C.cad.a c)) none oe ∧ ∃ vs, oe.data = .fields vs
theorem pm_isx {i k : Nat} {r cn : Str} {p1 p2 p3 pos : Pos} (hK : C.K.K = X.K) (h : XOkC X.K X.mg C.cad) (hp : PxOk X C) (hg : Gl X "isinstance") (hm : X.mg "isinstance" = none) (hN : X.N[i]? = some r) (hv : Vis X.env.scope r) (hd : (r == ("__debug__" : Str)) = false) (hcd : (r == ("__classdict__" : Str)) = false)
    (hk : k < 21) (hx : xNames[k]? = some cn) (hg2 : Gl X cn) (hd2 : (cn == ("__debug__" : Str)) = false) (hn2 : cn ≠ "__name__") : PE X (.Call (.Name "isinstance" p1) [.Name r p2, .Name cn p3] [] pos) (tEv C (.isx i k)) := by
  refine ⟨fun pins s σ H Q I ⟨ρ, S, ι, hE, hS, hq⟩ => ?_⟩
  unfold evE at hq
  cases hr : ρ[i]? with
  | none => rw [hr] at hq; exact (show False from hq).elim
  | some o =>
    cases o with
    | none => rw [hr] at hq; exact (show False from hq).elim
    | some v =>
      rw [hr] at hq
      have hq : PostV C σ ι H (Res.ofO (isxV C.G v k) S) Q := hq
      unfold isxV at hq
      by_cases hG : C.G[0]? = some v
      · rw [if_pos hG] at hq
        obtain ⟨c, a, oe, rfl, hc, hpn, hz, hf⟩ := hp v hG
        have hq : PostV C σ ι H (.ok (.bool (subX c k)) S) Q := hq
        obtain ⟨w, e1, e2⟩ := hE.at_ i _ hr
        have xcl := h.cl c hc
        have ew : w = .ref a := by
          generalize hfs : xf a = fs at e2
          cases e2 with
          | exc e => rw [← hfs] at e; rw [xf_inj e]
        subst ew
        have fin : Q (.bl (subX c k)) H := hq (.bl _) H ι (Ext.refl _ _) hS (.bl _)
        by_cases h20 : k < 20
        · have hn := h.at_ k h20
          unfold xName at hn
          rw [hx] at hn
          have pe := pe_callB (p := p1) (pos := pos) (call_isP (X := X) xcl.ec hpn hz hf) hg hm (by decide +kernel) (pa_cons (pe_var (pos := p2) hN hv hd hcd) (pa_cons (pe_glob (pos := p3) (v := .ref (C.cad.a k)) hg2 hn rfl hd2) pa_nil rfl) rfl) (by decide) (by decide) rfl rfl
          exact pe.run pins s σ H Q I ⟨.ref a, e1, ⟨.ref (C.cad.a k), .ref (C.cad.a k), subX c k, rfl, fun u r => r, xcl.ki k h20, fin⟩⟩
        · have e20 : k = 20 := by omega
          subst e20
          have ecn : cn = "ValueError" := by
            have : some cn = some ("ValueError" : Str) := hx.symm.trans (by decide +kernel)
            exact Option.some.inj this
          subst ecn
          have eb : subX c 20 = true := by unfold subX; simp
          have pe := pe_callB (p := p1) (pos := pos) (call_isP (X := X) xcl.ec hpn hz hf) hg hm (by decide +kernel) (pa_cons (pe_var (pos := p2) hN hv hd hcd) (pa_cons (pe_bltn (pos := p3) (v := .ty "ValueError") hg2 h.ve (by decide +kernel) rfl hn2 hd2) pa_nil rfl) rfl) (by decide) (by decide) rfl rfl
          exact pe.run pins s σ H Q I ⟨.ref a, e1, ⟨.ty "ValueError", .type "ValueError", subX c 20, rfl, fun u r => r, by rw [eb]; exact xcl.kv, fin⟩⟩
      · rw [if_neg hG] at hq
        exact (show False from hq).elim
/-- wanted behind: the value v over the store S -/
def Told (K : Kb) (ι : List Addr) (H : Hp) (S : Store) (v : PV) (Q : VK) : Prop := ∀ x H' ι', Ext ι H ι' H' → StOk K ι' H' S → Rep K ι' H' x v → Q x H'
def hVX (K : Kb) (Q : VK) : VK := fun v H => ∃ ι S x, StOk K ι H S ∧ Rep K ι H v x ∧ Told K ι H S (.tup [.str "told", x]) Q
def hEX (K : Kb) (cad : Xs) (Q : VK) : XK := fun cls d H => ∃ c, c < 16 ∧ ∃ ι S w, cls = .ref (cad.a c) ∧ d = none ∧ StOk K ι H S ∧ hearW[c]? = some w ∧ S.all (Cell.lo S.length) = true ∧ Told K ι H S (.tup [.str w]) Q
/-- what a hearing makes of what it hears -/
def hTT (K : Kb) (cad : Xs) : (XK → Hp → VK → Prop) → Hp → VK → Prop := fun tl H Q => ∀ H', (∀ b o, H b = some o → H' b = some o) → ∀ (Q' : VK) (E' : XK), (∀ v H2, hVX K Q v H2 → Q' v H2) → (∀ cls d H2, hEX K cad Q cls d H2 → E' cls d H2) → tl E' H' Q'
/-- the law's frame: its table, the def that hears -/
def LamOk (k : Nat) (X : Cx) (C : Cc) : Prop := ∃ (g c P : Addr) (pg : Arguments) (bg : List Stmt) (sg : Scope) (dV kV doc pm cdv ct oc : Value) (an od : Option Addr) (osl : Array (Option Value)) (Ng : List Str),
  X.mg "_law_heard" = some (.ref g) ∧ PySem.W.keepIn X.K (.ref g) = true ∧ X.K.lookup g = some ⟨oc, od, .func (PySem.W.fnOf "_law_heard" "_law_heard" pg bg sg dV kV doc pm an cdv ct), osl⟩ ∧ PySem.W.codeIn X.K cdv "_law_heard" = true ∧
  L2.Binds X.K (PySem.W.fnOf "_law_heard" "_law_heard" pg bg sg dV kV doc pm an cdv ct) ["deed"] [] ∧ FnScope Ng ["deed"] sg ∧ Ng[0]? = some ("deed" : Str) ∧ Vis sg "deed" ∧
  LamX.TabB X.base X.mg c P ∧ X.env.code = .ref c ∧ (P, X.env.qual ++ "<lambda>") ∈ C.K.T ∧ (∀ p ∈ C.K.T, p.1 = P → p.2 = X.env.qual ++ "<lambda>") ∧ Room (k + 2) X.A ∧
  ∀ B, LamX.GivesTo X Ng "_law_heard" sg g cdv bg "deed" (X.env.qual ++ "<lambda>") (hTT ⟨X.K, B, C.K.T⟩ C.cad)
abbrev Cc.lam (C : Cc) (E : XK) : Cc := { C with W := fun cls d _ H => E cls d H }
theorem Ext.ofN {ι : List Addr} {H H' : Hp} (e : LamX.ExtN H H') : Ext ι H ι H' := ⟨⟨List.prefix_refl _, fun a o h _ => by
  by_cases hq : ∃ ps, o = .tbl ps
  · exact .inr hq
  · exact .inl (e a o h fun ps z => hq ⟨ps, z⟩), fun _ m => .inl m⟩, fun a o u h => e a _ h fun ps z => by cases z⟩
theorem NX.tbl {o : HO} (h : NX o) : ∀ ps, o ≠ .tbl ps := fun ps z => by rw [z] at h; exact h
theorem StOk.ofN {K : Kb} {ι : List Addr} {H H' : Hp} {S : Store} (s : StOk K ι H S) (e : LamX.ExtN H H') (t : LamX.Tabs K.T H') : StOk K ι H' S := by
  refine ⟨s.len, s.nd, fun b m => ?_, t, fun k a c e1 e2 => ?_⟩
  · obtain ⟨⟨h1, h2⟩, h3⟩ := s.ban' b m
    cases q : H b with
    | none => exact absurd q h1
    | some o =>
      have q' := e b o q (h3 o q).tbl
      exact ⟨⟨by rw [q']; simp, h2⟩, fun u hu => by rw [q'] at hu; cases hu; exact h3 o q⟩
  · have cr := s.cell k a c e1 e2
    exact cr.ext (Ext.ofN e) fun o q => e a o q (cr.nx o q).tbl
/-- no parameter -/
def noPar (p : Arguments) : Bool := p.posonlyargs.isEmpty && p.args.isEmpty && p.vararg.isNone && p.kwonlyargs.isEmpty && p.kw_defaults.isEmpty && p.kwarg.isNone && p.defaults.isEmpty
theorem noPar_eq {p : Arguments} (h : noPar p = true) : p = ⟨[], [], none, [], [], none, []⟩ := by
  obtain ⟨a, b, c, d, e, f, g⟩ := p
  simp only [noPar, Bool.and_eq_true, List.isEmpty_iff, Option.isNone_iff_eq_none] at h
  obtain ⟨⟨⟨⟨⟨⟨rfl, rfl⟩, rfl⟩, rfl⟩, rfl⟩, rfl⟩, rfl⟩ := h
  rfl
theorem hearW_len {c : Nat} {w : Str} (h : hearW[c]? = some w) : c < 16 := (List.getElem?_eq_some_iff.mp h).1
/-- _law_heard(lambda: e) -/
theorem pm_heard {k : Nat} {c : Ex} {params : Arguments} {body : Expr} {scope : Scope} {p lpos pos : Pos} (hK : C.K.K = X.K) (L : LamOk k X C) (hg : Gl X "_law_heard") (hS : LamX.LamS X.env.scope scope) (hp : noPar params = true)
    (hbody : ∀ (A : Around) (outer : List PySem.Env) (s : Shared) (H : Hp) (E : XK) (f c' : Addr), Room k (A.deeper (LamX.lamEnv X scope s.heap.objs.size f c')) → PE (LamX.lamCx X A outer s H E scope f c') body (tEv (C.lam E) c)) :
    PE X (.Call (.Name "_law_heard" p) [.Lambda params body scope lpos] [] pos) (tEv C (.heard c)) := by
  obtain ⟨g, cc, P, pg, bg, sg, dV, kV, doc, pm, cdv, ct, oc, an, od, osl, Ng, h1, h2, h3, h4, h5, h6, h7, h8, TB, hcode, hmT, hu, hr, hG⟩ := L
  have ep := noPar_eq hp
  subst ep
  refine peImp (LamX.pe_lamcall (T := C.K.T) (TT := hTT ⟨X.K, C.K.B, C.K.T⟩ C.cad) (t := fun E => tEv (C.lam E) c) hg h1 h2 h3 h4 h5 h6 h7 h8 (hG C.K.B) TB hcode hmT hu hr hS rfl (fun q cl pm cv ctv => rfl) hbody) fun σ H Q ⟨ρ, S, ι, hE, hSt, h⟩ => ⟨hSt.tab, fun H1 eN T1 H2 kp Q' E' hQ' hE' => ?_⟩
  have hKe : (⟨X.K, C.K.B, C.K.T⟩ : Kb) = C.K := by rw [← hK]
  rw [hKe] at hQ' hE'
  have e2 : LamX.ExtN H H2 := eN.trans (LamX.ExtN.of kp)
  have T2 : LamX.Tabs C.K.T H2 := T1.ext kp
  have ex := Ext.ofN (ι := ι) e2
  refine ⟨ρ, S, ι, hE.ext ex, hSt.ofN e2 T2, ?_⟩
  unfold evE at h
  show PostG (Rep C.K) _ σ ι H2 (evE C.φ C.G c ρ S) _
  cases hv : evE C.φ C.G c ρ S with
  | ok v S' =>
    rw [hv] at h
    have h : PostV C σ ι H (.ok (.tup [.str "told", v]) S') Q := h
    intro x H' ι' e s' r
    exact hQ' _ _ ⟨ι', S', v, s', r, fun x2 H3 ι3 e3 s3 r3 => h x2 H3 ι3 ((ex.trans e).trans e3) s3 r3⟩
  | exc q S' =>
    rw [hv] at h
    cases q with
    | exc cn fs =>
      cases fs with
      | nil =>
        have h : PostV C σ ι H (hearX cn S') Q := h
        unfold hearX at h
        by_cases hl : S'.all (Cell.lo S'.length) = true
        · rw [if_pos hl] at h
          cases hw : hearW[cn]? with
          | none => rw [hw] at h; exact (show False from h).elim
          | some w =>
            rw [hw] at h
            have h : PostV C σ ι H (.ok (.tup [.str w]) S') Q := h
            intro cls d H' ι' e s' r
            obtain ⟨r1, r2⟩ := r
            have hd : d = none := by
              rcases r2 with r2 | ⟨_, _, ⟨_, z⟩, _⟩
              · exact r2.2
              · exact absurd rfl z
            exact hE' _ _ _ ⟨cn, hearW_len hw, ι', S', w, r1, hd, s', hw, hl, fun x2 H3 ι3 e3 s3 r3 => h x2 H3 ι3 ((ex.trans e).trans e3) s3 r3⟩
        · rw [if_neg hl] at h
          exact (show False from h).elim
      | cons f fs => exact (show False from h).elim
    | _ => exact (show False from h).elim
  | stuck => rw [hv] at h; exact (show False from h).elim
end
end Bt
end
section
set_option maxHeartbeats 1000000
namespace Bt
open PySem L2
open PyProof.Rows hiding St
/-- a program's names: the defs with their parameters, the constants -/
structure Tab where
  fns : List (Option (Str × List Str))
  gls : List (Option Str)
  res : Option Str
  x : Bool := false
/-- where an expression stands -/
structure Kx where
  N : List Str
  sc : Scope
  fn : Str → Bool
  law : Bool
  px : Bool
def Kx.blk (κ : Kx) (scope : Scope) : Kx := ⟨κ.N, relS scope κ.sc, fun x => scope.names.lookup x == some .cell, false, false⟩
def visB (sc : Scope) (x : Str) : Bool := match sc.names.lookup x with
  | some .local | some .cell | some .free => true
  | _ => false
def locB (sc : Scope) (x : Str) : Bool := match sc.names.lookup x with
  | some .local | some .cell => true
  | _ => false
def glB (sc : Scope) (x : Str) : Bool := decide (sc.names.lookup x = some .globalImplicit)
def okN (x : Str) : Bool := !(x == ("__debug__" : Str)) && !(x == ("__classdict__" : Str)) && decide (x ≠ "__name__")
def bltNames : List Str := ["len", "isinstance", "all", "any", "tuple", "list", "abs", "sum", "max", "min", "range", "zip", "enumerate", "dict", "int", "bool", "str"]
def bopOf : Operator → Option Bop
  | .Add => some .add
  | .Sub => some .sub
  | .Mult => some .mul
  | .FloorDiv => some .fdiv
  | .Mod => some .mod
  | .Pow => some .pow
  | _ => none
def copOf : CmpOp → Option Cop
  | .Eq => some .eq
  | .NotEq => some .ne
  | .Lt => some .lt
  | .LtE => some .le
  | .Gt => some .gt
  | .GtE => some .ge
  | .In => some .inn
  | .NotIn => some .notin
  | .Is => some .is
  | .IsNot => some .isnot
def chkC (v : PV) (c : Const) : Bool := match v, c with
  | .none, .none => true
  | .bool a, .bool b => a == b
  | .int a, .int b => decide (a = b)
  | .str a, .str b => decide (a = b) && decide (b.length ≤ 1000) && PyData.strOk b
  | _, _ => false
def biName : Bi → Option Str
  | .len => some "len"
  | .all => some "all"
  | .any => some "any"
  | .tuple => some "tuple"
  | .list => some "list"
  | .abs => some "abs"
  | .sum => some "sum"
  | .max => some "max"
  | .min => some "min"
  | .isinst _ => none
def tyName : Ty → Str
  | .int => "int"
  | .bool => "bool"
  | .str => "str"
  | .tuple => "tuple"
  | .list => "list"
mutual
def chkT (κ : Kx) : Tg → Expr → Bool
  | .nm i, e => (match e with
    | .Name x _ => decide (κ.N[i]? = some x) && locB κ.sc x && (κ.fn x || decide (κ.sc.names.lookup x = some .local))
    | _ => false)
  | .tp ts, e => (match e with
    | .Tuple es _ _ => noStar es && decide (es.length = ts.length) && chkTs κ ts es
    | _ => false)
def chkTs (κ : Kx) : List Tg → List Expr → Bool
  | [], es => es.isEmpty
  | t :: ts, es => (match es with
    | e :: es => chkT κ t e && chkTs κ ts es
    | [] => false)
end
def isTupE : Expr → Bool
  | .Tuple .. => true
  | _ => false
def ownP (κ : Kx) (own : List Nat) : List (Str × Nat) := own.map fun i => ((κ.N[i]?).getD "", i)
def isFresh : Ex → Bool
  | .lbin .. | .lst _ | .dic _ | .lc .. | .lc2 .. | .dc .. | .dzip .. | .dlst .. => true
  | _ => false
def chkVar (κ : Kx) (i : Nat) (e : Expr) : Bool := match e with
  | .Name x _ => decide (κ.N[i]? = some x) && visB κ.sc x && okN x
  | _ => false
mutual
def chkE (T : Tab) (κ : Kx) : Ex → Expr → Bool
  | .var i, e => chkVar κ i e
  | .cst v, e => (match e with
    | .Constant c _ _ => chkC v c
    | _ => false)
  | .glo g, e => (match e with
    | .Name x _ => decide (T.gls[g]? = some (some x)) && glB κ.sc x && okN x
    | _ => false)
  | .neg a, e => (match e with
    | .UnaryOp .USub x _ => chkE T κ a x
    | _ => false)
  | .not a, e => (match e with
    | .UnaryOp .Not x _ => chkE T κ a x
    | _ => false)
  | .and a b, e => (match e with
    | .BoolOp .And (x :: y :: rest) pos => chkE T κ a x && (match rest with
      | [] => chkE T κ b y
      | _ :: _ => chkE T κ b (.BoolOp .And (y :: rest) pos))
    | _ => false)
  | .or a b, e => (match e with
    | .BoolOp .Or (x :: y :: rest) pos => chkE T κ a x && (match rest with
      | [] => chkE T κ b y
      | _ :: _ => chkE T κ b (.BoolOp .Or (y :: rest) pos))
    | _ => false)
  | .ite t a b, e => (match e with
    | .IfExp x y z _ => chkE T κ t x && chkE T κ a y && chkE T κ b z
    | _ => false)
  | .bin o a b, e => (match e with
    | .BinOp x op y _ => decide (bopOf op = some o) && chkE T κ a x && chkE T κ b y
    | _ => false)
  | .cmp o a b, e => (match e with
    | .Compare x [op] [y] _ => decide (copOf op = some o) && !isSet y && chkE T κ a x && chkE T κ b y
    | _ => false)
  | .chain o1 o2 a b c, e => (match e with
    | .Compare x [op1, op2] [y, z] _ => decide (copOf op1 = some o1) && decide (copOf op2 = some o2) && !isSet y && !isSet z && chkE T κ a x && chkE T κ b y && chkE T κ c z
    | _ => false)
  | .tup cs, e => (match e with
    | .Tuple es _ _ => noStar es && decide (cs.length ≤ 1000) && chkEs T κ cs es
    | _ => false)
  | .lst cs, e => (match e with
    | .List es _ => noStar es && decide (cs.length ≤ 1000) && chkEs T κ cs es
    | _ => false)
  | .dic kvs, e => (match e with
    | .Dict keys values _ => decide (kvs.length ≤ 15) && decide (keys.length = values.length) && decide (keys.length = kvs.length) && keys.all (·.isSome) && chkD T κ kvs keys values
    | _ => false)
  | .ix a b, e => (match e with
    | .Subscript x y _ => !isSlice y && chkE T κ a x && chkE T κ b y
    | _ => false)
  | .sl a lo hi, e => (match e with
    | .Subscript x (.Slice l u none _) _ => chkE T κ a x && chkO T κ lo l && chkO T κ hi u
    | _ => false)
  | .rev a, e => (match e with
    | .Subscript x (.Slice none none (some (.UnaryOp .USub (.Constant (.int 1) _ _) _)) _) _ => chkE T κ a x
    | _ => false)
  | .call f cs, e => (match e with
    | .Call (.Name x _) es kws _ => (match T.fns[f]? with
      | some (some (y, ps)) => decide (x = y) && glB κ.sc x && okN x && noStar es && decide (es.length ≤ cs.length) && decide (cs.length = ps.length) && decide (kwNames kws = (ps.drop es.length).map some) && chkEs T κ cs (es ++ kws.map (·.value))
      | _ => false)
    | _ => false)
  | .bi b cs, e => (match e with
    | .Call (.Name x _) es [] _ => (match b with
      | .isinst t => decide (x = "isinstance") && glB κ.sc "isinstance" && glB κ.sc (tyName t) && (match es with
        | [y, .Name z _] => decide (z = tyName t) && !isStar y && chkEs T κ cs [y]
        | _ => false)
      | b => decide (biName b = some x) && glB κ.sc x && noStar es && !es.isEmpty && chkEs T κ cs es)
    | _ => false)
  | .me m o cs, e => (match e with
    | .Call (.Attribute x nm apos) es [] cpos => !isCall0 x && noStar es && (apos.endLine == cpos.line) && decide (es.length < 20) && chkE T κ o x && chkEs T κ cs es && (match m with
      | .get1 => decide (nm = "get") && decide (es.length = 1)
      | .get2 => decide (nm = "get") && decide (es.length = 2)
      | .lcount => decide (nm = "count") && decide (es.length = 1)
      | _ => false)
    | _ => false)
  | .dzip a b, e => (match e with
    | .Call (.Name x _) [.Call (.Name y _) [u, v] [] _] [] _ => decide (x = "dict") && decide (y = "zip") && glB κ.sc "dict" && glB κ.sc "zip" && !isStar u && !isStar v && chkE T κ a u && chkE T κ b v
    | _ => false)
  | .dlst a, e => (match e with
    | .Call (.Name x _) [u] [] _ => decide (x = "dict") && glB κ.sc "dict" && !isStar u && chkE T κ a u
    | _ => false)
  | .lc elt tg it ifs own, e => (match e with
    | .ListComp x [⟨t, i, fs, 0⟩] scope _ => blkC κ.N κ.sc scope (ownP κ own) && tg.slots.all (fun s => decide (s ∈ own)) && !isSet i && (match it with
      | .keys j => chkVar κ j i
      | it => chkI T κ it t i) && chkT (κ.blk scope) tg t && chkE T (κ.blk scope) elt x && (match ifs, fs with
      | [], [] => true
      | [c], [f] => chkE T (κ.blk scope) c f
      | _, _ => false)
    | _ => false)
  | .lc2 elt tg it tg2 it2 own own2, e => (match e with
    | .ListComp x [⟨t, i, [], 0⟩, ⟨t2, i2, [], 0⟩] scope _ => blkC κ.N κ.sc scope (ownP κ own) && own2.all (fun s => decide (s ∈ own)) && tg.slots.all (fun s => decide (s ∈ own)) && tg2.slots.all (fun s => decide (s ∈ own2)) && !isSet i && !isSet i2 && chkI T κ it t i && chkT (κ.blk scope) tg t && chkI T (κ.blk scope) it2 t2 i2 && chkT (κ.blk scope) tg2 t2 && chkE T (κ.blk scope) elt x
    | _ => false)
  | .lbin o a b, e => (match e with
    | .BinOp x op y _ => (match o, op with
      | .add, .Add => true
      | .mul, .Mult => true
      | _, _ => false) && chkE T κ a x && chkE T κ b y
    | _ => false)
  | .won a, e => (match e with
    | .Subscript (.Name x _) y _ => !isSlice y && decide (T.res = some x) && glB κ.sc x && okN x && chkE T κ a y
    | _ => false)
  | .dc k v tg it own, e => (match e with
    | .DictComp x y [⟨t, i, [], 0⟩] scope _ => blkC κ.N κ.sc scope (ownP κ own) && tg.slots.all (fun s => decide (s ∈ own)) && !isSet i && (match it with
      | .keys j => chkVar κ j i
      | it => chkI T κ it t i) && chkT (κ.blk scope) tg t && chkE T (κ.blk scope) k x && chkE T (κ.blk scope) v y
    | _ => false)
  | .br c, e => isFresh c && chkE T κ c e
  | .heard c, e => (match e with
    | .Call (.Name x _) [.Lambda params body scope _] [] _ => κ.law && decide (x = "_law_heard") && glB κ.sc "_law_heard" && noPar params && LamX.lamSB κ.sc scope && chkE T ⟨κ.N, scope, fun _ => false, false, false⟩ c body
    | _ => false)
  | .isx i k, e => (match e with
    | .Call (.Name x _) [.Name r _, .Name cn _] [] _ => T.x && κ.px && decide (x = "isinstance") && glB κ.sc "isinstance" && decide (κ.N[i]? = some r) && visB κ.sc r && okN r && decide (k < 21) && decide (xNames[k]? = some cn) && glB κ.sc cn && okN cn
    | _ => false)
def chkEs (T : Tab) (κ : Kx) : List Ex → List Expr → Bool
  | [], es => es.isEmpty
  | c :: cs, es => (match es with
    | e :: es => chkE T κ c e && chkEs T κ cs es
    | [] => false)
def chkO (T : Tab) (κ : Kx) : Option Ex → Option Expr → Bool
  | none, o => o.isNone
  | some c, o => (match o with
    | some e => chkE T κ c e
    | none => false)
def chkD (T : Tab) (κ : Kx) : List (Ex × Ex) → List (Option Expr) → List Expr → Bool
  | [], ks, vs => ks.isEmpty && vs.isEmpty
  | (a, b) :: r, ks, vs => (match ks, vs with
    | some k :: ks, v :: vs => chkE T κ a k && chkE T κ b v && chkD T κ r ks vs
    | _, _ => false)
def chkI (T : Tab) (κ : Kx) : It → Expr → Expr → Bool
  | .seq c, _, e => chkE T κ c e
  | .keys _, _, _ => false
  | .zip a b, t, e => (match e with
    | .Call (.Name x _) [y, z] [] _ => isTupE t && decide (x = "zip") && glB κ.sc "zip" && !isStar y && !isStar z && chkE T κ a y && chkE T κ b z
    | _ => false)
  | .enum a, t, e => (match e with
    | .Call (.Name x _) [y] [] _ => isTupE t && decide (x = "enumerate") && glB κ.sc "enumerate" && !isStar y && chkE T κ a y
    | _ => false)
  | .rng1 a, _, e => (match e with
    | .Call (.Name x _) [y] [] _ => decide (x = "range") && glB κ.sc "range" && !isStar y && chkE T κ a y
    | _ => false)
  | .rng2 a b, _, e => (match e with
    | .Call (.Name x _) [y, z] [] _ => decide (x = "range") && glB κ.sc "range" && !isStar y && !isStar z && chkE T κ a y && chkE T κ b z
    | _ => false)
end
structure EnvF (T : Tab) (k : Nat) (X : Cx) (C : Cc) : Prop where
  hK : C.K.K = X.K
  hT : C.K.T = C.cad.T
  calm : X.calm = true
  nd : X.N.Nodup
  tk : Takes X C.W
  room : Room k X.A
  fns : ∀ (f : Nat) (x : Str) (ps : List Str), T.fns[f]? = some (some (x, ps)) → FOk X.prog X.w X.K X.mg X.base k C.φ C.G C.cad f x ps
  gls : ∀ (g : Nat) (x : Str), T.gls[g]? = some (some x) → ∃ (v : V) (u : Value) (w : PV), X.mg x = some u ∧ RelV v u ∧ C.G[g]? = some w ∧ ∀ B T ι H, Rep ⟨X.K, B, T⟩ ι H v w
  blt : ∀ x ∈ bltNames, X.mg x = none
  res : ∀ x, T.res = some x → ∃ a o, X.mg x = some (.ref a) ∧ X.K.lookup a = some o ∧ resObj o = true
  xs : T.x = true → XOkC X.K X.mg C.cad
structure XOk (k : Nat) (X : Cx) (C : Cc) (κ : Kx) : Prop where
  N : X.N = κ.N
  sc : X.env.scope = κ.sc
  fn : X.fn = κ.fn
  law : κ.law = true → LamOk k X C
  px : κ.px = true → PxOk X C
section
variable {T : Tab} {k : Nat} {X : Cx} {C : Cc} {κ : Kx}
theorem EnvF.bn (h : EnvF T k X C) (D : Addr) : EnvF T k X (C.bn D) := ⟨h.hK, h.hT, h.calm, h.nd, h.tk, h.room, h.fns, h.gls, h.blt, h.res, h.xs⟩
theorem EnvF.blk (h : EnvF T k X C) (D : Addr) (s : Shared) (H : Hp) (scope : Scope) (cenv : PySem.Env) (fp : List Addr) : EnvF T k (X.blk s H scope cenv fp) (C.blk D) :=
  ⟨h.hK, h.hT, h.calm, h.nd, fun u s' ⟨_, _, _, _, _, _, _, _, _, _, _, _, _, _, _, _, w⟩ => w.elim, h.room, h.fns, h.gls, h.blt, h.res, h.xs⟩
theorem XOk.blk (h : XOk k X C κ) {D : Addr} (s : Shared) (H : Hp) (scope : Scope) (cl : List (Str × Addr)) (A : Addr) (fp : List Addr) : XOk k (X.blk s H scope (compEnvC scope cl A X.env) fp) (C.blk D) (κ.blk scope) :=
  ⟨h.N, by show relS scope X.env.scope = relS scope κ.sc; rw [h.sc], rfl, (fun z => nomatch (show false = true from z)), fun z => nomatch (show false = true from z)⟩
theorem XOk.bn (h : XOk k X C κ) {D : Addr} : XOk k X (C.bn D) κ := ⟨h.N, h.sc, h.fn, h.law, h.px⟩
theorem EnvF.units (h : EnvF T k X C) : X.A.units + 65 < cLine := by have := h.room.un; omega
theorem vis_of (hx : XOk k X C κ) {x : Str} (h : visB κ.sc x = true) : Vis X.env.scope x := by
  rw [hx.sc]
  unfold visB at h
  unfold Vis
  split at h
  · rename_i e; exact .inl e
  · rename_i e; exact .inr (.inl e)
  · rename_i e; exact .inr (.inr e)
  · cases h
theorem loc_of (hx : XOk k X C κ) {x : Str} (h : locB κ.sc x = true) : Loc X.env.scope x := by
  rw [hx.sc]
  unfold locB at h
  unfold L2.Loc
  split at h
  · rename_i e; exact .inl e
  · rename_i e; exact .inr e
  · cases h
theorem gl_of (hx : XOk k X C κ) {x : Str} (h : glB κ.sc x = true) : Gl X x := by
  have h : κ.sc.names.lookup x = some .globalImplicit := of_decide_eq_true h
  show X.env.scope.names.lookup x = some .globalImplicit
  rw [hx.sc]
  exact h
theorem okN_of {x : Str} (h : okN x = true) : (x == ("__debug__" : Str)) = false ∧ (x == ("__classdict__" : Str)) = false ∧ x ≠ "__name__" := by
  unfold okN at h
  simp only [Bool.and_eq_true, Bool.not_eq_true', decide_eq_true_eq] at h
  exact ⟨h.1.1, h.1.2, h.2⟩
mutual
theorem sndT (hx : XOk k X C κ) (hf : EnvF T k X C) : ∀ (t : Tg) (e : Expr), chkT κ t e = true → PG X e (gT C t)
  | .nm i, e, h => by
    simp only [chkT] at h
    split at h
    · simp only [Bool.and_eq_true, Bool.or_eq_true, decide_eq_true_eq] at h
      obtain ⟨⟨h1, h2⟩, h3⟩ := h
      refine pmg_nm hf.nd (by rw [hx.N]; exact h1) (loc_of hx h2) ?_
      rcases h3 with h3 | h3
      · exact .inl (by rw [hx.fn]; exact h3)
      · exact .inr (by rw [hx.sc]; exact h3)
    · cases h
  | .tp ts, e, h => by
    simp only [chkT] at h
    split at h
    · simp only [Bool.and_eq_true, decide_eq_true_eq] at h
      obtain ⟨⟨h1, h2⟩, h3⟩ := h
      exact pmg_tp hf.hK hf.calm (sndTs hx hf ts _ h3 h1) h1 h2
    · cases h
theorem sndTs (hx : XOk k X C κ) (hf : EnvF T k X C) : ∀ (ts : List Tg) (es : List Expr), chkTs κ ts es = true → noStar es = true → PGs X es (gTs C ts)
  | [], es, h, _ => by
    simp only [chkTs, List.isEmpty_iff] at h
    subst h
    exact pmgs_nil
  | t :: ts, es, h, hn => by
    simp only [chkTs] at h
    split at h
    · simp only [Bool.and_eq_true] at h
      obtain ⟨n1, n2⟩ := noStar_cons hn
      exact pmgs_cons (sndT hx hf t _ h.1) (sndTs hx hf ts _ h.2 n2) n1
    · cases h
end
end
end Bt
end
section
set_option maxHeartbeats 4000000
namespace Bt
open PySem L2
open PyProof.Rows hiding St
def isBool : Expr → Bool
  | .BoolOp .. => true
  | _ => false
/-- what is known of an expression -/
structure Snd (X : Cx) (C : Cc) (e : Expr) (c : Ex) : Prop where
  pe : PE X e (tEv C c)
  pt : PT X e (tTru C c)
  pf : isFresh c = true → PE X e (tEvF C c)
  pw : isBool e = true → PW X e (tTru C c)
def plainT : Expr → Bool
  | .BoolOp .. | .IfExp .. | .Compare .. => false
  | .UnaryOp .Not _ _ => false
  | _ => true
section
variable {T : Tab} {k : Nat} {X : Cx} {C : Cc} {κ : Kx}
theorem isTrue_of {e : Expr} (h : plainT e = true) (whole : Sem Value) : isTrue e X.env whole = (do let v ← whole; standAt e.pos; holding [v] (truthy v)) := by
  cases e with
  | UnaryOp op a p => cases op <;> first | rfl | cases h
  | BoolOp => cases h
  | IfExp => cases h
  | Compare => cases h
  | _ => rfl
theorem plain_bool {e : Expr} (h : plainT e = true) : isBool e = false := by
  cases e <;> first | rfl | cases h
/-- an expression whose test is its value's truth -/
theorem Snd.plain {e : Expr} {c : Ex} (hK : C.K.K = X.K) (h : PE X e (tEv C c)) (hp : plainT e = true) (hf : isFresh c = false) : Snd X C e c :=
  ⟨h, pmt_val hK h (isTrue_of hp), fun q => (by rw [hf] at q; cases q), fun q => (by rw [plain_bool hp] at q; cases q)⟩
theorem Snd.fresh {e : Expr} {c : Ex} (hK : C.K.K = X.K) (h : PE X e (tEvF C c)) (hp : plainT e = true) : Snd X C e c :=
  ⟨pm_F h, pmt_val hK (pm_F h) (isTrue_of hp), fun _ => h, fun q => (by rw [plain_bool hp] at q; cases q)⟩
theorem pe_bool1 {op : BoolOp} {e : Expr} {t : TE} {pos : Pos} (h : PE X e t) : PE X (.BoolOp op [e] pos) t := ⟨fun pins s σ H Q I q => BoolOp_one (h.run pins s σ H Q I q)⟩
theorem pmt_ite {t a b : Expr} {ct ca cb : Ex} {pos : Pos} (ht : PT X t (tTru C ct)) (ha : PT X a (tTru C ca)) (hb : PT X b (tTru C cb)) : PT X (.IfExp t a b pos) (tTru C (.ite ct ca cb)) := by
  refine ⟨fun pins s σ H Q I ⟨ρ, S, ι, hE, hS, h⟩ => ?_⟩
  unfold evE at h
  rw [Res.bind_assoc] at h
  have e0 : (fun (a : PV) (S : Store) => ((truthR S a).bind fun t S => if t = true then evE C.φ C.G ca ρ S else evE C.φ C.G cb ρ S).bind fun v S => truthR S v) = fun v S => (truthR S v).bind fun b S => if b then (evE C.φ C.G ca ρ S).bind fun v S => truthR S v else (evE C.φ C.G cb ρ S).bind fun v S => truthR S v := by
    funext v S
    cases e : truth (res S v) with
    | none => simp only [truthR, e, Res.ofO, Res.bind]
    | some b => cases b <;> simp only [truthR, e, Res.ofO, Res.bind, if_true, if_false, Bool.false_eq_true]
  rw [e0] at h
  have h1 : tTru C ct σ H fun b H1 => if b = true then tTru C ca σ H1 Q else tTru C cb σ H1 Q := tTru1 (f := fun b S => if b then (evE C.φ C.G ca ρ S).bind fun v S => truthR S v else (evE C.φ C.G cb ρ S).bind fun v S => truthR S v) hE hS h fun b S2 ι2 H2 e s2 h2 => by
    cases b with
    | true => exact iteT ⟨ρ, S2, ι2, hE.ext e, s2, h2⟩
    | false => exact iteF ⟨ρ, S2, ι2, hE.ext e, s2, h2⟩
  show wpAny _ _ (PySem.isTrue t X.env (eval t X.env) >>= fun d => if d = true then PySem.isTrue a X.env (eval a X.env) else PySem.isTrue b X.env (eval b X.env)) _ _ _
  refine wpAny_bind (thn (ht.run pins s σ H _ I h1) fun d s1 ⟨H1, I1, q1⟩ => ?_)
  cases d with
  | true => exact ha.run pins s1 σ H1 Q I1 q1
  | false => exact hb.run pins s1 σ H1 Q I1 q1
theorem op_of (hf : EnvF T k X C) {op : Operator} {o : Bop} (h : bopOf op = some o) : OpR X (binaryOp op) (rP2 C (bop o)) := by
  cases op <;> first
    | (cases h; exact op_addP hf.hK)
    | (cases h; exact op_subP)
    | (cases h; exact op_mulP hf.hK)
    | (cases h; exact op_fdivP)
    | (cases h; exact op_modP)
    | (cases h; exact op_powP)
    | cases h
theorem cop_of (hf : EnvF T k X C) {op : CmpOp} {o : Cop} (h : copOf op = some o) : OpR X (compareOp op) (rC2 C o) := by
  have hu := hf.units
  cases op <;> cases h
  · exact op_eqP hf.hK (by omega)
  · exact op_neP hf.hK (by omega)
  · exact op_ltP
  · exact op_leP
  · exact op_gtP
  · exact op_geP
  · exact op_isP
  · exact op_isnotP
  · exact op_inP hf.hK (by omega)
  · exact op_notinP hf.hK (by omega)
end
end Bt
end
section
set_option maxHeartbeats 4000000
namespace Bt
open PySem L2
open PyProof.Rows hiding St
abbrev SndL (X : Cx) (C : Cc) : List Expr → List Ex → Prop := Paired fun e c => Snd X C e c
section
variable {T : Tab} {k : Nat} {X : Cx} {C : Cc} {κ : Kx}
theorem SndL.len {es : List Expr} {cs : List Ex} (h : SndL X C es cs) : es.length = cs.length := by
  induction h with
  | nil => rfl
  | cons _ _ ih => simp [ih]
theorem SndL.pa {es : List Expr} {cs : List Ex} (h : SndL X C es cs) (hs : noStar es = true) : PA X es (tEvs C cs) := by
  induction h with
  | nil => exact pma_nil
  | cons a _ ih => exact pma_cons' a.pe (ih (noStar_cons hs).2) (noStar_cons hs).1
theorem SndL.pk : ∀ {kws : List Keyword} {cs : List Ex}, SndL X C (kws.map (·.value)) cs → PK X kws (tEvs C cs)
  | [], _, h => by cases h; exact pmk_nil
  | ⟨n, v, p⟩ :: kws, _, h => by
    cases h with
    | cons a t => exact pmk_cons a.pe (SndL.pk t)
theorem SndL.split : ∀ {es fs : List Expr} {cs : List Ex}, SndL X C (es ++ fs) cs → ∃ as bs, cs = as ++ bs ∧ SndL X C es as ∧ SndL X C fs bs
  | [], fs, cs, h => ⟨[], cs, rfl, .nil, h⟩
  | e :: es, fs, cs, h => by
    cases h with
    | cons a t =>
      obtain ⟨as, bs, rfl, h1, h2⟩ := SndL.split t
      exact ⟨_ :: as, bs, rfl, .cons a h1, h2⟩
theorem bi_of (hf : EnvF T k X C) (hx : XOk k X C κ) {b : Bi} {x : Str} {p pos : Pos} {e : Expr} {es : List Expr} {cs : List Ex} (hb : biName b = some x) (hg : Gl X x) (ha : PA X (e :: es) (tEvs C cs)) (hst : noStar (e :: es) = true) : PE X (.Call (.Name x p) (e :: es) [] pos) (tEv C (.bi b cs)) := by
  cases b with
  | len => cases hb; exact pm_biB (cb_len hf.hK) hg (hf.blt _ (by decide)) (by decide +kernel) (by decide) (by decide) ha hst
  | all => cases hb; exact pm_biB (cb_all hf.hK hf.calm) hg (hf.blt _ (by decide)) (by decide +kernel) (by decide) (by decide) ha hst
  | any => cases hb; exact pm_biB (cb_any hf.hK hf.calm) hg (hf.blt _ (by decide)) (by decide +kernel) (by decide) (by decide) ha hst
  | abs => cases hb; exact pm_biB cb_abs hg (hf.blt _ (by decide)) (by decide +kernel) (by decide) (by decide) ha hst
  | sum => cases hb; exact pm_biB (cb_sum hf.calm) hg (hf.blt _ (by decide)) (by decide +kernel) (by decide) (by decide) ha hst
  | max => cases hb; exact pm_biB (cb_max hf.calm) hg (hf.blt _ (by decide)) (by decide +kernel) (by decide) (by decide) ha hst
  | min => cases hb; exact pm_biB (cb_min hf.calm) hg (hf.blt _ (by decide)) (by decide +kernel) (by decide) (by decide) ha hst
  | tuple => cases hb; exact pm_biT (cb_tuple hf.hK) hg (hf.blt _ (by decide)) (by decide +kernel) (by decide) (by decide) ha hst
  | list => cases hb; exact pm_biT (cb_list hf.hK) hg (hf.blt _ (by decide)) (by decide +kernel) (by decide) (by decide) ha hst
  | isinst t => cases hb
theorem ty_boot (t : Ty) : bootBuiltins (tyName t) = some (.type (tyS t)) := by cases t <;> decide +kernel
theorem ty_blt (t : Ty) : tyName t ∈ bltNames := by cases t <;> decide
theorem ty_ok (t : Ty) : tyName t ≠ "__name__" ∧ (tyName t == ("__debug__" : Str)) = false := by cases t <;> decide
theorem cst_of {v : PV} {c : Const} {j : Nat} {pos : Pos} (h : chkC v c = true) : PE X (.Constant c j pos) (tEv C (.cst v)) := by
  cases v with
  | none => cases c <;> first | exact pm_val pe_non (fun _ _ => .non) | cases h
  | bool b =>
    cases c with
    | bool a =>
      have : b = a := by simpa [chkC] using h
      subst this
      exact pm_val pe_bl (fun _ _ => .bl b)
    | _ => cases h
  | int b =>
    cases c with
    | int a =>
      have : b = a := by simpa [chkC] using h
      subst this
      exact pm_val pe_int (fun _ _ => .int b)
    | _ => cases h
  | str b =>
    cases c with
    | str a =>
      simp only [chkC, Bool.and_eq_true, decide_eq_true_eq] at h
      obtain ⟨⟨h1, h2⟩, h3⟩ := h
      subst h1
      exact pm_val pe_str (fun _ _ => .str b (by rw [sizeLine_eq]; omega) h3)
    | _ => cases h
  | _ => cases c <;> cases h
theorem marks2 {op1 op2 : CmpOp} {y z : Expr} (h : isSet z = false) : lastMarks [op1, op2] [y, z] = false := marks_plain h
theorem ownP_map (own : List Nat) : (ownP κ own).map (·.2) = own := by
  unfold ownP
  rw [List.map_map]
  have : ((fun x : Str × Nat => x.2) ∘ fun i => ((κ.N[i]?).getD "", i)) = id := rfl
  rw [this, List.map_id]
theorem blk_ok (hx : XOk k X C κ) {scope : Scope} {own : List Nat} (h : blkC κ.N κ.sc scope (ownP κ own) = true) : BlkOk X.N X.env.scope scope (ownP κ own) := by
  rw [hx.N, hx.sc]
  exact blkOk_by h
end
theorem fresh_plain {T : Tab} {κ : Kx} {c : Ex} {e : Expr} (h1 : isFresh c = true) (h2 : chkE T κ c e = true) : plainT e = true := by
  cases c with
  | lst cs => simp only [chkE] at h2; split at h2 <;> first | rfl | cases h2
  | dic cs => simp only [chkE] at h2; split at h2 <;> first | rfl | cases h2
  | lc => unfold chkE at h2; split at h2 <;> first | rfl | cases h2
  | lc2 => unfold chkE at h2; split at h2 <;> first | rfl | cases h2
  | lbin => unfold chkE at h2; split at h2 <;> first | rfl | cases h2
  | dc => unfold chkE at h2; split at h2 <;> first | rfl | cases h2
  | dzip => simp only [chkE] at h2; split at h2 <;> first | rfl | cases h2
  | dlst => simp only [chkE] at h2; split at h2 <;> first | rfl | cases h2
  | _ => simp [isFresh] at h1
theorem snd_var {T : Tab} {k : Nat} {X : Cx} {C : Cc} {κ : Kx} {i : Nat} {e : Expr} (hx : XOk k X C κ) (hf : EnvF T k X C) (h : chkVar κ i e = true) : PE X e (tEv C (.var i)) := by
  unfold chkVar at h
  split at h
  · simp only [Bool.and_eq_true, decide_eq_true_eq] at h
    obtain ⟨⟨h1, h2⟩, h3⟩ := h
    obtain ⟨o1, o2, o3⟩ := okN_of h3
    exact pm_var (by rw [hx.N]; exact h1) (vis_of hx h2) o1 o2
  · cases h
mutual
theorem sndE (T : Tab) (k : Nat) : ∀ (c : Ex) (e : Expr) (κ : Kx) (X : Cx) (C : Cc), chkE T κ c e = true → XOk k X C κ → EnvF T k X C → Snd X C e c
  | .var i, e, κ, X, C, h, hx, hf => by
    have h : chkVar κ i e = true := by simpa only [chkE] using h
    have hp : plainT e = true := by
      unfold chkVar at h
      split at h
      · rfl
      · cases h
    exact .plain hf.hK (snd_var hx hf h) hp rfl
  | .cst v, e, κ, X, C, h, hx, hf => by
    simp only [chkE] at h
    split at h
    · exact .plain hf.hK (cst_of h) rfl rfl
    · cases h
  | .glo g, e, κ, X, C, h, hx, hf => by
    simp only [chkE] at h
    split at h
    · simp only [Bool.and_eq_true, decide_eq_true_eq] at h
      obtain ⟨⟨h1, h2⟩, h3⟩ := h
      obtain ⟨o1, o2, o3⟩ := okN_of h3
      obtain ⟨v, u, w, m, r, g1, g2⟩ := hf.gls g _ h1
      refine .plain hf.hK (pm_glo (gl_of hx h2) m r g1 (fun ι H => ?_) o1) rfl rfl
      have := g2 C.K.B C.K.T ι H
      rw [← hf.hK] at this
      exact this
    · cases h
  | .neg a, e, κ, X, C, h, hx, hf => by
    simp only [chkE] at h
    split at h
    · exact .plain hf.hK (pm_neg (sndE T k a _ κ X C h hx hf).pe) rfl rfl
    · cases h
  | .not a, e, κ, X, C, h, hx, hf => by
    simp only [chkE] at h
    split at h
    · have i := sndE T k a _ κ X C h hx hf
      exact ⟨pm_not hf.hK i.pe, pmt_not i.pt, fun q => (by cases q), fun q => (by cases q)⟩
    · cases h
  | .and a b, e, κ, X, C, h, hx, hf => by
    simp only [chkE] at h
    split at h
    · rename_i pos
      simp only [Bool.and_eq_true] at h
      obtain ⟨h1, h2⟩ := h
      have i := sndE T k a _ κ X C h1 hx hf
      split at h2
      · have j := sndE T k b _ κ X C h2 hx hf
        have w := pmt_and (pos := pos) i.pt (pw_and1 j.pt)
        exact ⟨pm_and hf.hK i.pe (pe_bool1 j.pe), w.pt, fun q => (by cases q), fun _ => w⟩
      · have j := sndE T k b _ κ X C h2 hx hf
        have w := pmt_and i.pt (j.pw rfl)
        exact ⟨pm_and hf.hK i.pe j.pe, w.pt, fun q => (by cases q), fun _ => w⟩
    · cases h
  | .or a b, e, κ, X, C, h, hx, hf => by
    simp only [chkE] at h
    split at h
    · rename_i pos
      simp only [Bool.and_eq_true] at h
      obtain ⟨h1, h2⟩ := h
      have i := sndE T k a _ κ X C h1 hx hf
      split at h2
      · have j := sndE T k b _ κ X C h2 hx hf
        have w := pmt_or (pos := pos) i.pt (pw_or1 j.pt)
        exact ⟨pm_or hf.hK i.pe (pe_bool1 j.pe), w.pt, fun q => (by cases q), fun _ => w⟩
      · have j := sndE T k b _ κ X C h2 hx hf
        have w := pmt_or i.pt (j.pw rfl)
        exact ⟨pm_or hf.hK i.pe j.pe, w.pt, fun q => (by cases q), fun _ => w⟩
    · cases h
  | .ite t a b, e, κ, X, C, h, hx, hf => by
    simp only [chkE] at h
    split at h
    · simp only [Bool.and_eq_true] at h
      obtain ⟨⟨h1, h2⟩, h3⟩ := h
      have i := sndE T k t _ κ X C h1 hx hf
      have j := sndE T k a _ κ X C h2 hx hf
      have l := sndE T k b _ κ X C h3 hx hf
      exact ⟨pm_ite i.pt j.pe l.pe, pmt_ite i.pt j.pt l.pt, fun q => (by cases q), fun q => (by cases q)⟩
    · cases h
  | .bin o a b, e, κ, X, C, h, hx, hf => by
    simp only [chkE] at h
    split at h
    · simp only [Bool.and_eq_true, decide_eq_true_eq] at h
      obtain ⟨⟨h1, h2⟩, h3⟩ := h
      exact .plain hf.hK (pm_op (op_of hf h1) (sndE T k a _ κ X C h2 hx hf).pe (sndE T k b _ κ X C h3 hx hf).pe) rfl rfl
    · cases h
  | .cmp o a b, e, κ, X, C, h, hx, hf => by
    simp only [chkE] at h
    split at h
    · simp only [Bool.and_eq_true, Bool.not_eq_true', decide_eq_true_eq] at h
      obtain ⟨⟨⟨h1, h2⟩, h3⟩, h4⟩ := h
      have i := sndE T k a _ κ X C h3 hx hf
      have j := sndE T k b _ κ X C h4 hx hf
      exact ⟨pm_cmp (cop_of hf h1) i.pe j.pe (marks_plain h2), pmt_cmp (cop_of hf h1) i.pe j.pe (marks_plain h2), fun q => (by cases q), fun q => (by cases q)⟩
    · cases h
  | .chain o1 o2 a b c, e, κ, X, C, h, hx, hf => by
    simp only [chkE] at h
    split at h
    · simp only [Bool.and_eq_true, Bool.not_eq_true', decide_eq_true_eq] at h
      obtain ⟨⟨⟨⟨⟨⟨h1, h2⟩, h3⟩, h4⟩, h5⟩, h6⟩, h7⟩ := h
      have i := sndE T k a _ κ X C h5 hx hf
      have j := sndE T k b _ κ X C h6 hx hf
      have l := sndE T k c _ κ X C h7 hx hf
      exact ⟨pm_chain (cop_of hf h1) (cop_of hf h2) i.pe j.pe l.pe (pe_chain (cop_of hf h1) (cop_of hf h2) i.pe j.pe l.pe (marks2 h4)), pmt_chain (cop_of hf h1) (cop_of hf h2) i.pe j.pe l.pe (pt_chain (cop_of hf h1) (cop_of hf h2) i.pe j.pe l.pe (marks2 h4)), fun q => (by cases q), fun q => (by cases q)⟩
    · cases h
  | .tup cs, e, κ, X, C, h, hx, hf => by
    simp only [chkE] at h
    split at h
    · simp only [Bool.and_eq_true, decide_eq_true_eq] at h
      obtain ⟨⟨h1, h2⟩, h3⟩ := h
      exact .plain hf.hK (pm_tup ((sndEs T k cs _ κ X C h3 hx hf).pa h1) h2) rfl rfl
    · cases h
  | .lst cs, e, κ, X, C, h, hx, hf => by
    simp only [chkE] at h
    split at h
    · simp only [Bool.and_eq_true, decide_eq_true_eq] at h
      obtain ⟨⟨h1, h2⟩, h3⟩ := h
      exact .fresh hf.hK (pm_lstF ((sndEs T k cs _ κ X C h3 hx hf).pa h1) h2) rfl
    · cases h
  | .dic kvs, e, κ, X, C, h, hx, hf => by
    simp only [chkE] at h
    split at h
    · rename_i keys values pos
      simp only [Bool.and_eq_true, decide_eq_true_eq] at h
      obtain ⟨⟨⟨⟨h1, h2⟩, h3⟩, h4⟩, h5⟩ := h
      have i := sndD T k kvs keys values pos κ X C h5 hx hf
      by_cases h0 : keys = []
      · subst h0
        have e1 : values = [] := List.eq_nil_of_length_eq_zero (by simpa using h2.symm)
        have e2 : kvs = [] := List.eq_nil_of_length_eq_zero (by simpa using h3.symm)
        subst e1 e2
        exact .fresh hf.hK pm_dic0F rfl
      · exact .fresh hf.hK (pm_dicF i h4 h2 h0 (by omega) h1) rfl
    · cases h
  | .ix a b, e, κ, X, C, h, hx, hf => by
    simp only [chkE] at h
    split at h
    · simp only [Bool.and_eq_true, Bool.not_eq_true'] at h
      obtain ⟨⟨h1, h2⟩, h3⟩ := h
      have hu := hf.units
      exact .plain hf.hK (pm_ix hf.hK (by omega) (sndE T k a _ κ X C h2 hx hf).pe (sndE T k b _ κ X C h3 hx hf).pe (plainIx h1)) rfl rfl
    · cases h
  | .sl a lo hi, e, κ, X, C, h, hx, hf => by
    simp only [chkE] at h
    split at h
    · simp only [Bool.and_eq_true] at h
      obtain ⟨⟨h1, h2⟩, h3⟩ := h
      exact .plain hf.hK (pm_sl hf.hK (sndE T k a _ κ X C h1 hx hf).pe (sndO T k lo _ κ X C h2 hx hf) (sndO T k hi _ κ X C h3 hx hf)) rfl rfl
    · cases h
  | .rev a, e, κ, X, C, h, hx, hf => by
    simp only [chkE] at h
    split at h
    · exact .plain hf.hK (pm_rev hf.hK (sndE T k a _ κ X C h hx hf).pe) rfl rfl
    · cases h
  | .call f cs, e, κ, X, C, h, hx, hf => by
    simp only [chkE] at h
    split at h
    · rename_i x p es kws pos
      split at h
      · rename_i y ps hfn
        simp only [Bool.and_eq_true, decide_eq_true_eq] at h
        obtain ⟨⟨⟨⟨⟨⟨⟨h1, h2⟩, h3⟩, h4⟩, h5⟩, h6⟩, h7⟩, h8⟩ := h
        subst h1
        obtain ⟨o1, o2, o3⟩ := okN_of h3
        have i := sndEs T k cs _ κ X C h8 hx hf
        obtain ⟨as, bs, e1, i1, i2⟩ := i.split
        have F := hf.fns f _ ps hfn
        have l1 := i1.len
        cases es with
        | nil =>
          cases i1
          rw [e1]
          exact .plain hf.hK (pm_call0 hf.hK hf.hT F hf.room hf.tk (gl_of hx h2) o1 i2.pk (by rw [e1] at h6; simpa using h6) (by simpa using h7)) rfl rfl
        | cons e0 es =>
          subst e1
          exact .plain hf.hK (pm_call hf.hK hf.hT F hf.room hf.tk (gl_of hx h2) o1 (i1.pa h4) i2.pk h4 (by simpa using h6) (by rw [← l1]; exact h7)) rfl rfl
      · cases h
    · cases h
  | .bi b cs, e, κ, X, C, h, hx, hf => by
    simp only [chkE] at h
    split at h
    · rename_i x p es pos
      cases b with
      | isinst t =>
        simp only [Bool.and_eq_true, decide_eq_true_eq] at h
        obtain ⟨⟨⟨h1, h2⟩, h3⟩, h4⟩ := h
        subst h1
        split at h4
        · simp only [Bool.and_eq_true, Bool.not_eq_true', decide_eq_true_eq] at h4
          obtain ⟨⟨h5, h6⟩, h7⟩ := h4
          subst h5
          have i := sndEs T k cs _ κ X C h7 hx hf
          cases i with
          | cons a t' =>
            cases t'
            exact .plain hf.hK (pm_isi hf.hK (gl_of hx h2) (hf.blt _ (by decide)) (gl_of hx h3) (hf.blt _ (ty_blt t)) (ty_boot t) (ty_ok t).1 (ty_ok t).2 a.pe h6) rfl rfl
        · cases h4
      | _ =>
        simp only [Bool.and_eq_true, Bool.not_eq_true', decide_eq_true_eq] at h
        obtain ⟨⟨⟨⟨h1, h2⟩, h3⟩, h4⟩, h5⟩ := h
        have i := sndEs T k cs _ κ X C h5 hx hf
        cases es with
        | nil => cases h4
        | cons e0 es => exact .plain hf.hK (bi_of hf hx h1 (gl_of hx h2) (i.pa h3) h3) rfl rfl
    · cases h
  | .me m o cs, e, κ, X, C, h, hx, hf => by
    simp only [chkE] at h
    split at h
    · rename_i x nm apos es cpos
      simp only [Bool.and_eq_true, Bool.not_eq_true', decide_eq_true_eq] at h
      obtain ⟨⟨⟨⟨⟨⟨h1, h2⟩, h3⟩, h4⟩, h5⟩, h6⟩, h7⟩ := h
      have io := sndE T k o _ κ X C h5 hx hf
      have i := sndEs T k cs _ κ X C h6 hx hf
      have hu := hf.units
      cases m with
      | get1 =>
        simp only [Bool.and_eq_true, decide_eq_true_eq] at h7
        obtain ⟨rfl, h8⟩ := h7
        match es, cs, i, h2, h8 with
        | [e1], [c1], .cons a .nil, h2, _ => exact .plain hf.hK (pm_get1 (by omega) io.pe a.pe h1 (noStar_cons h2).1 h3) rfl rfl
      | get2 =>
        simp only [Bool.and_eq_true, decide_eq_true_eq] at h7
        obtain ⟨rfl, h8⟩ := h7
        match es, cs, i, h2, h8 with
        | [e1, e2], [c1, c2], .cons a (.cons b .nil), h2, _ => exact .plain hf.hK (pm_get2 (by omega) io.pe a.pe b.pe h1 (noStar_cons h2).1 (noStar_cons (noStar_cons h2).2).1 h3) rfl rfl
      | lcount =>
        simp only [Bool.and_eq_true, decide_eq_true_eq] at h7
        obtain ⟨rfl, h8⟩ := h7
        cases es with
        | nil => cases h8
        | cons e0 es => exact .plain hf.hK (pm_lcount hf.hK hu io.pe (i.pa h2) h1 h2 h3 (by simp at h8; simp [h8])) rfl rfl
      | _ => cases h7
    · cases h
  | .dzip a b, e, κ, X, C, h, hx, hf => by
    simp only [chkE] at h
    split at h
    · simp only [Bool.and_eq_true, Bool.not_eq_true', decide_eq_true_eq] at h
      obtain ⟨⟨⟨⟨⟨⟨⟨h1, h2⟩, h3⟩, h4⟩, h5⟩, h6⟩, h7⟩, h8⟩ := h
      subst h1 h2
      exact .fresh hf.hK (pm_dzipF hf.hK hf.calm (gl_of hx h3) (hf.blt _ (by decide)) (gl_of hx h4) (hf.blt _ (by decide)) (sndE T k a _ κ X C h7 hx hf).pe (sndE T k b _ κ X C h8 hx hf).pe h5 h6) rfl
    · cases h
  | .dlst a, e, κ, X, C, h, hx, hf => by
    simp only [chkE] at h
    split at h
    · simp only [Bool.and_eq_true, Bool.not_eq_true', decide_eq_true_eq] at h
      obtain ⟨⟨⟨h1, h2⟩, h3⟩, h4⟩ := h
      subst h1
      exact .fresh hf.hK (pm_dlstF hf.hK hf.calm (gl_of hx h2) (hf.blt _ (by decide)) (sndE T k a _ κ X C h4 hx hf).pe h3) rfl
    · cases h
  | .lc elt tg it ifs own, e, κ, X, C, h, hx, hf => by
    unfold chkE at h
    split at h
    · rename_i x t i fs scope pos
      simp only [Bool.and_eq_true, Bool.not_eq_true', List.all_eq_true, decide_eq_true_eq] at h
      obtain ⟨⟨⟨⟨⟨⟨h1, h2⟩, h3⟩, h4⟩, h5⟩, h6⟩, h7⟩ := h
      have main : ∀ (ht : ∀ (D : Addr) (s : Shared) (H : Hp) (A : Addr) (cl : List (Str × Addr)) (fp : List Addr), PTs (X.blk s H scope (compEnvC scope cl A X.env) fp) fs (tTs (C.blk D) ifs)), PE X (.ListComp x [⟨t, i, fs, 0⟩] scope pos) (tEvF C (.lc elt tg it ifs own)) := fun ht => by
        have eg := fun (D : Addr) (s : Shared) (H : Hp) (A : Addr) (cl : List (Str × Addr)) (fp : List Addr) => sndT (hx.blk s H scope cl A fp) (hf.blk D s H scope (compEnvC scope cl A X.env) fp) tg t h5
        have ee := fun (D : Addr) (s : Shared) (H : Hp) (A : Addr) (cl : List (Str × Addr)) (fp : List Addr) => (sndE T k elt _ _ _ _ h6 (hx.blk s H scope cl A fp) (hf.blk D s H scope (compEnvC scope cl A X.env) fp)).pe
        split at h4
        · rename_i j
          have iv := snd_var hx hf h4
          have := pm_lcKF (own := ownP κ own) (pos := pos) hf.calm hf.nd iv (blk_ok hx h1) (by rw [ownP_map]; exact h2) eg ht ee h3
          rw [ownP_map] at this
          exact this
        · have ii := sndI T k it t i κ X C h4 hx hf
          have := pm_lcF (own := ownP κ own) (pos := pos) hf.calm hf.nd ii (blk_ok hx h1) (by rw [ownP_map]; exact h2) eg ht ee h3
          rw [ownP_map] at this
          exact this
      split at h7
      · exact .fresh hf.hK (main fun D s H A cl fp => pmts_nil) rfl
      · rename_i c f
        exact .fresh hf.hK (main fun D s H A cl fp => pmts_one (sndE T k c _ _ _ _ h7 (hx.blk s H scope cl A fp) (hf.blk D s H scope _ fp)).pt) rfl
      · cases h7
    · cases h
  | .lc2 elt tg it tg2 it2 own own2, e, κ, X, C, h, hx, hf => by
    unfold chkE at h
    split at h
    · rename_i x t i t2 i2 scope pos
      simp only [Bool.and_eq_true, Bool.not_eq_true', List.all_eq_true, decide_eq_true_eq] at h
      obtain ⟨⟨⟨⟨⟨⟨⟨⟨⟨⟨h1, h2⟩, h3⟩, h4⟩, h5⟩, h6⟩, h7⟩, h8⟩, h9⟩, h10⟩, h11⟩ := h
      have ii := sndI T k it t i κ X C h7 hx hf
      have := pm_lc2F (own := ownP κ own) (own2 := own2) (pos := pos) hf.calm hf.nd ii (blk_ok hx h1) (by rw [ownP_map]; exact h2) (by rw [ownP_map]; exact h3) h4 (fun D s H A cl fp => sndT (hx.blk s H scope cl A fp) (hf.blk D s H scope _ fp) tg t h8) (fun D s H A cl fp => sndI T k it2 t2 i2 _ _ _ h9 (hx.blk s H scope cl A fp) (hf.blk D s H scope _ fp)) (fun D s H A cl fp => sndT (hx.blk s H scope cl A fp) (hf.blk D s H scope _ fp) tg2 t2 h10) (fun D s H A cl fp => (sndE T k elt _ _ _ _ h11 (hx.blk s H scope cl A fp) (hf.blk D s H scope _ fp)).pe) h5 h6
      rw [ownP_map] at this
      exact .fresh hf.hK this rfl
    · cases h
  | .lbin o a b, e, κ, X, C, h, hx, hf => by
    unfold chkE at h
    split at h
    · simp only [Bool.and_eq_true] at h
      obtain ⟨⟨h1, h2⟩, h3⟩ := h
      have ia := (sndE T k a _ κ X C h2 hx hf).pe
      have ib := (sndE T k b _ κ X C h3 hx hf).pe
      split at h1
      · exact .fresh hf.hK (pm_lbinF lb_add ia ib) rfl
      · exact .fresh hf.hK (pm_lbinF lb_mul ia ib) rfl
      · cases h1
    · cases h
  | .won a, e, κ, X, C, h, hx, hf => by
    simp only [chkE] at h
    split at h
    · rename_i x px y pos
      simp only [Bool.and_eq_true, Bool.not_eq_true', decide_eq_true_eq] at h
      obtain ⟨⟨⟨⟨h1, h2⟩, h3⟩, h4⟩, h5⟩ := h
      obtain ⟨o1, o2, o3⟩ := okN_of h4
      obtain ⟨ad, ob, g1, g2, g3⟩ := hf.res x h2
      exact .plain hf.hK (pm_won (gl_of hx h3) g1 g2 g3 o1 (sndE T k a _ κ X C h5 hx hf).pe (plainIx h1)) rfl rfl
    · cases h
  | .dc kc v tg it own, e, κ, X, C, h, hx, hf => by
    unfold chkE at h
    split at h
    · rename_i x y t i scope pos
      simp only [Bool.and_eq_true, Bool.not_eq_true', List.all_eq_true, decide_eq_true_eq] at h
      obtain ⟨⟨⟨⟨⟨⟨h1, h2⟩, h3⟩, h4⟩, h5⟩, h6⟩, h7⟩ := h
      have eg := fun (D : Addr) (s : Shared) (H : Hp) (A : Addr) (cl : List (Str × Addr)) (fp : List Addr) => sndT (hx.blk s H scope cl A fp) (hf.blk D s H scope (compEnvC scope cl A X.env) fp) tg t h5
      have ek := fun (D : Addr) (s : Shared) (H : Hp) (A : Addr) (cl : List (Str × Addr)) (fp : List Addr) => (sndE T k kc _ _ _ _ h6 (hx.blk s H scope cl A fp) (hf.blk D s H scope (compEnvC scope cl A X.env) fp)).pe
      have ev := fun (D : Addr) (s : Shared) (H : Hp) (A : Addr) (cl : List (Str × Addr)) (fp : List Addr) => (sndE T k v _ _ _ _ h7 (hx.blk s H scope cl A fp) (hf.blk D s H scope (compEnvC scope cl A X.env) fp)).pe
      split at h4
      · rename_i j
        have iv := snd_var hx hf h4
        have := pm_dcKF (own := ownP κ own) (pos := pos) hf.calm hf.nd iv (blk_ok hx h1) (by rw [ownP_map]; exact h2) eg ek ev h3
        rw [ownP_map] at this
        exact .fresh hf.hK this rfl
      · have ii := sndI T k it t i κ X C h4 hx hf
        have := pm_dcF (own := ownP κ own) (pos := pos) hf.calm hf.nd ii (blk_ok hx h1) (by rw [ownP_map]; exact h2) eg ek ev h3
        rw [ownP_map] at this
        exact .fresh hf.hK this rfl
    · cases h
  | .br c, e, κ, X, C, h, hx, hf => by
    simp only [chkE, Bool.and_eq_true] at h
    have i := sndE T k c e κ X C h.2 hx hf
    have hp : plainT e = true := fresh_plain h.1 h.2
    exact .plain hf.hK (pm_br (i.pf h.1)) hp rfl
  | .heard c, e, κ, X, C, h, hx, hf => by
    unfold chkE at h
    split at h
    · rename_i x np params body scope lpos pos
      simp only [Bool.and_eq_true, decide_eq_true_eq] at h
      obtain ⟨⟨⟨⟨⟨h1, rfl⟩, h3⟩, h4⟩, h5⟩, h6⟩ := h
      refine .plain hf.hK (pm_heard hf.hK (hx.law h1) (gl_of hx h3) (by rw [hx.sc]; exact LamX.lamS_by h5) h4 fun A outer s H E f c' hr => ?_) rfl rfl
      exact (sndE T k c body _ (LamX.lamCx X A outer s H E scope f c') (C.lam E) h6 ⟨hx.N, rfl, rfl, (fun z => nomatch (show false = true from z)), fun z => nomatch (show false = true from z)⟩ ⟨hf.hK, hf.hT, rfl, hf.nd, takes_of rfl rfl rfl rfl, hr, hf.fns, hf.gls, hf.blt, hf.res, hf.xs⟩).pe
    · cases h
  | .isx i j, e, κ, X, C, h, hx, hf => by
    simp only [chkE] at h
    split at h
    · simp only [Bool.and_eq_true, decide_eq_true_eq] at h
      obtain ⟨⟨⟨⟨⟨⟨⟨⟨⟨⟨h1, h2⟩, rfl⟩, h4⟩, h5⟩, h6⟩, h7⟩, h8⟩, h9⟩, h10⟩, h11⟩ := h
      obtain ⟨o1, o2, o3⟩ := okN_of h7
      obtain ⟨q1, q2, q3⟩ := okN_of h11
      exact .plain hf.hK (pm_isx hf.hK (hf.xs h1) (hx.px h2) (gl_of hx h4) (hf.blt _ (by decide)) (by rw [hx.N]; exact h5) (vis_of hx h6) o1 o2 h8 h9 (gl_of hx h10) q1 q3) rfl rfl
    · cases h
theorem sndEs (T : Tab) (k : Nat) : ∀ (cs : List Ex) (es : List Expr) (κ : Kx) (X : Cx) (C : Cc), chkEs T κ cs es = true → XOk k X C κ → EnvF T k X C → SndL X C es cs
  | [], es, κ, X, C, h, hx, hf => by
    simp only [chkEs, List.isEmpty_iff] at h
    subst h
    exact .nil
  | c :: cs, es, κ, X, C, h, hx, hf => by
    simp only [chkEs] at h
    split at h
    · simp only [Bool.and_eq_true] at h
      exact .cons (sndE T k c _ κ X C h.1 hx hf) (sndEs T k cs _ κ X C h.2 hx hf)
    · cases h
theorem sndO (T : Tab) (k : Nat) : ∀ (c : Option Ex) (o : Option Expr) (κ : Kx) (X : Cx) (C : Cc), chkO T κ c o = true → XOk k X C κ → EnvF T k X C → PO X o (tPt C c)
  | none, o, κ, X, C, h, hx, hf => by
    simp only [chkO, Option.isNone_iff_eq_none] at h
    subst h
    exact po_none
  | some c, o, κ, X, C, h, hx, hf => by
    simp only [chkO] at h
    split at h
    · exact pmo_some (sndE T k c _ κ X C h hx hf).pe
    · cases h
theorem sndD (T : Tab) (k : Nat) : ∀ (kvs : List (Ex × Ex)) (keys : List (Option Expr)) (values : List Expr) (pos : Pos) (κ : Kx) (X : Cx) (C : Cc), chkD T κ kvs keys values = true → XOk k X C κ → EnvF T k X C →
    PPs X pos keys values (kvs.map fun kv => ((fun σ H Q => ∃ D, tEv (C.bn D) kv.1 σ H Q), fun σ H Q => ∃ D, tEv (C.bn D) kv.2 σ H Q))
  | [], keys, values, pos, κ, X, C, h, hx, hf => by
    simp only [chkD, Bool.and_eq_true, List.isEmpty_iff] at h
    obtain ⟨rfl, rfl⟩ := h
    exact pps_nil
  | (a, b) :: r, keys, values, pos, κ, X, C, h, hx, hf => by
    simp only [chkD] at h
    split at h
    · simp only [Bool.and_eq_true] at h
      obtain ⟨⟨h1, h2⟩, h3⟩ := h
      exact pps_cons ⟨fun pins s σ H Q I ⟨D, q⟩ => (sndE T k a _ κ X (C.bn D) h1 hx.bn (hf.bn D)).pe.run pins s σ H Q I q⟩ ⟨fun pins s σ H Q I ⟨D, q⟩ => (sndE T k b _ κ X (C.bn D) h2 hx.bn (hf.bn D)).pe.run pins s σ H Q I q⟩ (sndD T k r _ _ pos κ X C h3 hx hf)
    · cases h
theorem sndI (T : Tab) (k : Nat) : ∀ (it : It) (t e : Expr) (κ : Kx) (X : Cx) (C : Cc), chkI T κ it t e = true → XOk k X C κ → EnvF T k X C → PI X t e (tIt C it)
  | .seq c, t, e, κ, X, C, h, hx, hf => by
    simp only [chkI] at h
    exact pmi_seq hf.hK (sndE T k c _ κ X C h hx hf).pe
  | .keys _, t, e, κ, X, C, h, hx, hf => by
    simp only [chkI] at h
    cases h
  | .zip a b, t, e, κ, X, C, h, hx, hf => by
    simp only [chkI] at h
    split at h
    · simp only [Bool.and_eq_true, Bool.not_eq_true', decide_eq_true_eq] at h
      obtain ⟨⟨⟨⟨⟨⟨h1, h2⟩, h3⟩, h4⟩, h5⟩, h6⟩, h7⟩ := h
      subst h2
      cases t with
      | Tuple elts kk tpos => exact pmi_zip hf.hK (gl_of hx h3) (hf.blt _ (by decide)) (sndE T k a _ κ X C h6 hx hf).pe (sndE T k b _ κ X C h7 hx hf).pe h4 h5
      | _ => cases h1
    · cases h
  | .enum a, t, e, κ, X, C, h, hx, hf => by
    simp only [chkI] at h
    split at h
    · simp only [Bool.and_eq_true, Bool.not_eq_true', decide_eq_true_eq] at h
      obtain ⟨⟨⟨⟨h1, h2⟩, h3⟩, h4⟩, h5⟩ := h
      subst h2
      cases t with
      | Tuple elts kk tpos => exact pmi_enum hf.hK (gl_of hx h3) (hf.blt _ (by decide)) (sndE T k a _ κ X C h5 hx hf).pe h4
      | _ => cases h1
    · cases h
  | .rng1 a, t, e, κ, X, C, h, hx, hf => by
    simp only [chkI] at h
    split at h
    · simp only [Bool.and_eq_true, Bool.not_eq_true', decide_eq_true_eq] at h
      obtain ⟨⟨⟨h1, h2⟩, h3⟩, h4⟩ := h
      subst h1
      exact pmi_rng1 (gl_of hx h2) (hf.blt _ (by decide)) (sndE T k a _ κ X C h4 hx hf).pe h3
    · cases h
  | .rng2 a b, t, e, κ, X, C, h, hx, hf => by
    simp only [chkI] at h
    split at h
    · simp only [Bool.and_eq_true, Bool.not_eq_true', decide_eq_true_eq] at h
      obtain ⟨⟨⟨⟨⟨h1, h2⟩, h3⟩, h4⟩, h5⟩, h6⟩ := h
      subst h1
      exact pmi_rng2 (gl_of hx h2) (hf.blt _ (by decide)) (sndE T k a _ κ X C h5 hx hf).pe (sndE T k b _ κ X C h6 hx hf).pe h3 h4
    · cases h
end
end Bt
end
section
set_option maxHeartbeats 4000000
namespace Bt
open PySem L2
open PyProof.Rows hiding St
def isName : Expr → Bool
  | .Name .. => true
  | _ => false
def isC3 : Ex → Bool
  | .lc .. | .lc2 .. => true
  | .dc _ _ _ it _ => (match it with
    | .keys _ => false
    | _ => true)
  | _ => false
/-- name = [..] that swaps: what it checks -/
def chkLc (T : Tab) (κ : Kx) (c : Ex) (e : Expr) : Bool := match c with
  | .br d => isC3 d && chkE T κ d e
  | d => isC3 d && chkE T κ d e
mutual
def chkS (T : Tab) (κ : Kx) : Sm → Stmt → Bool
  | .asg t c, s => (match s with
    | .Assign [tg] e _ => !isStar tg && chkT κ t tg && decide (swS κ.sc tg e = some none) && (match tg with
      | .Name y py => if swL κ.sc y py e then (match t with
          | .nm i => decide (κ.N[i]? = some y) && chkLc T κ c e
          | .tp _ => false) else chkE T κ c e
      | _ => chkE T κ c e)
    | _ => false)
  | .par is cs, s => (match s with
    | .Assign [.Tuple ts _ _] (.Tuple es _ _) _ => noStar es && (match is, ts, es, cs with
      | [i, j], [.Name x _, .Name y _], [_, _], [_, _] => decide (swT κ.sc ts es = some (some [x, y])) && decide (κ.N[i]? = some x) && decide (κ.N[j]? = some y) && decide (i ≠ j) && decide (κ.sc.names.lookup x = some .local) && decide (κ.sc.names.lookup y = some .local) && chkEs T κ cs es
      | [i, j, l], [.Name x _, .Name y _, .Name z _], [_, _, _], [_, _, _] => decide (swT κ.sc ts es = some (some [x, y, z])) && decide (κ.N[i]? = some x) && decide (κ.N[j]? = some y) && decide (κ.N[l]? = some z) && decide (i ≠ j) && decide (i ≠ l) && decide (j ≠ l) && decide (κ.sc.names.lookup x = some .local) && decide (κ.sc.names.lookup y = some .local) && decide (κ.sc.names.lookup z = some .local) && chkEs T κ cs es
      | _, _, _, _ => false)
    | _ => false)
  | .aug i o c, s => (match s with
    | .AugAssign (.Name x _) op e _ => decide (κ.N[i]? = some x) && locB κ.sc x && (κ.fn x || decide (κ.sc.names.lookup x = some .local)) && (match o, op with
      | .add, .Add => true
      | .sub, .Sub => true
      | _, _ => false) && chkE T κ c e
    | _ => false)
  | .put o k v, s => (match s with
    | .Assign [.Subscript x y _] e _ => !isSlice y && !isComp e && chkE T κ o x && chkE T κ k y && chkE T κ v e
    | _ => false)
  | .augput o k b v, s => (match s with
    | .AugAssign (.Subscript x y _) op e _ => !isSlice y && (match b, op with
      | .add, .Add => true
      | .sub, .Sub => true
      | _, _ => false) && chkE T κ o x && chkE T κ k y && chkE T κ v e
    | _ => false)
  | .app o c, s => (match s with
    | .Expr (.Call (.Attribute x nm apos) [e] [] cpos) _ => decide (nm = "append") && !isCall0 x && !isStar e && (apos.endLine == cpos.line) && chkE T κ o x && chkE T κ c e
    | _ => false)
  | .upd o c, s => (match s with
    | .Expr (.Call (.Attribute x nm apos) [e] [] cpos) _ => decide (nm = "update") && !isCall0 x && !isStar e && (apos.endLine == cpos.line) && chkE T κ o x && chkE T κ c e
    | _ => false)
  | .expr c, s => (match s with
    | .Expr e _ => !isComp e && chkE T κ c e
    | _ => false)
  | .ret c, s => (match s with
    | .Return (some e) _ => chkE T κ c e
    | _ => false)
  | .retN, s => (match s with
    | .Return none _ => true
    | _ => false)
  | .ifs t a b, s => (match s with
    | .If e x y _ => chkE T κ t e && chkSs T κ a x && chkSs T κ b y
    | _ => false)
  | .forr tg it body, s => (match s with
    | .For t e b [] _ => !isSet e && (match it with
      | .keys j => chkVar κ j e
      | it => chkI T κ it t e) && chkT κ tg t && chkSs T κ body b
    | _ => false)
  | .whil t body, s => (match s with
    | .While e b [] _ => chkE T κ t e && chkSs T κ body b
    | _ => false)
  | .brk, s => (match s with
    | .Break _ => true
    | _ => false)
  | .cont, s => (match s with
    | .Continue _ => true
    | _ => false)
  | .pass, s => (match s with
    | .Pass _ => true
    | _ => false)
  | .never, _ => true
  | .raise c, s => (match s with
    | .Raise (some (.Call (.Name x _) [.Constant (.str _) _ _] [] _)) none _ => T.x && decide (c < 16) && decide (xNames[c]? = some x) && glB κ.sc x && okN x
    | _ => false)
def chkSs (T : Tab) (κ : Kx) : List Sm → List Stmt → Bool
  | [], ss => ss.isEmpty
  | c :: cs, ss => (match ss with
    | s :: ss => chkS T κ c s && chkSs T κ cs ss
    | [] => false)
end
theorem sw_other {e t : Expr} {l : Nat} {env : PySem.Env} (h : isName t = false) : swapsWith e (some t) l env = pure false := by
  cases e <;> first | rfl | (cases t <;> first | rfl | cases h)
section
variable {T : Tab} {k : Nat} {X : Cx} {C : Cc} {κ : Kx}
theorem asg_plain (hx : XOk k X C κ) (hf : EnvF T k X C) (hkd : κ.sc.kind = .function) {t : Tg} {c : Ex} {tg e : Expr} {pos : Pos} (h1 : isStar tg = false) (h2 : chkT κ t tg = true) (h3 : swS κ.sc tg e = some none) (h4 : swapsWith e (some tg) pos.line X.env = pure false) (h5 : chkE T κ c e = true) : PS X (.Assign [tg] e pos) (tSt C (.asg t c)) := by
  have hk : X.env.scope.kind = .function := by rw [hx.sc]; exact hkd
  exact pms_asg (sndE T k c e κ X C h5 hx hf).pe (sndT hx hf t tg h2) h4 (swS_ok hk (by rw [hx.sc]; exact h3)) h1
theorem asg_comp (hx : XOk k X C κ) (hf : EnvF T k X C) (hkd : κ.sc.kind = .function) {i : Nat} {c core : Ex} {y : Str} {py : Pos} {e : Expr} {pos : Pos} (h1 : κ.N[i]? = some y) (h2 : swL κ.sc y py e = true) (hc3 : isC3 core = true) (h3 : chkE T κ core e = true)
    (hF : ∀ σ H Q, tEv C c σ H Q → tEvF C core σ H Q) : PS X (.Assign [.Name y py] e pos) (tSt C (.asg (.nm i) c)) := by
  have hk : X.env.scope.kind = .function := by rw [hx.sc]; exact hkd
  have hN : X.N[i]? = some y := by rw [hx.N]; exact h1
  cases core with
  | lc elt tg it ifs own =>
    unfold chkE at h3
    split at h3
    · rename_i x t it' fs scope lpos
      simp only [Bool.and_eq_true, Bool.not_eq_true', List.all_eq_true, decide_eq_true_eq] at h3
      obtain ⟨⟨⟨⟨⟨⟨g1, g2⟩, g3⟩, g4⟩, g5⟩, g6⟩, g7⟩ := h3
      have hloc : X.env.scope.names.lookup y = some .local := by
        rw [hx.sc]
        simp only [swL, Bool.and_eq_true, beq_iff_eq] at h2
        exact h2.1.1
      have hsw : swapsWith (.ListComp x [⟨t, it', fs, 0⟩] scope lpos) (some (.Name y py)) pos.line X.env = pure true := by
        rw [swL_ok hk, hx.sc, h2]
      have hF' : ∀ σ H Q, tEv C c σ H Q → tEvF C (.lc elt tg it ifs ((ownP κ own).map (·.2))) σ H Q := by rw [ownP_map]; exact hF
      have eg := fun (D : Addr) (s : Shared) (H : Hp) (A : Addr) (cl : List (Str × Addr)) (fp : List Addr) => sndT (hx.blk s H scope cl A fp) (hf.blk D s H scope (compEnvC scope cl A X.env) fp) tg t g5
      have ee := fun (D : Addr) (s : Shared) (H : Hp) (A : Addr) (cl : List (Str × Addr)) (fp : List Addr) => (sndE T k elt _ _ _ _ g6 (hx.blk s H scope cl A fp) (hf.blk D s H scope (compEnvC scope cl A X.env) fp)).pe
      have main : ∀ (ht : ∀ (D : Addr) (s : Shared) (H : Hp) (A : Addr) (cl : List (Str × Addr)) (fp : List Addr), PTs (X.blk s H scope (compEnvC scope cl A X.env) fp) fs (tTs (C.blk D) ifs)), PS X (.Assign [.Name y py] (.ListComp x [⟨t, it', fs, 0⟩] scope lpos) pos) (tSt C (.asg (.nm i) c)) := fun ht => by
        split at g4
        · exact pms_setLcK (own := ownP κ own) hf.calm hf.nd (snd_var hx hf g4) (blk_ok hx g1) (by rw [ownP_map]; exact g2) eg ht ee g3 hN hloc hsw hF'
        · exact pms_setLc (own := ownP κ own) hf.calm hf.nd hN hloc hsw (sndI T k it t it' κ X C g4 hx hf) (blk_ok hx g1) (by rw [ownP_map]; exact g2) eg ht ee g3 hF'
      split at g7
      · exact main fun D s H A cl fp => pmts_nil
      · rename_i cc f
        exact main fun D s H A cl fp => pmts_one (sndE T k cc _ _ _ _ g7 (hx.blk s H scope cl A fp) (hf.blk D s H scope _ fp)).pt
      · cases g7
    · cases h3
  | lc2 elt tg it tg2 it2 own own2 =>
    unfold chkE at h3
    split at h3
    · rename_i x t it' t2 it2' scope lpos
      simp only [Bool.and_eq_true, Bool.not_eq_true', List.all_eq_true, decide_eq_true_eq] at h3
      obtain ⟨⟨⟨⟨⟨⟨⟨⟨⟨⟨g1, g2⟩, g3⟩, g4⟩, g5⟩, g6⟩, g7⟩, g8⟩, g9⟩, g10⟩, g11⟩ := h3
      have hloc : X.env.scope.names.lookup y = some .local := by
        rw [hx.sc]
        simp only [swL, Bool.and_eq_true, beq_iff_eq] at h2
        exact h2.1.1
      have hsw : swapsWith (.ListComp x [⟨t, it', [], 0⟩, ⟨t2, it2', [], 0⟩] scope lpos) (some (.Name y py)) pos.line X.env = pure true := by
        rw [swL_ok hk, hx.sc, h2]
      have hF' : ∀ σ H Q, tEv C c σ H Q → tEvF C (.lc2 elt tg it tg2 it2 ((ownP κ own).map (·.2)) own2) σ H Q := by rw [ownP_map]; exact hF
      exact pms_setLc2 (own := ownP κ own) hf.calm hf.nd (sndI T k it t it' κ X C g7 hx hf) (blk_ok hx g1) (by rw [ownP_map]; exact g2) (by rw [ownP_map]; exact g3) g4 (fun D s H A cl fp => sndT (hx.blk s H scope cl A fp) (hf.blk D s H scope _ fp) tg t g8) (fun D s H A cl fp => sndI T k it2 t2 it2' _ _ _ g9 (hx.blk s H scope cl A fp) (hf.blk D s H scope _ fp)) (fun D s H A cl fp => sndT (hx.blk s H scope cl A fp) (hf.blk D s H scope _ fp) tg2 t2 g10) (fun D s H A cl fp => (sndE T k elt _ _ _ _ g11 (hx.blk s H scope cl A fp) (hf.blk D s H scope _ fp)).pe) g5 g6 hN hloc hsw hF'
    · cases h3
  | dc kc v tg it own =>
    unfold chkE at h3
    split at h3
    · rename_i x x2 t it' scope lpos
      simp only [Bool.and_eq_true, Bool.not_eq_true', List.all_eq_true, decide_eq_true_eq] at h3
      obtain ⟨⟨⟨⟨⟨⟨g1, g2⟩, g3⟩, g4⟩, g5⟩, g6⟩, g7⟩ := h3
      have hloc : X.env.scope.names.lookup y = some .local := by
        rw [hx.sc]
        simp only [swL, Bool.and_eq_true, beq_iff_eq] at h2
        exact h2.1.1
      have hsw : swapsWith (.DictComp x x2 [⟨t, it', [], 0⟩] scope lpos) (some (.Name y py)) pos.line X.env = pure true := by
        rw [swL_ok hk, hx.sc, h2]
      have hF' : ∀ σ H Q, tEv C c σ H Q → tEvF C (.dc kc v tg it ((ownP κ own).map (·.2))) σ H Q := by rw [ownP_map]; exact hF
      split at g4
      · cases hc3
      · exact pms_setDc (own := ownP κ own) hf.calm hf.nd hN hloc hsw (sndI T k it t it' κ X C g4 hx hf) (blk_ok hx g1) (by rw [ownP_map]; exact g2) (fun D s H A cl fp => sndT (hx.blk s H scope cl A fp) (hf.blk D s H scope _ fp) tg t g5) (fun D s H A cl fp => (sndE T k kc _ _ _ _ g6 (hx.blk s H scope cl A fp) (hf.blk D s H scope _ fp)).pe) (fun D s H A cl fp => (sndE T k v _ _ _ _ g7 (hx.blk s H scope cl A fp) (hf.blk D s H scope _ fp)).pe) g3 hF'
    · cases h3
  | _ => cases hc3
theorem chkLc_ok {c : Ex} {e : Expr} (h : chkLc T κ c e = true) : ∃ core, isC3 core = true ∧ chkE T κ core e = true ∧ ∀ (C : Cc) σ H Q, tEv C c σ H Q → tEvF C core σ H Q := by
  unfold chkLc at h
  split at h
  · simp only [Bool.and_eq_true] at h
    exact ⟨_, h.1, h.2, fun C => tBr_F⟩
  · simp only [Bool.and_eq_true] at h
    exact ⟨_, h.1, h.2, fun C => tEv_F⟩
end
mutual
theorem sndS (T : Tab) (k : Nat) : ∀ (c : Sm) (s : Stmt) (κ : Kx) (X : Cx) (C : Cc), chkS T κ c s = true → XOk k X C κ → κ.sc.kind = .function → EnvF T k X C → PassesOwn (model X.prog X.w) X.A X.env X.xe → PS X s (tSt C c)
  | .asg t c, s, κ, X, C, h, hx, hkd, hf, hp => by
    have hk : X.env.scope.kind = .function := by rw [hx.sc]; exact hkd
    simp only [chkS] at h
    split at h
    · rename_i tg e pos
      simp only [Bool.and_eq_true, Bool.not_eq_true', decide_eq_true_eq] at h
      obtain ⟨⟨⟨h1, h2⟩, h3⟩, h4⟩ := h
      split at h4
      · rename_i y py
        split at h4
        · rename_i hsw
          split at h4
          · rename_i i
            simp only [Bool.and_eq_true, decide_eq_true_eq] at h4
            obtain ⟨core, g0, g1, g2⟩ := chkLc_ok h4.2
            exact asg_comp hx hf hkd h4.1 hsw g0 g1 (g2 C)
          · cases h4
        · rename_i hsw
          exact asg_plain hx hf hkd h1 h2 h3 (by rw [swL_ok hk, hx.sc]; simp at hsw; rw [hsw]) h4
      · rename_i hnn
        exact asg_plain hx hf hkd h1 h2 h3 (sw_other (by cases tg <;> first | rfl | exact absurd rfl (hnn _ _))) h4
    · cases h
  | .par is cs, s, κ, X, C, h, hx, hkd, hf, hp => by
    have hk : X.env.scope.kind = .function := by rw [hx.sc]; exact hkd
    unfold chkS at h
    split at h
    · rename_i ts k1 p1 es k2 p2 pos
      simp only [Bool.and_eq_true] at h
      obtain ⟨h0, h⟩ := h
      split at h
      · rename_i i j x px y py a b ca cb
        simp only [Bool.and_eq_true, decide_eq_true_eq] at h
        obtain ⟨⟨⟨⟨⟨⟨h1, h2⟩, h3⟩, h4⟩, h5⟩, h6⟩, h7⟩ := h
        exact pms_par2 hf.calm hf.nd (by rw [hx.N]; exact h2) (by rw [hx.N]; exact h3) h4 (by rw [hx.sc]; exact h5) (by rw [hx.sc]; exact h6) ((sndEs T k _ _ κ X C h7 hx hf).pa h0) (swT_ok hk (by rw [hx.sc]; exact h1))
      · rename_i i j l x px y py z pz a b c ca cb cc
        simp only [Bool.and_eq_true, decide_eq_true_eq] at h
        obtain ⟨⟨⟨⟨⟨⟨⟨⟨⟨⟨h1, h2⟩, h3⟩, h4⟩, h5⟩, h6⟩, h7⟩, h8⟩, h9⟩, h10⟩, h11⟩ := h
        exact pms_par3 hf.calm hf.nd (by rw [hx.N]; exact h2) (by rw [hx.N]; exact h3) (by rw [hx.N]; exact h4) h5 h6 h7 (by rw [hx.sc]; exact h8) (by rw [hx.sc]; exact h9) (by rw [hx.sc]; exact h10) ((sndEs T k _ _ κ X C h11 hx hf).pa h0) (swT_ok hk (by rw [hx.sc]; exact h1))
      · cases h
    · cases h
  | .aug i o c, s, κ, X, C, h, hx, hkd, hf, hp => by
    simp only [chkS] at h
    split at h
    · simp only [Bool.and_eq_true, Bool.or_eq_true, decide_eq_true_eq] at h
      obtain ⟨⟨⟨⟨h1, h2⟩, h3⟩, h4⟩, h5⟩ := h
      have hfn := h3.imp (fun q => (show X.fn _ = true by rw [hx.fn]; exact q)) (fun q => (show X.env.scope.names.lookup _ = some NameKind.local by rw [hx.sc]; exact q))
      have i := sndE T k c _ κ X C h5 hx hf
      split at h4
      · exact pms_aug hf.nd (by rw [hx.N]; exact h1) (loc_of hx h2) hfn i.pe ip_addP
      · exact pms_aug hf.nd (by rw [hx.N]; exact h1) (loc_of hx h2) hfn i.pe ip_subP
      · cases h4
    · cases h
  | .put o kk v, s, κ, X, C, h, hx, hkd, hf, hp => by
    simp only [chkS] at h
    split at h
    · simp only [Bool.and_eq_true, Bool.not_eq_true'] at h
      obtain ⟨⟨⟨⟨h1, h2⟩, h3⟩, h4⟩, h5⟩ := h
      have hu := hf.units
      exact pms_put (by omega) (sndE T k o _ κ X C h3 hx hf).pe (sndE T k kk _ κ X C h4 hx hf).pe (sndE T k v _ κ X C h5 hx hf).pe h1 h2
    · cases h
  | .augput o kx b v, s, κ, X, C, h, hx, hkd, hf, hp => by
    unfold chkS at h
    split at h
    · rename_i x y tpos op e pos
      simp only [Bool.and_eq_true, Bool.not_eq_true'] at h
      obtain ⟨⟨⟨⟨h1, h2⟩, h3⟩, h4⟩, h5⟩ := h
      have hu := hf.units
      split at h2
      · exact pms_augput (by omega) (sndE T k o _ κ X C h3 hx hf).pe (sndE T k kx _ κ X C h4 hx hf).pe (sndE T k v _ κ X C h5 hx hf).pe ip_addP h1
      · exact pms_augput (by omega) (sndE T k o _ κ X C h3 hx hf).pe (sndE T k kx _ κ X C h4 hx hf).pe (sndE T k v _ κ X C h5 hx hf).pe ip_subP h1
      · cases h2
    · cases h
  | .app o c, s, κ, X, C, h, hx, hkd, hf, hp => by
    simp only [chkS] at h
    split at h
    · simp only [Bool.and_eq_true, Bool.not_eq_true', decide_eq_true_eq] at h
      obtain ⟨⟨⟨⟨⟨h1, h2⟩, h3⟩, h4⟩, h5⟩, h6⟩ := h
      subst h1
      exact pms_app (sndE T k o _ κ X C h5 hx hf).pe (sndE T k c _ κ X C h6 hx hf).pe h2 h3 h4
    · cases h
  | .upd o c, s, κ, X, C, h, hx, hkd, hf, hp => by
    simp only [chkS] at h
    split at h
    · simp only [Bool.and_eq_true, Bool.not_eq_true', decide_eq_true_eq] at h
      obtain ⟨⟨⟨⟨⟨h1, h2⟩, h3⟩, h4⟩, h5⟩, h6⟩ := h
      subst h1
      exact pms_upd (sndE T k o _ κ X C h5 hx hf).pe (sndE T k c _ κ X C h6 hx hf).pe h2 h3 h4
    · cases h
  | .expr c, s, κ, X, C, h, hx, hkd, hf, hp => by
    simp only [chkS] at h
    split at h
    · simp only [Bool.and_eq_true, Bool.not_eq_true'] at h
      exact pms_expr (sndE T k c _ κ X C h.2 hx hf).pe h.1
    · cases h
  | .ret c, s, κ, X, C, h, hx, hkd, hf, hp => by
    simp only [chkS] at h
    split at h
    · exact pms_ret (sndE T k c _ κ X C h hx hf).pe
    · cases h
  | .retN, s, κ, X, C, h, hx, hkd, hf, hp => by
    simp only [chkS] at h
    split at h
    · exact pms_retN
    · cases h
  | .ifs t a b, s, κ, X, C, h, hx, hkd, hf, hp => by
    simp only [chkS] at h
    split at h
    · simp only [Bool.and_eq_true] at h
      obtain ⟨⟨h1, h2⟩, h3⟩ := h
      exact pms_if (sndE T k t _ κ X C h1 hx hf).pt (sndSs T k a _ κ X C h2 hx hkd hf hp) (sndSs T k b _ κ X C h3 hx hkd hf hp)
    · cases h
  | .forr tg it body, s, κ, X, C, h, hx, hkd, hf, hp => by
    unfold chkS at h
    split at h
    · simp only [Bool.and_eq_true, Bool.not_eq_true'] at h
      obtain ⟨⟨⟨h1, h2⟩, h3⟩, h4⟩ := h
      split at h2
      · exact pms_forK hp hf.calm (snd_var hx hf h2) (sndT hx hf tg _ h3) (sndSs T k body _ κ X C h4 hx hkd hf hp) h1
      · exact pms_for hp hf.calm (sndI T k it _ _ κ X C h2 hx hf) (sndT hx hf tg _ h3) (sndSs T k body _ κ X C h4 hx hkd hf hp) h1
    · cases h
  | .whil t body, s, κ, X, C, h, hx, hkd, hf, hp => by
    simp only [chkS] at h
    split at h
    · simp only [Bool.and_eq_true] at h
      exact pms_while hp (sndE T k t _ κ X C h.1 hx hf).pt (sndSs T k body _ κ X C h.2 hx hkd hf hp)
    · cases h
  | .brk, s, κ, X, C, h, hx, hkd, hf, hp => by
    simp only [chkS] at h
    split at h
    · exact pms_brk
    · cases h
  | .cont, s, κ, X, C, h, hx, hkd, hf, hp => by
    simp only [chkS] at h
    split at h
    · exact pms_cont
    · cases h
  | .pass, s, κ, X, C, h, hx, hkd, hf, hp => by
    simp only [chkS] at h
    split at h
    · exact pms_pass
    · cases h
  | .never, s, κ, X, C, h, hx, hkd, hf, hp => pms_never
  | .raise c, s, κ, X, C, h, hx, hkd, hf, hp => by
    simp only [chkS] at h
    split at h
    · simp only [Bool.and_eq_true, decide_eq_true_eq] at h
      obtain ⟨⟨⟨⟨h1, h2⟩, h3⟩, h4⟩, h5⟩ := h
      exact pms_raise hf.hK hf.calm hf.tk (hf.xs h1) h2 h3 (gl_of hx h4) (okN_of h5).1
    · cases h
theorem sndSs (T : Tab) (k : Nat) : ∀ (cs : List Sm) (ss : List Stmt) (κ : Kx) (X : Cx) (C : Cc), chkSs T κ cs ss = true → XOk k X C κ → κ.sc.kind = .function → EnvF T k X C → PassesOwn (model X.prog X.w) X.A X.env X.xe → PSs X ss (tSs C cs)
  | [], ss, κ, X, C, h, hx, hkd, hf, hp => by
    simp only [chkSs, List.isEmpty_iff] at h
    subst h
    exact pmss_nil
  | c :: cs, ss, κ, X, C, h, hx, hkd, hf, hp => by
    simp only [chkSs] at h
    split at h
    · simp only [Bool.and_eq_true] at h
      exact pmss_cons (sndS T k c _ κ X C h.1 hx hkd hf hp) (sndSs T k cs _ κ X C h.2 hx hkd hf hp)
    · cases h
end
end Bt
end
section
set_option maxHeartbeats 4000000
namespace Bt
open PySem L2
open PyProof.Rows hiding St
section
variable {K : Kb} {ι ι' : List Addr} {H : Hp} {S : Store} {n : Nat}
theorem Away.less {a : Addr} (p : ι <+: ι') (h : Away K ι' a) : Away K ι a := ⟨fun m => h.1 (p.subset m), h.2⟩
theorem get_less {k : Nat} {a : Addr} (p : ι <+: ι') (hn : n = ι.length) (hk : k < n) (h : ι'[k]? = some a) : ι[k]? = some a := by
  obtain ⟨t, rfl⟩ := p
  rw [List.getElem?_append_left (by omega)] at h
  exact h
mutual
theorem Rep.less (p : ι <+: ι') (hn : n = ι.length) : ∀ (x : PV) (v : V), Rep K ι' H v x → x.lo n = true → Rep K ι H v x
  | .none, _, .non, _ => .non
  | .bool b, _, .bl _, _ => .bl b
  | .int i, _, .int _, _ => .int i
  | .str s, _, .str _ h h', _ => .str s h h'
  | .tup xs, _, .tup h a r, l => .tup h (a.less p) (RepL.less p hn xs _ r l)
  | .tup xs, _, .tupK h r, l => .tupK h (RepL.less p hn xs _ r l)
  | .list xs, _, .list h a r, l => .list h (a.less p) (RepL.less p hn xs _ r l)
  | .dict xs, _, .dict h a r, l => .dict h (a.less p) (RepD.less p hn xs _ r l)
  | .ref k, _, .ref h, l => .ref (get_less p hn (by simpa [PV.lo] using l) h)
  | .scr ns, _, .scr h a, _ => .scr h (a.less p)
  | .scr ns, _, .scrK h, _ => .scrK h
  | .exc c fs, _, .exc h, _ => .exc h
theorem RepL.less (p : ι <+: ι') (hn : n = ι.length) : ∀ (xs : List PV) (vs : List V), RepL K ι' H vs xs → loL n xs = true → RepL K ι H vs xs
  | [], _, .nil, _ => .nil
  | x :: xs, _, .cons h r, l => by
    obtain ⟨l1, l2⟩ := Bool.and_eq_true_iff.mp (show (x.lo n && loL n xs) = true from l)
    exact .cons (Rep.less p hn x _ h l1) (RepL.less p hn xs _ r l2)
theorem RepD.less (p : ι <+: ι') (hn : n = ι.length) : ∀ (xs : List (PV × PV)) (es : List (Key × V)), RepD K ι' H es xs → loD n xs = true → RepD K ι H es xs
  | [], _, .nil, _ => .nil
  | (_, x) :: xs, _, @RepD.cons _ _ _ k _ _ _ _ q h r, l => by
    obtain ⟨l1, l2⟩ := Bool.and_eq_true_iff.mp (show ((keyP k).lo n && x.lo n && loD n xs) = true from l)
    exact .cons q (Rep.less p hn x _ h (Bool.and_eq_true_iff.mp l1).2) (RepD.less p hn xs _ r l2)
end
theorem CellRep.less (p : ι <+: ι') (hn : n = ι.length) {a : Addr} {c : Cell} (h : CellRep K ι' H a c) (l : c.lo n = true) : CellRep K ι H a c := by
  cases c with
  | lst xs => obtain ⟨vs, e, r⟩ := h; exact ⟨vs, e, r.less p hn _ _ l⟩
  | dic lk kvs =>
    cases lk with
    | false => obtain ⟨es, e, r⟩ := h; exact ⟨es, e, r.less p hn _ _ l⟩
    | true => obtain ⟨ob, es, e, r⟩ := h; exact ⟨ob, es, e, r.less p hn _ _ l⟩
theorem StOk.less (s : StOk K ι' H S) (p : ι <+: ι') (hn : n = ι.length) (l : (S.take n).all (Cell.lo n) = true) : StOk K ι H (S.take n) := by
  have hle := p.length_le
  refine ⟨by rw [List.length_take, ← s.len]; omega, s.nd.sublist p.sublist, fun b m => ⟨⟨(s.ban b m).1, fun q => (s.ban b m).2 (p.subset q)⟩, (s.ban' b m).2⟩, s.tab, fun k a c e1 e2 => ?_⟩
  have hk : k < n := by rw [hn]; exact (List.getElem?_eq_some_iff.mp e1).1
  rw [List.getElem?_take_of_lt hk] at e2
  refine (s.cell k a c (prefix_get p e1) e2).less p hn ?_
  refine List.all_eq_true.mp l c ?_
  exact List.mem_of_getElem? (i := k) (by rw [List.getElem?_take_of_lt hk]; exact e2)
mutual
theorem frz_rep (s : StOk K ι' H S) (p : ι <+: ι') (hn : n = ι.length) : ∀ (x u : PV) (v : V), Rep K ι' H v x → frz n S x = some u → Rep K ι H v u
  | .ref k, u, _, @Rep.ref _ _ _ _ a h, e => by
    unfold frz at e
    by_cases hk : k < n
    · rw [if_pos hk] at e
      cases e
      exact .ref (get_less p hn hk h)
    · rw [if_neg hk] at e
      have aw : Away K ι a := by
        refine ⟨fun m => ?_, fun m => (s.ban a m).2 (List.mem_of_getElem? h)⟩
        obtain ⟨j, hj⟩ := List.mem_iff_getElem?.mp m
        have e1 := nodup_at s.nd (prefix_get p hj) h
        have := (List.getElem?_eq_some_iff.mp hj).1
        omega
      cases hc : S[k]? with
      | none => rw [hc] at e; cases e
      | some c =>
        rw [hc] at e
        have cr := s.cell k a c h hc
        cases c with
        | lst xs =>
          obtain ⟨vs, e1, r⟩ := cr
          have e : (if loL n xs then some (PV.list xs) else none) = some u := e
          split at e
          · rename_i hl
            cases e
            exact .list (.inl e1) aw (r.less p hn _ _ hl)
          · cases e
        | dic lk kvs =>
          have e : (if loD n kvs then some (PV.dict kvs) else none) = some u := e
          split at e
          · rename_i hl
            cases e
            cases lk with
            | false => obtain ⟨es, e1, r⟩ := cr; exact .dict (.inl e1) aw (r.less p hn _ _ hl)
            | true => obtain ⟨ob, es, e1, r⟩ := cr; exact .dict (.inr ⟨ob, e1⟩) aw (r.less p hn _ _ hl)
          · cases e
  | .tup xs, u, _, .tup h a r, e => by
    unfold frz at e
    obtain ⟨ys, e1, rfl⟩ := Option.map_eq_some_iff.mp e
    exact .tup h (a.less p) (frzL_rep s p hn xs ys _ r e1)
  | .tup xs, u, _, .tupK h r, e => by
    unfold frz at e
    obtain ⟨ys, e1, rfl⟩ := Option.map_eq_some_iff.mp e
    exact .tupK h (frzL_rep s p hn xs ys _ r e1)
  | .none, u, _, .non, e => by unfold frz at e; cases e; exact .non
  | .bool b, u, _, .bl _, e => by unfold frz at e; cases e; exact .bl b
  | .int i, u, _, .int _, e => by unfold frz at e; cases e; exact .int i
  | .str z, u, _, .str _ h h', e => by unfold frz at e; cases e; exact .str z h h'
  | .scr ns, u, _, .scr h a, e => by unfold frz at e; cases e; exact .scr h (a.less p)
  | .scr ns, u, _, .scrK h, e => by unfold frz at e; cases e; exact .scrK h
  | .exc c fs, u, _, .exc h, e => by
    unfold frz at e
    split at e
    · cases e; exact .exc h
    · cases e
  | .list xs, u, _, .list h a r, e => by
    unfold frz at e
    split at e
    · rename_i hl; cases e; exact .list h (a.less p) (r.less p hn _ _ hl)
    · cases e
  | .dict xs, u, _, .dict h a r, e => by
    unfold frz at e
    split at e
    · rename_i hl; cases e; exact .dict h (a.less p) (r.less p hn _ _ hl)
    · cases e
theorem frzL_rep (s : StOk K ι' H S) (p : ι <+: ι') (hn : n = ι.length) : ∀ (xs us : List PV) (vs : List V), RepL K ι' H vs xs → frzL n S xs = some us → RepL K ι H vs us
  | [], us, _, .nil, e => by unfold frzL at e; cases e; exact .nil
  | x :: xs, us, _, .cons h r, e => by
    unfold frzL at e
    obtain ⟨y, e1, e2⟩ := Option.bind_eq_some_iff.mp e
    obtain ⟨ys, e3, rfl⟩ := Option.map_eq_some_iff.mp e2
    exact .cons (frz_rep s p hn x y _ h e1) (frzL_rep s p hn xs ys _ r e3)
end
theorem RepF.less (p : ι <+: ι') (hn : n = ι.length) {gs : List (Str × V)} : ∀ {fs : List (Str × PV)}, RepF K ι' H gs fs → loF n fs = true → RepF K ι H gs fs := by
  intro fs h
  unfold RepF at *
  induction h with
  | nil => intro _; exact .nil
  | @cons a b as bs h _ ih =>
    intro l
    obtain ⟨b1, b2⟩ := b
    obtain ⟨l1, l2⟩ := Bool.and_eq_true_iff.mp (show (b2.lo n && loF n bs) = true from l)
    exact .cons ⟨h.1, Rep.less p hn _ _ h.2 l1⟩ (ih l2)
end
section
variable {C : Cc} {σ : St} {ι ι' : List Addr} {H H' : Hp} {S : Store} {Q : VK}
theorem ExRep.less {n : Nat} {cls : Value} {d : Option Addr} {x : PV} (p : ι <+: ι') (hn : n = ι.length) (h : ExRep C ι' H cls d x) (l : x.lo n = true) : ExRep C ι H cls d x := by
  cases x with
  | exc c fs =>
    obtain ⟨h1, h2⟩ := h
    refine ⟨h1, ?_⟩
    rcases h2 with h2 | ⟨dd, gs, e1, e2, e3, e4⟩
    · exact .inl h2
    · exact .inr ⟨dd, gs, e1, e2, fun m => e3 (p.subset m), RepF.less p hn e4 l⟩
  | _ => exact h
theorem Ext.stay (e : Ext ι H ι' H') : Ext ι H ι H' := ⟨⟨List.prefix_refl _, e.keep', fun _ m => .inl m⟩, e.frz⟩
/-- behind the end of a call -/
theorem finish_ok {v : PV} {S' : Store} {x : V} (hl : ι.length = S.length) (h : PostV C σ ι H (finish S.length (.ok v S')) Q) (e : Ext ι H ι' H') (s' : StOk C.K ι' H' S') (r : Rep C.K ι' H' x v) : Q x H' := by
  unfold finish at h
  dsimp only at h
  split at h
  · exact h x H' ι' e s' r
  · split at h
    · rename_i hlo
      split at h
      · rename_i u hu
        exact h x H' ι e.stay (s'.less e.pre hl.symm hlo) (frz_rep s' e.pre hl.symm v u x r hu)
      · exact h.elim
    · exact h.elim
theorem finish_exc {q : PV} {S' : Store} {cls : Value} {d : Option Addr} (hl : ι.length = S.length) (h : PostV C σ ι H (finish S.length (.exc q S')) Q) (e : Ext ι H ι' H') (s' : StOk C.K ι' H' S') (r : ExRep C ι' H' cls d q) : C.W cls d σ H' := by
  unfold finish at h
  dsimp only at h
  split at h
  · exact h cls d H' ι' e s' r
  · split at h
    · rename_i hlo
      obtain ⟨h1, h2⟩ := Bool.and_eq_true_iff.mp hlo
      exact h cls d H' ι e.stay (s'.less e.pre hl.symm h1) (r.less e.pre hl.symm h2)
    · exact h.elim
end
def chkDf (T : Tab) (lw : Bool) (ps N : List Str) (d : Df) (params : Arguments) (body : List Stmt) (scope : Scope) : Bool :=
  plainPar ps params && decide ps.Nodup && decide N.Nodup && decide (N.take ps.length = ps) && decide (scope.kind = .function) && !scope.isCoroutine && !scope.isGenerator && (ps.all fun x => locB scope x) && (scope.names.all fun y => decide (y.2 ≠ .free)) &&
    decide (d.np = ps.length) && decide (d.nv = N.length) && chkSs T ⟨N, scope, fun _ => true, lw, false⟩ d.body body
structure Pg (K : PySem.W.Frag) (mg : Str → Option Value) (T : Tab) (D : List Df) (G : List PV) (cad : Xs) : Prop where
  gls : ∀ (g : Nat) (x : Str), T.gls[g]? = some (some x) → ∃ (v : V) (u : Value) (w : PV), mg x = some u ∧ RelV v u ∧ G[g]? = some w ∧ ∀ B T ι H, Rep ⟨K, B, T⟩ ι H v w
  blt : ∀ x ∈ bltNames, mg x = none
  defs : ∀ (f : Nat) (x : Str) (ps : List Str), T.fns[f]? = some (some (x, ps)) → ∃ (d : Df) (N : List Str) (y qual : Str) (params : Arguments) (body : List Stmt) (scope : Scope) (kws : List (Str × V)) (a : Addr) (fd : FuncData),
    D[f]? = some d ∧ FunD K y qual params body scope [] kws a fd ∧ mg x = some (.ref a) ∧ chkDf T false ps N d params body scope = true
  xs : T.x = true → XOkC K mg cad
  res : ∀ x, T.res = some x → ∃ a o, mg x = some (.ref a) ∧ K.lookup a = some o ∧ resObj o = true
section
variable {P : Program} {w : World} {K : PySem.W.Frag} {mg : Str → Option Value} {base : Heap} {T : Tab} {D : List Df} {G : List PV} {cad : Xs}
theorem env_start {Kx : Kb} {ι : List Addr} {H : Hp} {vs : List V} {us : List PV} {N : List Str} {m : Nat} (r : RepL Kx ι H vs us) (hm : m = N.length - us.length) : EnvOk Kx ι H (L2.start N vs) (us.map some ++ List.replicate m none) := by
  have hl := r.length
  refine ⟨by unfold L2.start; simp [hl, hm], fun i x q => ?_⟩
  by_cases hi : i < us.length
  · rw [List.getElem?_append_left (by simpa using hi), List.getElem?_map] at q
    obtain ⟨y, e1, e2⟩ := Option.map_eq_some_iff.mp q
    cases e2
    obtain ⟨v, e3, e4⟩ := r.get e1
    refine ⟨v, ?_, e4⟩
    unfold L2.start
    rw [List.getElem?_append_left (by simp; omega), List.getElem?_map, e3]
    rfl
  · rw [List.getElem?_append_right (by simpa using hi), List.getElem?_replicate] at q
    split at q <;> cases q
theorem bind_of {y qual : Str} {params : Arguments} {body : List Stmt} {scope : Scope} {kws : List (Str × V)} {a : Addr} {fd : FuncData} {ps : List Str} (F : FunD K y qual params body scope [] kws a fd) (hp : plainPar ps params = true) (hn : ps.Nodup) :
    ∀ (us ws : List Value), us.length + ws.length = ps.length → bindArgs fd ⟨us, (ps.drop us.length).zip ws⟩ = pure (ps.zip (us ++ ws)) := by
  obtain ⟨oc, od, dV, kV, doc, pm, an, cdv, ct, osl, rfl, lk, hcd, hD, _⟩ := F.ex
  rcases hD with ⟨_, rfl⟩ | ⟨e, _⟩
  · intro us ws hl
    have e := List.take_append_drop us.length ps
    have := bind_kw (ps := ps.take us.length) (qs := ps.drop us.length) (x := y) (qual := qual) (params := params) (body := body) (scope := scope) (kV := kV) (doc := doc) (pm := pm) (an := an) (cdv := cdv) (ct := ct) (us := us) (ws := ws) (by rw [e]; exact hp) (by rw [e]; exact hn) (by rw [List.length_take]; omega) (by rw [List.length_drop]; omega)
    rw [e] at this
    exact this
  · exact absurd rfl e
/-- one def, where the defs that it calls keep what φ says; lw: the law's own, that may hear -/
theorem fn_step (pg : Pg K mg T D G cad) {k j : Nat} (hjk : k ≤ j) (fns : ∀ (f : Nat) (x : Str) (ps : List Str), T.fns[f]? = some (some (x, ps)) → FOk P w K mg base k (callP D G k) G cad f x ps) (lw : Bool)
    {f : Nat} {ps : List Str} {d : Df} {N : List Str} {y qual : Str} {params : Arguments} {body : List Stmt} {scope : Scope} {kws : List (Str × V)} {a : Addr} {fd : FuncData} (hd : D[f]? = some d) (F : FunD K y qual params body scope [] kws a fd) (hc : chkDf T lw ps N d params body scope = true)
    (hlw : lw = true → ∀ (dV kV doc pm cdv ct oc : Value) (an od : Option Addr) (osl : Array (Option Value)), K.lookup a = some ⟨oc, od, .func (PySem.W.fnOf y qual params body scope dV kV doc pm an cdv ct), osl⟩ → ∀ (A : Around) (outer : List PySem.Env) (s : Shared) (H : Hp) (E : XK) (C : Cc), C.K.T = cad.T → C.cad = cad →
      Room j (A.deeper (envOfC qual scope s.heap.objs.size a cdv)) → LamOk k (cxOf (L2.CX P w) P w K mg base N qual scope a cdv A outer s H E) C) :
    FnOk P w K mg base (L2.CX P w) (j + 1) a fd ps (spD K (callP D G (k + 1)) G cad f ps.length) := by
  simp only [chkDf, Bool.and_eq_true, Bool.not_eq_true', decide_eq_true_eq, List.all_eq_true] at hc
  obtain ⟨⟨⟨⟨⟨⟨⟨⟨⟨⟨⟨c1, c2⟩, c3⟩, c4⟩, c5⟩, c6⟩, c7⟩, c8⟩, c9⟩, c10⟩, c11⟩, c12⟩ := hc
  have sc : FnScope N ps scope := ⟨c5, c6, c7, c3, c4, fun z hz => (by
    have := c8 z hz
    unfold locB at this
    split at this
    · rename_i e; exact .inl e
    · rename_i e; exact .inr e
    · cases this), fun z hz => c9 z hz⟩
  obtain ⟨oc, od, dV, kV, doc, pm, an, cdv, ct, osl, rfl, lk, hcd, _, _⟩ := F.ex
  refine fn_of lk hcd sc (fun vs H Q E q => q.1) fun A outer s H vs Q E hr q => ?_
  obtain ⟨hl, B, S, ι, us, hS, r, h⟩ := q
  have hlen := r.length
  have e0 : callP D G (k + 1) f us S = runDf (callP D G k) G d us S := by
    show (match D[f]? with | some d => runDf (callP D G k) G d us S | none => .stuck) = _
    rw [hd]
  rw [e0] at h
  unfold runDf at h
  rw [if_pos (by omega)] at h
  let C : Cc := { K := ⟨K, B, cad.T⟩, φ := callP D G k, G := G, W := fun cls d _ H => E cls d H, cad := cad }
  refine ⟨tSs C d.body, ?_, ?_⟩
  · refine sndSs T k d.body body ⟨N, scope, fun _ => true, lw, false⟩ _ C c12 ⟨rfl, rfl, rfl, fun z => hlw z dV kV doc pm cdv ct oc an od osl lk A outer s H E C rfl rfl hr, fun z => nomatch z⟩ c5 ⟨rfl, rfl, rfl, c3, takes_of rfl rfl rfl rfl, hr.mono hjk, fns, pg.gls, pg.blt, pg.res, pg.xs⟩ (passes_of rfl)
  · refine ⟨us.map some ++ List.replicate (d.nv - d.np) none, S, ι, env_start r (by rw [c10, c11]; omega), hS, ?_⟩
    generalize ho : exSs (callP D G k) G d.body (us.map some ++ List.replicate (d.nv - d.np) none) S = o at h ⊢
    have hS' : ι.length = S.length := hS.len
    cases hkp : d.keep with
    | true =>
      rw [hkp] at h
      dsimp only at h
      rw [if_pos rfl] at h
      cases o with
      | next ρ' S' => exact fun σ' H' ι' e s' _ => h .non H' ι' e s' .non
      | ret v S' => exact fun x H' ι' e s' rx => h x H' ι' e s' rx
      | exc q ρ' S' => exact fun cls d σ' H' ι' e s' _ rx => h cls d H' ι' e s' (by cases q <;> first | exact rx.elim | exact rx)
      | brk ρ' S' => exact h.elim
      | cont ρ' S' => exact h.elim
      | stuck => exact h.elim
    | false =>
      rw [hkp] at h
      dsimp only at h
      rw [if_neg (by decide)] at h
      cases o with
      | next ρ' S' => exact fun σ' H' ι' e s' _ => finish_ok hS' h e s' .non
      | ret v S' => exact fun x H' ι' e s' rx => finish_ok hS' h e s' rx
      | exc q ρ' S' => exact fun cls d σ' H' ι' e s' _ rx => finish_exc hS' h e s' (by cases q <;> first | exact rx.elim | exact rx)
      | brk ρ' S' => exact h.elim
      | cont ρ' S' => exact h.elim
      | stuck => exact h.elim
theorem fn_all (pg : Pg K mg T D G cad) : ∀ (k : Nat) {f : Nat} {x : Str} {ps : List Str}, T.fns[f]? = some (some (x, ps)) → FOk P w K mg base k (callP D G k) G cad f x ps := by
  intro k
  induction k with
  | zero =>
    intro f x ps h
    obtain ⟨d, N, y, qual, params, body, scope, kws, a, fd, hd, F, hm, hc⟩ := pg.defs f x ps h
    simp only [chkDf, Bool.and_eq_true, decide_eq_true_eq] at hc
    obtain ⟨⟨⟨⟨⟨⟨⟨⟨⟨⟨⟨c1, c2⟩, c3⟩, c4⟩, c5⟩, c6⟩, c7⟩, c8⟩, c9⟩, c10⟩, c11⟩, c12⟩ := hc
    refine ⟨a, fd, ⟨fun vs H Q E q => q.1, fun A outer s H args us vs Q E _ _ _ _ q => ?_⟩, hm, F.kp, bind_of F c1 c2⟩
    obtain ⟨_, B, S, ι, ws, _, _, h⟩ := q
    exact (show False from h).elim
  | succ k ih =>
    intro f x ps h
    obtain ⟨d, N, y, qual, params, body, scope, kws, a, fd, hd, F, hm, hc⟩ := pg.defs f x ps h
    have st := fn_step (P := P) (w := w) (base := base) pg (Nat.le_refl k) (fun f x ps h => ih h) false hd F hc (fun z => nomatch z)
    simp only [chkDf, Bool.and_eq_true, decide_eq_true_eq] at hc
    obtain ⟨⟨⟨⟨⟨⟨⟨⟨⟨⟨⟨c1, c2⟩, c3⟩, c4⟩, c5⟩, c6⟩, c7⟩, c8⟩, c9⟩, c10⟩, c11⟩, c12⟩ := hc
    exact ⟨a, fd, st, hm, F.kp, bind_of F c1 c2⟩
end
end Bt
end
section
set_option maxHeartbeats 4000000
namespace Bt
open PySem PySem.Spec L2
open PyProof.Rows hiding St
mutual
def gvB (K : PySem.W.Frag) : PV → Value → Bool
  | .none, u => decide (u = .none)
  | .bool b, u => decide (u = .bool b)
  | .int i, u => (match u with
    | .int j _ => decide (i = j)
    | _ => false)
  | .str z, u => (match u with
    | .str y _ => decide (z = y) && decide (z.length ≤ 1000) && PyData.strOk z
    | _ => false)
  | .tup xs, u => (match u with
    | .ref a => (match K.lookup a with
      | some ⟨.type c, _, .seq its _, _⟩ => decide (c = "tuple") && decide (its.size ≤ 1000) && gvL K xs its.toList
      | _ => false)
    | _ => false)
  | .list _, _ | .dict _, _ | .ref _, _ | .exc _ _, _ | .fn _, _ | .scr _, _ => false
def gvL (K : PySem.W.Frag) : List PV → List Value → Bool
  | [], us => us.isEmpty
  | x :: xs, us => (match us with
    | u :: us => gvB K x u && gvL K xs us
    | [] => false)
end
mutual
theorem gvB_ok {K : PySem.W.Frag} : ∀ (x : PV) (u : Value), gvB K x u = true → ∃ v, RelV v u ∧ ∀ B T ι H, Rep ⟨K, B, T⟩ ι H v x
  | .none, u, h => by
    have h : u = .none := of_decide_eq_true h
    subst h
    exact ⟨.non, rfl, fun _ _ _ _ => .non⟩
  | .bool b, u, h => by
    have h : u = .bool b := of_decide_eq_true h
    subst h
    exact ⟨.bl b, rfl, fun _ _ _ _ => .bl b⟩
  | .int i, u, h => by
    simp only [gvB] at h
    split at h
    · have h := of_decide_eq_true h
      subst h
      exact ⟨.int i, ⟨_, rfl⟩, fun _ _ _ _ => .int i⟩
    · cases h
  | .str z, u, h => by
    simp only [gvB] at h
    split at h
    · simp only [Bool.and_eq_true, decide_eq_true_eq] at h
      obtain ⟨⟨h1, h2⟩, h3⟩ := h
      subst h1
      exact ⟨.str z, ⟨_, rfl⟩, fun _ _ _ _ => .str z (by rw [sizeLine_eq]; omega) h3⟩
    · cases h
  | .tup xs, u, h => by
    simp only [gvB] at h
    split at h
    · rename_i a
      split at h
      · rename_i c dd its n sl hl
        simp only [Bool.and_eq_true, decide_eq_true_eq] at h
        obtain ⟨⟨h1, h2⟩, h3⟩ := h
        subst h1
        obtain ⟨vs, r, hr⟩ := gvL_ok xs its.toList h3
        exact ⟨.ref a, rfl, fun B T ι H => .tupK ⟨_, its, n, hl, rfl, rfl, by rw [sizeLine_eq]; omega, r⟩ (hr B T ι H)⟩
      · cases h
    · cases h
  | .list _, u, h => by simp [gvB] at h
  | .dict _, u, h => by simp [gvB] at h
  | .ref _, u, h => by simp [gvB] at h
  | .exc _ _, u, h => by simp [gvB] at h
  | .fn _, u, h => by simp [gvB] at h
  | .scr _, u, h => by simp [gvB] at h
theorem gvL_ok {K : PySem.W.Frag} : ∀ (xs : List PV) (us : List Value), gvL K xs us = true → ∃ vs, Vals vs us ∧ ∀ B T ι H, RepL ⟨K, B, T⟩ ι H vs xs
  | [], us, h => by
    simp only [gvL, List.isEmpty_iff] at h
    subst h
    exact ⟨[], .nil, fun _ _ _ _ => .nil⟩
  | x :: xs, us, h => by
    simp only [gvL] at h
    split at h
    · simp only [Bool.and_eq_true] at h
      obtain ⟨v, r, hr⟩ := gvB_ok x _ h.1
      obtain ⟨vs, rs, hrs⟩ := gvL_ok xs _ h.2
      exact ⟨v :: vs, .cons r rs, fun B T ι H => .cons (hr B T ι H) (hrs B T ι H)⟩
    · cases h
end
/-- the table of results is marked by a .fn -/
def isMark : PV → Bool
  | .fn _ => true
  | _ => false
def gcB (K : PySem.W.Frag) (x : PV) (u : Value) : Bool := if isMark x then (match u with
    | .ref a => (match K.lookup a with
      | some o => resObj o
      | none => false)
    | _ => false) else gvB K x u
def glsB (gs : List (Option (Str × PV))) (K : PySem.W.Frag) : Bool := gs.all fun g => match g with
  | none => true
  | some g => match PySem.W.nsIn K mainGlobals g.1 with
    | some (some u) => gcB K g.2 u
    | _ => false
def cadOf (K : PySem.W.Frag) (T : List (Addr × Str)) : Xs := ⟨fun k => He.ga K (xName k), T⟩
def exB (K : PySem.W.Frag) (D : Addr) : Bool :=
  decide (PySem.W.findIn K (.ref D) "__getattribute__" = some (some (.builtin "BaseException.__getattribute__"))) && (decide (PySem.W.findIn K (.ref D) "__getattr__" = some none) && (decide (PySem.W.subIn K (.ref D) (.type "BaseException") = some true) && (PySem.W.hasDictIn K D &&
    (decide (PySem.W.findIn K (.ref D) "__class__" = some (some (.builtin "object.__class__"))) && (decide (PySem.W.specialIn K (.builtin "object.__class__") "__get__" = some (some (.builtin "getset_descriptor.__get__"))) && (decide (PySem.W.takesIn K (.builtin "object.__class__") = some true) && decide (PySem.W.mroIn K D (.type "object") = some true)))))))
theorem exB_ok {K : PySem.W.Frag} {D : Addr} (h : exB K D = true) : ExcC K D := by
  unfold exB at h
  simp only [Bool.and_eq_true, decide_eq_true_eq] at h
  obtain ⟨h1, h2, h3, h4, h5, h6, h7, h8⟩ := h
  exact ⟨h1, h2, h3, h4, h5, h6, h7, h8⟩
def xcB1 (K : PySem.W.Frag) (c : Nat) : Bool :=
  PySem.W.excIn K (He.ga K (xName c)) [.type "ValueError", .type "Exception", .type "BaseException", .type "object"] "ValueError.__new__" && (PySem.W.keepIn K (.ref (He.ga K (xName c))) && (decide (PySem.W.subIn K (.ref (He.ga K (xName c))) (.type "BaseException") = some true) && (decide (PySem.W.typeIn K (.ref (He.ga K (xName c))) = some (.type "type")) &&
    (exB K (He.ga K (xName c)) && (decide (PySem.W.exmOne K (.ref (He.ga K (xName c))) (.ref (He.ga K (xName 19))) = some true) && (((List.range 20).all fun k => decide (PySem.W.kitOne K (.ref (He.ga K (xName c))) (.ref (He.ga K (xName k))) = some (subX c k))) && decide (PySem.W.kitOne K (.ref (He.ga K (xName c))) (.type "ValueError") = some true)))))))
def xcB (K : PySem.W.Frag) : Bool := (List.range 16).all (xcB1 K)
theorem xcB_ok {K : PySem.W.Frag} {T : List (Addr × Str)} (h : xcB K = true) : ∀ c, c < 16 → XC K (cadOf K T) c := by
  intro c hc
  have h1 := List.all_eq_true.mp h c (List.mem_range.mpr hc)
  unfold xcB1 at h1
  simp only [Bool.and_eq_true, decide_eq_true_eq] at h1
  obtain ⟨h1, h2, h3, h4, h5, h6, h7, h8⟩ := h1
  exact ⟨h1, h2, h3, h4, exB_ok h5, h6, fun k hk => of_decide_eq_true (List.all_eq_true.mp h7 k (List.mem_range.mpr hk)), h8⟩
/-- the law's code, its table -/
def lawCP (K : PySem.W.Frag) : Option (Addr × Addr) := match K.lookup (He.ga K "law") with
  | some ⟨_, _, .func fd, _⟩ => (match fd.code with
    | .ref c => (match K.lookup c with
      | some ⟨.type t, _, .fields vs, _⟩ => (match (vs[11]? : Option Value), vs.getD 11 .none, vs.getD 18 .none, vs.getD 7 .none, vs.getD 9 .none, vs.getD 10 .none with
        | some (.ref P), .ref P', .str _ _, .int _ _, .bool _, .int _ _ => if t == "code" && P == P' && !(c == P) && (K.lookup P).isNone then some (c, P) else none
        | _, _, _, _, _, _ => none)
      | _ => none)
    | _ => none)
  | _ => none
/-- m: 0 no classes are known, 1 they are, 2 the law hears, too -/
def gB (m : Nat) (gs : List (Option (Str × PV))) (K : PySem.W.Frag) : Bool := glsB gs K && (decide (m = 0) || xcB K) && (!decide (m = 2) || (lawCP K).isSome)
abbrev AlE : Type := He.AlD × Bool
/-- the table of the law's code -/
def lawP (K : PySem.W.Frag) : Option Addr := match K.lookup (He.ga K "law") with
  | some ⟨_, _, .func fd, _⟩ => (match fd.code with
    | .ref c => (match K.lookup c with
      | some ⟨_, _, .fields vs, _⟩ => (match (vs[11]? : Option Value) with
        | some (.ref P) => some P
        | _ => none)
      | _ => none)
    | _ => none)
  | _ => none
/-- the places that are looked at -/
def asX (m n : Nat) (g : Addr → Option Obj) : List Addr := if m = 2 then (match lawP (He.frG g (He.asD g n)) with
  | some P => (He.asD g n).filter fun a => !(a == P)
  | none => He.asD g n) else He.asD g n
def hookE (m : Nat) (n : Nat) (fa : List He.Fa) (fn : List He.DefD) (gs : List (Option (Str × PV))) : PySem.W.Hook where
  α := AlE
  obs := fun s => (He.obsD fa fn (He.frG s.heap.get? (asX m n s.heap.get?)), gB m gs (He.frG s.heap.get? (asX m n s.heap.get?)))
  val := fun _ => (He.valD fn, true)
  says := fun _ h => ∃ K : PySem.W.Frag, K.In h ∧ He.SaysD fa fn K ∧ gB m gs K = true
  of := fun _ _ e => ⟨_, He.frG_in, congrArg (fun z : AlE => z.1) e, congrArg (fun z : AlE => z.2) e⟩
  keeps := fun _ _ _ ⟨K, hK, c⟩ k => ⟨K, PySem.W.Frag.In.keeps hK k, c⟩
def obE (m : Nat) (n : Nat) (fa : List He.Fa) (fn : List He.DefD) (gs : List (Option (Str × PV))) (g : Addr → Option Obj) : AlE := (He.obsD fa fn (He.frG g (asX m n g)), gB m gs (He.frG g (asX m n g)))
theorem obE_eq {m : Nat} {n : Nat} {fa : List He.Fa} {fn : List He.DefD} {gs : List (Option (Str × PV))} {g : Addr → Option Obj} {s : Shared} (h : ∀ a, g a = s.heap.get? a) : obE m n fa fn gs g = (hookE m n fa fn gs).obs s := by
  have e : g = s.heap.get? := funext h
  rw [e] <;> rfl
def heardN : List Str := ["deed", "refused", "found", "some", "names", "word", "e"]
def hkv (k : Nat) : Ex × Ex := (.cst (.str ((hearW[k]?).getD "")), .isx 1 k)
def heardRest : List Sm := [.ifs (.cmp .is (.var 1) (.cst .none)) [.ret (.tup [.cst (.str "told"), .var 2])] [],
  .ifs (.isx 1 16) [.never] [], .ifs (.isx 1 17) [.never] [], .ifs (.isx 1 18) [.never] [],
  .asg (.nm 3) (.br (.dic [hkv 0, hkv 1])), .upd (.var 3) (.dic [hkv 2, hkv 3]), .upd (.var 3) (.dic [hkv 4, hkv 5]), .upd (.var 3) (.dic [hkv 6, hkv 7]), .upd (.var 3) (.dic [hkv 8, hkv 9]), .upd (.var 3) (.dic [hkv 10, hkv 11]), .upd (.var 3) (.dic [hkv 12, hkv 13]), .upd (.var 3) (.dic [hkv 14, hkv 15]),
  .asg (.nm 4) (.lc (.var 5) (.nm 5) (.keys 3) [(.ix (.var 3) (.var 5))] [5]),
  .ret (.ite (.and (.cmp .eq (.bi .len [.var 4]) (.cst (.int 1))) (.isx 1 20)) (.tup [.ix (.var 4) (.cst (.int 0))]) (.tup [.cst (.str "is wrong")]))]
def heardTab : Tab := ⟨[], [], none, true⟩
def isNm (x : Str) : Expr → Bool
  | .Name y _ => decide (y = x)
  | _ => false
def chkHd (params : Arguments) (body : List Stmt) (scope : Scope) : Bool :=
  plainPar ["deed"] params && decide (scope.kind = .function) && !scope.isCoroutine && !scope.isGenerator && (scope.names.all fun y => decide (y.2 ≠ .free)) && ((["deed", "refused", "found", "e"] : List Str).all fun x => decide (scope.names.lookup x = some .local)) && glB scope "BetError" && (match body with
    | .Assign [.Tuple [.Name r1 pr, .Name f1 pf] kx px] (.Tuple [.Constant .none k1 p1, .Constant .none k2 p2] ky py) _ :: .Try [.Assign [.Name f2 _] (.Call (.Name d1 _) [] [] _) _] [.ExceptHandler (some (.Name b1 _)) (some e1) [.Assign [.Name r2 _] (.Name e2 _) _] _] [] [] _ :: rest =>
      decide (r1 = "refused") && decide (f1 = "found") && decide (f2 = "found") && decide (d1 = "deed") && decide (b1 = "BetError") && decide (e1 = "e") && decide (r2 = "refused") && decide (e2 = "e") &&
        decide (swS scope (.Tuple [.Name r1 pr, .Name f1 pf] kx px) (.Tuple [.Constant .none k1 p1, .Constant .none k2 p2] ky py) = some none) && chkSs heardTab ⟨heardN, scope, fun _ => true, false, true⟩ heardRest rest
    | _ => false)
def isOwn (m : Nat) (x : Str) : Bool := decide (m = 2) && (decide (x = "law") || decide (x = "_law_heard"))
def tabOf (m : Nat) (es : List (Option Ent)) (gs : List (Option (Str × PV))) : Tab := ⟨es.map (·.bind fun e => if isOwn m e.x then none else some (e.x, e.ps)), gs.map (fun g => g.bind fun g => if isMark g.2 then none else some g.1), gs.findSome? (fun g => g.bind fun g => if isMark g.2 then some g.1 else none), decide (m ≠ 0)⟩
def chkEnt (m : Nat) (T : Tab) (e : Ent) (d : He.DefD) : Bool := if isOwn m e.x then (if decide (e.x = "law") then chkDf T true e.ps e.N e.d d.params d.body d.scope else chkHd d.params d.body d.scope && decide (d.name = "_law_heard") && decide (d.qual = "_law_heard")) else chkDf T false e.ps e.N e.d d.params d.body d.scope
def chkAll (m : Nat) (T : Tab) : List (Option Ent) → List He.DefD → Bool
  | [], ds => ds.isEmpty
  | none :: es, ds => chkAll m T es ds
  | some e :: es, ds => (match ds with
    | d :: ds => decide (d.at_ = (e.x, none)) && d.dfl.isEmpty && chkEnt m T e d && chkAll m T es ds
    | [] => false)
def faOf (m : Nat) (es : List (Option Ent)) : List He.Fa := es.filterMap (·.map fun e => .glo e.x) ++ (bltNames.map .free ++ if m ≠ 0 then .free "ValueError" :: (List.range 20).map (fun k => .glo (xName k)) else [])
theorem chkAll_get {m : Nat} {T : Tab} : ∀ {es : List (Option Ent)} {ds : List He.DefD} {f : Nat} {e : Ent}, chkAll m T es ds = true → es[f]? = some (some e) → ∃ (j : Nat) (d : He.DefD), ds[j]? = some d ∧ d.at_ = (e.x, none) ∧ d.dfl = [] ∧ chkEnt m T e d = true
  | [], _, _, _, _, h => by simp at h
  | none :: es, ds, f, e, h, he => by
    cases f with
    | zero => simp at he
    | succ f => exact chkAll_get (f := f) (es := es) (by simpa [chkAll] using h) (by simpa using he)
  | some e0 :: es, ds, f, e, h, he => by
    simp only [chkAll] at h
    split at h
    · simp only [Bool.and_eq_true, decide_eq_true_eq, List.isEmpty_iff] at h
      obtain ⟨⟨⟨h1, h2⟩, h3⟩, h4⟩ := h
      cases f with
      | zero =>
        simp at he
        subst he
        exact ⟨0, _, rfl, h1, h2, h3⟩
      | succ f =>
        obtain ⟨j, d, h⟩ := chkAll_get (f := f) h4 (by simpa using he)
        exact ⟨j + 1, d, by simpa using h⟩
    · cases h
section
variable {P : Program} {w : World} {K : PySem.W.Frag} {mg : Str → Option Value} {h : Heap} {es : List (Option Ent)} {gs : List (Option (Str × PV))} {fn : List He.DefD} {m : Nat} {Tl : List (Addr × Str)}
theorem fact_mem {fa : List He.Fa} (c : He.SaysD fa fn K) {f : He.Fa} (m : f ∈ fa) : f.ok K = true := by
  have c1 := (He.ba (show ((fa.all fun f => f.ok K) && fn.all fun d => d.ok K) = true from congrArg (fun z : He.AlD => z.1) c)).1
  exact List.all_eq_true.mp c1 f m
/-- a def of the table at its name -/
theorem ent_of (hc : chkAll m (tabOf m es gs) es fn = true) (X : K.In h) (G : h.Ns mainGlobals mg) (c : He.SaysD (faOf m es) fn K) {f : Nat} {e : Ent} (he : es[f]? = some (some e)) :
    ∃ (d : He.DefD) (fd : FuncData), FunD K d.name d.qual d.params d.body d.scope [] (d.kws K) (He.ga K e.x) fd ∧ mg e.x = some (.ref (He.ga K e.x)) ∧ chkEnt m (tabOf m es gs) e d = true := by
  obtain ⟨j, d, d1, d2, d3, d4⟩ := chkAll_get hc he
  obtain ⟨fd, F⟩ := c.def_ j d1
  have e5 : d.dvs K = [] := by unfold He.DefD.dvs; rw [d3]; rfl
  rw [e5] at F
  have hm := He.glo_ok X G (fact_mem c (f := .glo e.x) (List.mem_append_left _ (List.mem_filterMap.mpr ⟨some e, List.mem_of_getElem? he, rfl⟩)))
  have ea : He.fAd K d.at_ = He.ga K e.x := by rw [d2]; rfl
  rw [ea] at F
  exact ⟨d, fd, F, hm, d4⟩
theorem xs_of (X : K.In h) (G : h.Ns mainGlobals mg) (c : He.SaysD (faOf m es) fn K) (hL : m ≠ 0) (cg : gB m gs K = true) : XOkC K mg (cadOf K Tl) := by
  have hx : xcB K = true := by
    unfold gB at cg
    simp only [Bool.and_eq_true, Bool.or_eq_true, decide_eq_true_eq] at cg
    rcases cg.1.2 with z | z
    · exact absurd z hL
    · exact z
  unfold faOf at c
  rw [if_pos hL] at c
  refine ⟨fun k hk => ?_, ?_, xcB_ok hx⟩
  · exact He.glo_ok X G (fact_mem c (f := .glo (xName k)) (List.mem_append_right _ (List.mem_append_right _ (List.mem_cons_of_mem _ (List.mem_map.mpr ⟨k, List.mem_range.mpr hk, rfl⟩)))))
  · exact He.free_ok X G (fact_mem c (List.mem_append_right _ (List.mem_append_right _ List.mem_cons_self)))
theorem pg_of (hc : chkAll m (tabOf m es gs) es fn = true) (X : K.In h) (G : h.Ns mainGlobals mg) (c : He.SaysD (faOf m es) fn K) (cg : gB m gs K = true) : Pg K mg (tabOf m es gs) (es.map dOf) (gs.map gOf) (cadOf K Tl) := by
  have cg1 : glsB gs K = true := (Bool.and_eq_true_iff.mp (Bool.and_eq_true_iff.mp cg).1).1
  refine ⟨fun g x hg => ?_, fun x m => ?_, fun f x ps hf => ?_, fun hL => xs_of X G c (of_decide_eq_true hL) cg, fun x hx => ?_⟩
  · have hg : (gs.map (fun g => g.bind fun g => if isMark g.2 then none else some g.1))[g]? = some (some x) := hg
    rw [List.getElem?_map] at hg
    obtain ⟨q, e1, e2⟩ := Option.map_eq_some_iff.mp hg
    obtain ⟨q, rfl, e4⟩ := Option.bind_eq_some_iff.mp e2
    have e3 := List.all_eq_true.mp cg1 (some q) (List.mem_of_getElem? e1)
    dsimp only at e3
    split at e4
    · cases e4
    · rename_i hmk
      split at e3
      · rename_i u hu
        unfold gcB at e3
        rw [if_neg hmk] at e3
        obtain ⟨v, r, hr⟩ := gvB_ok q.2 u e3
        cases e4
        exact ⟨v, u, q.2, PySem.W.mg_of X G hu, r, by rw [List.getElem?_map, e1]; rfl, hr⟩
      · cases e3
  · exact He.free_ok X G (fact_mem c (List.mem_append_right _ (List.mem_append_left _ (List.mem_map.mpr ⟨x, m, rfl⟩))))
  · have hf : (es.map (·.bind fun e => if isOwn m e.x then none else some (e.x, e.ps)))[f]? = some (some (x, ps)) := hf
    rw [List.getElem?_map] at hf
    obtain ⟨e, e1, e2⟩ := Option.map_eq_some_iff.mp hf
    obtain ⟨e, rfl, e4⟩ := Option.bind_eq_some_iff.mp e2
    split at e4
    · cases e4
    · rename_i hown
      cases e4
      obtain ⟨d, fd, F, hm, d4⟩ := ent_of hc X G c e1
      unfold chkEnt at d4
      rw [if_neg hown] at d4
      exact ⟨e.d, e.N, d.name, d.qual, d.params, d.body, d.scope, d.kws K, He.ga K e.x, fd, by rw [List.getElem?_map, e1]; rfl, F, hm, d4⟩
  · have hx : gs.findSome? (fun g => g.bind fun g => if isMark g.2 then some g.1 else none) = some x := hx
    obtain ⟨g, m, e⟩ := List.exists_of_findSome?_eq_some hx
    obtain ⟨q, rfl, e4⟩ := Option.bind_eq_some_iff.mp e
    have e3 := List.all_eq_true.mp cg1 (some q) m
    dsimp only at e3
    split at e4
    · rename_i hmk
      cases e4
      split at e3
      · rename_i u hu
        unfold gcB at e3
        rw [if_pos hmk] at e3
        split at e3
        · rename_i a
          split at e3
          · rename_i o ho
            exact ⟨a, o, PySem.W.mg_of X G hu, ho, e3⟩
          · cases e3
        · cases e3
      · cases e3
    · cases e4
/-- the law, where the evaluator says True at every script -/
theorem law_end {n k f : Nat} {fa : Addr} (pg : Pg K mg (tabOf m es gs) (es.map dOf) (gs.map gOf) (cadOf K [])) (hf : (tabOf m es gs).fns[f]? = some (some (("law" : Str), [("script" : Str)]))) (hfa : mg ("law" : Str) = some (.ref fa))
    (run : ∀ ns : List Int, ns.length ≤ n → ∃ S, callP (es.map dOf) (gs.map gOf) k f [.scr ns] [] = .ok (.bool true) S) :
    ∃ (fd : FuncData) (sp : Sp), (∀ (s : Shared) (u : Value), BindsTo s fd ⟨[u], []⟩ [("script", u)]) ∧ (∀ (H : Hp) (a : Addr) (ns : List Int), ns.length ≤ n → Only H → SqL K H a (ns.map V.int) → sp [.ref a] H (fun v _ => v = .bl true) fun _ _ _ => False) ∧
      ∀ base : Heap, K.In base → base.Ns mainGlobals mg → FnOk P w K mg base CX0 k fa fd ["script"] sp := by
  obtain ⟨d, N, y, qual, params, body, scope, kws, a, fd, hd, F, hm, hc⟩ := pg.defs f _ _ hf
  have ea : fa = a := by rw [hfa] at hm; cases hm; rfl
  subst ea
  have hc0 := hc
  simp only [chkDf, Bool.and_eq_true, decide_eq_true_eq] at hc
  obtain ⟨⟨⟨⟨⟨⟨⟨⟨⟨⟨⟨c1, c2⟩, _⟩, _⟩, _⟩, _⟩, _⟩, _⟩, _⟩, _⟩, _⟩, _⟩ := hc
  have bnd := bind_of F c1 c2
  refine ⟨fd, fun vs H Q E => spD K (callP (es.map dOf) (gs.map gOf) k) (gs.map gOf) (cadOf K []) f 1 vs H Q fun _ _ _ => False, fun s u => ?_, fun H ad ns hl _ sq => ?_, fun base _ _ => ?_⟩
  · intro M A Q E q
    have := bnd [u] [] rfl
    rw [show (["script"] : List Str).drop [u].length = [] from rfl] at this
    have e : bindArgs fd ⟨[u], []⟩ = pure [(("script" : Str), u)] := this
    rw [e]
    exact wpAny_pure q
  · obtain ⟨S, e⟩ := run ns hl
    refine ⟨rfl, [], [], [], [.scr ns], ⟨rfl, List.nodup_nil, fun b m => by simp at m, fun p hp => by simp [cadOf] at hp, fun k a c e => by simp at e⟩, .cons ?_ .nil, ?_⟩
    · rcases sq with sq | sq
      · exact .scr sq ⟨by simp, by simp⟩
      · exact .scrK sq
    · rw [e]
      intro x H' ι' _ _ r
      cases r
      rfl
  · cases k with
    | zero =>
      obtain ⟨S, e⟩ := run [] (Nat.zero_le _)
      cases e
    | succ k =>
      have FO := fn_step (P := P) (w := w) (base := base) pg (Nat.le_refl k) (fun f x ps h => fn_all pg k h) false hd F hc0 (fun z => nomatch z)
      refine ⟨fun vs H Q E q => FO.len vs H Q _ q, fun A outer s H args us vs Q E hr he hb hv q => ?_⟩
      refine codeAny_mono (FO.run A outer s H args us vs Q (fun _ _ _ => False) hr he hb hv q) fun r s' z => ?_
      cases r with
      | ok fl => cases fl <;> exact z
      | error e =>
        obtain ⟨_, _, _, _, _, _, _, _, _, _, _, _, w⟩ := z
        exact w.elim
end
end Bt
end
section
set_option maxHeartbeats 1000000
namespace Bt
open PySem
theorem ofString_inj' {a b : String} (h : Str.ofString a = Str.ofString b) : a = b := by
  rw [Str.ofString_eq_toList, Str.ofString_eq_toList] at h
  have h1 : (a.toList.map Char.toNat) = (b.toList.map Char.toNat) := by
    have := congrArg (fun s : Str => s.cps.toList) h
    simpa using this
  have h2 : a.toList = b.toList := (List.map_inj_right (fun x y e => by
    have : x.val = y.val := UInt32.toNat_inj.mp e
    exact Char.ext this)).mp h1
  exact String.toList_inj.mp h2
@[simp] theorem ofStr_inj (a b : String) : (Str.ofString a = Str.ofString b) = (a = b) := by
  apply propext
  exact ⟨ofString_inj', fun h => by rw [h]⟩
@[simp] theorem ofStr_beq (a b : String) : (Str.ofString a == Str.ofString b) = (a == b) := by
  by_cases h : a = b
  · subst h; simp
  · have : ¬ (Str.ofString a = Str.ofString b) := by simpa using h
    rw [beq_eq_false_iff_ne.mpr this, beq_eq_false_iff_ne.mpr h]
section
variable {α β : Type} {S : Store}
@[simp] theorem bind_ok {a : α} {f : α → Store → Res β} : (Res.ok a S).bind f = f a S := rfl
@[simp] theorem bind_stuck {f : α → Store → Res β} : (Res.stuck : Res α).bind f = .stuck := rfl
@[simp] theorem bind_exc {x : PV} {f : α → Store → Res β} : (Res.exc x S : Res α).bind f = .exc x S := rfl
@[simp] theorem map_ok {a : α} {f : α → β} : (Res.ok a S).map f = .ok (f a) S := rfl
@[simp] theorem map_stuck {f : α → β} : (Res.stuck : Res α).map f = .stuck := rfl
@[simp] theorem map_exc {x : PV} {f : α → β} : (Res.exc x S : Res α).map f = .exc x S := rfl
@[simp] theorem ofO_some {a : α} : Res.ofO (some a) S = .ok a S := rfl
@[simp] theorem ofO_none : Res.ofO (none : Option α) S = .stuck := rfl
@[simp] theorem ofR_ok {ρ : Env} {a : α} {f : α → Store → Out} : Out.ofR ρ (.ok a S) f = f a S := rfl
@[simp] theorem ofR_stuck {ρ : Env} {f : α → Store → Out} : Out.ofR ρ (.stuck : Res α) f = .stuck := rfl
@[simp] theorem ofR_exc {ρ : Env} {x : PV} {f : α → Store → Out} : Out.ofR ρ (.exc x S : Res α) f = .exc x ρ S := rfl
@[simp] theorem bind_ite {c : Prop} [Decidable c] {a b : Res α} {f : α → Store → Res β} : (if c then a else b).bind f = if c then a.bind f else b.bind f := by split <;> rfl
@[simp] theorem map_ite {c : Prop} [Decidable c] {a b : Res α} {f : α → β} : (if c then a else b).map f = if c then a.map f else b.map f := by split <;> rfl
@[simp] theorem ofO_ite {c : Prop} [Decidable c] {a b : Option α} : Res.ofO (if c then a else b) S = if c then Res.ofO a S else Res.ofO b S := by split <;> rfl
@[simp] theorem ofR_ite {ρ : Env} {c : Prop} [Decidable c] {a b : Res α} {f : α → Store → Out} : Out.ofR ρ (if c then a else b) f = if c then Out.ofR ρ a f else Out.ofR ρ b f := by split <;> rfl
theorem finish_same (v : PV) (S : Store) : finish S.length (.ok v S) = .ok v S := by simp [finish]
@[simp] theorem finish_okL {v : PV} {S : Store} {n : Nat} (h : S.length = n) : finish n (.ok v S) = .ok v S := by subst h; exact finish_same v S
@[simp] theorem finish_excL {v : PV} {S : Store} {n : Nat} (h : S.length = n) : finish n (.exc v S) = .exc v S := by subst h; simp [finish]
@[simp] theorem finish_ite {n : Nat} {c : Prop} [Decidable c] {a b : Res PV} : finish n (if c then a else b) = if c then finish n a else finish n b := by split <;> rfl
end
def thenO {α : Type} (o : Option α) (f : α → Out) : Out := match o with
  | some a => f a
  | none => .stuck
@[simp] theorem thenO_some {α : Type} {a : α} {f : α → Out} : thenO (some a) f = f a := rfl
@[simp] theorem thenO_none {α : Type} {f : α → Out} : thenO none f = .stuck := rfl
@[simp] theorem thenO_ite {α : Type} {c : Prop} [Decidable c] {a b : Option α} {f : α → Out} : thenO (if c then a else b) f = if c then thenO a f else thenO b f := by split <;> rfl
/-- the rest of a body -/
def thenS (φ : Calls) (G : List PV) (o : Out) (r : List Sm) : Out := match o with
  | .next ρ S => exSs φ G r ρ S
  | o => o
/-- a body's end -/
def endD : Out → Res PV
  | .next _ S => .ok .none S
  | .ret v S => .ok v S
  | .exc x _ S => .exc x S
  | _ => .stuck
@[simp] theorem endD_next {ρ : Env} {S : Store} : endD (.next ρ S) = .ok .none S := rfl
@[simp] theorem endD_ret {v : PV} {S : Store} : endD (.ret v S) = .ok v S := rfl
@[simp] theorem endD_exc {v : PV} {ρ : Env} {S : Store} : endD (.exc v ρ S) = .exc v S := rfl
@[simp] theorem endD_ite {c : Prop} [Decidable c] {a b : Out} : endD (if c then a else b) = if c then endD a else endD b := by split <;> rfl
/-- a name's value -/
def lk (o : Option (Option PV)) (S : Store) : Res PV := match o with
  | some (some v) => .ok v S
  | _ => .stuck
@[simp] theorem lk_some {v : PV} {S : Store} : lk (some (some v)) S = .ok v S := rfl
section
variable {φ : Calls} {G : List PV} {ρ : Env} {S : Store}
@[simp] theorem thenS_next {r : List Sm} : thenS φ G (.next ρ S) r = exSs φ G r ρ S := rfl
@[simp] theorem thenS_ret {v : PV} {r : List Sm} : thenS φ G (.ret v S) r = .ret v S := rfl
@[simp] theorem thenS_brk {r : List Sm} : thenS φ G (.brk ρ S) r = .brk ρ S := rfl
@[simp] theorem thenS_cont {r : List Sm} : thenS φ G (.cont ρ S) r = .cont ρ S := rfl
@[simp] theorem thenS_exc {v : PV} {r : List Sm} : thenS φ G (.exc v ρ S) r = .exc v ρ S := rfl
@[simp] theorem thenS_ite {c : Prop} [Decidable c] {a b : Out} {r : List Sm} : thenS φ G (if c then a else b) r = if c then thenS φ G a r else thenS φ G b r := by split <;> rfl
@[simp] theorem e_var {i : Nat} : evE φ G (.var i) ρ S = lk ρ[i]? S := by unfold evE; rfl
@[simp] theorem e_cst {v : PV} : evE φ G (.cst v) ρ S = .ok v S := by unfold evE; rfl
@[simp] theorem e_glo {g : Nat} : evE φ G (.glo g) ρ S = Res.ofO G[g]? S := by unfold evE; rfl
/-- continuations by name (so that simp does not look into them) -/
def kNot (v : PV) (S : Store) : Res PV := (truthR S v).map fun b => .bool (!b)
@[simp] theorem kNot_eq {v : PV} : kNot v S = (truthR S v).map fun b => .bool (!b) := rfl
@[simp] theorem e_not {a : Ex} : evE φ G (.not a) ρ S = (evE φ G a ρ S).bind kNot := by
  conv => lhs; unfold evE
  rfl
def kAnd2 (φ : Calls) (G : List PV) (b : Ex) (ρ : Env) (v : PV) (t : Bool) (S : Store) : Res PV := if t then evE φ G b ρ S else .ok v S
def kAnd (φ : Calls) (G : List PV) (b : Ex) (ρ : Env) (v : PV) (S : Store) : Res PV := (truthR S v).bind (kAnd2 φ G b ρ v)
@[simp] theorem kAnd2_eq {b : Ex} {v : PV} {t : Bool} : kAnd2 φ G b ρ v t S = if t then evE φ G b ρ S else .ok v S := rfl
@[simp] theorem kAnd_eq {b : Ex} {v : PV} : kAnd φ G b ρ v S = (truthR S v).bind (kAnd2 φ G b ρ v) := rfl
@[simp] theorem e_and {a b : Ex} : evE φ G (.and a b) ρ S = (evE φ G a ρ S).bind (kAnd φ G b ρ) := by
  conv => lhs; unfold evE
  rfl
def kOr2 (φ : Calls) (G : List PV) (b : Ex) (ρ : Env) (v : PV) (t : Bool) (S : Store) : Res PV := if t then .ok v S else evE φ G b ρ S
def kOr (φ : Calls) (G : List PV) (b : Ex) (ρ : Env) (v : PV) (S : Store) : Res PV := (truthR S v).bind (kOr2 φ G b ρ v)
@[simp] theorem kOr2_eq {b : Ex} {v : PV} {t : Bool} : kOr2 φ G b ρ v t S = if t then .ok v S else evE φ G b ρ S := rfl
@[simp] theorem kOr_eq {b : Ex} {v : PV} : kOr φ G b ρ v S = (truthR S v).bind (kOr2 φ G b ρ v) := rfl
@[simp] theorem e_or {a b : Ex} : evE φ G (.or a b) ρ S = (evE φ G a ρ S).bind (kOr φ G b ρ) := by
  conv => lhs; unfold evE
  rfl
def kIte2 (φ : Calls) (G : List PV) (a b : Ex) (ρ : Env) (t : Bool) (S : Store) : Res PV := if t then evE φ G a ρ S else evE φ G b ρ S
def kIte (φ : Calls) (G : List PV) (a b : Ex) (ρ : Env) (v : PV) (S : Store) : Res PV := (truthR S v).bind (kIte2 φ G a b ρ)
@[simp] theorem kIte2_eq {a b : Ex} {t : Bool} : kIte2 φ G a b ρ t S = if t then evE φ G a ρ S else evE φ G b ρ S := rfl
@[simp] theorem kIte_eq {a b : Ex} {v : PV} : kIte φ G a b ρ v S = (truthR S v).bind (kIte2 φ G a b ρ) := rfl
@[simp] theorem e_ite {t a b : Ex} : evE φ G (.ite t a b) ρ S = (evE φ G t ρ S).bind (kIte φ G a b ρ) := by
  conv => lhs; unfold evE
  rfl
def kBin2 (o : Bop) (x y : PV) (S : Store) : Res PV := Res.ofO (bop o (res S x) (res S y)) S
def kBin (φ : Calls) (G : List PV) (o : Bop) (b : Ex) (ρ : Env) (x : PV) (S : Store) : Res PV := (evE φ G b ρ S).bind (kBin2 o x)
@[simp] theorem kBin2_eq {o : Bop} {x y : PV} : kBin2 o x y S = Res.ofO (bop o (res S x) (res S y)) S := rfl
@[simp] theorem kBin_eq {o : Bop} {b : Ex} {x : PV} : kBin φ G o b ρ x S = (evE φ G b ρ S).bind (kBin2 o x) := rfl
@[simp] theorem e_bin {o : Bop} {a b : Ex} : evE φ G (.bin o a b) ρ S = (evE φ G a ρ S).bind (kBin φ G o b ρ) := by
  conv => lhs; unfold evE
  rfl
def kCmp2 (o : Cop) (x y : PV) (S : Store) : Res PV := Res.ofO ((cop o (res S x) (res S y)).map .bool) S
def kCmp (φ : Calls) (G : List PV) (o : Cop) (b : Ex) (ρ : Env) (x : PV) (S : Store) : Res PV := (evE φ G b ρ S).bind (kCmp2 o x)
@[simp] theorem kCmp2_eq {o : Cop} {x y : PV} : kCmp2 o x y S = Res.ofO ((cop o (res S x) (res S y)).map .bool) S := rfl
@[simp] theorem kCmp_eq {o : Cop} {b : Ex} {x : PV} : kCmp φ G o b ρ x S = (evE φ G b ρ S).bind (kCmp2 o x) := rfl
@[simp] theorem e_cmp {o : Cop} {a b : Ex} : evE φ G (.cmp o a b) ρ S = (evE φ G a ρ S).bind (kCmp φ G o b ρ) := by
  conv => lhs; unfold evE
  rfl
def kCh3 (φ : Calls) (G : List PV) (o2 : Cop) (c : Ex) (ρ : Env) (y : PV) (k : Bool) (S : Store) : Res PV := if k then (evE φ G c ρ S).bind (kCmp2 o2 y) else .ok (.bool false) S
def kCh2 (φ : Calls) (G : List PV) (o1 o2 : Cop) (c : Ex) (ρ : Env) (x y : PV) (S : Store) : Res PV := (Res.ofO (cop o1 (res S x) (res S y)) S).bind (kCh3 φ G o2 c ρ y)
def kCh1 (φ : Calls) (G : List PV) (o1 o2 : Cop) (b c : Ex) (ρ : Env) (x : PV) (S : Store) : Res PV := (evE φ G b ρ S).bind (kCh2 φ G o1 o2 c ρ x)
@[simp] theorem kCh3_eq {o2 : Cop} {c : Ex} {y : PV} {k : Bool} : kCh3 φ G o2 c ρ y k S = if k then (evE φ G c ρ S).bind (kCmp2 o2 y) else .ok (.bool false) S := rfl
@[simp] theorem kCh2_eq {o1 o2 : Cop} {c : Ex} {x y : PV} : kCh2 φ G o1 o2 c ρ x y S = (Res.ofO (cop o1 (res S x) (res S y)) S).bind (kCh3 φ G o2 c ρ y) := rfl
@[simp] theorem kCh1_eq {o1 o2 : Cop} {b c : Ex} {x : PV} : kCh1 φ G o1 o2 b c ρ x S = (evE φ G b ρ S).bind (kCh2 φ G o1 o2 c ρ x) := rfl
@[simp] theorem e_chain {o1 o2 : Cop} {a b c : Ex} : evE φ G (.chain o1 o2 a b c) ρ S = (evE φ G a ρ S).bind (kCh1 φ G o1 o2 b c ρ) := by
  conv => lhs; unfold evE
  rfl
def kIx2 (x y : PV) (S : Store) : Res PV := Res.ofO (item (res S x) y) S
def kIx (φ : Calls) (G : List PV) (b : Ex) (ρ : Env) (x : PV) (S : Store) : Res PV := (evE φ G b ρ S).bind (kIx2 x)
@[simp] theorem kIx2_eq {x y : PV} : kIx2 x y S = Res.ofO (item (res S x) y) S := rfl
@[simp] theorem kIx_eq {b : Ex} {x : PV} : kIx φ G b ρ x S = (evE φ G b ρ S).bind (kIx2 x) := rfl
@[simp] theorem e_ix {a b : Ex} : evE φ G (.ix a b) ρ S = (evE φ G a ρ S).bind (kIx φ G b ρ) := by
  conv => lhs; unfold evE
  rfl
@[simp] theorem e_tup {es : List Ex} : evE φ G (.tup es) ρ S = (evEs φ G es ρ S).map .tup := by conv => lhs; unfold evE
@[simp] theorem e_lst {es : List Ex} : evE φ G (.lst es) ρ S = (evEs φ G es ρ S).map .list := by conv => lhs; unfold evE
@[simp] theorem e_dic {es : List (Ex × Ex)} : evE φ G (.dic es) ρ S = (evD φ G es ρ S).map fun ps => .dict (mergeP [] ps) := by conv => lhs; unfold evE
@[simp] theorem e_call {f : Nat} {es : List Ex} : evE φ G (.call f es) ρ S = (evEs φ G es ρ S).bind (φ f) := by conv => lhs; unfold evE
def kBi (b : Bi) (vs : List PV) (S : Store) : Res PV := Res.ofO (biv b (vs.map (res S))) S
@[simp] theorem kBi_eq {b : Bi} {vs : List PV} : kBi b vs S = Res.ofO (biv b (vs.map (res S))) S := rfl
@[simp] theorem e_bi {b : Bi} {es : List Ex} : evE φ G (.bi b es) ρ S = (evEs φ G es ρ S).bind (kBi b) := by
  conv => lhs; unfold evE
  rfl
def kMe2 (m : Me) (x : PV) (vs : List PV) (S : Store) : Res PV := Res.ofO (mev m (res S x) vs) S
def kMe (φ : Calls) (G : List PV) (m : Me) (es : List Ex) (ρ : Env) (x : PV) (S : Store) : Res PV := if meKind m (res S x) then (evEs φ G es ρ S).bind (kMe2 m x) else .stuck
@[simp] theorem kMe2_eq {m : Me} {x : PV} {vs : List PV} : kMe2 m x vs S = Res.ofO (mev m (res S x) vs) S := rfl
@[simp] theorem kMe_eq {m : Me} {es : List Ex} {x : PV} : kMe φ G m es ρ x S = if meKind m (res S x) then (evEs φ G es ρ S).bind (kMe2 m x) else .stuck := rfl
@[simp] theorem e_me {m : Me} {o : Ex} {es : List Ex} : evE φ G (.me m o es) ρ S = (evE φ G o ρ S).bind (kMe φ G m es ρ) := by
  conv => lhs; unfold evE
  rfl
@[simp] theorem e_br {e : Ex} : evE φ G (.br e) ρ S = (evE φ G e ρ S).bind toRef := by conv => lhs; unfold evE
def kDz2 (x y : PV) (S : Store) : Res PV := Res.ofO (dzipV (res S x) (res S y)) S
def kDz (φ : Calls) (G : List PV) (b : Ex) (ρ : Env) (x : PV) (S : Store) : Res PV := (evE φ G b ρ S).bind (kDz2 x)
@[simp] theorem kDz2_eq {x y : PV} : kDz2 x y S = Res.ofO (dzipV (res S x) (res S y)) S := rfl
@[simp] theorem kDz_eq {b : Ex} {x : PV} : kDz φ G b ρ x S = (evE φ G b ρ S).bind (kDz2 x) := rfl
@[simp] theorem e_dzip {a b : Ex} : evE φ G (.dzip a b) ρ S = (evE φ G a ρ S).bind (kDz φ G b ρ) := by
  conv => lhs; unfold evE
  rfl
def kDl (x : PV) (S : Store) : Res PV := Res.ofO (dlstV (res S x)) S
@[simp] theorem kDl_eq {x : PV} : kDl x S = Res.ofO (dlstV (res S x)) S := rfl
@[simp] theorem e_dlst {a : Ex} : evE φ G (.dlst a) ρ S = (evE φ G a ρ S).bind kDl := by
  conv => lhs; unfold evE
  rfl
def revV : PV → Option PV
  | .list xs => some (.list xs.reverse)
  | .tup xs => some (.tup xs.reverse)
  | _ => none
@[simp] theorem revV_tup {xs : List PV} : revV (.tup xs) = some (.tup xs.reverse) := rfl
@[simp] theorem revV_list {xs : List PV} : revV (.list xs) = some (.list xs.reverse) := rfl
def kRev (x : PV) (S : Store) : Res PV := Res.ofO (revV (res S x)) S
@[simp] theorem kRev_eq {x : PV} : kRev x S = Res.ofO (revV (res S x)) S := rfl
@[simp] theorem e_rev {a : Ex} : evE φ G (.rev a) ρ S = (evE φ G a ρ S).bind kRev := by
  conv => lhs; unfold evE
  congr 1; funext x S; unfold kRev; cases res S x <;> rfl
def intOf : PV → Option PV
  | .int i => some (.int i)
  | _ => none
@[simp] theorem intOf_int {i : Int} : intOf (.int i) = some (.int i) := rfl
def kSl3 (x l h : PV) (S : Store) : Res PV := Res.ofO ((part l).bind fun l => (part h).bind fun h => slice (res S x) l h) S
def kSl2 (φ : Calls) (G : List PV) (hi : Option Ex) (ρ : Env) (x l : PV) (S : Store) : Res PV := (evO φ G hi ρ S).bind (kSl3 x l)
def kSl (φ : Calls) (G : List PV) (lo hi : Option Ex) (ρ : Env) (x : PV) (S : Store) : Res PV := (evO φ G lo ρ S).bind (kSl2 φ G hi ρ x)
@[simp] theorem kSl3_eq {x l h : PV} : kSl3 x l h S = Res.ofO ((part l).bind fun l => (part h).bind fun h => slice (res S x) l h) S := rfl
@[simp] theorem kSl2_eq {hi : Option Ex} {x l : PV} : kSl2 φ G hi ρ x l S = (evO φ G hi ρ S).bind (kSl3 x l) := rfl
@[simp] theorem kSl_eq {lo hi : Option Ex} {x : PV} : kSl φ G lo hi ρ x S = (evO φ G lo ρ S).bind (kSl2 φ G hi ρ x) := rfl
@[simp] theorem e_sl {a : Ex} {lo hi : Option Ex} : evE φ G (.sl a lo hi) ρ S = (evE φ G a ρ S).bind (kSl φ G lo hi ρ) := by
  conv => lhs; unfold evE
  rfl
@[simp] theorem eo_none : evO φ G none ρ S = .ok .none S := by unfold evO; rfl
def kInt (v : PV) (S : Store) : Res PV := Res.ofO (intOf v) S
@[simp] theorem kInt_eq {v : PV} : kInt v S = Res.ofO (intOf v) S := rfl
@[simp] theorem eo_some {e : Ex} : evO φ G (some e) ρ S = (evE φ G e ρ S).bind kInt := by
  rw [evO.eq_2]
  congr 1; funext v S; cases v <;> rfl
@[simp] theorem part_none : part .none = some none := rfl
@[simp] theorem part_int {i : Int} : part (.int i) = some (some i) := rfl
/-- a comprehension over its items -/
def compE (φ : Calls) (G : List PV) (elt : Ex) (tg : Tg) (ifs : List Ex) (ρ : Env) (iv : Items) (S : Store) : Res PV :=
  if iv.items.length ≤ sizeLine then (compLoop iv.guard tg ρ (evTs φ G ifs) (evE φ G elt) iv.items S).bind fun vs S => .ok (.list vs) (unlock S iv.lock) else .stuck
@[simp] theorem e_lc {elt : Ex} {tg : Tg} {it : It} {ifs : List Ex} {own : List Nat} : evE φ G (.lc elt tg it ifs own) ρ S = (evI φ G it ρ S).bind (compE φ G elt tg ifs (wipeP ρ own)) := by
  conv => lhs; unfold evE
  rfl
def dcE (φ : Calls) (G : List PV) (k v : Ex) (tg : Tg) (ρ : Env) (iv : Items) (S : Store) : Res PV :=
  if iv.items.length ≤ sizeLine then (dcLoop iv.guard tg ρ (evE φ G k) (evE φ G v) iv.items [] S).bind fun ps S => .ok (.dict ps) (unlock S iv.lock) else .stuck
@[simp] theorem e_dc {k v : Ex} {tg : Tg} {it : It} {own : List Nat} : evE φ G (.dc k v tg it own) ρ S = (evI φ G it ρ S).bind (dcE φ G k v tg (wipeP ρ own)) := by
  conv => lhs; unfold evE
  congr 1; funext iv S; unfold dcE
  by_cases h : iv.items.length ≤ sizeLine
  · rw [if_neg (by omega), if_pos h]
  · rw [if_pos h, if_neg h]
def kLb2 (o : Bop) (x y : PV) (S : Store) : Res PV := Res.ofO (lbop o (res S x) (res S y)) S
def kLb (φ : Calls) (G : List PV) (o : Bop) (b : Ex) (ρ : Env) (x : PV) (S : Store) : Res PV := (evE φ G b ρ S).bind (kLb2 o x)
@[simp] theorem kLb2_eq {o : Bop} {x y : PV} : kLb2 o x y S = Res.ofO (lbop o (res S x) (res S y)) S := rfl
@[simp] theorem kLb_eq {o : Bop} {b : Ex} {x : PV} : kLb φ G o b ρ x S = (evE φ G b ρ S).bind (kLb2 o x) := rfl
@[simp] theorem e_lbin {o : Bop} {a b : Ex} : evE φ G (.lbin o a b) ρ S = (evE φ G a ρ S).bind (kLb φ G o b ρ) := by
  conv => lhs; unfold evE
  rfl
def kWon (v : PV) (S : Store) : Res PV := Res.ofO (wonOf v) S
@[simp] theorem kWon_eq {v : PV} : kWon v S = Res.ofO (wonOf v) S := rfl
@[simp] theorem won_bool {b : Bool} : wonOf (.bool b) = some (.str (if b then "won" else "lost")) := by cases b <;> rfl
@[simp] theorem e_won {a : Ex} : evE φ G (.won a) ρ S = (evE φ G a ρ S).bind kWon := by
  conv => lhs; unfold evE
  rfl
/-- a comprehension with two clauses over its items -/
def comp2E (φ : Calls) (G : List PV) (elt : Ex) (tg tg2 : Tg) (it2 : It) (own2 : List Nat) (ρ : Env) (iv : Items) (S : Store) : Res PV :=
  (comp2Loop iv.guard tg ρ (fun ρ1 S1 => (evI φ G it2 ρ1 S1).bind fun jv S2 => if jv.lock.isEmpty then compLoop jv.guard tg2 (wipeP ρ1 own2) (fun _ S => .ok true S) (evE φ G elt) jv.items S2 else .stuck) iv.items S).bind fun vs S =>
    if vs.length ≤ sizeLine then .ok (.list vs) (unlock S iv.lock) else .stuck
@[simp] theorem e_lc2 {elt : Ex} {tg tg2 : Tg} {it it2 : It} {own own2 : List Nat} : evE φ G (.lc2 elt tg it tg2 it2 own own2) ρ S = (evI φ G it ρ S).bind (comp2E φ G elt tg tg2 it2 own2 (wipeP ρ own)) := by
  conv => lhs; unfold evE
  rfl
@[simp] theorem es_nil : evEs φ G [] ρ S = .ok [] S := by unfold evEs; rfl
def kEs (φ : Calls) (G : List PV) (es : List Ex) (ρ : Env) (v : PV) (S : Store) : Res (List PV) := (evEs φ G es ρ S).map (v :: ·)
@[simp] theorem kEs_eq {es : List Ex} {v : PV} : kEs φ G es ρ v S = (evEs φ G es ρ S).map (v :: ·) := rfl
@[simp] theorem es_cons {e : Ex} {es : List Ex} : evEs φ G (e :: es) ρ S = (evE φ G e ρ S).bind (kEs φ G es ρ) := by rw [evEs.eq_2]; rfl
@[simp] theorem ed_nil : evD φ G [] ρ S = .ok [] S := by unfold evD; rfl
def kEd2 (φ : Calls) (G : List PV) (r : List (Ex × Ex)) (ρ : Env) (k v : PV) (S : Store) : Res (List (PV × PV)) := if isKey k then (evD φ G r ρ S).map ((k, v) :: ·) else .stuck
def kEd (φ : Calls) (G : List PV) (v : Ex) (r : List (Ex × Ex)) (ρ : Env) (k : PV) (S : Store) : Res (List (PV × PV)) := (evE φ G v ρ S).bind (kEd2 φ G r ρ k)
@[simp] theorem kEd2_eq {r : List (Ex × Ex)} {k v : PV} : kEd2 φ G r ρ k v S = if isKey k then (evD φ G r ρ S).map ((k, v) :: ·) else .stuck := rfl
@[simp] theorem kEd_eq {v : Ex} {r : List (Ex × Ex)} {k : PV} : kEd φ G v r ρ k S = (evE φ G v ρ S).bind (kEd2 φ G r ρ k) := rfl
@[simp] theorem ed_cons {k v : Ex} {r : List (Ex × Ex)} : evD φ G ((k, v) :: r) ρ S = (evE φ G k ρ S).bind (kEd φ G v r ρ) := by rw [evD.eq_2]; rfl
@[simp] theorem ts_nil : evTs φ G [] ρ S = .ok true S := by unfold evTs; rfl
def kTs2 (φ : Calls) (G : List PV) (r : List Ex) (ρ : Env) (b : Bool) (S : Store) : Res Bool := if b then evTs φ G r ρ S else .ok false S
def kTs (φ : Calls) (G : List PV) (r : List Ex) (ρ : Env) (v : PV) (S : Store) : Res Bool := (truthR S v).bind (kTs2 φ G r ρ)
@[simp] theorem kTs2_eq {r : List Ex} {b : Bool} : kTs2 φ G r ρ b S = if b then evTs φ G r ρ S else .ok false S := rfl
@[simp] theorem kTs_eq {r : List Ex} {v : PV} : kTs φ G r ρ v S = (truthR S v).bind (kTs2 φ G r ρ) := rfl
@[simp] theorem ts_cons {t : Ex} {r : List Ex} : evTs φ G (t :: r) ρ S = (evE φ G t ρ S).bind (kTs φ G r ρ) := by rw [evTs.eq_2]; rfl
def kSeq (v : PV) (S : Store) : Res Items := Res.ofO ((seqOf (res S v)).map fun xs => { items := xs, guard := guardOf S v }) S
@[simp] theorem kSeq_eq {v : PV} : kSeq v S = Res.ofO ((seqOf (res S v)).map fun xs => { items := xs, guard := guardOf S v }) S := rfl
@[simp] theorem ei_seq {e : Ex} : evI φ G (.seq e) ρ S = (evE φ G e ρ S).bind kSeq := by
  conv => lhs; unfold evI
  rfl
def kZip2 (x y : PV) (S : Store) : Res Items := Res.ofO ((zipOf (res S x) (res S y)).map fun zs => { items := zs, guard := guardOf S x ++ guardOf S y }) S
def kZip (φ : Calls) (G : List PV) (b : Ex) (ρ : Env) (x : PV) (S : Store) : Res Items := (evE φ G b ρ S).bind (kZip2 x)
@[simp] theorem kZip2_eq {x y : PV} : kZip2 x y S = Res.ofO ((zipOf (res S x) (res S y)).map fun zs => { items := zs, guard := guardOf S x ++ guardOf S y }) S := rfl
@[simp] theorem kZip_eq {b : Ex} {x : PV} : kZip φ G b ρ x S = (evE φ G b ρ S).bind (kZip2 x) := rfl
@[simp] theorem ei_zip {a b : Ex} : evI φ G (.zip a b) ρ S = (evE φ G a ρ S).bind (kZip φ G b ρ) := by
  conv => lhs; unfold evI
  rfl
def kEnum (x : PV) (S : Store) : Res Items := Res.ofO ((enumOf (res S x)).map fun zs => { items := zs, guard := guardOf S x }) S
@[simp] theorem kEnum_eq {x : PV} : kEnum x S = Res.ofO ((enumOf (res S x)).map fun zs => { items := zs, guard := guardOf S x }) S := rfl
@[simp] theorem ei_enum {a : Ex} : evI φ G (.enum a) ρ S = (evE φ G a ρ S).bind kEnum := by
  conv => lhs; unfold evI
  rfl
def kKeys (v : PV) (S : Store) : Res Items := match v with
  | .ref k => (match S[k]? with
    | some (.dic false kvs) => .ok { items := kvs.map (·.1), lock := [k] } (S.set k (.dic true kvs))
    | _ => .stuck)
  | _ => .stuck
theorem kKeys_ref {k : Nat} {kvs : List (PV × PV)} (h : S[k]? = some (.dic false kvs)) : kKeys (.ref k) S = .ok { items := kvs.map (·.1), lock := [k] } (S.set k (.dic true kvs)) := by
  simp only [kKeys, h]
@[simp] theorem ei_keys {i : Nat} : evI φ G (.keys i) ρ S = (lk ρ[i]? S).bind kKeys := by
  conv => lhs; unfold evI
  cases h : ρ[i]? with
  | none => rfl
  | some o =>
    cases o with
    | none => rfl
    | some v => cases v <;> first | rfl | (show _ = kKeys _ S; unfold kKeys; rfl)
def rngOf : PV → Option Items
  | .int n => if -(2 ^ 62) ≤ n ∧ n < 2 ^ 62 then some { items := rangeP 0 n } else none
  | _ => none
def kRng (x : PV) (S : Store) : Res Items := Res.ofO (rngOf x) S
@[simp] theorem kRng_eq {x : PV} : kRng x S = Res.ofO (rngOf x) S := rfl
@[simp] theorem ei_rng1 {a : Ex} : evI φ G (.rng1 a) ρ S = (evE φ G a ρ S).bind kRng := by
  conv => lhs; unfold evI
  congr 1; funext x S; cases x <;> try rfl
  unfold kRng rngOf; dsimp only; split <;> rfl
theorem rngOf_nat {n : Nat} (h : n < 2 ^ 62) : rngOf (.int (n : Nat)) = some { items := (List.range n).map fun i => .int (i : Nat) } := by
  simp only [rngOf]
  rw [if_pos ⟨by omega, by omega⟩]
  simp [rangeP]
def oNext (S : Store) (ρ : Env) : Out := .next ρ S
@[simp] theorem oNext_eq : oNext S ρ = .next ρ S := rfl
def xAsg (t : Tg) (ρ : Env) (v : PV) (S : Store) : Out := thenO (assign t (opened t S v) ρ) (oNext S)
@[simp] theorem xAsg_eq {t : Tg} {v : PV} : xAsg t ρ v S = thenO (assign t (opened t S v) ρ) (oNext S) := rfl
@[simp] theorem x_asg {t : Tg} {e : Ex} : exS φ G (.asg t e) ρ S = Out.ofR ρ (evE φ G e ρ S) (xAsg t ρ) := by
  conv => lhs; unfold exS
  congr 1; funext v S; unfold xAsg; cases assign t (opened t S v) ρ <;> rfl
def xPar (is : List Nat) (ρ : Env) (vs : List PV) (S : Store) : Out := thenO (setAll is vs ρ) (oNext S)
@[simp] theorem xPar_eq {is : List Nat} {vs : List PV} : xPar is ρ vs S = thenO (setAll is vs ρ) (oNext S) := rfl
@[simp] theorem x_par {is : List Nat} {es : List Ex} : exS φ G (.par is es) ρ S = Out.ofR ρ (evEs φ G es ρ S) (xPar is ρ) := by
  conv => lhs; unfold exS
  congr 1; funext v S; unfold xPar; cases setAll is v ρ <;> rfl
def augV (o : Bop) (x y : PV) : Option PV := match bop o x y with
  | some (.int z) => some (.int z)
  | _ => none
@[simp] theorem augV_add {i j : Int} : augV .add (.int i) (.int j) = some (.int (i + j)) := rfl
@[simp] theorem augV_sub {i j : Int} : augV .sub (.int i) (.int j) = some (.int (i - j)) := rfl
def xAug3 (i : Nat) (ρ : Env) (S : Store) (z : PV) : Out := .next (ρ.set i (some z)) S
def xAug2 (i : Nat) (o : Bop) (ρ : Env) (x y : PV) (S : Store) : Out := thenO (augV o x y) (xAug3 i ρ S)
def xAug (φ : Calls) (G : List PV) (i : Nat) (o : Bop) (e : Ex) (ρ : Env) (x : PV) (S : Store) : Out := Out.ofR ρ (evE φ G e ρ S) (xAug2 i o ρ x)
@[simp] theorem xAug3_eq {i : Nat} {z : PV} : xAug3 i ρ S z = .next (ρ.set i (some z)) S := rfl
@[simp] theorem xAug2_eq {i : Nat} {o : Bop} {x y : PV} : xAug2 i o ρ x y S = thenO (augV o x y) (xAug3 i ρ S) := rfl
@[simp] theorem xAug_eq {i : Nat} {o : Bop} {e : Ex} {x : PV} : xAug φ G i o e ρ x S = Out.ofR ρ (evE φ G e ρ S) (xAug2 i o ρ x) := rfl
@[simp] theorem x_aug {i : Nat} {o : Bop} {e : Ex} : exS φ G (.aug i o e) ρ S = Out.ofR ρ (lk ρ[i]? S) (xAug φ G i o e ρ) := by
  conv => lhs; unfold exS
  cases h : ρ[i]? with
  | none => rfl
  | some x =>
    cases x with
    | none => rfl
    | some x =>
      show _ = Out.ofR ρ (Res.ok x S) _
      rw [ofR_ok]
      dsimp only [xAug]
      congr 1; funext y S
      unfold xAug2 augV
      cases bop o x y with
      | none => rfl
      | some z => cases z <;> rfl
def xSt (ρ : Env) (S : Store) : Out := .next ρ S
@[simp] theorem xSt_eq : xSt ρ S = .next ρ S := rfl
def xPut3 (ρ : Env) (v o k : PV) (S : Store) : Out := thenO (putAt S o k v) (xSt ρ)
def xPut2 (φ : Calls) (G : List PV) (k : Ex) (ρ : Env) (v o : PV) (S : Store) : Out := Out.ofR ρ (evE φ G k ρ S) (xPut3 ρ v o)
def xPut (φ : Calls) (G : List PV) (o k : Ex) (ρ : Env) (v : PV) (S : Store) : Out := Out.ofR ρ (evE φ G o ρ S) (xPut2 φ G k ρ v)
@[simp] theorem xPut3_eq {v o k : PV} : xPut3 ρ v o k S = thenO (putAt S o k v) (xSt ρ) := rfl
@[simp] theorem xPut2_eq {k : Ex} {v o : PV} : xPut2 φ G k ρ v o S = Out.ofR ρ (evE φ G k ρ S) (xPut3 ρ v o) := rfl
@[simp] theorem xPut_eq {o k : Ex} {v : PV} : xPut φ G o k ρ v S = Out.ofR ρ (evE φ G o ρ S) (xPut2 φ G k ρ v) := rfl
@[simp] theorem x_put {o k v : Ex} : exS φ G (.put o k v) ρ S = Out.ofR ρ (evE φ G v ρ S) (xPut φ G o k ρ) := by
  conv => lhs; unfold exS
  congr 1; funext v S; unfold xPut; congr 1; funext o S; unfold xPut2; congr 1; funext k S; unfold xPut3; cases putAt S o k v <;> rfl
def xAp3 (ρ : Env) (o v : PV) (S : Store) : Out := thenO (appAt S o v) (xSt ρ)
def xAp (φ : Calls) (G : List PV) (e : Ex) (ρ : Env) (o : PV) (S : Store) : Out := if meKind .lcount (res S o) then Out.ofR ρ (evE φ G e ρ S) (xAp3 ρ o) else .stuck
@[simp] theorem xAp3_eq {o v : PV} : xAp3 ρ o v S = thenO (appAt S o v) (xSt ρ) := rfl
@[simp] theorem xAp_eq {e : Ex} {o : PV} : xAp φ G e ρ o S = if meKind .lcount (res S o) then Out.ofR ρ (evE φ G e ρ S) (xAp3 ρ o) else .stuck := rfl
@[simp] theorem x_app {o e : Ex} : exS φ G (.app o e) ρ S = Out.ofR ρ (evE φ G o ρ S) (xAp φ G e ρ) := by
  conv => lhs; unfold exS
  congr 1; funext v S; unfold xAp; split
  · congr 1; funext e S; unfold xAp3; cases appAt S v e <;> rfl
  · rfl
def xUp3 (ρ : Env) (o v : PV) (S : Store) : Out := thenO (updAt S o v) (xSt ρ)
def xUp (φ : Calls) (G : List PV) (e : Ex) (ρ : Env) (o : PV) (S : Store) : Out := if openD S o then Out.ofR ρ (evE φ G e ρ S) (xUp3 ρ o) else .stuck
@[simp] theorem xUp3_eq {o v : PV} : xUp3 ρ o v S = thenO (updAt S o v) (xSt ρ) := rfl
@[simp] theorem xUp_eq {e : Ex} {o : PV} : xUp φ G e ρ o S = if openD S o then Out.ofR ρ (evE φ G e ρ S) (xUp3 ρ o) else .stuck := rfl
@[simp] theorem x_upd {o e : Ex} : exS φ G (.upd o e) ρ S = Out.ofR ρ (evE φ G o ρ S) (xUp φ G e ρ) := by
  conv => lhs; unfold exS
  congr 1; funext v S; unfold xUp; split
  · congr 1; funext e S; unfold xUp3; cases updAt S v e <;> rfl
  · rfl
def xEx (ρ : Env) (_ : PV) (S : Store) : Out := .next ρ S
@[simp] theorem xEx_eq {v : PV} : xEx ρ v S = .next ρ S := rfl
@[simp] theorem x_expr {e : Ex} : exS φ G (.expr e) ρ S = Out.ofR ρ (evE φ G e ρ S) (xEx ρ) := by
  conv => lhs; unfold exS
  rfl
@[simp] theorem x_ret {e : Ex} : exS φ G (.ret e) ρ S = Out.ofR ρ (evE φ G e ρ S) .ret := by conv => lhs; unfold exS
@[simp] theorem x_retN : exS φ G .retN ρ S = .ret .none S := by conv => lhs; unfold exS
@[simp] theorem x_pass : exS φ G .pass ρ S = .next ρ S := by conv => lhs; unfold exS
@[simp] theorem x_raise {c : Nat} : exS φ G (.raise c) ρ S = .exc (.exc c []) ρ S := by conv => lhs; unfold exS
@[simp] theorem e_heard {e : Ex} : evE φ G (.heard e) ρ S = hearR (evE φ G e ρ S) := by conv => lhs; unfold evE
@[simp] theorem hear_ok {v : PV} : hearR (.ok v S) = .ok (.tup [.str "told", v]) S := rfl
@[simp] theorem hear_exc {c : Nat} : hearR (.exc (.exc c []) S) = hearX c S := rfl
theorem hearX_eq {c : Nat} {w : Str} (h : S.all (Cell.lo S.length) = true) (hw : hearW[c]? = some w) : hearX c S = .ok (.tup [.str w]) S := by
  unfold hearX
  rw [if_pos h, hw]
  rfl
def xIf2 (φ : Calls) (G : List PV) (a b : List Sm) (ρ : Env) (t : Bool) (S : Store) : Out := if t then exSs φ G a ρ S else exSs φ G b ρ S
def xIf (φ : Calls) (G : List PV) (a b : List Sm) (ρ : Env) (v : PV) (S : Store) : Out := Out.ofR ρ (truthR S v) (xIf2 φ G a b ρ)
@[simp] theorem xIf2_eq {a b : List Sm} {t : Bool} : xIf2 φ G a b ρ t S = if t then exSs φ G a ρ S else exSs φ G b ρ S := rfl
@[simp] theorem xIf_eq {a b : List Sm} {v : PV} : xIf φ G a b ρ v S = Out.ofR ρ (truthR S v) (xIf2 φ G a b ρ) := rfl
@[simp] theorem x_ifs {t : Ex} {a b : List Sm} : exS φ G (.ifs t a b) ρ S = Out.ofR ρ (evE φ G t ρ S) (xIf φ G a b ρ) := by
  conv => lhs; unfold exS
  rfl
def forE (φ : Calls) (G : List PV) (tg : Tg) (body : List Sm) (ρ : Env) (iv : Items) (S : Store) : Out := forLoop iv tg (exSs φ G body) iv.items ρ S
@[simp] theorem x_for {tg : Tg} {it : It} {body : List Sm} : exS φ G (.forr tg it body) ρ S = Out.ofR ρ (evI φ G it ρ S) (forE φ G tg body ρ) := by
  conv => lhs; unfold exS
  rfl
/-- a while -/
def whileE (φ : Calls) (G : List PV) (t : Ex) (body : List Sm) (n : Nat) (ρ : Env) (S : Store) : Out := whileLoop (fun ρ S => (evE φ G t ρ S).bind fun v S => truthR S v) (exSs φ G body) n ρ S
@[simp] theorem x_whil {t : Ex} {body : List Sm} : exS φ G (.whil t body) ρ S = whileE φ G t body whileFuel ρ S := by
  conv => lhs; unfold exS
  rfl
theorem while_go {t : Ex} {body : List Sm} {n : Nat} {S1 S2 : Store} {ρ2 : Env} (ht : (evE φ G t ρ S).bind (fun v S => truthR S v) = .ok true S1) (hb : exSs φ G body ρ S1 = .next ρ2 S2) : whileE φ G t body (n + 1) ρ S = whileE φ G t body n ρ2 S2 := by
  unfold whileE
  conv => lhs; unfold whileLoop
  rw [ht]
  simp [hb]
theorem while_stop {t : Ex} {body : List Sm} {n : Nat} {S1 : Store} (ht : (evE φ G t ρ S).bind (fun v S => truthR S v) = .ok false S1) : whileE φ G t body (n + 1) ρ S = .next ρ S1 := by
  unfold whileE
  conv => lhs; unfold whileLoop
  rw [ht]
  simp
theorem while_ret {t : Ex} {body : List Sm} {n : Nat} {S1 S2 : Store} {v : PV} (ht : (evE φ G t ρ S).bind (fun v S => truthR S v) = .ok true S1) (hb : exSs φ G body ρ S1 = .ret v S2) : whileE φ G t body (n + 1) ρ S = .ret v S2 := by
  unfold whileE
  conv => lhs; unfold whileLoop
  rw [ht]
  simp [hb]
@[simp] theorem xs_nil : exSs φ G [] ρ S = .next ρ S := by unfold exSs; rfl
@[simp] theorem xs_cons {s : Sm} {r : List Sm} : exSs φ G (s :: r) ρ S = thenS φ G (exS φ G s ρ S) r := by
  rw [exSs.eq_2]
  cases exS φ G s ρ S <;> rfl
end
section
variable {S : Store} {xs ys : List PV} {kvs : List (PV × PV)} {i j : Int} {z : Str} {b : Bool}
@[simp] theorem res_tupE : res S (.tup xs) = .tup xs := rfl
@[simp] theorem res_list : res S (.list xs) = .list xs := rfl
@[simp] theorem res_dict : res S (.dict kvs) = .dict kvs := rfl
@[simp] theorem res_int : res S (.int i) = .int i := rfl
@[simp] theorem res_str : res S (.str z) = .str z := rfl
@[simp] theorem res_bool : res S (.bool b) = .bool b := rfl
@[simp] theorem res_none : res S .none = .none := rfl
@[simp] theorem res_scr {ns : List Int} : res S (.scr ns) = .scr ns := rfl
@[simp] theorem truthR_bool : truthR S (.bool b) = .ok b S := rfl
@[simp] theorem truthR_none : truthR S .none = .ok false S := rfl
@[simp] theorem truthR_tup : truthR S (.tup xs) = .ok (!xs.isEmpty) S := rfl
@[simp] theorem truthR_list : truthR S (.list xs) = .ok (!xs.isEmpty) S := rfl
@[simp] theorem truthR_dict : truthR S (.dict kvs) = .ok (!kvs.isEmpty) S := rfl
@[simp] theorem truthR_int : truthR S (.int i) = .ok (i != 0) S := rfl
@[simp] theorem truthR_scr {ns : List Int} : truthR S (.scr ns) = .ok (!ns.isEmpty) S := rfl
@[simp] theorem assign_nm {n : Nat} {v : PV} {ρ : Env} : assign (.nm n) v ρ = if n < ρ.length then some (ρ.set n (some v)) else none := by unfold assign; rfl
@[simp] theorem assign_tp {ts : List Tg} {ρ : Env} : assign (.tp ts) (.tup xs) ρ = assignL ts xs ρ := by conv => lhs; unfold assign
@[simp] theorem assign_tpl {ts : List Tg} {ρ : Env} : assign (.tp ts) (.list xs) ρ = assignL ts xs ρ := by conv => lhs; unfold assign
@[simp] theorem assignL_nil {ρ : Env} : assignL [] [] ρ = some ρ := by unfold assignL; rfl
@[simp] theorem assignL_cons {t : Tg} {ts : List Tg} {x : PV} {ρ : Env} : assignL (t :: ts) (x :: xs) ρ = (assign t x ρ).bind (assignL ts xs) := by conv => lhs; unfold assignL
@[simp] theorem setAll_nil {ρ : Env} : setAll [] [] ρ = some ρ := rfl
@[simp] theorem setAll_cons {n : Nat} {is : List Nat} {x : PV} {ρ : Env} : setAll (n :: is) (x :: xs) ρ = if n < ρ.length then setAll is xs (ρ.set n (some x)) else none := rfl
@[simp] theorem opened_nm {n : Nat} {v : PV} : opened (.nm n) S v = v := rfl
@[simp] theorem opened_tp {ts : List Tg} {v : PV} : opened (.tp ts) S v = res S v := rfl
@[simp] theorem wipe_nil {ρ : Env} : wipeP ρ [] = ρ := rfl
@[simp] theorem wipe_cons {ρ : Env} {v : Nat} {vs : List Nat} : wipeP ρ (v :: vs) = (wipeP ρ vs).set v none := rfl
theorem place_nat {n k : Nat} (h : k < n) : place n (k : Nat) = some k := by
  unfold place
  rw [if_pos (by omega), if_pos (by omega)]
  simp
theorem place_pos {n : Nat} {i : Int} (h0 : 0 ≤ i) (h : i < n) : place n i = some i.toNat := by
  unfold place
  rw [if_pos (by omega), if_pos (by omega)]
@[simp] theorem item_tup0 {x : PV} : item (.tup (x :: xs)) (.int 0) = some x := by
  show (place (x :: xs).length (0 : Nat)).bind _ = _
  rw [place_nat (by simp)]; rfl
@[simp] theorem item_tup1 {x y : PV} : item (.tup (x :: y :: xs)) (.int 1) = some y := by
  show (place (x :: y :: xs).length (1 : Nat)).bind _ = _
  rw [place_nat (by simp)]; rfl
@[simp] theorem item_tup2 {x y z : PV} : item (.tup (x :: y :: z :: xs)) (.int 2) = some z := by
  show (place (x :: y :: z :: xs).length (2 : Nat)).bind _ = _
  rw [place_nat (by simp)]; rfl
@[simp] theorem item_tup3 {x y z u : PV} : item (.tup (x :: y :: z :: u :: xs)) (.int 3) = some u := by
  show (place (x :: y :: z :: u :: xs).length (3 : Nat)).bind _ = _
  rw [place_nat (by simp)]; rfl
@[simp] theorem item_tup4 {x y z u t : PV} : item (.tup (x :: y :: z :: u :: t :: xs)) (.int 4) = some t := by
  show (place (x :: y :: z :: u :: t :: xs).length (4 : Nat)).bind _ = _
  rw [place_nat (by simp)]; rfl
@[simp] theorem item_tup5 {x y z u t s : PV} : item (.tup (x :: y :: z :: u :: t :: s :: xs)) (.int 5) = some s := by
  show (place (x :: y :: z :: u :: t :: s :: xs).length (5 : Nat)).bind _ = _
  rw [place_nat (by simp)]; rfl
@[simp] theorem item_list0 {x : PV} : item (.list (x :: xs)) (.int 0) = some x := by
  show (place (x :: xs).length (0 : Nat)).bind _ = _
  rw [place_nat (by simp)]; rfl
@[simp] theorem item_list1 {x y : PV} : item (.list (x :: y :: xs)) (.int 1) = some y := by
  show (place (x :: y :: xs).length (1 : Nat)).bind _ = _
  rw [place_nat (by simp)]; rfl
@[simp] theorem item_list2 {x y z : PV} : item (.list (x :: y :: z :: xs)) (.int 2) = some z := by
  show (place (x :: y :: z :: xs).length (2 : Nat)).bind _ = _
  rw [place_nat (by simp)]; rfl
theorem res_lst {k : Nat} (h : S[k]? = some (.lst xs)) : res S (.ref k) = .list xs := by simp only [res, h]
theorem res_dic {k : Nat} {l : Bool} (h : S[k]? = some (.dic l kvs)) : res S (.ref k) = .dict kvs := by simp only [res, h]
theorem app_lst {k : Nat} {v : PV} (h : S[k]? = some (.lst xs)) (hl : xs.length ≤ 1000) : appAt S (.ref k) v = some (S.set k (.lst (xs ++ [v]))) := by
  simp only [appAt, h]
  rw [if_pos (by rw [sizeLine_eq]; omega)]
theorem item_tup {i : Int} (h0 : 0 ≤ i) (h : i < xs.length) : item (.tup xs) (.int i) = xs[i.toNat]? := by
  show (place xs.length i).bind (xs[·]?) = _
  rw [place_pos h0 h]; rfl
theorem item_list {i : Int} (h0 : 0 ≤ i) (h : i < xs.length) : item (.list xs) (.int i) = xs[i.toNat]? := by
  show (place xs.length i).bind (xs[·]?) = _
  rw [place_pos h0 h]; rfl
@[simp] theorem item_dict {k : Str} : item (.dict kvs) (.str k) = dget kvs (.str k) := by simp [item, isKey]
@[simp] theorem key_str : isKey (.str z) = true := rfl
@[simp] theorem key_int : isKey (.int i) = true := rfl
@[simp] theorem eq_str {a b : Str} : cop .eq (.str a) (.str b) = some (decide (a = b)) := rfl
@[simp] theorem ne_str {a b : Str} : cop .ne (.str a) (.str b) = some (!decide (a = b)) := rfl
@[simp] theorem eq_int : cop .eq (.int i) (.int j) = some (decide (i = j)) := rfl
@[simp] theorem ne_int : cop .ne (.int i) (.int j) = some (!decide (i = j)) := rfl
@[simp] theorem eq_bool {c : Bool} : cop .eq (.bool b) (.bool c) = some (decide (b = c)) := by cases b <;> cases c <;> rfl
@[simp] theorem ne_bool {c : Bool} : cop .ne (.bool b) (.bool c) = some (!decide (b = c)) := by cases b <;> cases c <;> rfl
@[simp] theorem eq_nn : cop .eq .none .none = some true := rfl
@[simp] theorem ne_nn : cop .ne .none .none = some false := rfl
@[simp] theorem eq_nb : cop .eq .none (.bool b) = some false := rfl
@[simp] theorem ne_nb : cop .ne .none (.bool b) = some true := rfl
@[simp] theorem eq_bn : cop .eq (.bool b) .none = some false := rfl
@[simp] theorem ne_bn : cop .ne (.bool b) .none = some true := rfl
@[simp] theorem is_bb {c : Bool} : cop .is (.bool b) (.bool c) = some (decide (b = c)) := by
  show some (decide (PV.bool b = PV.bool c)) = _
  congr 1; rw [decide_eq_decide]; exact ⟨PV.bool.inj, fun h => by rw [h]⟩
@[simp] theorem isnot_bb {c : Bool} : cop .isnot (.bool b) (.bool c) = some (!decide (b = c)) := by
  show (cop .is (.bool b) (.bool c)).map (!·) = _
  rw [is_bb]; rfl
@[simp] theorem is_nb : cop .is .none (.bool b) = some false := by
  show some (decide (PV.none = PV.bool b)) = _
  simp
@[simp] theorem isnot_nb : cop .isnot .none (.bool b) = some true := by
  show (cop .is .none (.bool b)).map (!·) = _
  rw [is_nb]; rfl
@[simp] theorem lt_int : cop .lt (.int i) (.int j) = some (decide (i < j)) := rfl
@[simp] theorem le_int : cop .le (.int i) (.int j) = some (decide (i ≤ j)) := rfl
@[simp] theorem gt_int : cop .gt (.int i) (.int j) = some (decide (j < i)) := rfl
@[simp] theorem ge_int : cop .ge (.int i) (.int j) = some (decide (j ≤ i)) := rfl
@[simp] theorem is_none {v : PV} : cop .is v .none = some (decide (v = .none)) := rfl
@[simp] theorem isnot_none {v : PV} : cop .isnot v .none = some (!decide (v = .none)) := rfl
@[simp] theorem add_int : bop .add (.int i) (.int j) = some (.int (i + j)) := rfl
@[simp] theorem sub_int : bop .sub (.int i) (.int j) = some (.int (i - j)) := rfl
@[simp] theorem len_tup : biv .len [.tup xs] = some (.int xs.length) := rfl
@[simp] theorem len_list : biv .len [.list xs] = some (.int xs.length) := rfl
@[simp] theorem len_str : biv .len [.str z] = some (.int z.length) := rfl
@[simp] theorem tuple_list : biv .tuple [.list xs] = some (.tup xs) := rfl
@[simp] theorem inst_none {t : Ty} : biv (.isinst t) [.none] = some (.bool false) := rfl
@[simp] theorem inst_bool {t : Ty} : biv (.isinst t) [.bool b] = some (.bool (t == .int || t == .bool)) := rfl
@[simp] theorem inst_int {t : Ty} : biv (.isinst t) [.int i] = some (.bool (t == .int)) := rfl
@[simp] theorem inst_str {t : Ty} : biv (.isinst t) [.str z] = some (.bool (t == .str)) := rfl
@[simp] theorem inst_tup {t : Ty} : biv (.isinst t) [.tup xs] = some (.bool (t == .tuple)) := rfl
@[simp] theorem inst_list {t : Ty} : biv (.isinst t) [.list xs] = some (.bool (t == .list)) := rfl
theorem dOkL_bools {α : Type} {f : α → Bool} {n : Nat} : ∀ {l : List α}, dOkL n (l.map fun x => PV.bool (f x)) = true
  | [] => rfl
  | x :: l => by show (dOk n (.bool (f x)) && dOkL n (l.map fun x => PV.bool (f x))) = true; rw [dOkL_bools]; cases n <;> rfl
theorem tru_bool {b : Bool} : tru (.bool b) = b := by cases b <;> rfl
@[simp] theorem all_bools {α : Type} {f : α → Bool} {l : List α} : biv .all [.list (l.map fun x => PV.bool (f x))] = some (.bool (l.all f)) := by
  show (if dOkL 63 (l.map fun x => PV.bool (f x)) then some (PV.bool ((l.map fun x => PV.bool (f x)).all tru)) else none) = _
  rw [dOkL_bools, if_pos rfl, List.all_map]
  congr 3; funext x; exact tru_bool
@[simp] theorem any_bools {α : Type} {f : α → Bool} {l : List α} : biv .any [.list (l.map fun x => PV.bool (f x))] = some (.bool (l.any f)) := by
  show (if dOkL 63 (l.map fun x => PV.bool (f x)) then some (PV.bool ((l.map fun x => PV.bool (f x)).any tru)) else none) = _
  rw [dOkL_bools, if_pos rfl, List.any_map]
  congr 3; funext x; exact tru_bool
@[simp] theorem kind_get1 : meKind .get1 (.dict kvs) = true := rfl
@[simp] theorem kind_get2 : meKind .get2 (.dict kvs) = true := rfl
@[simp] theorem kind_lcount : meKind .lcount (.list xs) = true := rfl
@[simp] theorem kind_lindex : meKind .lindex (.list xs) = true := rfl
@[simp] theorem kind_tcount : meKind .tcount (.tup xs) = true := rfl
@[simp] theorem kind_tindex : meKind .tindex (.tup xs) = true := rfl
@[simp] theorem get2_key {k : Str} {d : PV} : mev .get2 (.dict kvs) [.str k, d] = some ((dget kvs (.str k)).getD d) := rfl
@[simp] theorem get1_key {k : Str} : mev .get1 (.dict kvs) [.str k] = some ((dget kvs (.str k)).getD .none) := rfl
@[simp] theorem get2_int {d : PV} : mev .get2 (.dict kvs) [.int i, d] = some ((dget kvs (.int i)).getD d) := rfl
@[simp] theorem seqOf_tup : seqOf (.tup xs) = some xs := rfl
@[simp] theorem seqOf_list : seqOf (.list xs) = some xs := rfl
@[simp] theorem guardOf_tup : guardOf S (.tup xs) = [] := rfl
@[simp] theorem guardOf_list : guardOf S (.list xs) = [] := rfl
@[simp] theorem zipOf_tup : zipOf (.tup xs) (.tup ys) = some (zipP xs ys) := rfl
@[simp] theorem zipOf_list : zipOf (.list xs) (.list ys) = some (zipP xs ys) := rfl
@[simp] theorem zipP_map {α β : Type} {f : α → PV} {g : β → PV} : ∀ {l : List α} {m : List β}, zipP (l.map f) (m.map g) = (l.zip m).map fun p => .tup [f p.1, g p.2]
  | [], _ => by simp [zipP]
  | _ :: _, [] => by simp [zipP]
  | a :: l, b :: m => by simp [zipP, zipP_map]
@[simp] theorem enumOf_tup : enumOf (.tup xs) = some (enumP 0 xs) := rfl
@[simp] theorem enumOf_list : enumOf (.list xs) = some (enumP 0 xs) := rfl
theorem openD_ref {k : Nat} (h : S[k]? = some (.dic false kvs)) : openD S (.ref k) = true := by simp only [openD, h]
@[simp] theorem zipOf_lt : zipOf (.list xs) (.tup ys) = some (zipP xs ys) := rfl
@[simp] theorem zipOf_tl : zipOf (.tup xs) (.list ys) = some (zipP xs ys) := rfl
@[simp] theorem dget_nil {k : PV} : dget [] k = none := rfl
@[simp] theorem dget_cons {k a v : PV} : dget ((a, v) :: kvs) k = if a = k then some v else dget kvs k := by
  unfold dget
  rw [List.find?_cons]
  by_cases h : a = k <;> simp [h]
@[simp] theorem mergeP_nil : mergeP kvs [] = kvs := rfl
@[simp] theorem mergeP_cons {k v : PV} {r : List (PV × PV)} : mergeP kvs ((k, v) :: r) = mergeP (dput kvs k v) r := rfl
@[simp] theorem dput_nil {k v : PV} : dput [] k v = [(k, v)] := by simp [dput]
@[simp] theorem dput_cons {k a u v : PV} : dput ((a, u) :: kvs) k v = if a = k then (a, v) :: (kvs.map fun kv => if kv.1 = k then (kv.1, v) else kv) else (a, u) :: dput kvs k v := by
  unfold dput
  by_cases h : a = k
  · simp [h]
  · rw [if_neg h, List.any_cons]
    dsimp only
    rw [decide_eq_false h, Bool.false_or, List.map_cons, if_neg h]
    split <;> rfl
end
/-- a def stands at its place -/
class Hd (D : List Df) (f : Nat) (d : outParam Df) : Prop where
  h : D[f]? = some d
theorem call_eq {D : List Df} {G : List PV} {n f : Nat} {d : Df} [hd : Hd D f d] {vs : List PV} {S : Store} (hl : vs.length = d.np) : callP D G (n + 1) f vs S = if d.keep then endD (exSs (callP D G n) G d.body (vs.map some ++ List.replicate (d.nv - d.np) none) S) else finish S.length (endD (exSs (callP D G n) G d.body (vs.map some ++ List.replicate (d.nv - d.np) none) S)) := by
  have e : callP D G (n + 1) f vs S = runDf (callP D G n) G d vs S := by
    show (match D[f]? with | some d => runDf (callP D G n) G d vs S | none => .stuck) = _
    rw [hd.h]
  rw [e]
  unfold runDf
  rw [if_pos hl]
  congr 1 <;> cases exSs (callP D G n) G d.body (vs.map some ++ List.replicate (d.nv - d.np) none) S <;> rfl
class Gd (G : List PV) (g : Nat) (v : outParam PV) : Prop where
  h : G[g]? = some v
theorem glo_eq {G : List PV} {g : Nat} {v : PV} [h : Gd G g v] : G[g]? = some v := h.h
theorem comp_pure {α : Type} {F : α → PV} {tg : Tg} {ρ : Env} {tst : Env → Store → Res Bool} {el : Env → Store → Res PV} {S : Store} (ρ' : α → Env) (t : α → Bool) (f : α → PV) : ∀ {xs : List α}, (∀ x ∈ xs, assign tg (F x) ρ = some (ρ' x)) → (∀ x ∈ xs, tst (ρ' x) S = .ok (t x) S) → (∀ x ∈ xs, t x = true → el (ρ' x) S = .ok (f x) S) → compLoop [] tg ρ tst el (xs.map F) S = .ok ((xs.filter t).map f) S
  | [], _, _, _ => by simp [compLoop, guardOk]
  | x :: xs, ha, ht, hf => by
    have ih := comp_pure (tst := tst) (el := el) (F := F) (tg := tg) (ρ := ρ) (S := S) ρ' t f (xs := xs) (fun y hy => ha y (List.mem_cons_of_mem _ hy)) (fun y hy => ht y (List.mem_cons_of_mem _ hy)) (fun y hy => hf y (List.mem_cons_of_mem _ hy))
    have h1 := ha x List.mem_cons_self
    have h2 := ht x List.mem_cons_self
    have h3 := hf x List.mem_cons_self
    cases h : t x with
    | true =>
      rw [h] at h2
      simp [compLoop, guardOk, h1, h2, h3 h, ih, h]
    | false =>
      rw [h] at h2
      simp [compLoop, guardOk, h1, h2, ih, h]
theorem compE_filter {α : Type} {φ : Calls} {G : List PV} {elt : Ex} {tg : Tg} {ifs : List Ex} {F : α → PV} {ρ : Env} {S : Store} {xs : List α} (ρ' : α → Env) (t : α → Bool) (f : α → PV) (hl : xs.length ≤ 1000) (ha : ∀ x ∈ xs, assign tg (F x) ρ = some (ρ' x)) (ht : ∀ x ∈ xs, evTs φ G ifs (ρ' x) S = .ok (t x) S) (hf : ∀ x ∈ xs, t x = true → evE φ G elt (ρ' x) S = .ok (f x) S) :
    compE φ G elt tg ifs ρ { items := xs.map F } S = .ok (.list ((xs.filter t).map f)) S := by
  unfold compE
  rw [if_pos (by rw [sizeLine_eq, List.length_map]; omega), comp_pure ρ' t f ha ht hf]
  rfl
theorem compE_map {α : Type} {φ : Calls} {G : List PV} {elt : Ex} {tg : Tg} {F : α → PV} {ρ : Env} {S : Store} {xs : List α} (ρ' : α → Env) (f : α → PV) (hl : xs.length ≤ 1000) (ha : ∀ x ∈ xs, assign tg (F x) ρ = some (ρ' x)) (hf : ∀ x ∈ xs, evE φ G elt (ρ' x) S = .ok (f x) S) :
    compE φ G elt tg [] ρ { items := xs.map F } S = .ok (.list (xs.map f)) S := by
  rw [compE_filter ρ' (fun _ => true) f hl ha (fun _ _ => by simp) fun x hx _ => hf x hx]
  rw [List.filter_eq_self.mpr fun _ _ => rfl]
end Bt
end
section
set_option maxHeartbeats 8000000
namespace Bt
open PySem PySem.Spec L2
open PyProof.Rows hiding St
@[simp] theorem e_isx {φ : Calls} {G : List PV} {ρ : Env} {S : Store} {i k : Nat} {v : PV} (h : ρ[i]? = some (some v)) : evE φ G (.isx i k) ρ S = Res.ofO (isxV G v k) S := by
  conv => lhs; unfold evE
  rw [h]
theorem heard_told {φ : Calls} {G : List PV} {S : Store} {x : PV} : exSs φ G heardRest [none, some .none, some x, none, none, none, none] S = .ret (.tup [.str "told", x]) S := by
  simp [heardRest]
def hearD (c : Nat) : List (PV × PV) := (List.range 16).map fun k => (.str ((hearW[k]?).getD ""), .bool (decide (c = k)))
theorem isx_eq {a : Addr} {c k : Nat} : isxV [.exc c (xf a)] (.exc c (xf a)) k = some (.bool (subX c k)) := by
  unfold isxV
  rw [if_pos (show [PV.exc c (xf a)][0]? = some (PV.exc c (xf a)) from rfl)]
theorem hear_at {S : Store} {c : Cell} : (S ++ [c])[S.length]? = some c := by simp
theorem hear_set {S : Store} {c d : Cell} : (S ++ [c]).set S.length d = S ++ [d] := by simp
theorem hear_upd {S : Store} {T F : List (PV × PV)} (hl : T.length + F.length ≤ 1000) : updAt (S ++ [.dic false T]) (.ref S.length) (.dict F) = some (S ++ [.dic false (mergeP T F)]) := by
  simp only [updAt, hear_at, res]
  rw [if_neg (by simp), if_pos (by rw [sizeLine_eq]; omega), hear_set]
theorem hear_open {S : Store} {T : List (PV × PV)} : openD (S ++ [.dic false T]) (.ref S.length) = true := by simp only [openD, hear_at]
theorem heard_exc {φ : Calls} {S : Store} {a : Addr} {c : Nat} (hc : c < 16) : exSs φ [.exc c (xf a)] heardRest [none, some (.exc c (xf a)), none, none, none, none, none] S = .ret (.tup [.str ((hearW[c]?).getD "")]) (S ++ [.dic false (hearD c)]) := by
  have hk : ∀ k, k < 16 → subX c k = decide (c = k) := fun k hk => by unfold subX; simp; omega
  have h16 : subX c 16 = false := by unfold subX; simp; omega
  have h17 : subX c 17 = false := by unfold subX; simp; omega
  have h18 : subX c 18 = false := by unfold subX; simp; omega
  have h20 : subX c 20 = true := by unfold subX; simp
  have rx : ∀ S, res S (.exc c (xf a)) = .exc c (xf a) := fun _ => rfl
  have hD : hearD c = [(.str "no seen", .bool (subX c 0)), (.str "no told", .bool (subX c 1)), (.str "no condition", .bool (subX c 2)), (.str "no world", .bool (subX c 3)), (.str "no person", .bool (subX c 4)), (.str "no bet", .bool (subX c 5)), (.str "no result", .bool (subX c 6)), (.str "no offer", .bool (subX c 7)), (.str "no laying", .bool (subX c 8)), (.str "bad desk", .bool (subX c 9)), (.str "bad bet", .bool (subX c 10)), (.str "late", .bool (subX c 11)), (.str "no happening", .bool (subX c 12)), (.str "bad truth", .bool (subX c 13)), (.str "no back", .bool (subX c 14)), (.str "no text", .bool (subX c 15))] := by
    simp [hearD, hearW, List.range, List.range.loop, hk]
  have hkeys : (hearD c).map (·.1) = (List.range 16).map fun k => PV.str ((hearW[k]?).getD "") := by simp [hearD]
  have hnd : ((List.range 16).map fun k => PV.str ((hearW[k]?).getD "")).Nodup := by decide +kernel
  have hget : ∀ k ∈ List.range 16, dget (hearD c) (.str ((hearW[k]?).getD "")) = some (.bool (decide (c = k))) := fun k hk => by
    have key : ∀ (l : List Nat) (x : Nat), x ∈ l → (l.map fun k => PV.str ((hearW[k]?).getD "")).Nodup → dget (l.map fun k => (PV.str ((hearW[k]?).getD ""), PV.bool (decide (c = k)))) (.str ((hearW[x]?).getD "")) = some (.bool (decide (c = x))) := by
      intro l
      induction l with
      | nil => intro x h; simp at h
      | cons y l ih =>
        intro x h hn
        rw [List.map_cons, dget_cons]
        rw [List.map_cons, List.nodup_cons] at hn
        by_cases e : PV.str ((hearW[y]?).getD "") = PV.str ((hearW[x]?).getD "")
        · rcases List.mem_cons.mp h with h | h
          · subst h; simp
          · exact absurd (List.mem_map.mpr ⟨x, h, e.symm⟩) hn.1
        · rw [if_neg e]
          rcases List.mem_cons.mp h with h | h
          · subst h; exact absurd rfl e
          · exact ih x h hn.2
    exact key _ k hk hnd
  simp [heardRest, hkv, hearW, isx_eq, h16, h17, h18, rx, toRef, hear_open, hear_upd]
  rw [← hD]
  simp only [kKeys_ref hear_at, hkeys, ofR_ok, bind_ok, hear_set]
  have hcomp : compE φ [PV.exc c (xf a)] (.var 5) (.nm 5) [(.ix (.var 3) (.var 5))] [none, some (.exc c (xf a)), none, some (.ref S.length), none, none, none] { items := (List.range 16).map fun k => PV.str ((hearW[k]?).getD ""), lock := [S.length] } (S ++ [.dic true (hearD c)]) = .ok (.list (((List.range 16).filter fun k => decide (c = k)).map fun k => PV.str ((hearW[k]?).getD ""))) (S ++ [.dic false (hearD c)]) := by
    unfold compE
    rw [if_pos (by rw [sizeLine_eq]; simp)]
    dsimp only
    rw [comp_pure (fun k => [none, some (.exc c (xf a)), none, some (.ref S.length), none, some (PV.str ((hearW[k]?).getD "")), none]) (fun k => decide (c = k)) (fun k => PV.str ((hearW[k]?).getD "")) (fun k hk => by simp) (fun k hk => by
      have hg := hget k hk
      generalize decide (c = k) = b at hg ⊢
      cases b <;> simp [res_dic hear_at, hg]) (fun k hk _ => by simp)]
    simp only [bind_ok, unlock, setLock, hear_at, List.foldl, hear_set]
  have hf : ((List.range 16).filter fun k => decide (c = k)) = [c] := by
    match c, hc with
    | 0, _ | 1, _ | 2, _ | 3, _ | 4, _ | 5, _ | 6, _ | 7, _ | 8, _ | 9, _ | 10, _ | 11, _ | 12, _ | 13, _ | 14, _ | 15, _ => decide
    | c + 16, h => omega
  rw [hf] at hcomp
  rw [hcomp]
  simp [isx_eq, h20]
  rfl

/-- nothing raised -/
theorem takesF {X : Cx} : Takes X (fun _ _ _ _ => False) := fun _ _ ⟨_, _, _, _, _, _, _, _, _, _, _, _, _, _, _, _, z⟩ => z.elim
def hC (K : Kb) (cad : Xs) (G : List PV) : Cc := { K := K, φ := fun _ _ _ => .stuck, G := G, W := fun _ _ _ _ => False, cad := cad }
theorem heard_gives {X : Cx} {B : List Addr} {Tl : List (Addr × Str)} {cad : Xs} {k : Nat} {g : Addr} {cdv : Value} {params : Arguments} {bg : List Stmt} {sg : Scope} {q : Str} (hT : Tl = cad.T) (hblt : ∀ x ∈ bltNames, X.mg x = none) (hxs : XOkC X.K X.mg cad) (hc : chkHd params bg sg = true) (hr : Room (k + 1) X.A) :
    LamX.GivesTo X heardN "_law_heard" sg g cdv bg "deed" q (hTT ⟨X.K, B, Tl⟩ cad) := by
  intro f c' s H Q tl act hco hTTh
  unfold chkHd at hc
  simp only [Bool.and_eq_true, Bool.not_eq_true', decide_eq_true_eq] at hc
  obtain ⟨⟨⟨⟨⟨⟨⟨c1, c2⟩, c3⟩, c4⟩, c5⟩, c6⟩, c7⟩, c8⟩ := hc
  split at c8
  · rename_i r1 pr f1 pf kx px k1 p1 k2 p2 ky py p0 f2 pf2 d1 pd1 pd2 pt1 b1 pb1 e1 r2 pr2 e2 pe2 pa1 ph1 pt rest
    simp only [Bool.and_eq_true, decide_eq_true_eq] at c8
    obtain ⟨⟨⟨⟨⟨⟨⟨⟨⟨rfl, rfl⟩, rfl⟩, rfl⟩, rfl⟩, rfl⟩, rfl⟩, rfl⟩, c9⟩, c10⟩ := c8
    have lcl : ∀ x ∈ (["deed", "refused", "found", "e"] : List Str), sg.names.lookup x = some .local := fun x hx => of_decide_eq_true (List.all_eq_true.mp c6 x hx)
    have l0 := lcl "deed" (by decide)
    have l1 := lcl "refused" (by decide)
    have l2 := lcl "found" (by decide)
    have l6 := lcl "e" (by decide)
    have nd : heardN.Nodup := by decide +kernel
    have hgl : sg.names.lookup ("BetError" : Str) = some NameKind.globalImplicit := of_decide_eq_true c7
    let K0 : Kb := ⟨X.K, B, Tl⟩
    have hrm : Room k (X.A.deeper (envOfC "_law_heard" sg s.heap.objs.size g cdv)) := hr.deeper _
    have sw : swappedStores [.Tuple [.Name "refused" pr, .Name "found" pf] kx px] (.Tuple [.Constant .none k1 p1, .Constant .none k2 p2] ky py) (cxOf C8.CX0 X.prog X.w X.K X.mg X.base heardN "_law_heard" sg g cdv X.A X.stack s H C8.E0).nox.env = pure none := swS_ok c2 c9
    have st0 := ps_asg (X := (cxOf C8.CX0 X.prog X.w X.K X.mg X.base heardN "_law_heard" sg g cdv X.A X.stack s H C8.E0).nox) (pos := p0) (pe_tup (pos := py) (x1 := ky) (pa_cons (pe_non (j := k1) (pos := p1)) (pa_cons (pe_non (j := k2) (pos := p2)) pa_nil)))
      (pg_tup (pos := px) (k := kx) rfl (pgs_cons (pg_name (i := 1) (pos := pr) nd rfl (.inl l1)) (pgs_cons (pg_name (i := 2) (pos := pf) nd rfl (.inl l2)) pgs_nil))) (sole_plain rfl) sw rfl
    have rst := fun (Y : Cx) (C : Cc) (hN : Y.N = heardN) (hsc : Y.env.scope = sg) (hfn : Y.fn = fun _ => true) (hpx : PxOk Y C) (hE : EnvF heardTab k Y C) (hp : PassesOwn (model Y.prog Y.w) Y.A Y.env Y.xe) => sndSs heardTab k heardRest rest ⟨heardN, sg, fun _ => true, false, true⟩ Y C c10 ⟨hN, hsc, hfn, (fun z => nomatch z), fun _ => hpx⟩ c2 hE hp
    have tr := pss_try_rest (X := (cxOf C8.CX0 X.prog X.w X.K X.mg X.base heardN "_law_heard" sg g cdv X.A X.stack s H C8.E0).nox) (x := "BetError") (n := "e") (c := .ref (cad.a 19)) (i := 6) (np := pb1) (pos := pt) (pos' := ph1) (rest := rest)
      (body := [.Assign [.Name "found" pf2] (.Call (.Name "deed" pd1) [] [] pd2) pt1]) (b₀ := .Assign [.Name "refused" pr2] (.Name "e" pe2) pa1) (suite := [])
      (tb := fun W D σ H => ∃ E : XK, (∀ cls d σ' H', E cls d H' → W cls d σ' H') ∧ σ[0]? = some (some (.ref f)) ∧ H c' = some (LamX.CodeO c' q) ∧ tl E H (fun v H' => D.nx (σ.set 2 (some v)) H'))
      (ts := fun _ _ _ => tAsg (tVar 6) (gName 1)) (u := tSs (hC K0 cad []) heardRest)
      (ur := fun a cls d D σ H => ∃ c, c < 16 ∧ cls = .ref (cad.a c) ∧ d = none ∧ tSs (hC K0 cad [.exc c (xf a)]) heardRest D σ H)
      rfl rfl nd rfl l6 ⟨hgl, by decide, .inl (hxs.at_ 19 (by decide))⟩
      (fun W pn xe tk => ⟨fun pins sZ σ HZ D I ⟨E, hW, h0, hcc, ht⟩ => (pss_one (ps_set (pos := pt1) (pos' := pf2) nd (i := 2) rfl (.inl l2) (act W pn xe E pd1 pd2 tk hW) rfl (.inl rfl))).run pins sZ σ HZ D I ⟨h0, hcc, ht⟩⟩)
      (fun a oe cls d pn => pss_one (ps_set (pos := pa1) (pos' := pr2) nd (i := 1) rfl (.inl l1) (pe_var (i := 6) (pos := pe2) rfl (.inl l6)) rfl (.inl rfl)))
      (rst ((cxOf C8.CX0 X.prog X.w X.K X.mg X.base heardN "_law_heard" sg g cdv X.A X.stack s H C8.E0).nox) (hC K0 cad []) rfl rfl rfl (fun v hv => by simp [hC] at hv) ⟨rfl, hT, rfl, nd, takesF, hrm, (fun f x ps h => by simp [heardTab] at h), (fun g x h => by simp [heardTab] at h), hblt, (fun x h => by cases h), fun _ => hxs⟩ PassesOwn.never)
      (fun a oe cls d pn hm hz hf => ⟨fun pins sZ σ HZ D I ⟨c, hc, ec, ed, h⟩ => (rst ((cxOf C8.CX0 X.prog X.w X.K X.mg X.base heardN "_law_heard" sg g cdv X.A X.stack s H C8.E0).nox.tr pn (fun _ _ => False)) (hC K0 cad [.exc c (xf a)]) rfl rfl rfl (fun v hv => by
          have hv : some (PV.exc c (xf a)) = some v := hv
          cases hv
          exact ⟨c, a, oe, rfl, hc, hm, by subst ec ed; exact hz, hf⟩) ⟨rfl, hT, rfl, nd, takesF, hrm, (fun f x ps h => by simp [heardTab] at h), (fun g x h => by simp [heardTab] at h), hblt, (fun x h => by cases h), fun _ => hxs⟩ PassesOwn.never).run pins sZ σ HZ D I h⟩)
    refine ⟨_, pss_cons st0 tr, ?_⟩
    refine ⟨by rw [sizeLine_eq]; decide, fun p hp => ⟨p, [.non, .non], rfl, .inl (.inl upd_same), rfl, .non, [.non], rfl, .non, [], rfl, rfl, ?_⟩⟩
    have kp : ∀ b o, H b = some o → upd H p (.tup [.non, .non]) b = some o := fun b o e => by rw [upd_ne (ne_of_none e hp)]; exact e
    refine ⟨hEX K0 cad Q, fun cls d σ' H' ⟨c, hc16, ι, S, w, ec, ed, hS, hw, hlo, hq⟩ => ⟨by rw [ec]; exact (hxs.cl c hc16).em, fun hl a na => ?_⟩, rfl, kp _ _ hco, hTTh _ kp _ _ (fun v H2 ⟨ι, S, x, hS, rx, hq⟩ => ?_) (fun _ _ _ h => h)⟩
    · have hl7 : σ'.length = 7 := hl
      have h6 : (σ'.set 6 (some (V.ref a)))[6]? = some (some (.ref a)) := by rw [List.getElem?_set_self (by omega)]
      refine ⟨.ref a, h6, c, hc16, ec, ed, [none, some (.exc c (xf a)), none, none, none, none, none], S, ι, ⟨by simp [hl7], fun i x hx => ?_⟩, hS, ?_⟩
      · have hi : i = 1 := by
          match i, hx with
          | 0, hx => simp at hx
          | 1, _ => rfl
          | 2, hx => simp at hx
          | 3, hx => simp at hx
          | 4, hx => simp at hx
          | 5, hx => simp at hx
          | 6, hx => simp at hx
          | i + 7, hx => simp at hx
        subst hi
        have hx : PV.exc c (xf a) = x := by simpa using hx
        subst hx
        exact ⟨.ref a, by rw [List.getElem?_set_ne (by decide), List.getElem?_set_self (by simp; omega)], .exc rfl⟩
      · show PostO (hC K0 cad [.exc c (xf a)]) ι H' (exSs (fun _ _ _ => .stuck) [.exc c (xf a)] heardRest _ S) _
        rw [heard_exc hc16, hw]
        intro x H3 ι3 e3 s3 r3
        have hn : S.length = ι.length := hS.len.symm
        have ht : (S ++ [Cell.dic false (hearD c)]).take S.length = S := List.take_left
        have s4 := s3.less e3.pre hn (by rw [ht]; exact hlo)
        rw [ht] at s4
        exact hq x H3 ι e3.stay s4 (r3.less e3.pre hn _ _ rfl)
    · refine ⟨[none, some .none, some x, none, none, none, none], S, ι, ⟨rfl, fun i y hy => ?_⟩, hS, ?_⟩
      · match i, hy with
        | 0, hy => simp at hy
        | 1, hy => have hy : PV.none = y := by simpa using hy
                   subst hy
                   exact ⟨.non, rfl, .non⟩
        | 2, hy => have hy : x = y := by simpa using hy
                   subst hy
                   exact ⟨v, rfl, rx⟩
        | 3, hy => simp at hy
        | 4, hy => simp at hy
        | 5, hy => simp at hy
        | 6, hy => simp at hy
        | i + 7, hy => simp at hy
      · show PostO (hC K0 cad []) ι H2 (exSs (fun _ _ _ => .stuck) [] heardRest _ S) _
        rw [heard_told]
        exact fun x' H3 ι3 e3 s3 r3 => hq x' H3 ι3 e3 s3 r3
  · cases c8
end Bt
end
section
set_option maxHeartbeats 8000000
namespace Bt
open PySem PySem.Spec L2
open PyProof.Rows hiding St
theorem lawCP_ok {K : PySem.W.Frag} {c P : Addr} (h : lawCP K = some (c, P)) : ∃ (oc e : Value) (od dd : Option Addr) (fd : FuncData) (osl sl : Array (Option Value)) (vs : Array Value), K.lookup (He.ga K "law") = some ⟨oc, od, .func fd, osl⟩ ∧ fd.code = .ref c ∧ K.lookup c = some ⟨e, dd, .fields vs, sl⟩ ∧ vs[11]? = some (.ref P) ∧ K.lookup P = none ∧ ∀ hp : Heap, K.In hp → PySem.W.CodeHd hp c P := by
  unfold lawCP at h
  split at h
  · rename_i oc od fd osl hl
    split at h
    · rename_i c0 hc0
      split at h
      · rename_i t dd vs sl hk
        split at h
        · rename_i P1 P2 s1 t1 i2 t2 b3 i4 t4 e1 e2 e3 e4 e5 e6
          split at h
          · rename_i hb
            simp only [Bool.and_eq_true, Bool.not_eq_true', beq_iff_eq, Option.isNone_iff_eq_none] at hb
            obtain ⟨⟨⟨b1, b2⟩, b3'⟩, b4⟩ := hb
            cases h
            subst b1 b2
            refine ⟨oc, _, od, dd, fd, osl, sl, vs, hl, hc0, hk, e1, b4, fun hp hin => ⟨_, vs, _, _, _, _, _, _, _, hin _ _ hk, rfl, rfl, e1, e2, e3, e4, e5, e6, fun z => ?_⟩⟩
            subst z
            simp at b3'
          · cases h
        · cases h
      · cases h
    · cases h
  · cases h
section
variable {l : PySem.W.OpenLaw} {w : World} {K : PySem.W.Frag} {mg : Str → Option Value} {h : Heap} {es : List (Option Ent)} {gs : List (Option (Str × PV))} {fn : List He.DefD}
/-- the law, where the evaluator says True at every script -/
theorem law_endL {n k f j : Nat} {fa : Addr} {eL eH : Ent} (hc : chkAll 2 (tabOf 2 es gs) es fn = true) (X : K.In h) (G : h.Ns mainGlobals mg) (c : He.SaysD (faOf 2 es) fn K) (cg : gB 2 gs K = true) (own : LamX.OwnTab K fa h)
    (hl : es[f]? = some (some eL)) (el1 : eL.x = "law") (el2 : eL.ps = [Str.ofString "script"]) (hh : es[j]? = some (some eH)) (eh1 : eH.x = "_law_heard") (hfa : mg ("law" : Str) = some (.ref fa))
    (run : ∀ ns : List Int, ns.length ≤ n → ∃ S, callP (es.map dOf) (gs.map gOf) (k + 1) f [.scr ns] [] = .ok (.bool true) S) : LamX.LawAtS l w K L2.CX0 (k + 3) n "script" mg fa h := by
  have hcp : (lawCP K).isSome = true := by
    unfold gB at cg
    simp only [Bool.and_eq_true, decide_true, Bool.not_true, Bool.false_or] at cg
    exact cg.2
  obtain ⟨⟨cc, P⟩, hcp⟩ := Option.isSome_iff_exists.mp hcp
  obtain ⟨oc, e, od, dd, fd0, osl, sl, vs, q1, q2, q3, q4, q5, q6⟩ := lawCP_ok hcp
  obtain ⟨dL, fd, F, hm, d4⟩ := ent_of hc X G c hl
  obtain ⟨dH, fdH, FH, hmH, d4H⟩ := ent_of hc X G c hh
  rw [el1] at F hm
  rw [eh1] at FH hmH
  have ea : fa = He.ga K "law" := by rw [hfa] at hm; cases hm; rfl
  subst ea
  have o1 : isOwn 2 eL.x = true := by rw [el1]; decide
  have o2 : isOwn 2 eH.x = true := by rw [eh1]; decide
  have n2 : ¬ eH.x = ("law" : Str) := by rw [eh1]; decide
  unfold chkEnt at d4 d4H
  rw [if_pos o1, if_pos (by rw [el1]; decide), el2] at d4
  rw [if_pos o2, if_neg (by simpa using n2)] at d4H
  simp only [Bool.and_eq_true, decide_eq_true_eq] at d4H
  obtain ⟨⟨hd1, hd2⟩, hd3⟩ := d4H
  have d40 := d4
  simp only [chkDf, Bool.and_eq_true, decide_eq_true_eq] at d4
  obtain ⟨⟨⟨⟨⟨⟨⟨⟨⟨⟨⟨c1, c2⟩, _⟩, _⟩, _⟩, _⟩, _⟩, _⟩, _⟩, _⟩, _⟩, _⟩ := d4
  have bnd := bind_of F c1 c2
  let q : Str := (dL.qual ++ ".<locals>.") ++ "<lambda>"
  have xs : XOkC K mg (cadOf K [(P, q)]) := xs_of X G c (by decide) cg
  have pg : Pg K mg (tabOf 2 es gs) (es.map dOf) (gs.map gOf) (cadOf K [(P, q)]) := pg_of hc X G c cg
  have hdf : (es.map dOf)[f]? = some eL.d := by rw [List.getElem?_map, hl]; rfl
  refine ⟨fd, [(cc, P)], fun us H Q E => spD K (callP (es.map dOf) (gs.map gOf) (k + 1)) (gs.map gOf) (cadOf K [(P, q)]) f 1 us H Q fun _ _ _ => False, fun p hp => ?_, fun p hp => ?_, fun p hp => ?_, fun s u => ?_, fun H ad ns hln _ hH sq => ?_, fun base hB hN TB => ?_⟩
  · rw [List.mem_singleton.mp hp]
    exact own cc P _ fd0 e dd vs sl q1 rfl q2 q3 q4
  · rw [List.mem_singleton.mp hp]
    exact q5
  · rw [List.mem_singleton.mp hp]
    exact q6 h X
  · intro M A Q E z
    have := bnd [u] [] rfl
    rw [show (["script"] : List Str).drop [u].length = [] from rfl] at this
    have e : bindArgs fd ⟨[u], []⟩ = pure [(("script" : Str), u)] := this
    rw [e]
    exact wpAny_pure z
  · obtain ⟨S, e⟩ := run ns hln
    refine ⟨rfl, [], [], [], [.scr ns], ⟨rfl, List.nodup_nil, (fun b m => by simp at m), fun p hp => ?_, fun k a c e => by simp at e⟩, .cons ?_ .nil, ?_⟩
    · have hp : p ∈ [(P, q)] := hp
      rw [List.mem_singleton.mp hp]
      exact LamX.TabS.nil (hH (cc, P) List.mem_cons_self)
    · rcases sq with sq | sq
      · exact .scr sq ⟨by simp, by simp⟩
      · exact .scrK sq
    · rw [e]
      intro x H' ι' _ _ r
      cases r
      rfl
  · have FO := fn_step (P := l.prog) (w := w) (base := base) pg (show k ≤ k + 2 by omega) (fun f x ps h => fn_all pg k h) true hdf F d40 (fun _ dV kV doc pm cdv ct oc' an od' osl' lk A outer s H E C hT hcad hr => by
      obtain ⟨oc2, od2, dV2, kV2, doc2, pm2, an2, cdv2, ct2, osl2, e2, lk2, hcd2, _, _⟩ := FH.ex
      rw [hd2, hd3] at e2
      rw [e2] at lk2
      rw [hd3] at hcd2
      have hd10 := hd1
      unfold chkHd at hd10
      simp only [Bool.and_eq_true, Bool.not_eq_true', decide_eq_true_eq] at hd10
      obtain ⟨⟨⟨⟨⟨⟨⟨g1, g2⟩, g3⟩, g4⟩, g5⟩, g6⟩, g7⟩, g8⟩ := hd10
      have l0 : dH.scope.names.lookup ("deed" : Str) = some NameKind.local := of_decide_eq_true (List.all_eq_true.mp g6 "deed" (by decide))
      have hb2 := bind_of FH (ps := ["deed"]) g1 (by decide)
      rw [e2] at hb2
      have ecd : cdv = .ref cc := by
        rw [q1] at lk
        cases lk
        exact q2
      refine ⟨He.ga K "_law_heard", cc, P, dH.params, dH.body, dH.scope, dV2, kV2, doc2, pm2, cdv2, ct2, oc2, an2, od2, osl2, heardN, hmH, FH.kp, lk2, hcd2, Binds.all fun us hu => ?_, ⟨g2, g3, g4, by decide +kernel, rfl, fun x hx => ?_, fun y hy => of_decide_eq_true (List.all_eq_true.mp g5 y hy)⟩, rfl, .inl l0, TB (cc, P) List.mem_cons_self, ecd, ?_, fun p hp _ => ?_, hr, fun B => ?_⟩
      · have := hb2 us [] (by simpa using hu)
        rw [hu] at this
        simpa using this
      · rw [List.mem_singleton.mp hx]
        exact .inl l0
      · rw [hT]
        exact List.mem_cons_self
      · rw [hT] at hp
        have hp : p ∈ [(P, q)] := hp
        rw [List.mem_singleton.mp hp]
        rfl
      · rw [hT, hcad]
        exact heard_gives (k := k) rfl pg.blt xs hd1 (hr.mono (by omega)))
    refine ⟨fun vs H Q E q => FO.len vs H Q _ q, fun A outer s H args us vs Q E hr he hb hv q => ?_⟩
    refine codeAny_mono (FO.run A outer s H args us vs Q (fun _ _ _ => False) hr he hb hv q) fun r s' z => ?_
    cases r with
    | ok fl => cases fl <;> exact z
    | error e =>
      obtain ⟨_, _, _, _, _, _, _, _, _, _, _, _, w⟩ := z
      exact w.elim
/-- a law with a table of its own -/
theorem walk_ownE {n k : Nat} {q : Program} {loose : List Str} {XP : (Str → Option Value) → Heap → Prop} {YP : World → Heap → Prop} {d : DefRec} {x : Str} (hn : l.most = some n) (hn2 : n ≤ sizeLine) (hdf : d.params.defaults = []) (hr : Room k callerA)
    (hrec : ((recsOf q).any fun e => e.name == d.name) = true) (F : ∀ (w : World) (mg : Str → Option Value) (fa : Addr) (h : Heap), YP w h → h.Ns mainGlobals mg → mg d.name = some (.ref fa) → ∃ K : PySem.W.Frag, K.In h ∧ (LamX.OwnTab K fa h → LamX.LawAtS l w K L2.CX0 k n x mg fa h)) :
    PySem.W.WalkO q loose XP YP l.row.toRowW d [] (fun f vs => PySem.call f vs) := by
  refine Att.attach_callB hn hdf fun w s₀ s₁ mg mb fa o pm cd doc a vs ns G Y ho hd hcd hmg hobj hints hlen hbits hg => ?_
  obtain ⟨K, KX, hlaw⟩ := F w mg fa _ Y G.T.g hmg
  obtain ⟨fd, cs, sp, hT, nT, C, hb, hsp, hF⟩ := hlaw fun c P o1 fd1 e dd vs1 sl k1 k2 k3 k4 k5 => by
    obtain ⟨dL, hm, hn1⟩ := List.any_eq_true.mp hrec
    obtain ⟨a', o', fd', c', P', h1, h2, h3, h4, h5, ⟨⟨oc, vc, e1, _, e3, e4⟩, hP⟩⟩ := G.T.tab dL hm
    rw [show dL.name = d.name from beq_iff_eq.mp hn1, hmg] at h1
    cases h1
    rw [KX _ _ k1] at h2
    cases h2
    rw [k2] at h3
    cases h3
    rw [k3] at h4
    cases h4
    rw [KX _ _ k4] at e1
    cases e1
    cases e3
    rw [k5] at e4
    cases e4
    exact hP
  exact LamX.law_callTs KX G.T.g G.T.b G.T.builtins G.T.nolimit hg hT nT C G.T.bmain hobj hints (Nat.le_trans hlen hn2) hr hF hb (fun H hH hS => hsp H a ns hlen hbits hH hS) fun _ _ _ z => z
end
end Bt
end
section
set_option maxHeartbeats 1000000
namespace Bt
open PySem
/-- it ends well, with this behind it -/
def Wp {α : Type} (r : Res α) (Q : α → Store → Prop) : Prop := match r with
  | .ok a S => Q a S
  | _ => False
def WpO (o : Out) (nx : Env → Store → Prop) (rt : PV → Store → Prop) : Prop := match o with
  | .next ρ S => nx ρ S
  | .ret v S => rt v S
  | _ => False
section
variable {α β : Type} {Q Q' : α → Store → Prop} {S : Store}
theorem Wp.mono {r : Res α} (h : Wp r Q) (hq : ∀ a S, Q a S → Q' a S) : Wp r Q' := by
  cases r with
  | ok a S => exact hq a S h
  | exc _ _ => exact h
  | stuck => exact h
theorem Wp.ex {r : Res α} (h : Wp r Q) : ∃ a S, r = .ok a S ∧ Q a S := by
  cases r with
  | ok a S => exact ⟨a, S, rfl, h⟩
  | exc _ _ => exact h.elim
  | stuck => exact h.elim
@[simp] theorem Wp_ok {a : α} : Wp (.ok a S) Q = Q a S := rfl
@[simp] theorem Wp_bind {r : Res α} {f : α → Store → Res β} {R : β → Store → Prop} : Wp (r.bind f) R = Wp r fun a S => Wp (f a S) R := by cases r <;> rfl
@[simp] theorem Wp_map {r : Res α} {f : α → β} {R : β → Store → Prop} : Wp (r.map f) R = Wp r fun a S => R (f a) S := by cases r <;> rfl
@[simp] theorem Wp_some {a : α} : Wp (Res.ofO (some a) S) Q = Q a S := rfl
@[simp] theorem Wp_none : Wp (Res.ofO (none : Option α) S) Q = False := rfl
@[simp] theorem Wp_stuck : Wp (Res.stuck : Res α) Q = False := rfl
theorem Wp_ofO {o : Option α} {S : Store} : Wp (Res.ofO o S) Q = ∃ a, o = some a ∧ Q a S := by
  cases o with
  | none => simp
  | some a => simp
end
section
variable {nx nx' : Env → Store → Prop} {rt rt' : PV → Store → Prop} {ρ : Env} {S : Store}
theorem WpO.mono {o : Out} (h : WpO o nx rt) (h1 : ∀ ρ S, nx ρ S → nx' ρ S) (h2 : ∀ v S, rt v S → rt' v S) : WpO o nx' rt' := by
  cases o with
  | next ρ S => exact h1 _ _ h
  | ret v S => exact h2 _ _ h
  | _ => exact h
@[simp] theorem WpO_next : WpO (.next ρ S) nx rt = nx ρ S := rfl
@[simp] theorem WpO_ret {v : PV} : WpO (.ret v S) nx rt = rt v S := rfl
@[simp] theorem WpO_stuck : WpO .stuck nx rt = False := rfl
@[simp] theorem WpO_ofR {α : Type} {r : Res α} {f : α → Store → Out} : WpO (Out.ofR ρ r f) nx rt = Wp r fun a S => WpO (f a S) nx rt := by cases r <;> rfl
@[simp] theorem WpO_then {o : Out} {f : Env → Store → Out} : WpO (o.then f) nx rt = WpO o (fun ρ S => WpO (f ρ S) nx rt) rt := by cases o <;> rfl
@[simp] theorem WpO_nil {φ : Calls} {G : List PV} : WpO (exSs φ G [] ρ S) nx rt = nx ρ S := by rw [exSs.eq_1]; rfl
@[simp] theorem WpO_cons {φ : Calls} {G : List PV} {s : Sm} {ss : List Sm} : WpO (exSs φ G (s :: ss) ρ S) nx rt = WpO (exS φ G s ρ S) (fun ρ S => WpO (exSs φ G ss ρ S) nx rt) rt := by rw [exSs.eq_2]; simp
@[simp] theorem WpO_ite {c : Prop} [Decidable c] {a b : Out} : WpO (if c then a else b) nx rt = if c then WpO a nx rt else WpO b nx rt := by split <;> rfl
@[simp] theorem Wp_ite {α : Type} {Q : α → Store → Prop} {c : Prop} [Decidable c] {a b : Res α} : Wp (if c then a else b) Q = if c then Wp a Q else Wp b Q := by split <;> rfl
end
section
variable {φ : Calls} {G : List PV} {ρ : Env} {S : Store} {Q : PV → Store → Prop} {nx : Env → Store → Prop} {rt : PV → Store → Prop}
theorem w_var {i : Nat} {v : PV} (e : ρ[i]? = some (some v)) (h : Q v S) : Wp (evE φ G (.var i) ρ S) Q := by
  unfold evE; rw [e]; exact h
theorem w_cst {v : PV} (h : Q v S) : Wp (evE φ G (.cst v) ρ S) Q := by unfold evE; exact h
theorem w_glo {g : Nat} {v : PV} (e : G[g]? = some v) (h : Q v S) : Wp (evE φ G (.glo g) ρ S) Q := by unfold evE; rw [e]; exact h
theorem w_bin {o : Bop} {a b : Ex} (h : Wp (evE φ G a ρ S) fun x S => Wp (evE φ G b ρ S) fun y S => ∃ z, bop o (res S x) (res S y) = some z ∧ Q z S) : Wp (evE φ G (.bin o a b) ρ S) Q := by
  unfold evE
  simp only [Wp_bind, Wp_ofO]
  exact h
theorem w_cmp {o : Cop} {a b : Ex} (h : Wp (evE φ G a ρ S) fun x S => Wp (evE φ G b ρ S) fun y S => ∃ z, cop o (res S x) (res S y) = some z ∧ Q (.bool z) S) : Wp (evE φ G (.cmp o a b) ρ S) Q := by
  unfold evE
  simp only [Wp_bind]
  refine h.mono fun x S hx => hx.mono fun y S ⟨z, e, q⟩ => ?_
  rw [e]
  exact q
theorem w_ix {a b : Ex} (h : Wp (evE φ G a ρ S) fun x S => Wp (evE φ G b ρ S) fun y S => ∃ z, item (res S x) y = some z ∧ Q z S) : Wp (evE φ G (.ix a b) ρ S) Q := by
  unfold evE
  simp only [Wp_bind, Wp_ofO]
  exact h
theorem w_not {a : Ex} (h : Wp (evE φ G a ρ S) fun x S => ∃ b, truth (res S x) = some b ∧ Q (.bool (!b)) S) : Wp (evE φ G (.not a) ρ S) Q := by
  unfold evE
  simp only [Wp_bind, Wp_map, truthR]
  refine h.mono fun x S ⟨b, e, q⟩ => ?_
  rw [e]; exact q
theorem w_and {a b : Ex} (h : Wp (evE φ G a ρ S) fun x S => ∃ t, truth (res S x) = some t ∧ if t = true then Wp (evE φ G b ρ S) Q else Q x S) : Wp (evE φ G (.and a b) ρ S) Q := by
  unfold evE
  simp only [Wp_bind, truthR]
  refine h.mono fun x S ⟨t, e, q⟩ => ?_
  rw [e]
  cases t <;> simpa using q
theorem w_or {a b : Ex} (h : Wp (evE φ G a ρ S) fun x S => ∃ t, truth (res S x) = some t ∧ if t = true then Q x S else Wp (evE φ G b ρ S) Q) : Wp (evE φ G (.or a b) ρ S) Q := by
  unfold evE
  simp only [Wp_bind, truthR]
  refine h.mono fun x S ⟨t, e, q⟩ => ?_
  rw [e]
  cases t <;> simpa using q
theorem w_ite {t a b : Ex} (h : Wp (evE φ G t ρ S) fun x S => ∃ k, truth (res S x) = some k ∧ if k = true then Wp (evE φ G a ρ S) Q else Wp (evE φ G b ρ S) Q) : Wp (evE φ G (.ite t a b) ρ S) Q := by
  unfold evE
  simp only [Wp_bind, truthR]
  refine h.mono fun x S ⟨t, e, q⟩ => ?_
  rw [e]
  cases t <;> simpa using q
theorem w_nil {R : List PV → Store → Prop} (h : R [] S) : Wp (evEs φ G [] ρ S) R := by unfold evEs; exact h
theorem w_cons {e : Ex} {es : List Ex} {R : List PV → Store → Prop} (h : Wp (evE φ G e ρ S) fun v S => Wp (evEs φ G es ρ S) fun vs S => R (v :: vs) S) : Wp (evEs φ G (e :: es) ρ S) R := by
  rw [evEs.eq_2]
  simp only [Wp_bind, Wp_map]
  exact h
theorem w_tup {es : List Ex} (h : Wp (evEs φ G es ρ S) fun vs S => Q (.tup vs) S) : Wp (evE φ G (.tup es) ρ S) Q := by unfold evE; simpa using h
theorem w_lst {es : List Ex} (h : Wp (evEs φ G es ρ S) fun vs S => Q (.list vs) S) : Wp (evE φ G (.lst es) ρ S) Q := by unfold evE; simpa using h
theorem w_call {f : Nat} {es : List Ex} (h : Wp (evEs φ G es ρ S) fun vs S => Wp (φ f vs S) Q) : Wp (evE φ G (.call f es) ρ S) Q := by unfold evE; simpa using h
theorem w_bi {b : Bi} {es : List Ex} (h : Wp (evEs φ G es ρ S) fun vs S => ∃ z, biv b (vs.map (res S)) = some z ∧ Q z S) : Wp (evE φ G (.bi b es) ρ S) Q := by
  unfold evE
  simp only [Wp_bind, Wp_ofO]
  exact h
theorem w_me {m : Me} {o : Ex} {es : List Ex} (h : Wp (evE φ G o ρ S) fun x S => meKind m (res S x) = true ∧ Wp (evEs φ G es ρ S) fun vs S => ∃ z, mev m (res S x) vs = some z ∧ Q z S) : Wp (evE φ G (.me m o es) ρ S) Q := by
  unfold evE
  simp only [Wp_bind]
  refine h.mono fun x S ⟨hk, q⟩ => ?_
  rw [if_pos hk]
  simp only [Wp_bind, Wp_ofO]
  exact q
theorem s_asg {i : Nat} {e : Ex} (h : Wp (evE φ G e ρ S) fun v S => i < ρ.length ∧ nx (ρ.set i (some v)) S) : WpO (exS φ G (.asg (.nm i) e) ρ S) nx rt := by
  unfold exS
  simp only [WpO_ofR]
  refine h.mono fun v S ⟨hl, q⟩ => ?_
  have : assign (.nm i) (opened (.nm i) S v) ρ = some (ρ.set i (some v)) := by
    show (if i < ρ.length then some (ρ.set i (some v)) else none) = _
    rw [if_pos hl]
  rw [this]
  exact q
theorem s_asgT {ts : List Tg} {e : Ex} (h : Wp (evE φ G e ρ S) fun v S => ∃ ρ', assign (.tp ts) (res S v) ρ = some ρ' ∧ nx ρ' S) : WpO (exS φ G (.asg (.tp ts) e) ρ S) nx rt := by
  unfold exS
  simp only [WpO_ofR]
  refine h.mono fun v S ⟨ρ', e, q⟩ => ?_
  have : assign (.tp ts) (opened (.tp ts) S v) ρ = some ρ' := e
  rw [this]
  exact q
theorem s_par {is : List Nat} {es : List Ex} (h : Wp (evEs φ G es ρ S) fun vs S => ∃ ρ', setAll is vs ρ = some ρ' ∧ nx ρ' S) : WpO (exS φ G (.par is es) ρ S) nx rt := by
  unfold exS
  simp only [WpO_ofR]
  refine h.mono fun v S ⟨ρ', e, q⟩ => ?_
  rw [e]
  exact q
theorem s_put {o k v : Ex} (h : Wp (evE φ G v ρ S) fun v S => Wp (evE φ G o ρ S) fun o S => Wp (evE φ G k ρ S) fun k S => ∃ S', putAt S o k v = some S' ∧ nx ρ S') : WpO (exS φ G (.put o k v) ρ S) nx rt := by
  unfold exS
  simp only [WpO_ofR]
  refine h.mono fun v S hv => hv.mono fun o S ho => ho.mono fun k S ⟨S', e, q⟩ => ?_
  rw [e]
  exact q
theorem s_app {o e : Ex} (h : Wp (evE φ G o ρ S) fun o S => meKind .lcount (res S o) = true ∧ Wp (evE φ G e ρ S) fun v S => ∃ S', appAt S o v = some S' ∧ nx ρ S') : WpO (exS φ G (.app o e) ρ S) nx rt := by
  unfold exS
  simp only [WpO_ofR]
  refine h.mono fun o S ⟨hk, ho⟩ => ?_
  rw [if_pos hk]
  simp only [WpO_ofR]
  refine ho.mono fun v S ⟨S', e, q⟩ => ?_
  rw [e]
  exact q
theorem s_expr {e : Ex} (h : Wp (evE φ G e ρ S) fun _ S => nx ρ S) : WpO (exS φ G (.expr e) ρ S) nx rt := by unfold exS; simpa using h
theorem s_ret {e : Ex} (h : Wp (evE φ G e ρ S) rt) : WpO (exS φ G (.ret e) ρ S) nx rt := by unfold exS; simpa using h
theorem s_if {t : Ex} {a b : List Sm} (h : Wp (evE φ G t ρ S) fun v S => ∃ k, truth (res S v) = some k ∧ if k = true then WpO (exSs φ G a ρ S) nx rt else WpO (exSs φ G b ρ S) nx rt) : WpO (exS φ G (.ifs t a b) ρ S) nx rt := by
  unfold exS
  simp only [WpO_ofR, truthR]
  refine h.mono fun v S ⟨k, e, q⟩ => ?_
  rw [e]
  cases k <;> simpa using q
theorem s_for {tg : Tg} {it : It} {body : List Sm} (h : Wp (evI φ G it ρ S) fun iv S => WpO (forLoop iv tg (exSs φ G body) iv.items ρ S) nx rt) : WpO (exS φ G (.forr tg it body) ρ S) nx rt := by unfold exS; simpa using h
theorem ss_cons {s : Sm} {ss : List Sm} (h : WpO (exS φ G s ρ S) (fun ρ S => WpO (exSs φ G ss ρ S) nx rt) rt) : WpO (exSs φ G (s :: ss) ρ S) nx rt := by rw [WpO_cons]; exact h
theorem ss_nil (h : nx ρ S) : WpO (exSs φ G [] ρ S) nx rt := by rw [WpO_nil]; exact h
theorem i_seq {e : Ex} {R : Items → Store → Prop} (h : Wp (evE φ G e ρ S) fun v S => ∃ xs, seqOf (res S v) = some xs ∧ R { items := xs, guard := guardOf S v } S) : Wp (evI φ G (.seq e) ρ S) R := by
  unfold evI
  simp only [Wp_bind]
  refine h.mono fun v S ⟨xs, e, q⟩ => ?_
  rw [e]
  exact q
theorem i_rng1 {a : Ex} {R : Items → Store → Prop} (h : Wp (evE φ G a ρ S) fun v S => ∃ n : Int, v = .int n ∧ -(2 ^ 62) ≤ n ∧ n < 2 ^ 62 ∧ R { items := rangeP 0 n } S) : Wp (evI φ G (.rng1 a) ρ S) R := by
  unfold evI
  simp only [Wp_bind]
  refine h.mono fun v S ⟨n, e, h1, h2, q⟩ => ?_
  subst e
  dsimp only
  rw [if_pos ⟨h1, h2⟩]
  exact q
end
section
variable {nx nx' : Env → Store → Prop} {rt rt' : PV → Store → Prop} {ρ : Env} {S : Store}
/-- a for over items: Pv by the turn -/
theorem wp_for {iv : Items} {tg : Tg} {body : Env → Store → Out} (Pv : Nat → Env → Store → Prop) (hl : iv.lock = []) : ∀ {items : List PV} {i : Nat}, iv.items = iv.items → (∀ j ρ S x, items[j]? = some x → Pv (i + j) ρ S → guardOk S iv.guard = true ∧ ∃ ρ', assign tg x ρ = some ρ' ∧ WpO (body ρ' S) (Pv (i + j + 1)) rt) → (∀ ρ S, Pv (i + items.length) ρ S → guardOk S iv.guard = true ∧ nx ρ S) → ∀ {ρ : Env} {S : Store}, Pv i ρ S → WpO (forLoop iv tg body items ρ S) nx rt
  | [], i, _, _, h2, ρ, S, p => by
    obtain ⟨g, q⟩ := h2 ρ S (by simpa using p)
    unfold forLoop
    rw [if_pos g, hl]
    exact q
  | x :: xs, i, h0, h1, h2, ρ, S, p => by
    obtain ⟨g, ρ', e, w⟩ := h1 0 ρ S x rfl (by simpa using p)
    unfold forLoop
    rw [if_pos g, e]
    dsimp only
    cases hb : body ρ' S with
    | next ρ1 S1 =>
      rw [hb] at w
      refine wp_for Pv hl (items := xs) (i := i + 1) h0 (fun j ρ S y hy q => ?_) (fun ρ S q => ?_) w
      · have := h1 (j + 1) ρ S y (by simpa using hy) (by rw [show i + (j + 1) = i + 1 + j by omega]; exact q)
        rw [show i + (j + 1) + 1 = i + 1 + j + 1 by omega] at this
        exact this
      · exact h2 ρ S (by simp only [List.length_cons]; rw [show i + (xs.length + 1) = i + 1 + xs.length by omega]; exact q)
    | ret v S1 =>
      rw [hb] at w
      rw [hl]
      exact w
    | _ => rw [hb] at w; exact w.elim
/-- a comprehension over items: Pv by the turn, with what was made -/
theorem wp_comp {g : List (Nat × Cell)} {tg : Tg} {tst : Env → Store → Res Bool} {el : Env → Store → Res PV} {Q : List PV → Store → Prop} (Pv : Nat → List PV → Store → Prop) : ∀ {items : List PV} {i : Nat} {acc : List PV},
    (∀ j acc S x, items[j]? = some x → Pv (i + j) acc S → guardOk S g = true ∧ ∃ ρ', assign tg x ρ = some ρ' ∧ Wp (tst ρ' S) fun b S1 => if b = true then Wp (el ρ' S1) fun v S2 => Pv (i + j + 1) (acc ++ [v]) S2 else Pv (i + j + 1) acc S1) →
    (∀ acc S, Pv (i + items.length) acc S → guardOk S g = true ∧ Q acc S) → ∀ {S : Store}, Pv i acc S → Wp (compLoop g tg ρ tst el items S) fun vs S => Q (acc ++ vs) S
  | [], i, acc, _, h2, S, p => by
    obtain ⟨gg, q⟩ := h2 acc S (by simpa using p)
    unfold compLoop
    rw [if_pos gg]
    simpa using q
  | x :: xs, i, acc, h1, h2, S, p => by
    obtain ⟨gg, ρ', e, w⟩ := h1 0 acc S x rfl (by simpa using p)
    have ih : ∀ acc S, Pv (i + 1) acc S → Wp (compLoop g tg ρ tst el xs S) fun vs S => Q (acc ++ vs) S := fun acc S p => wp_comp Pv (g := g) (tg := tg) (tst := tst) (el := el) (Q := Q) (items := xs) (i := i + 1) (acc := acc) (fun j ac S y hy q => by
      have := h1 (j + 1) ac S y (by simpa using hy) (by rw [show i + (j + 1) = i + 1 + j by omega]; exact q)
      rw [show i + (j + 1) + 1 = i + 1 + j + 1 by omega] at this
      exact this) (fun ac S q => h2 ac S (by simp only [List.length_cons]; rw [show i + (xs.length + 1) = i + 1 + xs.length by omega]; exact q)) p
    unfold compLoop
    rw [if_pos gg, e]
    dsimp only
    cases ht : tst ρ' S with
    | ok b S1 =>
      rw [ht] at w
      cases b with
      | true =>
        have w : Wp (el ρ' S1) fun v S2 => Pv (i + 0 + 1) (acc ++ [v]) S2 := by simpa using w
        cases he : el ρ' S1 with
        | ok v S2 =>
          rw [he] at w
          have := ih (acc ++ [v]) S2 w
          dsimp only
          rw [he]
          dsimp only
          simp only [Wp_map]
          simpa [List.append_assoc] using this
        | exc _ _ => rw [he] at w; exact w.elim
        | stuck => rw [he] at w; exact w.elim
      | false =>
        have w : Pv (i + 0 + 1) acc S1 := by simpa using w
        exact ih acc S1 w
    | exc _ _ => rw [ht] at w; exact w.elim
    | stuck => rw [ht] at w; exact w.elim
end
end Bt
end
section
set_option maxHeartbeats 1000000
namespace Bt
open PySem
theorem nodup_le : ∀ (m l : List Nat), l.Nodup → (∀ x ∈ l, x ∈ m) → l.length ≤ m.length
  | [], l, _, h => by
    cases l with
    | nil => simp
    | cons a l => exact absurd (h a List.mem_cons_self) (by simp)
  | a :: m, l, hn, h => by
    have h1 : (l.erase a).Nodup := hn.erase a
    have h2 : ∀ x ∈ l.erase a, x ∈ m := fun x hx => by
      have hx' := (List.Nodup.mem_erase_iff hn).mp hx
      rcases List.mem_cons.mp (h x hx'.2) with e | e
      · exact absurd e hx'.1
      · exact e
    have h3 := nodup_le m (l.erase a) h1 h2
    have h4 : l.length ≤ (l.erase a).length + 1 := by
      by_cases ha : a ∈ l
      · rw [List.length_erase_of_mem ha]; omega
      · rw [List.erase_of_not_mem ha]; omega
    simp only [List.length_cons]
    omega
/-- the end of a def that makes no cell of its own -/
theorem Wp_run {φ : Calls} {G : List PV} {d : Df} {vs : List PV} {S : Store} {Q : PV → Store → Prop} (hk : d.keep = false) (hl : vs.length = d.np)
    (h : WpO (exSs φ G d.body (vs.map some ++ List.replicate (d.nv - d.np) none) S) (fun _ S' => S'.length = S.length ∧ Q .none S') (fun v S' => S'.length = S.length ∧ Q v S')) : Wp (runDf φ G d vs S) Q := by
  unfold runDf
  rw [if_pos hl, hk]
  simp only [Bool.false_eq_true, if_false]
  generalize exSs φ G d.body (vs.map some ++ List.replicate (d.nv - d.np) none) S = o at h
  cases o with
  | next ρ S' =>
    obtain ⟨h1, h2⟩ := h
    unfold finish
    dsimp only
    rw [if_pos h1]
    exact h2
  | ret v S' =>
    obtain ⟨h1, h2⟩ := h
    unfold finish
    dsimp only
    rw [if_pos h1]
    exact h2
  | _ => exact h.elim
/-- the town's rests: numbers by numbers, the keys below L -/
structure RestOk (L : Nat) (r : List (PV × PV)) : Prop where
  it : ∀ p ∈ r, ∃ (i : Nat) (v : Int), p = (.int i, .int v) ∧ i ≤ L
  nd : (r.map (·.1)).Nodup
/-- the town at cells 0 and 1 -/
def townC (c : Int) : Cell := .dic false [(.str "count", .int c), (.str "rests", .ref 0)]
def Town (L : Nat) (S : Store) : Prop := ∃ (r : List (PV × PV)) (c : Int), S[0]? = some (.dic false r) ∧ S[1]? = some (townC c) ∧ RestOk L r
/-- only the town has changed -/
structure TwS (L : Nat) (S S' : Store) : Prop where
  town : Town L S'
  len : S'.length = S.length
  rest : ∀ i, 2 ≤ i → S'[i]? = S[i]?
theorem TwS.refl {L : Nat} {S : Store} (h : Town L S) : TwS L S S := ⟨h, rfl, fun _ _ => rfl⟩
theorem TwS.trans {L : Nat} {S S1 S2 : Store} (a : TwS L S S1) (b : TwS L S1 S2) : TwS L S S2 := ⟨b.town, b.len.trans a.len, fun i h => (b.rest i h).trans (a.rest i h)⟩
theorem RestOk.len {L : Nat} {r : List (PV × PV)} (h : RestOk L r) : r.length ≤ L + 1 := by
  let toN : PV → Nat := fun p => match p with | .int i => i.toNat | _ => 0
  have e : ((r.map (·.1)).map toN).Nodup := by
    have gen : ∀ l : List PV, l.Nodup → (∀ x ∈ l, ∃ i : Nat, x = .int i) → (l.map toN).Nodup := by
      intro l
      induction l with
      | nil => intro _ _; simp
      | cons a l ih =>
        intro hn ha
        obtain ⟨h1, h2⟩ := List.nodup_cons.mp hn
        rw [List.map_cons, List.nodup_cons]
        refine ⟨fun m => ?_, ih h2 fun x hx => ha x (List.mem_cons_of_mem _ hx)⟩
        obtain ⟨b, hb, e⟩ := List.mem_map.mp m
        obtain ⟨i, rfl⟩ := ha a List.mem_cons_self
        obtain ⟨j, rfl⟩ := ha b (List.mem_cons_of_mem _ hb)
        have : (j : Nat) = i := by simpa [toN] using e
        subst this
        exact h1 hb
    refine gen _ h.nd fun x hx => ?_
    obtain ⟨p, hp, rfl⟩ := List.mem_map.mp hx
    obtain ⟨i, v, rfl, _⟩ := h.it p hp
    exact ⟨i, rfl⟩
  have := nodup_le (List.range (L + 1)) _ e fun x hx => by
    obtain ⟨y, hy, rfl⟩ := List.mem_map.mp hx
    obtain ⟨p, hp, rfl⟩ := List.mem_map.mp hy
    obtain ⟨i, v, rfl, hi⟩ := h.it p hp
    simp [toN]
    omega
  simpa using this
theorem RestOk.put {L : Nat} {r : List (PV × PV)} (h : RestOk L r) {i : Nat} {v : Int} (hi : i ≤ L) : RestOk L (dput r (.int i) (.int v)) := by
  unfold dput
  split
  · refine ⟨fun p hp => ?_, ?_⟩
    · obtain ⟨q, hq, rfl⟩ := List.mem_map.mp hp
      obtain ⟨j, u, rfl, hj⟩ := h.it q hq
      split
      · exact ⟨j, v, rfl, hj⟩
      · exact ⟨j, u, rfl, hj⟩
    · rw [List.map_map]
      have : ((fun x : PV × PV => x.1) ∘ fun kv : PV × PV => if kv.1 = PV.int i then (kv.1, PV.int v) else kv) = fun x => x.1 := by
        funext kv
        simp only [Function.comp]
        split <;> rfl
      rw [this]
      exact h.nd
  · rename_i hn
    refine ⟨fun p hp => ?_, ?_⟩
    · rcases List.mem_append.mp hp with hp | hp
      · exact h.it p hp
      · rw [List.mem_singleton.mp hp]
        exact ⟨i, v, rfl, hi⟩
    · rw [List.map_append, List.nodup_append]
      refine ⟨h.nd, by simp, fun a ha b hb => ?_⟩
      simp at hb
      subst hb
      intro e
      subst e
      obtain ⟨p, hp, e⟩ := List.mem_map.mp ha
      refine hn (List.any_eq_true.mpr ⟨p, hp, by simpa using e⟩)
theorem RestOk.get {L : Nat} {r : List (PV × PV)} (h : RestOk L r) (k : PV) {d : Int} : ∃ v : Int, (dget r k).getD (.int d) = .int v := by
  unfold dget
  cases e : r.find? fun kv => decide (kv.1 = k) with
  | none => exact ⟨d, rfl⟩
  | some p =>
    obtain ⟨i, v, rfl, _⟩ := h.it p (List.mem_of_find?_eq_some e)
    exact ⟨v, rfl⟩
def drawD : Df := { np := 3, nv := 6, keep := false, body := [.put (.var 1) (.cst (.str "count")) (.bin .add (.ix (.var 1) (.cst (.str "count"))) (.cst (.int 1))),
    .asg (.nm 3) (.ite (.var 0) (.bin .mod (.ix (.var 1) (.cst (.str "count"))) (.bi .len [(.var 0)])) (.cst (.int 0))),
    .asg (.nm 4) (.me .get2 (.ix (.var 1) (.cst (.str "rests"))) [(.var 3), (.ite (.var 0) (.ix (.var 0) (.var 3)) (.cst (.int 0)))]),
    .ifs (.cmp .ge (.var 4) (.bin .pow (.cst (.int 10)) (.cst (.int 18)))) [.put (.ix (.var 1) (.cst (.str "rests"))) (.var 3) (.bin .fdiv (.var 4) (.var 2)), .ret (.bin .mod (.var 4) (.var 2))] [],
    .asg (.nm 5) (.bin .mod (.bin .add (.var 4) (.bin .mul (.cst (.int 104729)) (.ix (.var 1) (.cst (.str "count"))))) (.cst (.int 4294967291))),
    .asg (.nm 5) (.bin .mod (.bin .pow (.var 5) (.cst (.int 5))) (.cst (.int 4294967279))),
    .ret (.bin .mod (.bin .fdiv (.bin .mod (.bin .add (.bin .mul (.bin .fdiv (.var 5) (.cst (.int 64))) (.cst (.int 69621))) (.var 5)) (.cst (.int 4294967231))) (.cst (.int 8))) (.var 2))] }
theorem sne1 : ¬ (("rests" : Str) = "count") := by decide +kernel
theorem sne2 : ¬ (("count" : Str) = "rests") := by decide +kernel
theorem town_count (c : Int) (v : PV) : dput [(.str "count", .int c), (.str "rests", .ref 0)] (.str "count") v = [(.str "count", v), (.str "rests", .ref 0)] := by
  simp [dput, sne1]
theorem town_getC (c : Int) : item (.dict [(.str "count", .int c), (.str "rests", .ref 0)]) (.str "count") = some (.int c) := by
  simp [item, isKey, dget]
theorem town_getR (c : Int) : item (.dict [(.str "count", .int c), (.str "rests", .ref 0)]) (.str "rests") = some (.ref 0) := by
  simp [item, isKey, dget, List.find?_cons, sne2]
theorem iteT' {p q : Prop} (h : p) : if (!false) = true then p else q := by simpa using h
theorem iteF' {p q : Prop} (h : q) : if (!true) = true then p else q := by simpa using h
theorem draw_ok {φ : Calls} {G : List PV} {ns : List Int} {many : Int} {S : Store} (hL : ns.length ≤ 63) (h1 : 1 ≤ many) (h2 : many < 1073741824) (ht : Town ns.length S) :
    Wp (runDf φ G drawD [.scr ns, .ref 1, .int many] S) fun v S' => ∃ m : Int, v = .int m ∧ 0 ≤ m ∧ m < many ∧ TwS ns.length S S' := by
  obtain ⟨r, c, e0, e1, hr⟩ := ht
  refine Wp_run rfl rfl ?_
  show WpO (exSs φ G drawD.body [some (.scr ns), some (.ref 1), some (.int many), none, none, none] S) _ _
  have eres : ∀ {S : Store} {c : Int}, S[1]? = some (townC c) → res S (.ref 1) = .dict [(.str "count", .int c), (.str "rests", .ref 0)] := fun e => by simp only [res, e, townC]
  have l1 : 1 < S.length := (List.getElem?_eq_some_iff.mp e1).1
  refine ss_cons (s_put (w_bin (w_ix (w_var rfl (w_cst ⟨.int c, by rw [eres e1]; exact town_getC c, ?_⟩)))))
  refine w_cst ⟨.int (c + 1), rfl, w_var rfl (w_cst ⟨S.set 1 (townC (c + 1)), ?_, ?_⟩)⟩
  · show putAt S (.ref 1) (.str "count") (.int (c + 1)) = _
    unfold putAt
    simp only [e1, townC, town_count]
    rfl
  generalize hS1 : S.set 1 (townC (c + 1)) = S1
  have f1 : S1[1]? = some (townC (c + 1)) := by rw [← hS1, List.getElem?_set_self l1]
  have f0 : S1[0]? = some (.dic false r) := by rw [← hS1, List.getElem?_set_ne (by omega)]; exact e0
  have fl : S1.length = S.length := by rw [← hS1, List.length_set]
  have fr : ∀ i, 2 ≤ i → S1[i]? = S[i]? := fun i hi => by rw [← hS1, List.getElem?_set_ne (by omega)]
  have tw : ∀ {r' : List (PV × PV)}, RestOk ns.length r' → TwS ns.length S (S1.set 0 (.dic false r')) := fun {r'} h => ⟨⟨r', c + 1, by rw [List.getElem?_set_self (by omega)], by rw [List.getElem?_set_ne (by omega)]; exact f1, h⟩, by rw [List.length_set, fl], fun i hi => by rw [List.getElem?_set_ne (by omega)]; exact fr i hi⟩
  have tw1 : TwS ns.length S S1 := ⟨⟨r, c + 1, f0, f1, hr⟩, fl, fr⟩
  -- at
  refine ss_cons (s_asg (w_ite (w_var rfl ?_)))
  have hat : ∃ a : Nat, a ≤ ns.length ∧ (ns ≠ [] → a < ns.length) ∧ (truth (res S1 (.scr ns)) = some (!ns.isEmpty) ∧ (if (!ns.isEmpty) = true then Wp (evE φ G (.bin .mod (.ix (.var 1) (.cst (.str "count"))) (.bi .len [.var 0])) [some (.scr ns), some (.ref 1), some (.int many), none, none, none] S1) (fun v S => v = .int (a : Nat) ∧ S1 = S) else a = 0)) := by
    cases ns with
    | nil => exact ⟨0, by simp, fun h => absurd rfl h, rfl, by simp⟩
    | cons n0 nt =>
      refine ⟨((c + 1).fmod ((n0 :: nt).length : Int)).toNat, ?_, fun _ => ?_, rfl, ?_⟩
      · have := Int.fmod_lt_of_pos (c + 1) (b := ((n0 :: nt).length : Int)) (by simp)
        omega
      · have := Int.fmod_lt_of_pos (c + 1) (b := ((n0 :: nt).length : Int)) (by simp)
        have := Int.fmod_nonneg_of_pos (c + 1) (b := ((n0 :: nt).length : Int)) (by simp)
        omega
      · simp only [List.isEmpty_cons, Bool.not_false, if_true]
        refine w_bin (w_ix (w_var rfl (w_cst ⟨.int (c + 1), by rw [eres f1]; exact town_getC _, ?_⟩)))
        refine w_bi (w_cons (w_var rfl (w_nil ⟨.int ((n0 :: nt).length : Nat), rfl, .int ((c + 1).fmod ((n0 :: nt).length : Int)), ?_, ?_, rfl⟩)))
        · show (if (((n0 :: nt).length : Nat) : Int) ≠ 0 then some (PV.int ((c + 1).fmod ((n0 :: nt).length : Int))) else none) = _
          rw [if_pos (by simp; omega)]
        · congr 1
          have := Int.fmod_nonneg_of_pos (c + 1) (b := ((n0 :: nt).length : Int)) (by simp)
          omega
  obtain ⟨a, ha, ha2, htr, hw⟩ := hat
  refine ⟨!ns.isEmpty, htr, ?_⟩
  -- the rest of the def, at = a
  have main : WpO (exSs φ G (drawD.body.drop 2) [some (.scr ns), some (.ref 1), some (.int many), some (.int (a : Nat)), none, none] S1) (fun _ S' => S'.length = S.length ∧ ∃ m : Int, PV.none = .int m ∧ 0 ≤ m ∧ m < many ∧ TwS ns.length S S') (fun v S' => S'.length = S.length ∧ ∃ m : Int, v = .int m ∧ 0 ≤ m ∧ m < many ∧ TwS ns.length S S') := by
    -- rest
    have hrest : ∃ x : Int, Wp (evE φ G (.me .get2 (.ix (.var 1) (.cst (.str "rests"))) [(.var 3), (.ite (.var 0) (.ix (.var 0) (.var 3)) (.cst (.int 0)))]) [some (.scr ns), some (.ref 1), some (.int many), some (.int (a : Nat)), none, none] S1) fun v S => v = .int x ∧ S1 = S := by
      have hd : ∃ d : Int, Wp (evE φ G (.ite (.var 0) (.ix (.var 0) (.var 3)) (.cst (.int 0))) [some (.scr ns), some (.ref 1), some (.int many), some (.int (a : Nat)), none, none] S1) fun v S => v = .int d ∧ S1 = S := by
        cases hns : ns with
        | nil => exact ⟨0, w_ite (w_var rfl ⟨false, rfl, by simp <;> exact w_cst ⟨rfl, rfl⟩⟩)⟩
        | cons n0 nt =>
          have hlt : a < (n0 :: nt).length := by rw [← hns]; exact ha2 (by rw [hns]; simp)
          refine ⟨(n0 :: nt)[a], w_ite (w_var rfl ⟨true, rfl, ?_⟩)⟩
          rw [if_pos rfl]
          refine w_ix (w_var rfl (w_var rfl ⟨.int ((n0 :: nt)[a]), ?_, rfl, rfl⟩))
          show ((place (n0 :: nt).length ((a : Nat) : Int)).bind fun n => ((n0 :: nt)[n]?).map PV.int) = some (PV.int (n0 :: nt)[a])
          have hp : place (n0 :: nt).length ((a : Nat) : Int) = some a := by
            unfold place
            rw [if_pos (by omega), if_pos (by omega)]
            simp
          rw [hp]
          show ((n0 :: nt)[a]?).map PV.int = _
          rw [List.getElem?_eq_getElem hlt]
          rfl
      obtain ⟨d, hd⟩ := hd
      obtain ⟨x, hx⟩ := hr.get (.int (a : Nat)) (d := d)
      refine ⟨x, w_me (w_ix (w_var rfl (w_cst ⟨.ref 0, by rw [eres f1]; exact town_getR _, ?_, ?_⟩)))⟩
      · simp only [res, f0, meKind]
      · refine w_cons (w_var rfl (w_cons (hd.mono fun v S' ⟨e, e'⟩ => ?_)))
        subst e e'
        refine w_nil ⟨.int x, ?_, rfl, rfl⟩
        simp only [res, f0, mev, isKey, if_true]
        rw [hx]
    obtain ⟨x, hx⟩ := hrest
    refine ss_cons (s_asg (hx.mono fun v S' ⟨e, e'⟩ => ?_))
    subst e e'
    refine ⟨by simp, ?_⟩
    show WpO (exSs φ G (drawD.body.drop 3) [some (.scr ns), some (.ref 1), some (.int many), some (.int (a : Nat)), some (.int x), none] _) _ _
    refine ss_cons (s_if (w_cmp (w_var rfl (w_bin (w_cst (w_cst ⟨.int (10 ^ 18), by rfl, decide ((10 : Int) ^ 18 ≤ x), rfl, decide ((10 : Int) ^ 18 ≤ x), rfl, ?_⟩))))))
    split
    · refine ss_cons (s_put (w_bin (w_var rfl (w_var rfl ⟨.int (x.fdiv many), ?_, ?_⟩))))
      · show (if many ≠ 0 ∧ many.natAbs < 1073741824 then some (PV.int (x.fdiv many)) else none) = _
        rw [if_pos ⟨by omega, by omega⟩]
      · refine w_ix (w_var rfl (w_cst ⟨.ref 0, by rw [eres f1]; exact town_getR _, w_var rfl ⟨S1.set 0 (.dic false (dput r (.int (a : Nat)) (.int (x.fdiv many)))), ?_, ?_⟩⟩))
        · have hl := hr.len
          have hz : r.length < sizeLine := by rw [sizeLine_eq]; omega
          show putAt S1 (.ref 0) (.int (a : Nat)) (.int (x.fdiv many)) = _
          unfold putAt
          simp only [f0]
          rw [if_pos (by simp [isKey, hz])]
        · refine ss_cons (s_ret (w_bin (w_var rfl (w_var rfl ⟨.int (x.fmod many), ?_, ?_⟩))))
          · show (if many ≠ 0 then some (PV.int (x.fmod many)) else none) = _
            rw [if_pos (by omega)]
          · exact ⟨by rw [List.length_set, fl], _, rfl, Int.fmod_nonneg_of_pos x (by omega), Int.fmod_lt_of_pos x (by omega), tw (hr.put ha)⟩
    · refine ss_nil ?_
      -- number
      obtain ⟨n1, hn1⟩ : ∃ n1 : Int, n1 = (x + 104729 * (c + 1)).fmod 4294967291 := ⟨_, rfl⟩
      have b1 : 0 ≤ n1 ∧ n1 < 4294967291 := by
        rw [hn1]
        exact ⟨Int.fmod_nonneg_of_pos _ (by omega), Int.fmod_lt_of_pos _ (by omega)⟩
      refine ss_cons (s_asg (w_bin (w_bin (w_var rfl (w_bin (w_cst (w_ix (w_var rfl (w_cst ⟨.int (c + 1), by rw [eres f1]; exact town_getC _, .int (104729 * (c + 1)), ?_, .int (x + 104729 * (c + 1)), rfl, w_cst ⟨.int n1, ?_, by simp, ?_⟩⟩)))))))))
      · show (if (small 104729 || small (c + 1)) then some (PV.int (104729 * (c + 1))) else none) = _
        rw [show small 104729 = true from by decide, Bool.true_or, if_pos rfl]
      · show (if (4294967291 : Int) ≠ 0 then some (PV.int ((x + 104729 * (c + 1)).fmod 4294967291)) else none) = _
        rw [if_pos (by omega), hn1]
      show WpO (exSs φ G (drawD.body.drop 5) [some (.scr ns), some (.ref 1), some (.int many), some (.int (a : Nat)), some (.int x), some (.int n1)] S1) _ _
      obtain ⟨n2, hn2⟩ : ∃ n2 : Int, n2 = (n1 ^ 5).fmod 4294967279 := ⟨_, rfl⟩
      refine ss_cons (s_asg (w_bin (w_bin (w_var rfl (w_cst ⟨.int (n1 ^ 5), ?_, w_cst ⟨.int n2, ?_, by simp, ?_⟩⟩)))))
      · show (if 0 ≤ (5 : Int) ∧ (5 : Int) ≤ 1000000 ∧ n1.natAbs < 2 ^ 64 then some (PV.int (n1 ^ (5 : Int).toNat)) else none) = _
        rw [if_pos ⟨by omega, by omega, by omega⟩]
        rfl
      · show (if (4294967279 : Int) ≠ 0 then some (PV.int ((n1 ^ 5).fmod 4294967279)) else none) = _
        rw [if_pos (by omega), hn2]
      show WpO (exSs φ G (drawD.body.drop 6) [some (.scr ns), some (.ref 1), some (.int many), some (.int (a : Nat)), some (.int x), some (.int n2)] S1) _ _
      refine ss_cons (s_ret (w_bin (w_bin (w_bin (w_bin (w_bin (w_bin (w_var rfl (w_cst ⟨.int (n2.fdiv 64), ?_, w_cst ⟨.int (n2.fdiv 64 * 69621), ?_, w_var rfl ⟨.int (n2.fdiv 64 * 69621 + n2), rfl, w_cst ⟨.int ((n2.fdiv 64 * 69621 + n2).fmod 4294967231), ?_, w_cst ⟨.int (((n2.fdiv 64 * 69621 + n2).fmod 4294967231).fdiv 8), ?_, w_var rfl ⟨.int ((((n2.fdiv 64 * 69621 + n2).fmod 4294967231).fdiv 8).fmod many), ?_, ?_⟩⟩⟩⟩⟩⟩)))))))))
      · show (if (64 : Int) ≠ 0 ∧ (64 : Int).natAbs < 1073741824 then some (PV.int (n2.fdiv 64)) else none) = _
        rw [if_pos (by decide)]
      · show (if (small (n2.fdiv 64) || small 69621) then some (PV.int (n2.fdiv 64 * 69621)) else none) = _
        rw [show small 69621 = true from by decide, Bool.or_true, if_pos rfl]
      · show (if (4294967231 : Int) ≠ 0 then some (PV.int ((n2.fdiv 64 * 69621 + n2).fmod 4294967231)) else none) = _
        rw [if_pos (by omega)]
      · show (if (8 : Int) ≠ 0 ∧ (8 : Int).natAbs < 1073741824 then some (PV.int (((n2.fdiv 64 * 69621 + n2).fmod 4294967231).fdiv 8)) else none) = _
        rw [if_pos (by decide)]
      · show (if many ≠ 0 then some (PV.int ((((n2.fdiv 64 * 69621 + n2).fmod 4294967231).fdiv 8).fmod many)) else none) = _
        rw [if_pos (by omega)]
      · exact ⟨fl, _, rfl, Int.fmod_nonneg_of_pos _ (by omega), Int.fmod_lt_of_pos _ (by omega), tw1⟩
  cases hns : ns.isEmpty with
  | true =>
    rw [hns] at hw
    have ha0 : a = 0 := by simpa using hw
    subst ha0
    exact iteF' (w_cst ⟨by simp, main⟩)
  | false =>
    rw [hns] at hw
    have hw : Wp (evE φ G (.bin .mod (.ix (.var 1) (.cst (.str "count"))) (.bi .len [.var 0])) [some (.scr ns), some (.ref 1), some (.int many), none, none, none] S1) (fun v S => v = .int (a : Nat) ∧ S1 = S) := by simpa using hw
    refine iteT' (hw.mono fun v S' ⟨e, e'⟩ => ?_)
    subst e e'
    exact ⟨by simp, main⟩
end Bt
end
section
set_option maxHeartbeats 1000000
namespace Bt
open PySem
inductive Cd where
  | isH (h : Str) | won (b : Str) | lost (b : Str) | not (c : Cd) | some (k : Nat) (cs : List Cd)
mutual
def Cd.pv : Cd → PV
  | .isH h => .tup [.str "is", .str h]
  | .won b => .tup [.str "won", .str b]
  | .lost b => .tup [.str "lost", .str b]
  | .not c => .tup [.str "not", c.pv]
  | .some k cs => .tup [.str "some", .int k, .tup (pvL cs)]
def pvL : List Cd → List PV
  | [] => []
  | c :: cs => c.pv :: pvL cs
end
theorem pvL_map : ∀ cs : List Cd, pvL cs = cs.map Cd.pv
  | [] => rfl
  | c :: cs => by show c.pv :: pvL cs = _; rw [pvL_map cs]; rfl
/-- a condition over happenings hs and bets bs, no deeper than d -/
def Wf (hs bs : List Str) : Nat → Cd → Prop
  | 0, _ => False
  | _ + 1, .isH h => h ∈ hs
  | _ + 1, .won b => b ∈ bs
  | _ + 1, .lost b => b ∈ bs
  | d + 1, .not c => Wf hs bs d c
  | d + 1, .some k cs => 1 ≤ k ∧ k ≤ cs.length ∧ cs.length ≤ 4 ∧ ∀ c ∈ cs, Wf hs bs d c
theorem callP_step {D : List Df} {G : List PV} {n f : Nat} {d : Df} (h : D[f]? = some d) (vs : List PV) (S : Store) : callP D G (n + 1) f vs S = runDf (callP D G n) G d vs S := by
  show (match D[f]? with | some d => runDf (callP D G n) G d vs S | none => .stuck) = _
  rw [h]
def stP (xs : List Str) : PV := .tup (xs.map .str)
def condD (iD iC : Nat) : Df := { np := 5, nv := 8, keep := false, body := [.asg (.nm 5) (.call iD [(.var 0), (.var 1), (.cst (.int 8))]),
    .ifs (.and (.cmp .gt (.var 4) (.cst (.int 1))) (.cmp .eq (.var 5) (.cst (.int 0)))) [.ret (.tup [(.cst (.str "not")), (.call iC [(.var 0), (.var 1), (.var 2), (.var 3), (.bin .sub (.var 4) (.cst (.int 1)))])])] [],
    .ifs (.and (.cmp .gt (.var 4) (.cst (.int 1))) (.cmp .lt (.var 5) (.cst (.int 4)))) [.asg (.nm 6) (.tup []), .forr (.nm 7) (.rng1 (.bin .add (.cst (.int 1)) (.call iD [(.var 0), (.var 1), (.cst (.int 3))]))) [.asg (.nm 6) (.bin .add (.var 6) (.tup [(.call iC [(.var 0), (.var 1), (.var 2), (.var 3), (.bin .sub (.var 4) (.cst (.int 1)))])]))], .ret (.tup [(.cst (.str "some")), (.bin .add (.cst (.int 1)) (.call iD [(.var 0), (.var 1), (.bi .len [(.var 6)])])), (.var 6)])] [],
    .ifs (.or (.cmp .eq (.var 3) (.tup [])) (.cmp .lt (.var 5) (.cst (.int 6)))) [.ret (.tup [(.cst (.str "is")), (.ix (.var 2) (.call iD [(.var 0), (.var 1), (.bi .len [(.var 2)])]))])] [],
    .ret (.tup [(.ix (.lst [(.cst (.str "won")), (.cst (.str "lost"))]) (.bin .sub (.var 5) (.cst (.int 6)))), (.ix (.var 3) (.call iD [(.var 0), (.var 1), (.bi .len [(.var 3)])]))])] }
/-- the shared defs stand where they are said to -/
structure Shr (D : List Df) (iD iC : Nat) : Prop where
  draw : D[iD]? = some drawD
  cond : D[iC]? = some (condD iD iC)
section
variable {D : List Df} {G : List PV} {ns : List Int} {iD iC : Nat}
theorem draw_call (sh : Shr D iD iC) (hL : ns.length ≤ 63) {n : Nat} {ρ : Env} {S : Store} {e0 e1 e2 : Ex} {many : Int} {Q : PV → Store → Prop} (a0 : Wp (evEs (callP D G (n + 1)) G [e0, e1, e2] ρ S) fun vs S' => vs = [.scr ns, .ref 1, .int many] ∧ S = S') (h1 : 1 ≤ many) (h2 : many < 1073741824) (ht : Town ns.length S)
    (h : ∀ (m : Int) (S' : Store), 0 ≤ m → m < many → TwS ns.length S S' → Q (.int m) S') : Wp (evE (callP D G (n + 1)) G (.call iD [e0, e1, e2]) ρ S) Q := by
  refine w_call (a0.mono fun vs S' ⟨e, e'⟩ => ?_)
  subst e e'
  rw [callP_step sh.draw]
  exact (draw_ok hL h1 h2 ht).mono fun v S' ⟨m, e, m1, m2, tw⟩ => by subst e; exact h m S' m1 m2 tw
theorem seq_item {xs : List Str} {m : Int} (h1 : 0 ≤ m) (h2 : m < (xs.length : Nat)) : ∃ x ∈ xs, item (stP xs) (.int m) = some (.str x) := by
  have hlt : m.toNat < xs.length := by omega
  refine ⟨xs[m.toNat], List.getElem_mem hlt, ?_⟩
  show ((place (xs.map PV.str).length m).bind ((xs.map PV.str)[·]?)) = _
  have hp : place (xs.map PV.str).length m = some m.toNat := by
    unfold place
    rw [List.length_map, if_pos h1, if_pos (by omega)]
  rw [hp]
  show (xs.map PV.str)[m.toNat]? = _
  rw [List.getElem?_map, List.getElem?_eq_getElem hlt]
  rfl
theorem dOk_strs (n : Nat) : ∀ xs : List Str, dOkL n (xs.map .str) = true
  | [] => rfl
  | x :: xs => by show (dOk n (.str x) && dOkL n (xs.map .str)) = true; rw [dOk_strs n xs]; cases n <;> rfl
theorem dOk_stP (xs : List Str) : dOk 64 (stP xs) = true := dOk_strs 63 xs
theorem eq_empty (xs : List Str) : cop .eq (stP xs) (.tup []) = some xs.isEmpty := by
  show eqv (stP xs) (.tup []) = _
  unfold eqv
  rw [dOk_stP, show dOk 64 (.tup []) = true from rfl]
  cases xs <;> rfl
theorem cond_ok (sh : Shr D iD iC) (hL : ns.length ≤ 63) {hs bs : List Str} (hh : hs ≠ []) (hl : hs.length ≤ 1000) (bl : bs.length ≤ 1000) : ∀ (d n : Nat) (S : Store), d + 1 ≤ n → Town ns.length S →
    Wp (callP D G (n + 1) iC [.scr ns, .ref 1, stP hs, stP bs, .int (d + 1 : Nat)] S) fun v S' => ∃ c : Cd, v = c.pv ∧ Wf hs bs (d + 1) c ∧ TwS ns.length S S'
  | d, n, S, hn, ht => by
    obtain ⟨n, rfl⟩ : ∃ k, n = k + 1 := ⟨n - 1, by omega⟩
    rw [callP_step sh.cond]
    refine Wp_run rfl rfl ?_
    show WpO (exSs (callP D G (n + 1)) G (condD iD iC).body [some (.scr ns), some (.ref 1), some (stP hs), some (stP bs), some (.int (d + 1 : Nat)), none, none, none] S) _ _
    refine ss_cons (s_asg (draw_call sh hL (w_cons (w_var rfl (w_cons (w_var rfl (w_cons (w_cst (w_nil ⟨rfl, rfl⟩))))))) (by omega) (by omega) ht fun turn S1 t1 t2 tw1 => ⟨by simp, ?_⟩))
    show WpO (exSs (callP D G (n + 1)) G ((condD iD iC).body.drop 1) [some (.scr ns), some (.ref 1), some (stP hs), some (stP bs), some (.int (d + 1 : Nat)), some (.int turn), none, none] S1) _ _
    have fin : ∀ {v : PV} {S' : Store} (c : Cd), v = c.pv → Wf hs bs (d + 1) c → TwS ns.length S1 S' → (S'.length = S.length ∧ ∃ c : Cd, v = c.pv ∧ Wf hs bs (d + 1) c ∧ TwS ns.length S S') := fun c e w t => ⟨by rw [t.len, tw1.len], c, e, w, tw1.trans t⟩
    -- the call of itself
    have self : 1 ≤ d → ∀ {ρ : Env} {S2 : Store} {Q : PV → Store → Prop}, ρ[0]? = some (some (.scr ns)) → ρ[1]? = some (some (.ref 1)) → ρ[2]? = some (some (stP hs)) → ρ[3]? = some (some (stP bs)) → ρ[4]? = some (some (.int (d + 1 : Nat))) → Town ns.length S2 →
        (∀ (c : Cd) (S3 : Store), Wf hs bs d c → TwS ns.length S2 S3 → Q c.pv S3) → Wp (evE (callP D G (n + 1)) G (.call iC [(.var 0), (.var 1), (.var 2), (.var 3), (.bin .sub (.var 4) (.cst (.int 1)))]) ρ S2) Q := by
      intro hd ρ S2 Q r0 r1 r2 r3 r4 ht2 hQ
      obtain ⟨d', rfl⟩ : ∃ k, d = k + 1 := ⟨d - 1, by omega⟩
      refine w_call (w_cons (w_var r0 (w_cons (w_var r1 (w_cons (w_var r2 (w_cons (w_var r3 (w_cons (w_bin (w_var r4 (w_cst ⟨.int (d' + 1 : Nat), ?_, w_nil ?_⟩))))))))))))
      · show some (PV.int ((d' + 1 + 1 : Nat) - 1)) = _
        congr 2
        omega
      · exact (cond_ok sh hL hh hl bl d' n S2 (by omega) ht2).mono fun v S3 ⟨c, e, w, t⟩ => by subst e; exact hQ c S3 w t
    -- the last two
    have tail : WpO (exSs (callP D G (n + 1)) G ((condD iD iC).body.drop 3) [some (.scr ns), some (.ref 1), some (stP hs), some (stP bs), some (.int (d + 1 : Nat)), some (.int turn), none, none] S1) (fun _ S' => S'.length = S.length ∧ ∃ c : Cd, PV.none = c.pv ∧ Wf hs bs (d + 1) c ∧ TwS ns.length S S') (fun v S' => S'.length = S.length ∧ ∃ c : Cd, v = c.pv ∧ Wf hs bs (d + 1) c ∧ TwS ns.length S S') := by
      have isH : WpO (exSs (callP D G (n + 1)) G [.ret (.tup [(.cst (.str "is")), (.ix (.var 2) (.call iD [(.var 0), (.var 1), (.bi .len [(.var 2)])]))])] [some (.scr ns), some (.ref 1), some (stP hs), some (stP bs), some (.int (d + 1 : Nat)), some (.int turn), none, none] S1) (fun ρ S' => WpO (exSs (callP D G (n + 1)) G ((condD iD iC).body.drop 4) ρ S') (fun _ S' => S'.length = S.length ∧ ∃ c : Cd, PV.none = c.pv ∧ Wf hs bs (d + 1) c ∧ TwS ns.length S S') (fun v S' => S'.length = S.length ∧ ∃ c : Cd, v = c.pv ∧ Wf hs bs (d + 1) c ∧ TwS ns.length S S')) (fun v S' => S'.length = S.length ∧ ∃ c : Cd, v = c.pv ∧ Wf hs bs (d + 1) c ∧ TwS ns.length S S') := by
        have hpos : 0 < hs.length := List.length_pos_iff.mpr hh
        refine ss_cons (s_ret (w_tup (w_cons (w_cst (w_cons (w_ix (w_var rfl (draw_call sh hL (many := (hs.length : Nat)) (w_cons (w_var rfl (w_cons (w_var rfl (w_cons (w_bi (w_cons (w_var rfl (w_nil ⟨.int (hs.length : Nat), ?_, w_nil ⟨rfl, rfl⟩⟩))))))))) (by omega) (by omega) tw1.town fun m S2 m1 m2 tw2 => ?_))))))))
        · show some (PV.int ((hs.map PV.str).length : Nat)) = _
          rw [List.length_map]
        · obtain ⟨x, hx, e⟩ := seq_item m1 m2
          exact ⟨.str x, e, w_nil (fin (.isH x) rfl hx tw2)⟩
      refine ss_cons (s_if (w_or (w_cmp (w_var rfl (w_tup (w_nil ⟨bs.isEmpty, eq_empty bs, bs.isEmpty, rfl, ?_⟩))))))
      cases hb : bs.isEmpty with
      | true => exact Eq.mpr (if_pos rfl) ⟨true, rfl, isH⟩
      | false =>
        refine Eq.mpr (if_neg (by decide)) ?_
        refine w_cmp (w_var rfl (w_cst ⟨decide (turn < 6), rfl, decide (turn < 6), rfl, ?_⟩))
        by_cases h6 : turn < 6
        · rw [decide_eq_true h6]
          exact Eq.mpr (if_pos rfl) isH
        · rw [decide_eq_false h6]
          have hpos : 0 < bs.length := by cases bs with | nil => cases hb | cons _ _ => simp
          refine Eq.mpr (if_neg (by decide)) (ss_nil ?_)
          refine ss_cons (s_ret (w_tup (w_cons (w_ix (w_lst (w_cons (w_cst (w_cons (w_cst (w_nil (w_bin (w_var rfl (w_cst ⟨.int (turn - 6), rfl, ?_⟩)))))))))))))
          have hit : ∃ word : Str, item (res S1 (.list [.str "won", .str "lost"])) (.int (turn - 6)) = some (.str word) ∧ (word = "won" ∨ word = "lost") := by
            have : turn = 6 ∨ turn = 7 := by omega
            rcases this with rfl | rfl
            · exact ⟨"won", rfl, .inl rfl⟩
            · exact ⟨"lost", rfl, .inr rfl⟩
          obtain ⟨word, e, hword⟩ := hit
          refine ⟨.str word, e, w_cons (w_ix (w_var rfl (draw_call sh hL (many := (bs.length : Nat)) (w_cons (w_var rfl (w_cons (w_var rfl (w_cons (w_bi (w_cons (w_var rfl (w_nil ⟨.int (bs.length : Nat), ?_, w_nil ⟨rfl, rfl⟩⟩))))))))) (by omega) (by omega) tw1.town fun m S2 m1 m2 tw2 => ?_)))⟩
          · show some (PV.int ((bs.map PV.str).length : Nat)) = _
            rw [List.length_map]
          · obtain ⟨x, hx, e⟩ := seq_item m1 m2
            refine ⟨.str x, e, w_nil ?_⟩
            rcases hword with rfl | rfl
            · exact fin (.won x) rfl hx tw2
            · exact fin (.lost x) rfl hx tw2
    have second : WpO (exSs (callP D G (n + 1)) G ((condD iD iC).body.drop 2) [some (.scr ns), some (.ref 1), some (stP hs), some (stP bs), some (.int (d + 1 : Nat)), some (.int turn), none, none] S1) (fun _ S' => S'.length = S.length ∧ ∃ c : Cd, PV.none = c.pv ∧ Wf hs bs (d + 1) c ∧ TwS ns.length S S') (fun v S' => S'.length = S.length ∧ ∃ c : Cd, v = c.pv ∧ Wf hs bs (d + 1) c ∧ TwS ns.length S S') := by
      refine ss_cons (s_if (w_and (w_cmp (w_var rfl (w_cst ⟨decide ((1 : Int) < (d + 1 : Nat)), rfl, decide ((1 : Int) < (d + 1 : Nat)), rfl, ?_⟩)))))
      by_cases hd : (1 : Int) < (d + 1 : Nat)
      · rw [decide_eq_true hd]
        refine Eq.mpr (if_pos rfl) (w_cmp (w_var rfl (w_cst ⟨decide (turn < 4), rfl, decide (turn < 4), rfl, ?_⟩)))
        by_cases h4 : turn < 4
        · rw [decide_eq_true h4]
          refine Eq.mpr (if_pos rfl) (ss_cons (s_asg (w_tup (w_nil ⟨by simp, ?_⟩))))
          refine ss_cons (s_for (i_rng1 (w_bin (w_cst (draw_call sh hL (w_cons (w_var rfl (w_cons (w_var rfl (w_cons (w_cst (w_nil ⟨rfl, rfl⟩))))))) (by omega) (by omega) tw1.town fun m S2 m1 m2 tw2 => ⟨.int (1 + m), rfl, 1 + m, rfl, by omega, by omega, ?_⟩)))))
          have hil : (rangeP 0 (1 + m)).length = (1 + m).toNat := by simp [rangeP]
          refine wp_for (i := 0) (fun j ρ S' => ∃ (cs : List Cd) (kv : Option PV), ρ = [some (.scr ns), some (.ref 1), some (stP hs), some (stP bs), some (.int (d + 1 : Nat)), some (.int turn), some (.tup (pvL cs)), kv] ∧ cs.length = j ∧ (∀ c ∈ cs, Wf hs bs d c) ∧ TwS ns.length S1 S') rfl rfl ?_ ?_ ⟨[], none, rfl, rfl, by simp, tw2⟩
          · rintro j ρ S' x hx ⟨cs, kv, rfl, hj, hc, tw⟩
            have hjl : j < (rangeP 0 (1 + m)).length := (List.getElem?_eq_some_iff.mp hx).1
            refine ⟨rfl, _, rfl, ss_cons (s_asg (w_bin (w_var rfl (w_tup (w_cons (self (by omega) rfl rfl rfl rfl rfl tw.town fun c S3 wc t3 => w_nil ⟨.tup (pvL cs ++ [c.pv]), ?_, by simp, ss_nil ⟨cs ++ [c], some x, ?_, ?_, ?_, tw.trans t3⟩⟩))))))⟩
            · show (if (pvL cs).length + [c.pv].length ≤ sizeLine then some (PV.tup (pvL cs ++ [c.pv])) else none) = _
              rw [if_pos (by rw [sizeLine_eq, pvL_map, List.length_map, List.length_singleton]; omega)]
            · rw [pvL_map, pvL_map, List.map_append]
              rfl
            · simp [hj]
            · intro c' hc'
              rcases List.mem_append.mp hc' with h | h
              · exact hc c' h
              · rw [List.mem_singleton.mp h]; exact wc
          · rintro ρ S' ⟨cs, kv, rfl, hj, hc, tw⟩
            have hj' : cs.length = 0 + (rangeP 0 (1 + m)).length := hj
            rw [hil] at hj'
            have hcl : 1 ≤ cs.length ∧ cs.length ≤ 3 := by omega
            refine ⟨rfl, ss_cons (s_ret (w_tup (w_cons (w_cst (w_cons (w_bin (w_cst (draw_call sh hL (many := (cs.length : Nat)) (w_cons (w_var rfl (w_cons (w_var rfl (w_cons (w_bi (w_cons (w_var rfl (w_nil ⟨.int (cs.length : Nat), ?_, w_nil ⟨rfl, rfl⟩⟩))))))))) (by omega) (by omega) tw.town fun m2 S4 q1 q2 t4 => ⟨.int (1 + m2), rfl, w_cons (w_var rfl (w_nil (fin (.some (1 + m2).toNat cs) ?_ ?_ (tw.trans t4))))⟩))))))))⟩
            · show some (PV.int ((pvL cs).length : Nat)) = _
              rw [pvL_map, List.length_map]
            · show PV.tup [.str "some", .int (1 + m2), .tup (pvL cs)] = .tup [.str "some", .int ((1 + m2).toNat : Nat), .tup (pvL cs)]
              congr 4
              omega
            · exact ⟨by omega, by omega, by omega, hc⟩
        · rw [decide_eq_false h4]
          exact Eq.mpr (if_neg (by decide)) (ss_nil tail)
      · rw [decide_eq_false hd]
        exact Eq.mpr (if_neg (by decide)) ⟨false, rfl, Eq.mpr (if_neg (by decide)) (ss_nil tail)⟩
    refine ss_cons (s_if (w_and (w_cmp (w_var rfl (w_cst ⟨decide ((1 : Int) < (d + 1 : Nat)), rfl, decide ((1 : Int) < (d + 1 : Nat)), rfl, ?_⟩)))))
    by_cases hd : (1 : Int) < (d + 1 : Nat)
    · rw [decide_eq_true hd]
      refine Eq.mpr (if_pos rfl) (w_cmp (w_var rfl (w_cst ⟨turn == 0, rfl, turn == 0, rfl, ?_⟩)))
      cases ht0 : (turn == 0) with
      | true =>
        refine Eq.mpr (if_pos rfl) (ss_cons (s_ret (w_tup (w_cons (w_cst (w_cons (self (by omega) rfl rfl rfl rfl rfl tw1.town fun c S3 wc t3 => w_nil (fin (.not c) rfl wc t3))))))))
      | false => exact Eq.mpr (if_neg (by decide)) (ss_nil second)
    · rw [decide_eq_false hd]
      exact Eq.mpr (if_neg (by decide)) ⟨false, rfl, Eq.mpr (if_neg (by decide)) (ss_nil second)⟩
end
end Bt
end
section
set_option maxHeartbeats 1000000
namespace Bt
open PySem
mutual
/-- no reference, no list, no dict in it -/
def PV.pl : PV → Bool
  | .none | .bool _ | .int _ | .str _ => true
  | .tup xs => plL xs
  | .list _ | .dict _ | .ref _ | .exc _ _ | .fn _ | .scr _ => false
def plL : List PV → Bool
  | [] => true
  | x :: xs => x.pl && plL xs
end
mutual
theorem frz_pl (n : Nat) (S : Store) : ∀ v : PV, v.pl = true → frz n S v = some v
  | .none, _ => by unfold frz; rfl
  | .bool b, _ => by unfold frz; rfl
  | .int i, _ => by unfold frz; rfl
  | .str s, _ => by unfold frz; rfl
  | .tup xs, h => by unfold frz; rw [frzL_pl n S xs h]; rfl
  | .list _, h => by cases h
  | .dict _, h => by cases h
  | .ref _, h => by cases h
  | .exc _ _, h => by cases h
  | .fn _, h => by cases h
  | .scr _, h => by cases h
theorem frzL_pl (n : Nat) (S : Store) : ∀ xs : List PV, plL xs = true → frzL n S xs = some xs
  | [], _ => by unfold frzL; rfl
  | x :: xs, h => by
    obtain ⟨h1, h2⟩ := Bool.and_eq_true_iff.mp (show (x.pl && plL xs) = true from h)
    unfold frzL
    rw [frz_pl n S x h1, frzL_pl n S xs h2]
    rfl
end
mutual
theorem lo_pl (n : Nat) : ∀ v : PV, v.pl = true → v.lo n = true
  | .none, _ => rfl
  | .bool b, _ => rfl
  | .int i, _ => rfl
  | .str s, _ => rfl
  | .tup xs, h => loL_pl n xs h
  | .list _, h => by cases h
  | .dict _, h => by cases h
  | .ref _, h => by cases h
  | .exc _ _, h => by cases h
  | .fn _, h => by cases h
  | .scr _, h => by cases h
theorem loL_pl (n : Nat) : ∀ xs : List PV, plL xs = true → loL n xs = true
  | [], _ => rfl
  | x :: xs, h => by
    obtain ⟨h1, h2⟩ := Bool.and_eq_true_iff.mp (show (x.pl && plL xs) = true from h)
    show (x.lo n && loL n xs) = true
    rw [lo_pl n x h1, loL_pl n xs h2]
    rfl
end
theorem plL_iff : ∀ {xs : List PV}, plL xs = true ↔ ∀ x ∈ xs, x.pl = true
  | [] => by simp [plL]
  | x :: xs => by
    show (x.pl && plL xs) = true ↔ _
    rw [Bool.and_eq_true, plL_iff]
    simp
mutual
theorem cd_pl : ∀ c : Cd, c.pv.pl = true
  | .isH h => rfl
  | .won b => rfl
  | .lost b => rfl
  | .not c => by show (true && (c.pv.pl && true)) = true; rw [cd_pl c]; rfl
  | .some k cs => by show (true && (true && (plL (pvL cs) && true))) = true; rw [cdL_pl cs]; rfl
theorem cdL_pl : ∀ cs : List Cd, plL (pvL cs) = true
  | [] => rfl
  | c :: cs => by show (c.pv.pl && plL (pvL cs)) = true; rw [cd_pl c, cdL_pl cs]; rfl
end
/-- every cell's references lie within the store -/
def Lo (S : Store) : Prop := ∀ c ∈ S, Cell.lo S.length c = true
theorem RestOk.lo {L n : Nat} {r : List (PV × PV)} (h : RestOk L r) : loD n r = true := by
  have gen : ∀ r : List (PV × PV), (∀ p ∈ r, ∃ (i : Nat) (v : Int), p = (.int i, .int v) ∧ i ≤ L) → loD n r = true := by
    intro r
    induction r with
    | nil => intro _; rfl
    | cons p r ih =>
      intro h
      obtain ⟨i, v, rfl, _⟩ := h p List.mem_cons_self
      show (true && true && loD n r) = true
      rw [ih fun q hq => h q (List.mem_cons_of_mem _ hq)]
      rfl
  exact gen r h.it
theorem Lo.tw {L : Nat} {S S' : Store} (h : Lo S) (t : TwS L S S') : Lo S' := by
  obtain ⟨r, c, e0, e1, hr⟩ := t.town
  intro cl hc
  obtain ⟨i, hi⟩ := List.mem_iff_getElem?.mp hc
  match i, hi with
  | 0, hi =>
    rw [e0] at hi
    cases hi
    exact hr.lo
  | 1, hi =>
    rw [e1] at hi
    cases hi
    have : 0 < S'.length := (List.getElem?_eq_some_iff.mp e0).1
    simp [townC, Cell.lo, loD, PV.lo, this]
  | i + 2, hi =>
    rw [t.rest (i + 2) (by omega)] at hi
    rw [t.len]
    exact h cl (List.mem_of_getElem? hi)
/-- the end of a def that makes cells of its own and hands out plain data -/
theorem Wp_runK {φ : Calls} {G : List PV} {d : Df} {vs : List PV} {S : Store} {Q : PV → Store → Prop} (hk : d.keep = false) (hl : vs.length = d.np)
    (h : WpO (exSs φ G d.body (vs.map some ++ List.replicate (d.nv - d.np) none) S) (fun _ _ => False) (fun v S' => S.length < S'.length ∧ (∀ c ∈ S'.take S.length, Cell.lo S.length c = true) ∧ v.pl = true ∧ Q v (S'.take S.length))) : Wp (runDf φ G d vs S) Q := by
  unfold runDf
  rw [if_pos hl, hk]
  simp only [Bool.false_eq_true, if_false]
  generalize exSs φ G d.body (vs.map some ++ List.replicate (d.nv - d.np) none) S = o at h
  cases o with
  | ret v S' =>
    obtain ⟨h1, h2, h3, h4⟩ := h
    unfold finish
    dsimp only
    rw [if_neg (by omega), if_pos (List.all_eq_true.mpr h2), frz_pl _ _ v h3]
    exact h4
  | _ => exact h.elim
end Bt
end
section
set_option maxHeartbeats 1000000
namespace Bt
open PySem
section
variable {φ : Calls} {G : List PV} {ρ : Env} {S : Store} {Q : PV → Store → Prop}
theorem w_slR {a b : Ex} (h : Wp (evE φ G a ρ S) fun x S => Wp (evE φ G b ρ S) fun y S => ∃ i z, y = .int i ∧ slice (res S x) none (some i) = some z ∧ Q z S) : Wp (evE φ G (.sl a none (some b)) ρ S) Q := by
  unfold evE
  simp only [Wp_bind]
  refine h.mono fun x S hx => ?_
  have e0 : evO φ G none ρ S = .ok .none S := by unfold evO; rfl
  rw [e0]
  simp only [Wp_ok]
  have e1 : evO φ G (some b) ρ S = (evE φ G b ρ S).bind fun v S => (match v with
    | .int i => .ok (.int i) S
    | _ => .stuck) := by first | (rw [evO.eq_2]; done) | (rw [evO.eq_2]; rfl)
  rw [e1]
  simp only [Wp_bind]
  refine hx.mono fun y S ⟨i, z, e, hz, q⟩ => ?_
  subst e
  simp only [Wp_ok]
  show Wp (Res.ofO (slice (res S x) none (some i)) S) Q
  rw [hz]
  exact q
theorem w_br {e : Ex} (h : Wp (evE φ G e ρ S) fun v S => Wp (toRef v S) Q) : Wp (evE φ G (.br e) ρ S) Q := by
  unfold evE
  simpa using h
theorem w_lc {elt : Ex} {tg : Tg} {it : It} {ifs : List Ex} {own : List Nat} (h : Wp (evI φ G it ρ S) fun iv S => iv.lock = [] ∧ iv.items.length ≤ sizeLine ∧ Wp (compLoop iv.guard tg (wipeP ρ own) (evTs φ G ifs) (evE φ G elt) iv.items S) fun vs S => Q (.list vs) S) : Wp (evE φ G (.lc elt tg it ifs own) ρ S) Q := by
  unfold evE
  simp only [Wp_bind]
  refine h.mono fun iv S ⟨h1, h2, h3⟩ => ?_
  rw [if_pos h2]
  simp only [Wp_bind]
  refine h3.mono fun vs S q => ?_
  rw [h1]
  exact q
theorem t_nil {R : Bool → Store → Prop} (h : R true S) : Wp (evTs φ G [] ρ S) R := by unfold evTs; exact h
theorem t_one {c : Ex} {R : Bool → Store → Prop} (h : Wp (evE φ G c ρ S) fun v S => ∃ b, truth (res S v) = some b ∧ R b S) : Wp (evTs φ G [c] ρ S) R := by
  rw [evTs.eq_2]
  simp only [Wp_bind, truthR]
  refine h.mono fun v S ⟨b, e, q⟩ => ?_
  rw [e]
  simp only [Wp_some]
  cases b with
  | true => exact t_nil (φ := φ) (G := G) (ρ := ρ) q
  | false => exact q
end
theorem slice_take {xs : List Str} {m : Int} (h1 : 0 ≤ m) (h2 : m < (xs.length : Nat)) : slice (stP xs) none (some (1 + m)) = some (stP (xs.take (1 + m).toNat)) := by
  show some (PV.tup (cut (xs.map PV.str) none (some (1 + m)))) = _
  unfold cut edge
  have : ¬ (1 + m < 0) := by omega
  simp only [this, if_false, List.drop_zero, Nat.sub_zero, List.length_map]
  rw [Nat.min_eq_left (by omega), ← List.map_take]
  rfl
def people : List Str := ["ann", "bob", "cat"]
def happs : List Str := ["dry", "fog", "hot", "wet"]
def letters : List Str := ["a", "b", "c", "d", "e", "f"]
/-- one bet -/
structure Bet where
  name : Str
  one : Str
  other : Str
  stake : Int
  pay : Int
  cond : Cd
def Bet.pv (b : Bet) : PV := .tup [.str b.name, .str b.one, .str b.other, .int b.stake, .int b.pay, b.cond.pv]
structure Bet.Ok (hs names : List Str) (b : Bet) : Prop where
  one : b.one ∈ people
  other : b.other ∈ people
  ne : b.one ≠ b.other
  stake : 1 ≤ b.stake ∧ b.stake ≤ 9
  pay : 1 ≤ b.pay ∧ b.pay ≤ 9
  cond : Wf hs names 3 b.cond
structure Book where
  hs : List Str
  bets : List Bet
def Book.names (b : Book) : List Str := b.bets.map (·.name)
def Book.pv (b : Book) : PV := .tup [stP b.hs, stP people, .tup (b.bets.map Bet.pv)]
structure Book.Ok (most : Nat) (b : Book) : Prop where
  hs : ∃ k, 1 ≤ k ∧ k ≤ 4 ∧ b.hs = happs.take k
  names : ∃ k, 1 ≤ k ∧ k ≤ most ∧ b.names = letters.take k
  bets : ∀ x ∈ b.bets, x.Ok b.hs b.names
def bookD (iD iC : Nat) : Df := { np := 3, nv := 14, keep := false, body := [.par [4, 5] [(.sl (.tup [(.cst (.str "dry")), (.cst (.str "fog")), (.cst (.str "hot")), (.cst (.str "wet"))]) none (some (.bin .add (.cst (.int 1)) (.call iD [(.var 0), (.var 1), (.cst (.int 4))])))), (.tup [(.cst (.str "ann")), (.cst (.str "bob")), (.cst (.str "cat"))])],
    .par [6, 7] [(.sl (.tup [(.cst (.str "a")), (.cst (.str "b")), (.cst (.str "c")), (.cst (.str "d")), (.cst (.str "e")), (.cst (.str "f"))]) none (some (.bin .add (.cst (.int 1)) (.call iD [(.var 0), (.var 1), (.var 2)])))), (.br (.lst []))],
    .forr (.nm 3) (.seq (.var 6)) [.asg (.tp [(.nm 9), (.nm 10)]) (.tup [(.ix (.var 5) (.call iD [(.var 0), (.var 1), (.cst (.int 3))])), (.call iD [(.var 0), (.var 1), (.cst (.int 2))])]), .asg (.nm 8) (.ix (.lc (.var 13) (.nm 13) (.seq (.var 5)) [(.cmp .ne (.var 13) (.var 9))] [13]) (.var 10)), .par [11, 12] [(.bin .add (.cst (.int 1)) (.call iD [(.var 0), (.var 1), (.cst (.int 9))])), (.bin .add (.cst (.int 1)) (.call iD [(.var 0), (.var 1), (.cst (.int 9))]))], .app (.var 7) (.tup [(.var 3), (.var 9), (.var 8), (.var 11), (.var 12), (.call iC [(.var 0), (.var 1), (.var 4), (.var 6), (.cst (.int 3))])])],
    .ret (.tup [(.var 4), (.var 5), (.bi .tuple [(.var 7)])])] }
/-- the town has changed, and a list has been put behind -/
structure TwB (L : Nat) (S : Store) (xs : List PV) (S' : Store) : Prop where
  town : Town L S'
  len : S'.length = S.length + 1
  cell : S'[S.length]? = some (.lst xs)
  rest : ∀ i, 2 ≤ i → i < S.length → S'[i]? = S[i]?
theorem town_len {L : Nat} {S : Store} (h : Town L S) : 2 ≤ S.length := by
  obtain ⟨r, c, _, e1, _⟩ := h
  have := (List.getElem?_eq_some_iff.mp e1).1
  omega
theorem TwB.tw {L : Nat} {S S' S'' : Store} {xs : List PV} (hS : 2 ≤ S.length) (a : TwB L S xs S') (b : TwS L S' S'') : TwB L S xs S'' :=
  ⟨b.town, b.len.trans a.len, by rw [b.rest _ hS]; exact a.cell, fun i h1 h2 => (b.rest i h1).trans (a.rest i h1 h2)⟩
theorem Town.push {L : Nat} {S : Store} {c : Cell} (h : Town L S) : Town L (S ++ [c]) := by
  obtain ⟨r, k, e0, e1, hr⟩ := h
  have l1 := (List.getElem?_eq_some_iff.mp e1).1
  exact ⟨r, k, by rw [List.getElem?_append_left (by omega)]; exact e0, by rw [List.getElem?_append_left (by omega)]; exact e1, hr⟩
theorem TwB.new {L : Nat} {S S' : Store} (h : TwS L S S') : TwB L S [] (S' ++ [.lst []]) :=
  ⟨h.town.push, by simp [h.len], by rw [← h.len]; simp, fun i h1 h2 => by rw [List.getElem?_append_left (by rw [h.len]; exact h2)]; exact h.rest i h1⟩
theorem TwB.app {L : Nat} {S S' : Store} {xs : List PV} {v : PV} (hS : 2 ≤ S.length) (h : TwB L S xs S') : TwB L S (xs ++ [v]) (S'.set S.length (.lst (xs ++ [v]))) := by
  have hlt : S.length < S'.length := by rw [h.len]; omega
  refine ⟨?_, by rw [List.length_set]; exact h.len, by rw [List.getElem?_set_self hlt], fun i h1 h2 => by rw [List.getElem?_set_ne (by omega)]; exact h.rest i h1 h2⟩
  obtain ⟨r, c, e0, e1, hr⟩ := h.town
  exact ⟨r, c, by rw [List.getElem?_set_ne (by omega)]; exact e0, by rw [List.getElem?_set_ne (by omega)]; exact e1, hr⟩
theorem TwB.end_ {L : Nat} {S S' : Store} {xs : List PV} (hS : 2 ≤ S.length) (h : TwB L S xs S') : TwS L S (S'.take S.length) := by
  obtain ⟨r, c, e0, e1, hr⟩ := h.town
  refine ⟨⟨r, c, by rw [List.getElem?_take_of_lt (by omega)]; exact e0, by rw [List.getElem?_take_of_lt (by omega)]; exact e1, hr⟩, by rw [List.length_take, h.len]; omega, fun i hi => ?_⟩
  by_cases hl : i < S.length
  · rw [List.getElem?_take_of_lt hl]; exact h.rest i hi hl
  · rw [List.getElem?_eq_none (by rw [List.length_take, h.len]; omega), List.getElem?_eq_none (by omega)]
section
variable {D : List Df} {G : List PV} {ns : List Int} {iD iC iB : Nat}
theorem mem_pl {xs : List Bet} : plL (xs.map Bet.pv) = true := by
  rw [plL_iff]
  intro x hx
  obtain ⟨b, _, rfl⟩ := List.mem_map.mp hx
  show (true && (true && (true && (true && (true && (b.cond.pv.pl && true)))))) = true
  rw [cd_pl]
  rfl
theorem strs_pl (xs : List Str) : plL (xs.map PV.str) = true := by
  rw [plL_iff]
  intro x hx
  obtain ⟨b, _, rfl⟩ := List.mem_map.mp hx
  rfl
theorem others {one : Str} (h : one ∈ people) {m : Int} (h1 : 0 ≤ m) (h2 : m < 2) : ∃ o ∈ people, one ≠ o ∧ item (.list ((people.filter fun p => p != one).map PV.str)) (.int m) = some (.str o) := by
  have hm : m = 0 ∨ m = 1 := by omega
  simp only [people, List.mem_cons, List.not_mem_nil, or_false] at h
  rcases h with rfl | rfl | rfl <;> rcases hm with rfl | rfl
  · exact ⟨"bob", by decide +kernel, by decide +kernel, by decide +kernel⟩
  · exact ⟨"cat", by decide +kernel, by decide +kernel, by decide +kernel⟩
  · exact ⟨"ann", by decide +kernel, by decide +kernel, by decide +kernel⟩
  · exact ⟨"cat", by decide +kernel, by decide +kernel, by decide +kernel⟩
  · exact ⟨"ann", by decide +kernel, by decide +kernel, by decide +kernel⟩
  · exact ⟨"bob", by decide +kernel, by decide +kernel, by decide +kernel⟩
end
end Bt
end
section
set_option maxHeartbeats 1000000
namespace Bt
open PySem
section
variable {D : List Df} {G : List PV} {ns : List Int} {iD iC iB : Nat}
theorem w_csts {φ : Calls} {ρ : Env} {S : Store} : ∀ {vs : List PV} {R : List PV → Store → Prop}, R vs S → Wp (evEs φ G (vs.map Ex.cst) ρ S) R
  | [], R, h => w_nil h
  | v :: vs, R, h => w_cons (w_cst (w_csts (R := fun us S => R (v :: us) S) h))
/-- a draw of a written number -/
theorem draw_c (sh : Shr D iD iC) (hL : ns.length ≤ 63) {n : Nat} {ρ : Env} {S : Store} {many : Int} {Q : PV → Store → Prop} (r0 : ρ[0]? = some (some (.scr ns))) (r1 : ρ[1]? = some (some (.ref 1))) (h1 : 1 ≤ many) (h2 : many < 1073741824) (ht : Town ns.length S)
    (h : ∀ (m : Int) (S' : Store), 0 ≤ m → m < many → TwS ns.length S S' → Q (.int m) S') : Wp (evE (callP D G (n + 1)) G (.call iD [.var 0, .var 1, .cst (.int many)]) ρ S) Q :=
  draw_call sh hL (w_cons (w_var r0 (w_cons (w_var r1 (w_cons (w_cst (w_nil ⟨rfl, rfl⟩))))))) h1 h2 ht h
/-- the others than one -/
theorem lc_others {φ : Calls} {ρ : Env} {S : Store} {one : Str} {Q : PV → Store → Prop} (hl : ρ.length = 14) (r5 : ρ[5]? = some (some (stP people))) (r9 : ρ[9]? = some (some (.str one))) (h : Q (.list ((people.filter fun p => p != one).map PV.str)) S) :
    Wp (evE φ G (.lc (.var 13) (.nm 13) (.seq (.var 5)) [(.cmp .ne (.var 13) (.var 9))] [13]) ρ S) Q := by
  refine w_lc (i_seq (w_var r5 ⟨people.map PV.str, rfl, rfl, by rw [sizeLine_eq]; show (3 : Nat) ≤ 16777216; omega, ?_⟩))
  show Wp (compLoop [] (.nm 13) (wipeP ρ [13]) (evTs φ G [(.cmp .ne (.var 13) (.var 9))]) (evE φ G (.var 13)) (people.map PV.str) S) _
  have := wp_comp (g := []) (tg := .nm 13) (ρ := wipeP ρ [13]) (tst := evTs φ G [(.cmp .ne (.var 13) (.var 9))]) (el := evE φ G (.var 13)) (items := people.map PV.str) (i := 0) (acc := []) (S := S) (Q := fun vs S' => Q (.list vs) S')
    (fun j acc S' => S = S' ∧ acc = ((people.take j).filter fun p => p != one).map PV.str) ?_ ?_ ⟨rfl, rfl⟩
  · simpa using this
  · rintro j acc S' x hx ⟨rfl, rfl⟩
    rw [List.getElem?_map] at hx
    obtain ⟨p, hp, rfl⟩ := Option.map_eq_some_iff.mp hx
    have hl' : 13 < (wipeP ρ [13]).length := by rw [show (wipeP ρ [13]).length = ρ.length by simp [wipeP]]; omega
    refine ⟨rfl, (wipeP ρ [13]).set 13 (some (.str p)), by show (if 13 < (wipeP ρ [13]).length then some _ else none) = _; rw [if_pos hl'], ?_⟩
    have g13 : ((wipeP ρ [13]).set 13 (some (.str p)))[13]? = some (some (.str p)) := by rw [List.getElem?_set_self hl']
    have g9 : ((wipeP ρ [13]).set 13 (some (.str p)))[9]? = some (some (.str one)) := by
      rw [List.getElem?_set_ne (by omega)]
      show (ρ.set 13 none)[9]? = _
      rw [List.getElem?_set_ne (by omega)]
      exact r9
    refine t_one (w_cmp (w_var g13 (w_var g9 ⟨p != one, rfl, p != one, rfl, ?_⟩)))
    have e1 : people.take (0 + j + 1) = people.take (0 + j) ++ [p] := by
      rw [Nat.zero_add, List.take_succ, hp]
      rfl
    cases hb : (p != one) with
    | true =>
      refine Eq.mpr (if_pos rfl) (w_var g13 ⟨rfl, ?_⟩)
      rw [e1, List.filter_append, List.map_append]
      simp [hb]
    | false =>
      refine Eq.mpr (if_neg (by decide)) ⟨rfl, ?_⟩
      rw [e1, List.filter_append, List.map_append]
      simp [hb]
  · rintro acc S' ⟨rfl, rfl⟩
    refine ⟨rfl, ?_⟩
    rw [show people.take (0 + (people.map PV.str).length) = people from by simp]
    exact h
theorem book_ok (sh : Shr D iD iC) (hB : D[iB]? = some (bookD iD iC)) (hL : ns.length ≤ 63) {most : Nat} (m1 : 1 ≤ most) (m2 : most ≤ 6) {n : Nat} (hn : 4 ≤ n) {S : Store} (ht : Town ns.length S) (hlo : Lo S) :
    Wp (callP D G (n + 1) iB [.scr ns, .ref 1, .int most] S) fun v S' => ∃ b : Book, v = b.pv ∧ b.Ok most ∧ TwS ns.length S S' := by
  obtain ⟨n, rfl⟩ : ∃ k, n = k + 1 := ⟨n - 1, by omega⟩
  have hS := town_len ht
  rw [callP_step hB]
  refine Wp_runK rfl rfl ?_
  show WpO (exSs (callP D G (n + 1)) G (bookD iD iC).body [some (.scr ns), some (.ref 1), some (.int most), none, none, none, none, none, none, none, none, none, none, none] S) _ _
  refine ss_cons (s_par ?_)
  refine w_cons (w_slR (w_tup (w_csts (vs := happs.map PV.str) ?_)))
  refine w_bin (w_cst (draw_c sh hL rfl rfl (by omega) (by omega) ht fun k1 S1 a1 a2 tw1 => ⟨.int (1 + k1), rfl, 1 + k1, _, rfl, slice_take (xs := happs) a1 (by simpa [happs] using a2), ?_⟩))
  refine w_cons (w_tup (w_csts (vs := people.map PV.str) (w_nil ⟨_, rfl, ?_⟩)))
  generalize hhs : happs.take (1 + k1).toNat = hs
  show WpO (exSs (callP D G (n + 1)) G ((bookD iD iC).body.drop 1) [some (.scr ns), some (.ref 1), some (.int most), none, some (stP hs), some (stP people), none, none, none, none, none, none, none, none] S1) _ _
  refine ss_cons (s_par ?_)
  refine w_cons (w_slR (w_tup (w_csts (vs := letters.map PV.str) ?_)))
  refine w_bin (w_cst (draw_call sh hL (many := most) (w_cons (w_var rfl (w_cons (w_var rfl (w_cons (w_var rfl (w_nil ⟨rfl, rfl⟩))))))) (by omega) (by omega) tw1.town fun k2 S2 b1 b2 tw2 => ⟨.int (1 + k2), rfl, 1 + k2, _, rfl, slice_take (xs := letters) b1 (by have : letters.length = 6 := rfl; omega), ?_⟩))
  refine w_cons (w_br (w_lst (w_nil ?_)))
  simp only [toRef, Wp_ok]
  refine w_nil ⟨_, rfl, ?_⟩
  generalize hnm : letters.take (1 + k2).toNat = names
  have hlen2 : S2.length = S.length := by rw [tw2.len, tw1.len]
  have tb0 : TwB ns.length S [] (S2 ++ [.lst []]) := TwB.new (tw1.trans tw2)
  rw [hlen2]
  show WpO (exSs (callP D G (n + 1)) G ((bookD iD iC).body.drop 2) [some (.scr ns), some (.ref 1), some (.int most), none, some (stP hs), some (stP people), some (stP names), some (.ref S.length), none, none, none, none, none, none] (S2 ++ [.lst []])) _ _
  have hnl : names.length ≤ 6 := by rw [← hnm, List.length_take]; have : letters.length = 6 := rfl; omega
  have hhl : hs ≠ [] ∧ hs.length ≤ 4 := by
    have : happs.length = 4 := rfl
    constructor
    · intro e
      rw [e] at hhs
      have h4 := congrArg List.length hhs
      rw [List.length_take, List.length_nil] at h4
      omega
    · rw [← hhs, List.length_take]; omega
  refine ss_cons (s_for (i_seq (w_var rfl ⟨names.map PV.str, rfl, ?_⟩)))
  refine wp_for (i := 0) (fun j ρ S' => ∃ (bets : List Bet) (v3 v8 v9 v10 v11 v12 : Option PV), ρ = [some (.scr ns), some (.ref 1), some (.int most), v3, some (stP hs), some (stP people), some (stP names), some (.ref S.length), v8, v9, v10, v11, v12, none] ∧ bets.map (·.name) = names.take j ∧ (∀ b ∈ bets, b.Ok hs names) ∧ TwB ns.length S (bets.map Bet.pv) S') rfl rfl ?_ ?_ ⟨[], none, none, none, none, none, none, rfl, rfl, by simp, tb0⟩
  · rintro j ρ S' x hx ⟨bets, v3, v8, v9, v10, v11, v12, rfl, hj, hb, tb⟩
    have hx : (names.map PV.str)[j]? = some x := hx
    rw [List.getElem?_map] at hx
    obtain ⟨nm, hnm', rfl⟩ := Option.map_eq_some_iff.mp hx
    refine ⟨rfl, _, rfl, ?_⟩
    refine ss_cons (s_asgT (w_tup (w_cons (w_ix (w_var rfl (draw_c sh hL rfl rfl (by omega) (by omega) tb.town fun p1 S3 c1 c2 tw3 => ?_)))))) 
    obtain ⟨one, hone, eone⟩ := seq_item (xs := people) c1 (by simpa [people] using c2)
    have tb3 := tb.tw hS tw3
    refine ⟨.str one, eone, w_cons (draw_c sh hL rfl rfl (by omega) (by omega) tb3.town fun p2 S4 d1 d2 tw4 => w_nil ⟨_, rfl, ?_⟩)⟩
    have tb4 := tb3.tw hS tw4
    refine ss_cons (s_asg (w_ix (lc_others rfl rfl rfl (w_var rfl ?_))))
    obtain ⟨other, hother, hne, eo⟩ := others hone d1 d2
    refine ⟨.str other, eo, by simp, ?_⟩
    refine ss_cons (s_par (w_cons (w_bin (w_cst (draw_c sh hL rfl rfl (by omega) (by omega) tb4.town fun p3 S5 f1 f2 tw5 => ⟨.int (1 + p3), rfl, ?_⟩)))))
    have tb5 := tb4.tw hS tw5
    refine w_cons (w_bin (w_cst (draw_c sh hL rfl rfl (by omega) (by omega) tb5.town fun p4 S6 g1 g2 tw6 => ⟨.int (1 + p4), rfl, w_nil ⟨_, rfl, ?_⟩⟩)))
    have tb6 := tb5.tw hS tw6
    refine ss_cons (s_app (w_var rfl ⟨?_, ?_⟩))
    · simp only [res, tb6.cell, meKind]
    · refine w_tup (w_cons (w_var rfl (w_cons (w_var rfl (w_cons (w_var rfl (w_cons (w_var rfl (w_cons (w_var rfl (w_cons (w_call (w_cons (w_var rfl (w_cons (w_var rfl (w_cons (w_var rfl (w_cons (w_var rfl (w_cons (w_cst (w_nil ?_)))))))))))))))))))))))
      refine (cond_ok sh hL hhl.1 (by omega) (by omega) 2 n S6 (by omega) tb6.town).mono fun v S7 ⟨c, e, wc, tw7⟩ => ?_
      subst e
      have tb7 := tb6.tw hS tw7
      have hbl : bets.length ≤ 6 := by
        have := congrArg List.length hj
        rw [List.length_map, List.length_take] at this
        omega
      refine w_nil ⟨S7.set S.length (.lst (bets.map Bet.pv ++ [(Bet.mk nm one other (1 + p3) (1 + p4) c).pv])), ?_, ss_nil ⟨bets ++ [Bet.mk nm one other (1 + p3) (1 + p4) c], _, _, _, _, _, _, rfl, ?_, ?_, ?_⟩⟩
      · show appAt S7 (.ref S.length) (Bet.mk nm one other (1 + p3) (1 + p4) c).pv = _
        unfold appAt
        simp only [tb7.cell]
        rw [if_pos (by rw [List.length_map, sizeLine_eq]; omega)]
      · rw [List.map_append, hj, Nat.zero_add, List.take_succ, hnm']
        rfl
      · intro b hb'
        rcases List.mem_append.mp hb' with h | h
        · exact hb b h
        · rw [List.mem_singleton.mp h]
          exact ⟨hone, hother, hne, ⟨by show 1 ≤ 1 + p3; omega, by show 1 + p3 ≤ 9; omega⟩, ⟨by show 1 ≤ 1 + p4; omega, by show 1 + p4 ≤ 9; omega⟩, wc⟩
      · rw [List.map_append]
        exact tb7.app hS
  · rintro ρ S' ⟨bets, v3, v8, v9, v10, v11, v12, rfl, hj, hb, tb⟩
    have hj : bets.map (·.name) = names := by
      have hj' : bets.map (·.name) = names.take (0 + (names.map PV.str).length) := hj
      rw [hj']
      simp
    refine ⟨rfl, ss_cons (s_ret (w_tup (w_cons (w_var rfl (w_cons (w_var rfl (w_cons (w_bi (w_cons (w_var rfl (w_nil ⟨.tup (bets.map Bet.pv), ?_, w_nil ?_⟩)))))))))))⟩
    · show biv .tuple [res S' (.ref S.length)] = _
      simp only [res, tb.cell]
      rfl
    · have te := tb.end_ hS
      refine ⟨by rw [tb.len]; omega, fun c hc => ?_, ?_, ⟨hs, bets⟩, rfl, ⟨⟨(1 + k1).toNat, by omega, by omega, hhs.symm⟩, ⟨(1 + k2).toNat, by omega, by omega, by rw [hnm]; exact hj⟩, fun b hb' => ?_⟩, te⟩
      · have := (hlo.tw te) c hc
        rw [te.len] at this
        exact this
      · show (plL (hs.map PV.str) && (plL (people.map PV.str) && (plL (bets.map Bet.pv) && true))) = true
        rw [strs_pl, strs_pl, mem_pl]
        rfl
      · have := hb b hb'
        rw [show (Book.mk hs bets).names = names from hj]
        exact this
end
end Bt
end
section
set_option maxHeartbeats 0
namespace Bt
open PySem
def heardNm : List Str := ["deed", "refused", "found", "some", "names", "word", "e"]
abbrev f_is_number : Nat := 0
abbrev f_is_name : Nat := 1
abbrev f_is_rising : Nat := 2
abbrev f_are_names : Nat := 3
abbrev f_is_known : Nat := 4
abbrev f_is_condition_of : Nat := 5
abbrev f_is_bet : Nat := 6
abbrev f_is_book : Nat := 7
abbrev f_names_of : Nat := 8
abbrev f_is_condition : Nat := 9
abbrev f_is_seen : Nat := 10
abbrev f_look_seen : Nat := 11
abbrev f_fits_of : Nat := 12
abbrev f_worlds : Nat := 13
abbrev f_fitting : Nat := 14
abbrev f_are_told : Nat := 15
abbrev f_turned_over : Nat := 16
abbrev f_known_of : Nat := 17
abbrev f_by_name : Nat := 18
abbrev f_value_of : Nat := 19
abbrev f_steps : Nat := 20
abbrev f_told_of : Nat := 21
abbrev f_settled : Nat := 22
abbrev f_turns : Nat := 23
abbrev f_is_entry : Nat := 24
abbrev f_is_order : Nat := 25
abbrev f_is_closed : Nat := 26
abbrev f_look_world : Nat := 27
abbrev f_ends_of : Nat := 28
abbrev f_results : Nat := 29
abbrev f_law_is : Nat := 98
abbrev f_law_draw : Nat := 99
abbrev f_law_begun : Nat := 100
abbrev f_law_a_condition : Nat := 101
abbrev f_law_a_book : Nat := 102
abbrev f_law_worlds : Nat := 103
abbrev f_law_spoilt : Nat := 104
abbrev f_law_deep : Nat := 105
abbrev f_law_conditions : Nat := 106
abbrev f_law_seen : Nat := 107
abbrev f_law : Nat := 108
abbrev f_law_a_seen : Nat := 110
abbrev f_law_value : Nat := 111
abbrev f_law_a_world : Nat := 114
abbrev f_law_settled : Nat := 115
abbrev f_law_ends : Nat := 116
def c_is_number : Df := { np := 3, nv := 3, keep := false, body := [.ret (.and (.bi (.isinst .int) [(.var 0)]) (.and (.not (.bi (.isinst .bool) [(.var 0)])) (.chain .le .le (.var 1) (.var 0) (.var 2))))] }
def e_is_number : Ent := ⟨"is_number", ["thing", "least", "most"], ["thing", "least", "most"], c_is_number⟩
def c_is_name : Df := { np := 1, nv := 2, keep := false, body := [.ret (.and (.bi (.isinst .str) [(.var 0)]) (.and (.chain .le .le (.cst (.int 1)) (.bi .len [(.var 0)]) (.cst (.int 8))) (.bi .all [(.lc (.cmp .inn (.var 1) (.glo 0)) (.nm 1) (.seq (.var 0)) [] [1])])))] }
def e_is_name : Ent := ⟨"is_name", ["thing"], ["thing", "sign"], c_is_name⟩
def c_is_rising : Df := { np := 1, nv := 3, keep := false, body := [.ret (.bi .all [(.lc (.cmp .lt (.var 1) (.var 2)) (.tp [(.nm 1), (.nm 2)]) (.zip (.var 0) (.sl (.var 0) (some (.cst (.int 1))) none)) [] [1, 2])])] }
def e_is_rising : Ent := ⟨"is_rising", ["thing"], ["thing", "one", "other"], c_is_rising⟩
def c_are_names : Df := { np := 3, nv := 4, keep := false, body := [.ifs (.or (.not (.bi (.isinst .tuple) [(.var 0)])) (.or (.not (.chain .le .le (.var 1) (.bi .len [(.var 0)]) (.var 2))) (.not (.bi .all [(.lc (.call 1 [(.var 3)]) (.nm 3) (.seq (.var 0)) [] [3])])))) [.ret (.cst (.bool false))] [],
    .ret (.call 2 [(.var 0)])] }
def e_are_names : Ent := ⟨"are_names", ["thing", "least", "most"], ["thing", "least", "most", "one"], c_are_names⟩
def c_is_known : Df := { np := 2, nv := 2, keep := false, body := [.ret (.and (.bi (.isinst .str) [(.var 1)]) (.cmp .inn (.var 1) (.var 0)))] }
def e_is_known : Ent := ⟨"is_known", ["names", "thing"], ["names", "thing"], c_is_known⟩
def c_is_condition_of : Df := { np := 4, nv := 7, keep := false, body := [.ifs (.or (.not (.bi (.isinst .tuple) [(.var 2)])) (.or (.cmp .notin (.bi .len [(.var 2)]) (.tup [(.cst (.int 2)), (.cst (.int 3))])) (.or (.not (.bi (.isinst .str) [(.ix (.var 2) (.cst (.int 0)))])) (.cmp .eq (.var 3) (.cst (.int 0)))))) [.ret (.cst (.bool false))] [],
    .asg (.nm 4) (.ix (.var 2) (.cst (.int 0))),
    .ifs (.cmp .eq (.bi .len [(.var 2)]) (.cst (.int 2))) [.ifs (.cmp .eq (.var 4) (.cst (.str "not"))) [.ret (.call 5 [(.var 0), (.var 1), (.ix (.var 2) (.cst (.int 1))), (.bin .sub (.var 3) (.cst (.int 1)))])] [], .asg (.nm 5) (.me .get2 (.dic [((.cst (.str "is")), (.var 0)), ((.cst (.str "won")), (.var 1)), ((.cst (.str "lost")), (.var 1))]) [(.var 4), (.tup [])]), .ret (.call 4 [(.var 5), (.ix (.var 2) (.cst (.int 1)))])] [],
    .ifs (.or (.cmp .ne (.var 4) (.cst (.str "some"))) (.or (.not (.bi (.isinst .tuple) [(.ix (.var 2) (.cst (.int 2)))])) (.not (.chain .le .le (.cst (.int 1)) (.bi .len [(.ix (.var 2) (.cst (.int 2)))]) (.cst (.int 4)))))) [.ret (.cst (.bool false))] [],
    .ifs (.not (.call 0 [(.ix (.var 2) (.cst (.int 1))), (.cst (.int 1)), (.bi .len [(.ix (.var 2) (.cst (.int 2)))])])) [.ret (.cst (.bool false))] [],
    .ret (.bi .all [(.lc (.call 5 [(.var 0), (.var 1), (.var 6), (.bin .sub (.var 3) (.cst (.int 1)))]) (.nm 6) (.seq (.ix (.var 2) (.cst (.int 2)))) [] [6])])] }
def e_is_condition_of : Ent := ⟨"is_condition_of", ["happenings", "bets", "thing", "deep"], ["happenings", "bets", "thing", "deep", "word", "names", "one"], c_is_condition_of⟩
def c_is_bet : Df := { np := 4, nv := 4, keep := false, body := [.ifs (.or (.not (.bi (.isinst .tuple) [(.var 3)])) (.or (.cmp .ne (.bi .len [(.var 3)]) (.cst (.int 6))) (.not (.call 1 [(.ix (.var 3) (.cst (.int 0)))])))) [.ret (.cst (.bool false))] [],
    .ifs (.or (.not (.call 4 [(.var 1), (.ix (.var 3) (.cst (.int 1)))])) (.or (.not (.call 4 [(.var 1), (.ix (.var 3) (.cst (.int 2)))])) (.cmp .eq (.ix (.var 3) (.cst (.int 1))) (.ix (.var 3) (.cst (.int 2)))))) [.ret (.cst (.bool false))] [],
    .ifs (.or (.not (.call 0 [(.ix (.var 3) (.cst (.int 3))), (.cst (.int 1)), (.cst (.int 999))])) (.not (.call 0 [(.ix (.var 3) (.cst (.int 4))), (.cst (.int 1)), (.cst (.int 999))]))) [.ret (.cst (.bool false))] [],
    .ret (.call 5 [(.var 0), (.var 2), (.ix (.var 3) (.cst (.int 5))), (.glo 1)])] }
def e_is_bet : Ent := ⟨"is_bet", ["happenings", "people", "bets", "thing"], ["happenings", "people", "bets", "thing"], c_is_bet⟩
def c_is_book : Df := { np := 1, nv := 7, keep := false, body := [.ifs (.or (.not (.bi (.isinst .tuple) [(.var 0)])) (.cmp .ne (.bi .len [(.var 0)]) (.cst (.int 3)))) [.ret (.cst (.bool false))] [],
    .asg (.tp [(.nm 2), (.nm 3), (.nm 4)]) (.var 0),
    .ifs (.or (.not (.call 3 [(.var 2), (.cst (.int 1)), (.cst (.int 6))])) (.not (.call 3 [(.var 3), (.cst (.int 2)), (.cst (.int 5))]))) [.ret (.cst (.bool false))] [],
    .ifs (.or (.not (.bi (.isinst .tuple) [(.var 4)])) (.or (.cmp .gt (.bi .len [(.var 4)]) (.cst (.int 8))) (.not (.bi .all [(.lc (.and (.bi (.isinst .tuple) [(.var 5)]) (.var 5)) (.nm 5) (.seq (.var 4)) [] [5])])))) [.ret (.cst (.bool false))] [],
    .asg (.nm 1) (.lc (.ix (.var 5) (.cst (.int 0))) (.nm 5) (.seq (.var 4)) [] [5]),
    .ifs (.or (.not (.bi .all [(.lc (.call 1 [(.var 6)]) (.nm 6) (.seq (.var 1)) [] [6])])) (.not (.call 2 [(.var 1)]))) [.ret (.cst (.bool false))] [],
    .ret (.bi .all [(.lc (.call 6 [(.var 2), (.var 3), (.var 1), (.var 5)]) (.nm 5) (.seq (.var 4)) [] [5])])] }
def e_is_book : Ent := ⟨"is_book", ["thing"], ["thing", "names", "happenings", "people", "bets", "bet", "name"], c_is_book⟩
def c_names_of : Df := { np := 1, nv := 2, keep := false, body := [.ret (.lc (.ix (.var 1) (.cst (.int 0))) (.nm 1) (.seq (.ix (.var 0) (.cst (.int 2)))) [] [1])] }
def e_names_of : Ent := ⟨"names_of", ["book"], ["book", "bet"], c_names_of⟩
def c_is_condition : Df := { np := 2, nv := 2, keep := false, body := [.ret (.call 5 [(.ix (.var 0) (.cst (.int 0))), (.call 8 [(.var 0)]), (.var 1), (.glo 1)])] }
def e_is_condition : Ent := ⟨"is_condition", ["book", "thing"], ["book", "thing"], c_is_condition⟩
def c_is_seen : Df := { np := 2, nv := 3, keep := false, body := [.ifs (.or (.not (.bi (.isinst .tuple) [(.var 1)])) (.cmp .ne (.bi .len [(.var 1)]) (.bi .len [(.ix (.var 0) (.cst (.int 0)))]))) [.ret (.cst (.bool false))] [],
    .ret (.bi .all [(.lc (.or (.cmp .is (.var 2) (.cst .none)) (.bi (.isinst .bool) [(.var 2)])) (.nm 2) (.seq (.var 1)) [] [2])])] }
def e_is_seen : Ent := ⟨"is_seen", ["book", "thing"], ["book", "thing", "one"], c_is_seen⟩
def c_look_seen : Df := { np := 2, nv := 2, keep := false, body := [.ifs (.not (.call 10 [(.var 0), (.var 1)])) [.raise 0] []] }
def e_look_seen : Ent := ⟨"look_seen", ["book", "seen"], ["book", "seen"], c_look_seen⟩
def c_fits_of : Df := { np := 1, nv := 5, keep := false, body := [.asg (.nm 1) (.lst [(.tup [])]),
    .forr (.nm 2) (.seq (.var 0)) [.asg (.nm 1) (.lc2 (.bin .add (.var 3) (.tup [(.var 4)])) (.nm 3) (.seq (.var 1)) (.nm 4) (.seq (.ite (.cmp .is (.var 2) (.cst .none)) (.lst [(.cst (.bool false)), (.cst (.bool true))]) (.lst [(.var 2)]))) [3, 4] [4])],
    .ret (.bi .tuple [(.var 1)])] }
def e_fits_of : Ent := ⟨"fits_of", ["seen"], ["seen", "found", "one", "row", "truth"], c_fits_of⟩
def c_worlds : Df := { np := 1, nv := 1, keep := false, body := [.ret (.call 12 [(.bin .mul (.tup [(.cst .none)]) (.bi .len [(.ix (.var 0) (.cst (.int 0)))]))])] }
def e_worlds : Ent := ⟨"worlds", ["book"], ["book"], c_worlds⟩
def c_fitting : Df := { np := 2, nv := 2, keep := false, body := [.expr (.call 11 [(.var 0), (.var 1)]),
    .ret (.call 12 [(.var 1)])] }
def e_fitting : Ent := ⟨"fitting", ["book", "seen"], ["book", "seen"], c_fitting⟩
def c_are_told : Df := { np := 2, nv := 3, keep := false, body := [.ifs (.or (.not (.bi (.isinst .tuple) [(.var 1)])) (.cmp .ne (.bi .len [(.var 1)]) (.bi .len [(.ix (.var 0) (.cst (.int 2)))]))) [.ret (.cst (.bool false))] [],
    .ret (.bi .all [(.lc (.and (.bi (.isinst .str) [(.var 2)]) (.cmp .inn (.var 2) (.glo 2))) (.nm 2) (.seq (.var 1)) [] [2])])] }
def e_are_told : Ent := ⟨"are_told", ["book", "thing"], ["book", "thing", "one"], c_are_told⟩
def c_turned_over : Df := { np := 1, nv := 1, keep := false, body := [.ret (.ite (.cmp .is (.var 0) (.cst .none)) (.cst .none) (.not (.var 0)))] }
def e_turned_over : Ent := ⟨"turned_over", ["value"], ["value"], c_turned_over⟩
def c_known_of : Df := { np := 3, nv := 7, keep := false, body := [.asg (.nm 3) (.ix (.var 2) (.cst (.int 0))),
    .ifs (.cmp .eq (.var 3) (.cst (.str "is"))) [.ret (.ix (.var 0) (.ix (.var 2) (.cst (.int 1))))] [],
    .ifs (.or (.cmp .eq (.var 3) (.cst (.str "won"))) (.cmp .eq (.var 3) (.cst (.str "lost")))) [.asg (.nm 5) (.ix (.var 1) (.ix (.var 2) (.cst (.int 1)))), .ret (.ite (.cmp .eq (.var 5) (.cst (.str "open"))) (.cst .none) (.cmp .eq (.var 5) (.var 3)))] [],
    .ifs (.cmp .eq (.var 3) (.cst (.str "not"))) [.ret (.call 16 [(.call 17 [(.var 0), (.var 1), (.ix (.var 2) (.cst (.int 1)))])])] [],
    .asg (.nm 4) (.lc (.call 17 [(.var 0), (.var 1), (.var 6)]) (.nm 6) (.seq (.ix (.var 2) (.cst (.int 2)))) [] [6]),
    .ifs (.cmp .ge (.me .lcount (.var 4) [(.cst (.bool true))]) (.ix (.var 2) (.cst (.int 1)))) [.ret (.cst (.bool true))] [],
    .ret (.ite (.cmp .ge (.bin .sub (.bi .len [(.var 4)]) (.me .lcount (.var 4) [(.cst (.bool false))])) (.ix (.var 2) (.cst (.int 1)))) (.cst .none) (.cst (.bool false)))] }
def e_known_of : Ent := ⟨"known_of", ["seen", "told", "condition"], ["seen", "told", "condition", "word", "some", "state", "one"], c_known_of⟩
def c_by_name : Df := { np := 2, nv := 2, keep := false, body := [.ret (.dzip (.ix (.var 0) (.cst (.int 0))) (.var 1))] }
def e_by_name : Ent := ⟨"by_name", ["book", "seen"], ["book", "seen"], c_by_name⟩
def c_value_of : Df := { np := 4, nv := 6, keep := false, body := [.expr (.call 11 [(.var 0), (.var 1)]),
    .ifs (.not (.call 15 [(.var 0), (.var 2)])) [.raise 1] [],
    .ifs (.not (.call 9 [(.var 0), (.var 3)])) [.raise 2] [],
    .ret (.call 17 [(.call 18 [(.var 0), (.var 1)]), (.dc (.ix (.var 4) (.cst (.int 0))) (.var 5) (.tp [(.nm 4), (.nm 5)]) (.zip (.ix (.var 0) (.cst (.int 2))) (.var 2)) [4, 5]), (.var 3)])] }
def e_value_of : Ent := ⟨"value_of", ["book", "seen", "told", "condition"], ["book", "seen", "told", "condition", "bet", "state"], c_value_of⟩
def c_steps : Df := { np := 2, nv := 10, keep := true, body := [.par [2, 3, 4] [(.call 18 [(.var 0), (.var 1)]), (.br (.dc (.ix (.var 7) (.cst (.int 0))) (.cst (.str "open")) (.nm 7) (.seq (.ix (.var 0) (.cst (.int 2)))) [7])), (.br (.dic []))],
    .asg (.tp [(.nm 5), (.nm 6)]) (.tup [(.cst (.int 0)), (.cst (.bool true))]),
    .whil (.var 6) [.asg (.tp [(.nm 5), (.nm 6)]) (.tup [(.bin .add (.var 5) (.cst (.int 1))), (.br (.dic []))]), .forr (.nm 7) (.seq (.ix (.var 0) (.cst (.int 2)))) [.ifs (.cmp .eq (.ix (.var 3) (.ix (.var 7) (.cst (.int 0)))) (.cst (.str "open"))) [.asg (.nm 8) (.call 17 [(.var 2), (.var 3), (.ix (.var 7) (.cst (.int 5)))]), .ifs (.cmp .isnot (.var 8) (.cst .none)) [.put (.var 6) (.ix (.var 7) (.cst (.int 0))) (.won (.var 8))] []] []], .upd (.var 3) (.var 6), .upd (.var 4) (.dc (.var 9) (.var 5) (.nm 9) (.keys 6) [9])],
    .ret (.tup [(.var 3), (.var 4)])] }
def e_steps : Ent := ⟨"steps", ["book", "seen"], ["book", "seen", "known", "told", "turned", "turn", "fresh", "bet", "value", "name"], c_steps⟩
def c_told_of : Df := { np := 2, nv := 4, keep := false, body := [.asg (.nm 2) (.ix (.call 20 [(.var 0), (.var 1)]) (.cst (.int 0))),
    .ret (.bi .tuple [(.lc (.ix (.var 2) (.ix (.var 3) (.cst (.int 0)))) (.nm 3) (.seq (.ix (.var 0) (.cst (.int 2)))) [] [3])])] }
def e_told_of : Ent := ⟨"told_of", ["book", "seen"], ["book", "seen", "told", "bet"], c_told_of⟩
def c_settled : Df := { np := 2, nv := 2, keep := false, body := [.expr (.call 11 [(.var 0), (.var 1)]),
    .ret (.call 21 [(.var 0), (.var 1)])] }
def e_settled : Ent := ⟨"settled", ["book", "seen"], ["book", "seen"], c_settled⟩
def c_turns : Df := { np := 2, nv := 4, keep := false, body := [.expr (.call 11 [(.var 0), (.var 1)]),
    .asg (.nm 2) (.ix (.call 20 [(.var 0), (.var 1)]) (.cst (.int 1))),
    .ret (.bi .tuple [(.lc (.me .get1 (.var 2) [(.ix (.var 3) (.cst (.int 0)))]) (.nm 3) (.seq (.ix (.var 0) (.cst (.int 2)))) [] [3])])] }
def e_turns : Ent := ⟨"turns", ["book", "seen"], ["book", "seen", "turned", "bet"], c_turns⟩
def c_is_entry : Df := { np := 2, nv := 3, keep := false, body := [.ifs (.or (.not (.bi (.isinst .tuple) [(.var 1)])) (.or (.cmp .ne (.bi .len [(.var 1)]) (.cst (.int 2))) (.not (.bi .all [(.lc (.bi (.isinst .str) [(.var 2)]) (.nm 2) (.seq (.var 1)) [] [2])])))) [.ret (.cst (.bool false))] [],
    .ret (.and (.cmp .inn (.ix (.var 1) (.cst (.int 0))) (.call 8 [(.var 0)])) (.cmp .inn (.ix (.var 1) (.cst (.int 1))) (.tup [(.cst (.str "won")), (.cst (.str "lost"))])))] }
def e_is_entry : Ent := ⟨"is_entry", ["book", "thing"], ["book", "thing", "one"], c_is_entry⟩
def c_is_order : Df := { np := 3, nv := 11, keep := false, body := [.expr (.call 11 [(.var 0), (.var 1)]),
    .ifs (.or (.not (.bi (.isinst .tuple) [(.var 2)])) (.not (.bi .all [(.lc (.call 24 [(.var 0), (.var 10)]) (.nm 10) (.seq (.var 2)) [] [10])]))) [.ret (.cst (.bool false))] [],
    .asg (.tp [(.nm 4), (.nm 5)]) (.tup [(.call 18 [(.var 0), (.var 1)]), (.br (.dc (.ix (.var 9) (.cst (.int 0))) (.cst (.str "open")) (.nm 9) (.seq (.ix (.var 0) (.cst (.int 2)))) [9]))]),
    .asg (.nm 3) (.dc (.ix (.var 9) (.cst (.int 0))) (.ix (.var 9) (.cst (.int 5))) (.nm 9) (.seq (.ix (.var 0) (.cst (.int 2)))) [9]),
    .forr (.tp [(.nm 6), (.nm 7)]) (.seq (.var 2)) [.asg (.nm 8) (.call 17 [(.var 4), (.var 5), (.ix (.var 3) (.var 6))]), .ifs (.or (.cmp .ne (.ix (.var 5) (.var 6)) (.cst (.str "open"))) (.or (.cmp .is (.var 8) (.cst .none)) (.cmp .ne (.won (.var 8)) (.var 7)))) [.ret (.cst (.bool false))] [], .put (.var 5) (.var 6) (.var 7)],
    .ret (.bi .all [(.lc (.cmp .is (.call 17 [(.var 4), (.var 5), (.ix (.var 3) (.var 6))]) (.cst .none)) (.nm 6) (.keys 5) [(.cmp .eq (.ix (.var 5) (.var 6)) (.cst (.str "open")))] [6])])] }
def e_is_order : Ent := ⟨"is_order", ["book", "seen", "thing"], ["book", "seen", "thing", "conditions", "known", "told", "name", "result", "value", "bet", "entry"], c_is_order⟩
def c_is_closed : Df := { np := 3, nv := 8, keep := false, body := [.expr (.call 11 [(.var 0), (.var 1)]),
    .ifs (.or (.not (.bi (.isinst .tuple) [(.var 2)])) (.not (.bi .all [(.lc (.and (.bi (.isinst .str) [(.var 7)]) (.cmp .inn (.var 7) (.call 8 [(.var 0)]))) (.nm 7) (.seq (.var 2)) [] [7])]))) [.ret (.cst (.bool false))] [],
    .ifs (.not (.call 2 [(.var 2)])) [.ret (.cst (.bool false))] [],
    .asg (.tp [(.nm 3), (.nm 4)]) (.tup [(.call 18 [(.var 0), (.var 1)]), (.ix (.call 20 [(.var 0), (.var 1)]) (.cst (.int 0)))]),
    .upd (.var 4) (.dc (.var 5) (.cst (.str "open")) (.nm 5) (.seq (.var 2)) [5]),
    .ret (.bi .all [(.lc (.cmp .is (.call 17 [(.var 3), (.var 4), (.ix (.var 6) (.cst (.int 5)))]) (.cst .none)) (.nm 6) (.seq (.ix (.var 0) (.cst (.int 2)))) [(.cmp .inn (.ix (.var 6) (.cst (.int 0))) (.var 2))] [6])])] }
def e_is_closed : Ent := ⟨"is_closed", ["book", "seen", "thing"], ["book", "seen", "thing", "known", "told", "name", "bet", "one"], c_is_closed⟩
def c_look_world : Df := { np := 2, nv := 2, keep := false, body := [.ifs (.or (.not (.call 10 [(.var 0), (.var 1)])) (.cmp .inn (.cst .none) (.var 1))) [.raise 3] []] }
def e_look_world : Ent := ⟨"look_world", ["book", "world"], ["book", "world"], c_look_world⟩
def c_ends_of : Df := { np := 2, nv := 3, keep := false, body := [.ret (.bi .tuple [(.lc (.ite (.cmp .eq (.var 2) (.cst (.str "open"))) (.cst (.str "void")) (.var 2)) (.nm 2) (.seq (.call 21 [(.var 0), (.var 1)])) [] [2])])] }
def e_ends_of : Ent := ⟨"ends_of", ["book", "world"], ["book", "world", "state"], c_ends_of⟩
def c_results : Df := { np := 2, nv := 2, keep := false, body := [.expr (.call 27 [(.var 0), (.var 1)]),
    .ret (.call 28 [(.var 0), (.var 1)])] }
def e_results : Ent := ⟨"results", ["book", "world"], ["book", "world"], c_results⟩
def c_law_is : Df := { np := 2, nv := 2, keep := false, body := [.ret (.and (.bi (.isinst .bool) [(.var 0)]) (.cmp .eq (.var 0) (.var 1)))] }
def e_law_is : Ent := ⟨"_law_is", ["told", "due"], ["told", "due"], c_law_is⟩
def c_law_draw : Df := { np := 3, nv := 6, keep := false, body := [.put (.var 1) (.cst (.str "count")) (.bin .add (.ix (.var 1) (.cst (.str "count"))) (.cst (.int 1))),
    .asg (.nm 3) (.ite (.var 0) (.bin .mod (.ix (.var 1) (.cst (.str "count"))) (.bi .len [(.var 0)])) (.cst (.int 0))),
    .asg (.nm 4) (.me .get2 (.ix (.var 1) (.cst (.str "rests"))) [(.var 3), (.ite (.var 0) (.ix (.var 0) (.var 3)) (.cst (.int 0)))]),
    .ifs (.cmp .ge (.var 4) (.bin .pow (.cst (.int 10)) (.cst (.int 18)))) [.put (.ix (.var 1) (.cst (.str "rests"))) (.var 3) (.bin .fdiv (.var 4) (.var 2)), .ret (.bin .mod (.var 4) (.var 2))] [],
    .asg (.nm 5) (.bin .mod (.bin .add (.var 4) (.bin .mul (.cst (.int 104729)) (.ix (.var 1) (.cst (.str "count"))))) (.cst (.int 4294967291))),
    .asg (.nm 5) (.bin .mod (.bin .pow (.var 5) (.cst (.int 5))) (.cst (.int 4294967279))),
    .ret (.bin .mod (.bin .fdiv (.bin .mod (.bin .add (.bin .mul (.bin .fdiv (.var 5) (.cst (.int 64))) (.cst (.int 69621))) (.var 5)) (.cst (.int 4294967231))) (.cst (.int 8))) (.var 2))] }
def e_law_draw : Ent := ⟨"_law_draw", ["script", "town", "many"], ["script", "town", "many", "at", "rest", "number"], c_law_draw⟩
def c_law_begun : Df := { np := 0, nv := 0, keep := true, body := [.ret (.br (.dic [((.cst (.str "count")), (.cst (.int 0))), ((.cst (.str "rests")), (.br (.dic [])))]))] }
def e_law_begun : Ent := ⟨"_law_begun", [], [], c_law_begun⟩
def c_law_a_condition : Df := { np := 5, nv := 8, keep := false, body := [.asg (.nm 5) (.call 99 [(.var 0), (.var 1), (.cst (.int 8))]),
    .ifs (.and (.cmp .gt (.var 4) (.cst (.int 1))) (.cmp .eq (.var 5) (.cst (.int 0)))) [.ret (.tup [(.cst (.str "not")), (.call 101 [(.var 0), (.var 1), (.var 2), (.var 3), (.bin .sub (.var 4) (.cst (.int 1)))])])] [],
    .ifs (.and (.cmp .gt (.var 4) (.cst (.int 1))) (.cmp .lt (.var 5) (.cst (.int 4)))) [.asg (.nm 6) (.tup []), .forr (.nm 7) (.rng1 (.bin .add (.cst (.int 1)) (.call 99 [(.var 0), (.var 1), (.cst (.int 3))]))) [.asg (.nm 6) (.bin .add (.var 6) (.tup [(.call 101 [(.var 0), (.var 1), (.var 2), (.var 3), (.bin .sub (.var 4) (.cst (.int 1)))])]))], .ret (.tup [(.cst (.str "some")), (.bin .add (.cst (.int 1)) (.call 99 [(.var 0), (.var 1), (.bi .len [(.var 6)])])), (.var 6)])] [],
    .ifs (.or (.cmp .eq (.var 3) (.tup [])) (.cmp .lt (.var 5) (.cst (.int 6)))) [.ret (.tup [(.cst (.str "is")), (.ix (.var 2) (.call 99 [(.var 0), (.var 1), (.bi .len [(.var 2)])]))])] [],
    .ret (.tup [(.ix (.lst [(.cst (.str "won")), (.cst (.str "lost"))]) (.bin .sub (.var 5) (.cst (.int 6)))), (.ix (.var 3) (.call 99 [(.var 0), (.var 1), (.bi .len [(.var 3)])]))])] }
def e_law_a_condition : Ent := ⟨"_law_a_condition", ["script", "town", "happenings", "bets", "deep"], ["script", "town", "happenings", "bets", "deep", "turn", "some", "k"], c_law_a_condition⟩
def c_law_a_book : Df := { np := 3, nv := 14, keep := false, body := [.par [4, 5] [(.sl (.tup [(.cst (.str "dry")), (.cst (.str "fog")), (.cst (.str "hot")), (.cst (.str "wet"))]) none (some (.bin .add (.cst (.int 1)) (.call 99 [(.var 0), (.var 1), (.cst (.int 4))])))), (.tup [(.cst (.str "ann")), (.cst (.str "bob")), (.cst (.str "cat"))])],
    .par [6, 7] [(.sl (.tup [(.cst (.str "a")), (.cst (.str "b")), (.cst (.str "c")), (.cst (.str "d")), (.cst (.str "e")), (.cst (.str "f"))]) none (some (.bin .add (.cst (.int 1)) (.call 99 [(.var 0), (.var 1), (.var 2)])))), (.br (.lst []))],
    .forr (.nm 3) (.seq (.var 6)) [.asg (.tp [(.nm 9), (.nm 10)]) (.tup [(.ix (.var 5) (.call 99 [(.var 0), (.var 1), (.cst (.int 3))])), (.call 99 [(.var 0), (.var 1), (.cst (.int 2))])]), .asg (.nm 8) (.ix (.lc (.var 13) (.nm 13) (.seq (.var 5)) [(.cmp .ne (.var 13) (.var 9))] [13]) (.var 10)), .par [11, 12] [(.bin .add (.cst (.int 1)) (.call 99 [(.var 0), (.var 1), (.cst (.int 9))])), (.bin .add (.cst (.int 1)) (.call 99 [(.var 0), (.var 1), (.cst (.int 9))]))], .app (.var 7) (.tup [(.var 3), (.var 9), (.var 8), (.var 11), (.var 12), (.call 101 [(.var 0), (.var 1), (.var 4), (.var 6), (.cst (.int 3))])])],
    .ret (.tup [(.var 4), (.var 5), (.bi .tuple [(.var 7)])])] }
def e_law_a_book : Ent := ⟨"_law_a_book", ["script", "town", "most"], ["script", "town", "most", "name", "happenings", "people", "names", "bets", "other", "one", "two", "stake", "pay", "person"], c_law_a_book⟩
def c_law_worlds : Df := { np := 1, nv := 6, keep := false, body := [.asg (.nm 1) (.lst [(.tup [])]),
    .forr (.nm 2) (.seq (.var 0)) [.asg (.nm 3) (.lst []), .forr (.nm 4) (.seq (.var 1)) [.asg (.nm 3) (.bin .add (.var 3) (.lc (.bin .add (.var 4) (.tup [(.var 5)])) (.nm 5) (.seq (.tup [(.cst (.bool false)), (.cst (.bool true))])) [(.cmp .inn (.var 2) (.tup [(.cst .none), (.var 5)]))] [5]))], .asg (.nm 1) (.var 3)],
    .ret (.var 1)] }
def e_law_worlds : Ent := ⟨"_law_worlds", ["seen"], ["seen", "found", "one", "rows", "row", "truth"], c_law_worlds⟩
def e_law_worlds_2 : Ent := ⟨"_law_worlds", ["seen_here"], ["seen_here", "found", "one", "rows", "row", "truth"], c_law_worlds⟩
def c_law_a_seen : Df := { np := 3, nv := 4, keep := false, body := [.ret (.bi .tuple [(.lc (.ix (.lst [(.cst .none), (.cst (.bool true)), (.cst (.bool false))]) (.call 99 [(.var 0), (.var 1), (.cst (.int 3))])) (.nm 3) (.seq (.ix (.var 2) (.cst (.int 0)))) [] [3])])] }
def e_law_a_seen : Ent := ⟨"_law_a_seen", ["script", "town", "book"], ["script", "town", "book", "name"], c_law_a_seen⟩
def c_law_value : Df := { np := 3, nv := 8, keep := false, body := [.asg (.nm 3) (.ix (.var 2) (.cst (.int 0))),
    .ifs (.cmp .eq (.var 3) (.cst (.str "is"))) [.ret (.ix (.var 0) (.ix (.var 2) (.cst (.int 1))))] [],
    .ifs (.cmp .eq (.var 3) (.cst (.str "not"))) [.asg (.nm 4) (.call 111 [(.var 0), (.var 1), (.ix (.var 2) (.cst (.int 1)))]), .ret (.ite (.cmp .is (.var 4) (.cst .none)) (.cst .none) (.not (.var 4)))] [],
    .ifs (.cmp .eq (.var 3) (.cst (.str "some"))) [.asg (.nm 5) (.lc (.call 111 [(.var 0), (.var 1), (.var 7)]) (.nm 7) (.seq (.ix (.var 2) (.cst (.int 2)))) [] [7]), .ifs (.cmp .ge (.bi .len [(.lc (.var 7) (.nm 7) (.seq (.var 5)) [(.cmp .is (.var 7) (.cst (.bool true)))] [7])]) (.ix (.var 2) (.cst (.int 1)))) [.ret (.cst (.bool true))] [], .asg (.nm 6) (.lc (.var 7) (.nm 7) (.seq (.var 5)) [(.cmp .isnot (.var 7) (.cst (.bool false)))] [7]), .ret (.ite (.cmp .lt (.bi .len [(.var 6)]) (.ix (.var 2) (.cst (.int 1)))) (.cst (.bool false)) (.cst .none))] [],
    .ret (.ite (.cmp .eq (.ix (.var 1) (.ix (.var 2) (.cst (.int 1)))) (.cst (.str "open"))) (.cst .none) (.cmp .eq (.ix (.var 1) (.ix (.var 2) (.cst (.int 1)))) (.var 3)))] }
def e_law_value : Ent := ⟨"_law_value", ["seen", "told", "condition"], ["seen", "told", "condition", "word", "inner", "some", "left", "one"], c_law_value⟩
def e_law_value_2 : Ent := ⟨"_law_value", ["seen_here", "told", "condition"], ["seen_here", "told", "condition", "word", "inner", "some", "left", "one"], c_law_value⟩
def c_law_a_world : Df := { np := 3, nv := 4, keep := false, body := [.ret (.bi .tuple [(.lc (.cmp .eq (.call 99 [(.var 0), (.var 1), (.cst (.int 2))]) (.cst (.int 0))) (.nm 3) (.seq (.ix (.var 2) (.cst (.int 0)))) [] [3])])] }
def e_law_a_world : Ent := ⟨"_law_a_world", ["script", "town", "book"], ["script", "town", "book", "name"], c_law_a_world⟩
def c_law_settled : Df := { np := 2, nv := 7, keep := false, body := [.asg (.tp [(.nm 2), (.nm 3)]) (.tup [(.dzip (.ix (.var 0) (.cst (.int 0))) (.var 1)), (.br (.dlst (.lc (.tup [(.ix (.var 6) (.cst (.int 0))), (.cst (.str "open"))]) (.nm 6) (.seq (.ix (.var 0) (.cst (.int 2)))) [] [6])))]),
    .whil (.cst (.bool true)) [.asg (.nm 4) (.lc (.var 6) (.nm 6) (.seq (.ix (.var 0) (.cst (.int 2)))) [(.cmp .eq (.ix (.var 3) (.ix (.var 6) (.cst (.int 0)))) (.cst (.str "open")))] [6]), .asg (.nm 5) (.lc (.var 6) (.nm 6) (.seq (.var 4)) [(.cmp .isnot (.call 111 [(.var 2), (.var 3), (.ix (.var 6) (.cst (.int 5)))]) (.cst .none))] [6]), .ifs (.cmp .eq (.var 5) (.lst [])) [.ret (.var 3)] [], .put (.var 3) (.ix (.ix (.var 5) (.neg (.cst (.int 1)))) (.cst (.int 0))) (.ite (.call 111 [(.var 2), (.var 3), (.ix (.ix (.var 5) (.neg (.cst (.int 1)))) (.cst (.int 5)))]) (.cst (.str "won")) (.cst (.str "lost")))]] }
def e_law_settled : Ent := ⟨"_law_settled", ["book", "seen"], ["book", "seen", "known", "told", "left", "ready", "bet"], c_law_settled⟩
def c_law_ends : Df := { np := 2, nv := 4, keep := false, body := [.asg (.nm 2) (.call 115 [(.var 0), (.var 1)]),
    .ret (.bi .tuple [(.lc (.ite (.cmp .eq (.ix (.var 2) (.ix (.var 3) (.cst (.int 0)))) (.cst (.str "open"))) (.cst (.str "void")) (.ix (.var 2) (.ix (.var 3) (.cst (.int 0))))) (.nm 3) (.seq (.ix (.var 0) (.cst (.int 2)))) [] [3])])] }
def e_law_ends : Ent := ⟨"_law_ends", ["book", "world_here"], ["book", "world_here", "told", "bet"], c_law_ends⟩
def e_law_ends_2 : Ent := ⟨"_law_ends", ["book", "world"], ["book", "world", "told", "bet"], c_law_ends⟩
end Bt
end
section
set_option maxHeartbeats 1000000
namespace Bt
open PySem
theorem dput_new {kvs : List (PV × PV)} {k v : PV} (h : k ∉ kvs.map (·.1)) : dput kvs k v = kvs ++ [(k, v)] := by
  unfold dput
  rw [if_neg]
  intro e
  obtain ⟨p, hp, e⟩ := List.any_eq_true.mp e
  exact h (List.mem_map.mpr ⟨p, hp, by simpa using e⟩)
theorem mergeP_nd : ∀ (ps kvs : List (PV × PV)), ((kvs ++ ps).map (·.1)).Nodup → mergeP kvs ps = kvs ++ ps
  | [], kvs, _ => by simp
  | (k, v) :: ps, kvs, h => by
    have hk : k ∉ kvs.map (·.1) := by
      rw [List.map_append, List.nodup_append] at h
      intro m
      exact h.2.2 k m k (by simp) rfl
    rw [mergeP_cons, dput_new hk, mergeP_nd ps (kvs ++ [(k, v)]) (by simpa using h)]
    simp
theorem mergeP_nil_nd {ps : List (PV × PV)} (h : (ps.map (·.1)).Nodup) : mergeP [] ps = ps := by
  rw [mergeP_nd ps [] (by simpa using h)]; rfl
theorem dget_map {α : Type} {f g : α → PV} : ∀ {l : List α} {x : α}, x ∈ l → (l.map f).Nodup → dget (l.map fun x => (f x, g x)) (f x) = some (g x)
  | [], _, h, _ => by simp at h
  | y :: l, x, h, hn => by
    rw [List.map_cons, dget_cons]
    rw [List.map_cons, List.nodup_cons] at hn
    by_cases e : f y = f x
    · rcases List.mem_cons.mp h with h | h
      · subst h; simp
      · exact absurd (List.mem_map.mpr ⟨x, h, e.symm⟩) hn.1
    · rw [if_neg e]
      rcases List.mem_cons.mp h with h | h
      · subst h; exact absurd rfl e
      · exact dget_map h hn.2
theorem dget_none {kvs : List (PV × PV)} {k : PV} (h : k ∉ kvs.map (·.1)) : dget kvs k = none := by
  unfold dget
  rw [List.find?_eq_none.mpr]
  · rfl
  · intro p hp
    simp
    intro e
    exact h (List.mem_map.mpr ⟨p, hp, e⟩)
theorem pairsP_map {α : Type} {f g : α → PV} (hk : ∀ x, isKey (f x) = true) : ∀ {l : List α}, pairsP (l.map fun x => .tup [f x, g x]) = some (l.map fun x => (f x, g x))
  | [] => rfl
  | x :: l => by
    show (if isKey (f x) then (pairsP (l.map fun x => .tup [f x, g x])).map ((f x, g x) :: ·) else none) = _
    rw [hk, if_pos rfl, pairsP_map hk]
    rfl
theorem dcLoop_pure {α : Type} {F : α → PV} {tg : Tg} {ρ : Env} {ke ve : Env → Store → Res PV} {S : Store} (ρ' : α → Env) (k v : α → PV) : ∀ {xs : List α} {acc : List (PV × PV)}, (∀ x ∈ xs, assign tg (F x) ρ = some (ρ' x)) → (∀ x ∈ xs, ke (ρ' x) S = .ok (k x) S) → (∀ x ∈ xs, ve (ρ' x) S = .ok (v x) S) → (∀ x ∈ xs, isKey (k x) = true) → dcLoop [] tg ρ ke ve (xs.map F) acc S = .ok (mergeP acc (xs.map fun x => (k x, v x))) S
  | [], acc, _, _, _, _ => by simp [dcLoop, guardOk]
  | x :: xs, acc, ha, hk, hv, hi => by
    have ih := dcLoop_pure (ke := ke) (ve := ve) (F := F) (tg := tg) (ρ := ρ) (S := S) ρ' k v (xs := xs) (acc := dput acc (k x) (v x)) (fun y hy => ha y (List.mem_cons_of_mem _ hy)) (fun y hy => hk y (List.mem_cons_of_mem _ hy)) (fun y hy => hv y (List.mem_cons_of_mem _ hy)) (fun y hy => hi y (List.mem_cons_of_mem _ hy))
    have h1 := ha x List.mem_cons_self
    have h2 := hk x List.mem_cons_self
    have h3 := hv x List.mem_cons_self
    have h4 := hi x List.mem_cons_self
    simp [dcLoop, guardOk, h1, h2, h3, h4, ih]
theorem dcE_map {α : Type} {φ : Calls} {G : List PV} {ke ve : Ex} {tg : Tg} {F : α → PV} {ρ : Env} {S : Store} {xs : List α} (ρ' : α → Env) (k v : α → PV) (hl : xs.length ≤ 1000) (ha : ∀ x ∈ xs, assign tg (F x) ρ = some (ρ' x)) (hk : ∀ x ∈ xs, evE φ G ke (ρ' x) S = .ok (k x) S) (hv : ∀ x ∈ xs, evE φ G ve (ρ' x) S = .ok (v x) S) (hi : ∀ x ∈ xs, isKey (k x) = true) (hn : (xs.map k).Nodup) :
    dcE φ G ke ve tg ρ { items := xs.map F } S = .ok (.dict (xs.map fun x => (k x, v x))) S := by
  unfold dcE
  rw [if_pos (by rw [sizeLine_eq, List.length_map]; omega), dcLoop_pure ρ' k v ha hk hv hi, mergeP_nil_nd (by rw [List.map_map]; exact hn)]
  rfl
theorem nodup_str {l : List Str} (h : l.Nodup) : (l.map PV.str).Nodup := by
  rw [List.nodup_iff_pairwise_ne, List.pairwise_map]
  exact h.imp fun hne e => hne (PV.str.inj e)
theorem any_str (x : Str) : ∀ xs : List Str, ((xs.map PV.str).any fun z => peq z (.str x)) = decide (x ∈ xs)
  | [] => by simp
  | y :: xs => by
    rw [List.map_cons, List.any_cons, any_str x xs]
    show ((y == x) || decide (x ∈ xs)) = _
    by_cases h : y = x
    · subst h; simp
    · have : ¬ x = y := fun e => h e.symm
      simp [h, this]
theorem flat_strs (xs : List Str) : (xs.map PV.str).all flatP = true := by simp [flatP]
@[simp] theorem in_tup {x : Str} {xs : List Str} : cop .inn (.str x) (.tup (xs.map PV.str)) = some (decide (x ∈ xs)) := by
  show (if flatP (.str x) && (xs.map PV.str).all flatP then some ((xs.map PV.str).any fun z => peq z (.str x)) else none) = _
  rw [flat_strs, any_str]
  rfl
@[simp] theorem in_list {x : Str} {xs : List Str} : cop .inn (.str x) (.list (xs.map PV.str)) = some (decide (x ∈ xs)) := by
  show (if dOk 64 (.str x) && dOkL 63 (xs.map PV.str) then some ((xs.map PV.str).any fun z => peq z (.str x)) else none) = _
  rw [dOk_strs, any_str]
  rfl
@[simp] theorem notin_tup {x : Str} {xs : List Str} : cop .notin (.str x) (.tup (xs.map PV.str)) = some (!decide (x ∈ xs)) := by
  show (cop .inn (.str x) (.tup (xs.map PV.str))).map (!·) = _
  rw [in_tup]; rfl
@[simp] theorem notin_list {x : Str} {xs : List Str} : cop .notin (.str x) (.list (xs.map PV.str)) = some (!decide (x ∈ xs)) := by
  show (cop .inn (.str x) (.list (xs.map PV.str))).map (!·) = _
  rw [in_list]; rfl
end Bt
end
section
set_option maxHeartbeats 1000000
namespace Bt
open PySem
def obP : Option Bool → PV
  | none => .none
  | some b => .bool b
def cntT (l : List (Option Bool)) : Nat := l.countP fun x => decide (x = some true)
def cntF (l : List (Option Bool)) : Nat := l.countP fun x => decide (x = some false)
/-- some k of them -/
def someOf (k : Nat) (l : List (Option Bool)) : Option Bool := if k ≤ cntT l then some true else if k ≤ l.length - cntF l then none else some false
mutual
def kn (sn td : Str → Option Bool) : Cd → Option Bool
  | .isH h => sn h
  | .won b => td b
  | .lost b => (td b).map (!·)
  | .not c => (kn sn td c).map (!·)
  | .some k cs => someOf k (knL sn td cs)
def knL (sn td : Str → Option Bool) : List Cd → List (Option Bool)
  | [] => []
  | c :: cs => kn sn td c :: knL sn td cs
end
theorem knL_map (sn td : Str → Option Bool) : ∀ cs : List Cd, knL sn td cs = cs.map (kn sn td)
  | [] => rfl
  | c :: cs => by show kn sn td c :: knL sn td cs = _; rw [knL_map sn td cs]; rfl
def wordOf : Option Bool → Str
  | none => "open"
  | some true => "won"
  | some false => "lost"
theorem flat_ob (l : List (Option Bool)) : dOkL 63 (l.map obP) = true := by
  induction l with
  | nil => rfl
  | cons o l ih =>
    show (dOk 63 (obP o) && dOkL 63 (l.map obP)) = true
    rw [ih]
    cases o <;> rfl
@[simp] theorem cnt_T (l : List (Option Bool)) : mev .lcount (.list (l.map obP)) [.bool true] = some (.int (cntT l : Nat)) := by
  show (if dOk 64 (.bool true) && dOkL 63 (l.map obP) then some (PV.int ((l.map obP).countP fun z => peq z (.bool true))) else none) = _
  rw [flat_ob, if_pos (by rfl), List.countP_map]
  unfold cntT
  congr 3
  congr 1
  funext o
  cases o with
  | none => rfl
  | some b => cases b <;> rfl
@[simp] theorem cnt_F (l : List (Option Bool)) : mev .lcount (.list (l.map obP)) [.bool false] = some (.int (cntF l : Nat)) := by
  show (if dOk 64 (.bool false) && dOkL 63 (l.map obP) then some (PV.int ((l.map obP).countP fun z => peq z (.bool false))) else none) = _
  rw [flat_ob, if_pos (by rfl), List.countP_map]
  unfold cntF
  congr 3
  congr 1
  funext o
  cases o with
  | none => rfl
  | some b => cases b <;> rfl
theorem cntF_le (l : List (Option Bool)) : cntF l ≤ l.length := List.countP_le_length
section
variable {D : List Df} {G : List PV} {n : Nat} {S : Store}
theorem turned_over_eq [Hd D f_turned_over c_turned_over] {o : Option Bool} : callP D G (n + 1) f_turned_over [obP o] S = .ok (obP (o.map (!·))) S := by
  cases o <;> (rw [call_eq rfl]; simp [c_turned_over, obP])
structure Sees (hs bs : List Str) (sd td : List (PV × PV)) (sn tn : Str → Option Bool) : Prop where
  seen : ∀ h ∈ hs, dget sd (.str h) = some (obP (sn h))
  told : ∀ b ∈ bs, dget td (.str b) = some (.str (wordOf (tn b)))
theorem known_of_ref [Hd D f_turned_over c_turned_over] [Hd D f_known_of c_known_of] {hs bs : List Str} {sd td : List (PV × PV)} {sn tn : Str → Option Bool} {sv tv : PV} (hsv : res S sv = .dict sd) (htv : res S tv = .dict td) (sees : Sees hs bs sd td sn tn) : ∀ (d n : Nat) (c : Cd), Wf hs bs d c → d ≤ n →
    callP D G (n + 1) f_known_of [sv, tv, c.pv] S = .ok (obP (kn sn tn c)) S
  | 0, n, c, h, _ => h.elim
  | d + 1, n, c, h, hn => by
    obtain ⟨n, rfl⟩ : ∃ k, n = k + 1 := ⟨n - 1, by omega⟩
    rw [call_eq rfl]
    cases c with
    | isH hh => simp [c_known_of, Cd.pv, hsv, htv, sees.seen hh h, kn]
    | won b =>
      simp [c_known_of, Cd.pv, hsv, htv, sees.told b h, kn]
      cases tn b with
      | none => simp [wordOf, obP]
      | some x => cases x <;> simp [wordOf, obP]
    | lost b =>
      simp [c_known_of, Cd.pv, hsv, htv, sees.told b h, kn]
      cases tn b with
      | none => simp [wordOf, obP]
      | some x => cases x <;> simp [wordOf, obP]
    | not c =>
      simp [c_known_of, Cd.pv, hsv, htv, kn, known_of_ref hsv htv sees d n c h (by omega), turned_over_eq]
    | some k cs =>
      obtain ⟨k1, k2, k3, k4⟩ := h
      simp [c_known_of, Cd.pv, hsv, htv, kn, pvL_map]
      rw [compE_map _ (fun c => obP (kn sn tn c)) (by omega) (fun x hx => by simp; rfl) (fun c hc => by simp [known_of_ref hsv htv sees d n c (k4 c hc) (by omega)])]
      rw [knL_map]
      have := cntF_le (cs.map (kn sn tn))
      have e : (cs.map fun c => obP (kn sn tn c)) = (cs.map (kn sn tn)).map obP := by simp
      rw [e]
      simp [-List.map_map]
      unfold someOf
      simp at this
      split
      · simp_all [obP]
      · split
        · rw [if_pos (by simp_all; omega), obP]
        · rw [if_neg (by simp_all; omega), obP]
theorem known_of_eq [Hd D f_turned_over c_turned_over] [Hd D f_known_of c_known_of] {hs bs : List Str} {sd td : List (PV × PV)} {sn tn : Str → Option Bool} (sees : Sees hs bs sd td sn tn) (d n : Nat) (c : Cd) (h : Wf hs bs d c) (hn : d ≤ n) :
    callP D G (n + 1) f_known_of [.dict sd, .dict td, c.pv] S = .ok (obP (kn sn tn c)) S := known_of_ref rfl rfl sees d n c h hn
end
end Bt
end
section
set_option maxHeartbeats 1000000
namespace Bt
open PySem
section
variable {D : List Df} {G : List PV} {n : Nat} {S : Store}
theorem is_number_eq [Hd D f_is_number c_is_number] {i a b : Int} : callP D G (n + 1) f_is_number [.int i, .int a, .int b] S = .ok (.bool (decide (a ≤ i) && decide (i ≤ b))) S := by
  rw [call_eq rfl]
  by_cases h : a ≤ i <;> simp [c_is_number, h]
theorem is_known_tup [Hd D f_is_known c_is_known] {x : Str} {xs : List Str} : callP D G (n + 1) f_is_known [.tup (xs.map .str), .str x] S = .ok (.bool (decide (x ∈ xs))) S := by
  rw [call_eq rfl]
  simp [c_is_known]
theorem is_known_list [Hd D f_is_known c_is_known] {x : Str} {xs : List Str} : callP D G (n + 1) f_is_known [.list (xs.map .str), .str x] S = .ok (.bool (decide (x ∈ xs))) S := by
  rw [call_eq rfl]
  simp [c_is_known]
@[simp] theorem in23_2 : cop .notin (.int 2) (.tup [.int 2, .int 3]) = some false := rfl
@[simp] theorem in23_3 : cop .notin (.int 3) (.tup [.int 2, .int 3]) = some false := rfl
theorem is_condition_of_true [Hd D f_is_number c_is_number] [Hd D f_is_known c_is_known] [Hd D f_is_condition_of c_is_condition_of] {hs bs : List Str} : ∀ (d m n : Nat) (c : Cd), Wf hs bs d c → d ≤ m → d ≤ n →
    callP D G (n + 1) f_is_condition_of [.tup (hs.map .str), .list (bs.map .str), c.pv, .int (m : Nat)] S = .ok (.bool true) S
  | 0, m, n, c, h, _, _ => h.elim
  | d + 1, m, n, c, h, hm, hn => by
    obtain ⟨n, rfl⟩ : ∃ k, n = k + 1 := ⟨n - 1, by omega⟩
    obtain ⟨m, rfl⟩ : ∃ k, m = k + 1 := ⟨m - 1, by omega⟩
    have hm0 : ¬ (((m + 1 : Nat) : Int) = 0) := by omega
    have hm1 : ((m + 1 : Nat) : Int) - 1 = (m : Nat) := by omega
    rw [call_eq rfl]
    cases c with
    | isH x =>
      have h : x ∈ hs := h
      simp [c_is_condition_of, Cd.pv, is_known_tup, h, -Int.natCast_add, hm0]
    | won x =>
      have h : x ∈ bs := h
      simp [c_is_condition_of, Cd.pv, is_known_list, h, -Int.natCast_add, hm0]
    | lost x =>
      have h : x ∈ bs := h
      simp [c_is_condition_of, Cd.pv, is_known_list, h, -Int.natCast_add, hm0]
    | not c =>
      simp [c_is_condition_of, Cd.pv, -Int.natCast_add, hm0, hm1, is_condition_of_true d m n c h (by omega) (by omega)]
    | some k cs =>
      obtain ⟨k1, k2, k3, k4⟩ := h
      have a1 : (1 : Int) ≤ (cs.length : Nat) := by omega
      have a2 : ((cs.length : Nat) : Int) ≤ 4 := by omega
      have a3 : (1 : Int) ≤ (k : Nat) := by omega
      have a4 : (k : Int) ≤ (cs.length : Nat) := by omega
      simp [c_is_condition_of, Cd.pv, -Int.natCast_add, hm0, pvL_map, a1, a2, is_number_eq, a3, a4]
      rw [compE_map _ (fun c => .bool true) (by omega) (fun x hx => by simp; rfl) (fun c hc => by simp [-Int.natCast_add, hm1, is_condition_of_true d m n c (k4 c hc) (by omega) (by omega)])]
      simp
/-- a book that is well laid -/
structure Book.Wl (b : Book) : Prop where
  hnd : b.hs.Nodup
  bnd : b.names.Nodup
  hl : 1 ≤ b.hs.length ∧ b.hs.length ≤ 6
  bl : b.bets.length ≤ 8
  cond : ∀ x ∈ b.bets, Wf b.hs b.names 4 x.cond
@[simp] theorem res_bpv {b : Book} {S : Store} : res S b.pv = .tup [.tup (b.hs.map .str), .tup (people.map .str), .tup (b.bets.map Bet.pv)] := rfl
@[simp] theorem guard_bpv {b : Book} {S : Store} : guardOf S b.pv = [] := rfl
variable {b : Book}
theorem names_of_eq [Hd D f_names_of c_names_of] (hb : b.bets.length ≤ 1000) : callP D G (n + 1) f_names_of [b.pv] S = .ok (.list (b.names.map .str)) S := by
  rw [call_eq rfl]
  simp [c_names_of, Book.pv, -List.map_map]
  rw [compE_map _ (fun x : Bet => .str x.name) hb (fun x hx => by simp; rfl) (fun c hc => by simp [Bet.pv])]
  simp [Book.names]
theorem is_condition_true [Hd D f_is_number c_is_number] [Hd D f_is_known c_is_known] [Hd D f_is_condition_of c_is_condition_of] [Hd D f_names_of c_names_of] [Hd D f_is_condition c_is_condition] [Gd G 1 (.int 4)] (hb : b.bets.length ≤ 1000) {c : Cd} (hc : Wf b.hs b.names 4 c) (hn : 5 ≤ n) :
    callP D G (n + 1) f_is_condition [b.pv, c.pv] S = .ok (.bool true) S := by
  obtain ⟨n, rfl⟩ : ∃ k, n = k + 1 := ⟨n - 1, by omega⟩
  have := is_condition_of_true (D := D) (G := G) (S := S) 4 4 n c hc (by omega) (by omega)
  rw [show ((4 : Nat) : Int) = 4 from rfl] at this
  rw [call_eq rfl]
  simp [c_is_condition, names_of_eq hb, glo_eq, this]
def seenP (s : List (Option Bool)) : PV := .tup (s.map obP)
def toldP (t : List (Option Bool)) : PV := .tup (t.map fun o => .str (wordOf o))
theorem is_seen_true [Hd D f_is_seen c_is_seen] {s : List (Option Bool)} (hl : s.length = b.hs.length) (h6 : s.length ≤ 1000) : callP D G (n + 1) f_is_seen [b.pv, seenP s] S = .ok (.bool true) S := by
  rw [call_eq rfl]
  simp [c_is_seen, Book.pv, seenP, stP, hl]
  rw [compE_map _ (fun x => .bool true) h6 (fun x hx => by simp; rfl) (fun c hc => by cases c <;> simp [obP])]
  simp
theorem look_seen_true [Hd D f_is_seen c_is_seen] [Hd D f_look_seen c_look_seen] {s : List (Option Bool)} (hl : s.length = b.hs.length) (h6 : s.length ≤ 1000) : callP D G (n + 2) f_look_seen [b.pv, seenP s] S = .ok .none S := by
  rw [call_eq rfl]
  simp [c_look_seen, is_seen_true hl h6]
def statesP : PV := .tup [.str "lost", .str "open", .str "won"]
theorem are_told_true [Hd D f_are_told c_are_told] [Gd G 2 statesP] {t : List (Option Bool)} (hl : t.length = b.bets.length) (h6 : t.length ≤ 1000) : callP D G (n + 1) f_are_told [b.pv, toldP t] S = .ok (.bool true) S := by
  rw [call_eq rfl]
  simp [c_are_told, Book.pv, toldP, stP, hl]
  rw [compE_map _ (fun x => .bool true) h6 (fun x hx => by simp; rfl) (fun c hc => by
    have := @in_tup (wordOf c) ["lost", "open", "won"]
    simp at this
    simp [glo_eq, statesP, this]
    cases c with
    | none => simp [wordOf]
    | some c => cases c <;> simp [wordOf])]
  simp
/-- a list's entry by names -/
def byNm (ks : List Str) (vs : List (Option Bool)) (k : Str) : Option Bool := ((ks.zip vs).lookup k).join
theorem by_name_eq [Hd D f_by_name c_by_name] {s : List (Option Bool)} (hn : b.hs.Nodup) (hl : s.length = b.hs.length) : callP D G (n + 1) f_by_name [b.pv, seenP s] S = .ok (.dict ((b.hs.zip s).map fun p => (.str p.1, obP p.2))) S := by
  rw [call_eq rfl]
  have h1 := @pairsP_map (Str × Option Bool) (fun p => .str p.1) (fun p => obP p.2) (fun _ => rfl) (b.hs.zip s)
  have h2 : (((b.hs.zip s).map fun p => (PV.str p.1, obP p.2)).map (·.1)).Nodup := by
    rw [List.map_map]
    have : ((fun x : PV × PV => x.1) ∘ fun p : Str × Option Bool => (PV.str p.1, obP p.2)) = PV.str ∘ Prod.fst := rfl
    rw [this, ← List.map_map]
    rw [List.map_fst_zip (by omega)]
    exact nodup_str hn
  simp [c_by_name, Book.pv, seenP, stP, dzipV, -List.map_map, h1, mergeP_nil_nd h2]
theorem lookup_seen {hs : List Str} {s : List (Option Bool)} : ∀ {h : Str}, h ∈ hs → s.length = hs.length → hs.Nodup → dget ((hs.zip s).map fun p => (PV.str p.1, obP p.2)) (.str h) = some (obP (byNm hs s h)) := by
  unfold byNm
  induction hs generalizing s with
  | nil => intro h m; simp at m
  | cons k hs ih =>
    intro h m hl hn
    cases s with
    | nil => simp at hl
    | cons v s =>
      rw [List.nodup_cons] at hn
      rw [List.zip_cons_cons, List.map_cons, dget_cons, List.lookup_cons]
      by_cases e : k = h
      · subst e; simp
      · have e' : (h == k) = false := by simpa using fun x : h = k => e x.symm
        have m : h ∈ hs := by
          rcases List.mem_cons.mp m with m | m
          · exact absurd m.symm e
          · exact m
        rw [if_neg (by simpa using e), e']
        exact ih m (by simpa using hl) hn.2
theorem lookup_told {bs : List Str} {t : List (Option Bool)} : ∀ {x : Str}, x ∈ bs → t.length = bs.length → bs.Nodup → dget ((bs.zip t).map fun p => (PV.str p.1, PV.str (wordOf p.2))) (.str x) = some (.str (wordOf (byNm bs t x))) := by
  unfold byNm
  induction bs generalizing t with
  | nil => intro h m; simp at m
  | cons k hs ih =>
    intro h m hl hn
    cases t with
    | nil => simp at hl
    | cons v s =>
      rw [List.nodup_cons] at hn
      rw [List.zip_cons_cons, List.map_cons, dget_cons, List.lookup_cons]
      by_cases e : k = h
      · subst e; simp
      · have e' : (h == k) = false := by simpa using fun x : h = k => e x.symm
        have m : h ∈ hs := by
          rcases List.mem_cons.mp m with m | m
          · exact absurd m.symm e
          · exact m
        rw [if_neg (by simpa using e), e']
        exact ih m (by simpa using hl) hn.2
variable [Hd D f_is_number c_is_number] [Hd D f_is_known c_is_known] [Hd D f_is_condition_of c_is_condition_of] [Hd D f_names_of c_names_of] [Hd D f_is_condition c_is_condition] [Gd G 1 (.int 4)] [Hd D f_is_seen c_is_seen] [Hd D f_look_seen c_look_seen] [Hd D f_are_told c_are_told] [Gd G 2 statesP] [Hd D f_turned_over c_turned_over] [Hd D f_known_of c_known_of] [Hd D f_by_name c_by_name] [Hd D f_value_of c_value_of]
theorem value_of_eq {s t : List (Option Bool)} {c : Cd} (hb : b.Wl) (hs : s.length = b.hs.length) (ht : t.length = b.bets.length) (hc : Wf b.hs b.names 4 c) (hn : 6 ≤ n) :
    callP D G (n + 1) f_value_of [b.pv, seenP s, toldP t, c.pv] S = .ok (obP (kn (byNm b.hs s) (byNm b.names t) c)) S := by
  obtain ⟨n, rfl⟩ : ∃ k, n = k + 2 := ⟨n - 2, by omega⟩
  have h1 := hb.hl
  have h2 := hb.bl
  have hbl : b.names.length = b.bets.length := by simp [Book.names]
  rw [call_eq rfl]
  simp [c_value_of, look_seen_true hs (by omega), are_told_true ht (by omega), is_condition_true (b := b) (by omega) hc (show 5 ≤ n + 1 by omega), by_name_eq hb.hnd hs]
  have e0 : res S b.pv = .tup [stP b.hs, stP people, .tup (b.bets.map Bet.pv)] := rfl
  have e1 : res S (toldP t) = .tup (t.map fun o => .str (wordOf o)) := rfl
  have e2 : guardOf S (toldP t) = [] := rfl
  simp [e0, e1, e2]
  rw [dcE_map _ (fun p : Bet × Option Bool => .str p.1.name) (fun p => .str (wordOf p.2)) (by simp; omega) (fun x hx => by simp; rfl) (fun x hx => by simp [Bet.pv]) (fun x hx => by simp) (fun x hx => by simp) (by
    have : (fun p : Bet × Option Bool => PV.str p.1.name) = (fun x : Bet => PV.str x.name) ∘ Prod.fst := rfl
    rw [this, ← List.map_map, List.map_fst_zip (by omega)]
    have := nodup_str hb.bnd
    rw [Book.names, List.map_map] at this
    exact this)]
  have e3 : (b.bets.zip t).map (fun p : Bet × Option Bool => (PV.str p.1.name, PV.str (wordOf p.2))) = (b.names.zip t).map fun p => (PV.str p.1, PV.str (wordOf p.2)) := by
    simp [Book.names, List.zip_map_left]
  rw [e3]
  have sees : Sees b.hs b.names ((b.hs.zip s).map fun p => (PV.str p.1, obP p.2)) ((b.names.zip t).map fun p => (PV.str p.1, PV.str (wordOf p.2))) (byNm b.hs s) (byNm b.names t) := ⟨fun h m => lookup_seen m hs hb.hnd, fun x m => lookup_told m (by omega) hb.bnd⟩
  simp [known_of_eq sees 4 (n + 1) c hc (by omega)]
end
end Bt
end
section
set_option maxHeartbeats 1000000
namespace Bt
open PySem
theorem ex_next {o : Out} {ρ : Env} {S : Store} {P : Env → Store → Prop} (h : o = .next ρ S) (hp : P ρ S) : ∃ ρ' S', o = .next ρ' S' ∧ P ρ' S' := ⟨ρ, S, h, hp⟩
theorem ex_ok {o : Res PV} {v : PV} {S : Store} {P : PV → Store → Prop} (h : o = .ok v S) (hp : P v S) : ∃ v' S', o = .ok v' S' ∧ P v' S' := ⟨v, S, h, hp⟩
theorem Wp.eq {r : Res PV} {Q : PV → Store → Prop} (h : Wp r Q) : ∃ a S, r = .ok a S ∧ Q a S := h.ex
section
variable {φ : Calls} {G : List PV} {tg : Tg} {body : List Sm} {ρ : Env} {S : Store}
theorem forLoop_inv {iv : Items} {bd : Env → Store → Out} (P : Nat → Env → Store → Prop) (hl : iv.lock = []) (hg : ∀ j ρ S, P j ρ S → guardOk S iv.guard = true) : ∀ {items : List PV} {i : Nat} {ρ : Env} {S : Store}, (∀ j x ρ S, items[j]? = some x → P (i + j) ρ S → ∃ ρ1, assign tg x ρ = some ρ1 ∧ ∃ ρ2 S2, bd ρ1 S = .next ρ2 S2 ∧ P (i + j + 1) ρ2 S2) → P i ρ S → ∃ ρ' S', forLoop iv tg bd items ρ S = .next ρ' S' ∧ P (i + items.length) ρ' S'
  | [], i, ρ, S, _, h0 => by
    refine ⟨ρ, S, ?_, by simpa using h0⟩
    unfold forLoop
    rw [if_pos (hg _ _ _ h0), hl]
    rfl
  | x :: xs, i, ρ, S, hs, h0 => by
    obtain ⟨ρ1, e1, ρ2, S2, e2, h2⟩ := hs 0 x ρ S rfl (by simpa using h0)
    obtain ⟨ρ', S', e3, h3⟩ := forLoop_inv P hl hg (items := xs) (i := i + 1) (ρ := ρ2) (S := S2) (bd := bd) (fun j y ρ S hy h => by
      have := hs (j + 1) y ρ S (by simpa using hy) (by rw [show i + (j + 1) = i + 1 + j by omega]; exact h)
      rw [show i + (j + 1) + 1 = i + 1 + j + 1 by omega] at this
      exact this) (by simpa using h2)
    refine ⟨ρ', S', ?_, by rw [List.length_cons, show i + (xs.length + 1) = i + 1 + xs.length by omega]; exact h3⟩
    unfold forLoop
    rw [if_pos (hg _ _ _ h0), e1]
    dsimp only
    rw [e2]
    exact e3
/-- a for by its turns -/
theorem forE_inv {iv : Items} (P : Nat → Env → Store → Prop) (hl : iv.lock = []) (hg : ∀ j ρ S, P j ρ S → guardOk S iv.guard = true) (hs : ∀ j x ρ S, iv.items[j]? = some x → P j ρ S → ∃ ρ1, assign tg x ρ = some ρ1 ∧ ∃ ρ2 S2, exSs φ G body ρ1 S = .next ρ2 S2 ∧ P (j + 1) ρ2 S2) (h0 : P 0 ρ S) : ∃ ρ' S', forE φ G tg body ρ iv S = .next ρ' S' ∧ P iv.items.length ρ' S' := by
  have := forLoop_inv (tg := tg) (bd := exSs φ G body) P hl hg (items := iv.items) (i := 0) (ρ := ρ) (S := S) (by simpa using hs) h0
  simpa [forE] using this
theorem comp_inv {α Y : Type} {F : α → PV} {tst : Env → Store → Res Bool} {el : Env → Store → Res PV} (ρ' : α → Env) (val : Y → PV) (R : α → Y → Prop) (P : Store → Prop) : ∀ {xs : List α} {S : Store}, (∀ x ∈ xs, assign tg (F x) ρ = some (ρ' x)) → (∀ x ∈ xs, ∀ S, tst (ρ' x) S = .ok true S) → (∀ x ∈ xs, ∀ S, P S → ∃ y S', el (ρ' x) S = .ok (val y) S' ∧ R x y ∧ P S') → P S → ∃ (ys : List Y) (S' : Store), compLoop [] tg ρ tst el (xs.map F) S = .ok (ys.map val) S' ∧ ys.length = xs.length ∧ (∀ y ∈ ys, ∃ x ∈ xs, R x y) ∧ P S'
  | [], S, _, _, _, h => ⟨[], S, by simp [compLoop, guardOk], rfl, by simp, h⟩
  | x :: xs, S, ha, ht, hf, h => by
    obtain ⟨y, S1, e1, r1, p1⟩ := hf x List.mem_cons_self S h
    obtain ⟨ys, S2, e2, l2, r2, p2⟩ := comp_inv (F := F) (tst := tst) (el := el) ρ' val R P (xs := xs) (S := S1) (fun y hy => ha y (List.mem_cons_of_mem _ hy)) (fun y hy => ht y (List.mem_cons_of_mem _ hy)) (fun y hy => hf y (List.mem_cons_of_mem _ hy)) p1
    refine ⟨y :: ys, S2, ?_, by simp [l2], fun z hz => ?_, p2⟩
    · simp [compLoop, guardOk, ha x List.mem_cons_self, ht x List.mem_cons_self, e1, e2]
    · rcases List.mem_cons.mp hz with rfl | hz
      · exact ⟨x, List.mem_cons_self, r1⟩
      · obtain ⟨w, hw, r⟩ := r2 z hz
        exact ⟨w, List.mem_cons_of_mem _ hw, r⟩
/-- a comprehension that draws -/
theorem compE_inv {α Y : Type} {F : α → PV} {elt : Ex} {xs : List α} (ρ' : α → Env) (val : Y → PV) (R : α → Y → Prop) (P : Store → Prop) (hl : xs.length ≤ 1000) (ha : ∀ x ∈ xs, assign tg (F x) ρ = some (ρ' x)) (hf : ∀ x ∈ xs, ∀ S, P S → ∃ y S', evE φ G elt (ρ' x) S = .ok (val y) S' ∧ R x y ∧ P S') (h : P S) : ∃ (ys : List Y) (S' : Store), compE φ G elt tg [] ρ { items := xs.map F } S = .ok (.list (ys.map val)) S' ∧ ys.length = xs.length ∧ (∀ y ∈ ys, ∃ x ∈ xs, R x y) ∧ P S' := by
  obtain ⟨ys, S', e, h1, h2, h3⟩ := comp_inv (tg := tg) (ρ := ρ) (F := F) (tst := evTs φ G []) (el := evE φ G elt) ρ' val R P (S := S) ha (fun _ _ _ => by simp) hf h
  refine ⟨ys, S', ?_, h1, h2, h3⟩
  unfold compE
  rw [if_pos (by rw [sizeLine_eq, List.length_map]; omega)]
  dsimp only
  rw [e]
  rfl
/-- a comprehension that draws; the names as they come -/
theorem compE_invA {α Y : Type} {F : α → PV} {elt : Ex} {xs : List α} (val : Y → PV) (R : α → Y → Prop) (P : Store → Prop) (hl : xs.length ≤ 1000) (hf : ∀ x ∈ xs, ∃ ρ', assign tg (F x) ρ = some ρ' ∧ ∀ S, P S → ∃ y S', evE φ G elt ρ' S = .ok (val y) S' ∧ R x y ∧ P S') (h : P S) : ∃ (ys : List Y) (S' : Store), compE φ G elt tg [] ρ { items := xs.map F } S = .ok (.list (ys.map val)) S' ∧ ys.length = xs.length ∧ (∀ y ∈ ys, ∃ x ∈ xs, R x y) ∧ P S' :=
  compE_inv (fun x => (assign tg (F x) ρ).getD []) val R P hl (fun x hx => by obtain ⟨ρ', e, _⟩ := hf x hx; rw [e]; rfl) (fun x hx S h => by obtain ⟨ρ', e, h'⟩ := hf x hx; rw [e]; exact h' S h) h
theorem compE_mapA {α : Type} {F : α → PV} {elt : Ex} {xs : List α} (f : α → PV) (hl : xs.length ≤ 1000) (hf : ∀ x ∈ xs, ∃ ρ', assign tg (F x) ρ = some ρ' ∧ evE φ G elt ρ' S = .ok (f x) S) : compE φ G elt tg [] ρ { items := xs.map F } S = .ok (.list (xs.map f)) S :=
  compE_map (fun x => (assign tg (F x) ρ).getD []) f hl (fun x hx => by obtain ⟨ρ', e, _⟩ := hf x hx; rw [e]; rfl) (fun x hx => by obtain ⟨ρ', e, h'⟩ := hf x hx; rw [e]; exact h')
theorem compE_filterA {α : Type} {F : α → PV} {elt : Ex} {ifs : List Ex} {xs : List α} (t : α → Bool) (f : α → PV) (hl : xs.length ≤ 1000) (hf : ∀ x ∈ xs, ∃ ρ', assign tg (F x) ρ = some ρ' ∧ evTs φ G ifs ρ' S = .ok (t x) S ∧ (t x = true → evE φ G elt ρ' S = .ok (f x) S)) : compE φ G elt tg ifs ρ { items := xs.map F } S = .ok (.list ((xs.filter t).map f)) S :=
  compE_filter (fun x => (assign tg (F x) ρ).getD []) t f hl (fun x hx => by obtain ⟨ρ', e, _⟩ := hf x hx; rw [e]; rfl) (fun x hx => by obtain ⟨ρ', e, h', _⟩ := hf x hx; rw [e]; exact h') (fun x hx => by obtain ⟨ρ', e, _, h'⟩ := hf x hx; rw [e]; exact h')
end
section
variable {D : List Df} {G : List PV} {ns : List Int} {n : Nat} {S : Store}
theorem begun_eq [Hd D f_law_begun c_law_begun] : ∃ S, callP D G (n + 1) f_law_begun [] [] = .ok (.ref 1) S ∧ Town ns.length S ∧ S.length = 2 := by
  refine ⟨[.dic false [], townC 0], ?_, ⟨[], 0, rfl, rfl, ⟨by simp, by simp⟩⟩, rfl⟩
  rw [call_eq rfl]
  simp [c_law_begun, toRef, townC]
theorem draw_eq [h : Hd D f_law_draw c_law_draw] (hL : ns.length ≤ 63) {many : Int} (h1 : 1 ≤ many) (h2 : many < 1073741824) (ht : Town ns.length S) : ∃ (m : Int) (S' : Store), callP D G (n + 1) f_law_draw [.scr ns, .ref 1, .int many] S = .ok (.int m) S' ∧ 0 ≤ m ∧ m < many ∧ TwS ns.length S S' := by
  have e : callP D G (n + 1) f_law_draw [.scr ns, .ref 1, .int many] S = runDf (callP D G n) G drawD [.scr ns, .ref 1, .int many] S := callP_step h.h _ _
  rw [e]
  obtain ⟨a, S', e, m, rfl, h⟩ := (draw_ok (φ := callP D G n) (G := G) hL h1 h2 ht).ex
  exact ⟨m, S', e, h⟩
theorem cond_eq [hd : Hd D f_law_draw c_law_draw] [hc : Hd D f_law_a_condition c_law_a_condition] (hL : ns.length ≤ 63) {hs bs : List Str} (hh : hs ≠ []) (hl : hs.length ≤ 1000) (bl : bs.length ≤ 1000) {d : Nat} (hn : d + 1 ≤ n) (ht : Town ns.length S) :
    ∃ (c : Cd) (S' : Store), callP D G (n + 1) f_law_a_condition [.scr ns, .ref 1, .tup (hs.map .str), .tup (bs.map .str), .int (d + 1 : Nat)] S = .ok c.pv S' ∧ Wf hs bs (d + 1) c ∧ TwS ns.length S S' := by
  obtain ⟨a, S', e, c, rfl, h⟩ := (cond_ok (G := G) (iD := f_law_draw) (iC := f_law_a_condition) (D := D) ⟨hd.h, hc.h⟩ hL hh hl bl d n S hn ht).ex
  exact ⟨c, S', e, h⟩
theorem book_eq [hd : Hd D f_law_draw c_law_draw] [hc : Hd D f_law_a_condition c_law_a_condition] [hb : Hd D f_law_a_book c_law_a_book] (hL : ns.length ≤ 63) {most : Nat} (m1 : 1 ≤ most) (m2 : most ≤ 6) (hn : 4 ≤ n) (ht : Town ns.length S) (hlo : Lo S) :
    ∃ (b : Book) (S' : Store), callP D G (n + 1) f_law_a_book [.scr ns, .ref 1, .int (most : Nat)] S = .ok b.pv S' ∧ b.Ok most ∧ TwS ns.length S S' := by
  obtain ⟨a, S', e, b, rfl, h⟩ := (book_ok (G := G) (iD := f_law_draw) (iC := f_law_a_condition) (iB := f_law_a_book) (D := D) ⟨hd.h, hc.h⟩ hb.h hL m1 m2 hn ht hlo).ex
  exact ⟨b, S', e, h⟩
theorem Wf.mono {hs bs : List Str} : ∀ {d d' : Nat} {c : Cd}, Wf hs bs d c → d ≤ d' → Wf hs bs d' c
  | 0, _, _, h, _ => h.elim
  | d + 1, 0, _, _, h => by omega
  | d + 1, d' + 1, .isH _, h, _ => h
  | d + 1, d' + 1, .won _, h, _ => h
  | d + 1, d' + 1, .lost _, h, _ => h
  | d + 1, d' + 1, .not c, h, hd => Wf.mono (c := c) (d := d) (d' := d') h (by omega)
  | d + 1, d' + 1, .some k cs, h, hd => ⟨h.1, h.2.1, h.2.2.1, fun c hc => Wf.mono (h.2.2.2 c hc) (by omega)⟩
theorem Book.Ok.wl {most : Nat} {b : Book} (h : b.Ok most) (hm : most ≤ 6) : b.Wl := by
  obtain ⟨⟨k, k1, k2, ek⟩, ⟨j, j1, j2, ej⟩, hb⟩ := h
  have hl : b.names.length = b.bets.length := by simp [Book.names]
  have h1 : happs.Nodup := by decide +kernel
  have h2 : letters.Nodup := by decide +kernel
  have l1 : happs.length = 4 := rfl
  have l2 : letters.length = 6 := rfl
  refine ⟨by rw [ek]; exact h1.sublist (List.take_sublist _ _), by rw [ej]; exact h2.sublist (List.take_sublist _ _), by rw [ek, List.length_take]; omega, ?_, fun x hx => (hb x hx).cond.mono (by omega)⟩
  rw [← hl, ej, List.length_take]
  omega
theorem a_seen_eq [Hd D f_law_draw c_law_draw] [Hd D f_law_a_seen c_law_a_seen] (hL : ns.length ≤ 63) {b : Book} (hb : b.hs.length ≤ 1000) (ht : Town ns.length S) : ∃ (s : List (Option Bool)) (S' : Store), callP D G (n + 2) f_law_a_seen [.scr ns, .ref 1, b.pv] S = .ok (seenP s) S' ∧ s.length = b.hs.length ∧ TwS ns.length S S' := by
  rw [call_eq rfl]
  have h2 := town_len ht
  obtain ⟨ys, S', e, h1, _, h3⟩ := compE_inv (φ := callP D G (n + 1)) (G := G) (elt := .ix (.lst [(.cst .none), (.cst (.bool true)), (.cst (.bool false))]) (.call 99 [(.var 0), (.var 1), (.cst (.int 3))])) (tg := .nm 3) (ρ := [some (.scr ns), some (.ref 1), some b.pv, none]) (S := S) (F := PV.str) (xs := b.hs) (fun x => [some (.scr ns), some (.ref 1), some b.pv, some (.str x)]) obP (fun _ _ => True) (TwS ns.length S) hb (fun x hx => by simp) (fun x hx S1 t1 => by
    obtain ⟨m, S2, e, m0, m1, t2⟩ := draw_eq (D := D) (G := G) (n := n) hL (many := 3) (by omega) (by omega) t1.town
    simp [e]
    have : m = 0 ∨ m = 1 ∨ m = 2 := by omega
    rcases this with rfl | rfl | rfl
    · exact ⟨none, S2, by simp [obP], t1.trans t2⟩
    · exact ⟨some true, S2, by simp [obP], t1.trans t2⟩
    · exact ⟨some false, S2, by simp [obP], t1.trans t2⟩) (TwS.refl ht)
  have e0 : res S b.pv = .tup [stP b.hs, stP people, .tup (b.bets.map Bet.pv)] := rfl
  refine ⟨ys, S', ?_, h1, h3⟩
  simp [c_law_a_seen, e0, stP, e, h3.len, seenP]
theorem finish_law {S : Store} : ∃ S', finish 0 (.ok (.bool true) S) = .ok (.bool true) S' := by
  unfold finish
  dsimp only
  split
  · exact ⟨_, rfl⟩
  · exact ⟨_, by simp [frz]; rfl⟩
theorem finish_B {L : Nat} {S S' : Store} {xs : List PV} {v : PV} (ht : Town L S) (hlo : Lo S) (h : TwB L S xs S') (hv : v.pl = true) : finish S.length (.ok v S') = .ok v (S'.take S.length) := by
  have t := TwB.end_ (town_len ht) h
  have l := hlo.tw t
  have hl : (S'.take S.length).length = S.length := t.len
  unfold finish
  dsimp only
  rw [if_neg (by rw [h.len]; omega), if_pos (List.all_eq_true.mpr fun c hc => by have := l c hc; rwa [hl] at this), frz_pl _ _ v hv]
/-- as much, or more -/
def More : List (Option Bool) → List (Option Bool) → Prop
  | [], [] => True
  | a :: l, b :: m => (a = none ∨ b = a) ∧ More l m
  | _, _ => False
theorem More.append : ∀ {l m : List (Option Bool)} {a b : Option Bool}, More l m → (a = none ∨ b = a) → More (l ++ [a]) (m ++ [b])
  | [], [], a, b, _, h => ⟨h, trivial⟩
  | x :: l, y :: m, a, b, h, h' => ⟨h.1, More.append h.2 h'⟩
theorem More.length : ∀ {l m : List (Option Bool)}, More l m → m.length = l.length
  | [], [], _ => rfl
  | x :: l, y :: m, h => by simp [More.length h.2]
end
end Bt
end
section
set_option maxHeartbeats 1000000
namespace Bt
open PySem
/-- as much known, or more -/
def Le (a b : Option Bool) : Prop := a = none ∨ b = a
theorem Le.refl (a : Option Bool) : Le a a := .inr rfl
theorem Le.not {a b : Option Bool} (h : Le a b) : Le (a.map (!·)) (b.map (!·)) := by
  rcases h with rfl | rfl
  · exact .inl rfl
  · exact .inr rfl
theorem cntT_cons (a : Option Bool) (l : List (Option Bool)) : cntT (a :: l) = cntT l + if a = some true then 1 else 0 := by
  unfold cntT; rw [List.countP_cons]; simp
theorem cntF_cons (a : Option Bool) (l : List (Option Bool)) : cntF (a :: l) = cntF l + if a = some false then 1 else 0 := by
  unfold cntF; rw [List.countP_cons]; simp
theorem cnt_le : ∀ l : List (Option Bool), cntT l + cntF l ≤ l.length
  | [] => by simp [cntT, cntF]
  | a :: l => by
    have := cnt_le l
    rw [cntT_cons, cntF_cons, List.length_cons]
    rcases a with _ | _ | _ <;> simp <;> omega
theorem cnt_mono {l m : List (Option Bool)} : More l m → cntT l ≤ cntT m ∧ cntF l ≤ cntF m := by
  induction l generalizing m with
  | nil => cases m <;> simp [More, cntT, cntF]
  | cons a l ih =>
    cases m with
    | nil => simp [More]
    | cons b m =>
      rintro ⟨h, h'⟩
      obtain ⟨h1, h2⟩ := ih h'
      rw [cntT_cons, cntF_cons, cntT_cons, cntF_cons]
      rcases h with rfl | rfl
      · simp; omega
      · omega
theorem someOf_mono {k : Nat} {l m : List (Option Bool)} (h : More l m) : Le (someOf k l) (someOf k m) := by
  obtain ⟨h1, h2⟩ := cnt_mono h
  have h3 := h.length
  have h4 := cnt_le m
  have h5 := cnt_le l
  unfold someOf
  by_cases a : k ≤ cntT l
  · rw [if_pos a, if_pos (by omega)]; exact .inr rfl
  · rw [if_neg a]
    by_cases b : k ≤ l.length - cntF l
    · rw [if_pos b]; exact .inl rfl
    · rw [if_neg b, if_neg (by omega), if_neg (by omega)]; exact .inr rfl
mutual
theorem kn_mono {sn tn sn' tn' : Str → Option Bool} (h1 : ∀ x, Le (sn x) (sn' x)) (h2 : ∀ x, Le (tn x) (tn' x)) : ∀ c : Cd, Le (kn sn tn c) (kn sn' tn' c)
  | .isH h => h1 h
  | .won b => h2 b
  | .lost b => (h2 b).not
  | .not c => (kn_mono h1 h2 c).not
  | .some k cs => someOf_mono (knL_mono h1 h2 cs)
theorem knL_mono {sn tn sn' tn' : Str → Option Bool} (h1 : ∀ x, Le (sn x) (sn' x)) (h2 : ∀ x, Le (tn x) (tn' x)) : ∀ cs : List Cd, More (knL sn tn cs) (knL sn' tn' cs)
  | [] => trivial
  | c :: cs => ⟨kn_mono h1 h2 c, knL_mono h1 h2 cs⟩
end
theorem byNm_mono : ∀ {ks : List Str} {s s' : List (Option Bool)}, More s s' → ∀ x, Le (byNm ks s x) (byNm ks s' x)
  | [], s, s', _, x => by unfold byNm; simp; exact .inl rfl
  | k :: ks, [], s', h, x => by unfold byNm; simp; exact .inl rfl
  | k :: ks, a :: s, [], h, x => h.elim
  | k :: ks, a :: s, b :: s', ⟨h, h'⟩, x => by
    have ih := byNm_mono (ks := ks) h' x
    unfold byNm at ih ⊢
    rw [List.zip_cons_cons, List.zip_cons_cons, List.lookup_cons, List.lookup_cons]
    cases x == k
    · exact ih
    · exact h
theorem map_not_not (o : Option Bool) : (o.map (!·)).map (!·) = o := by cases o <;> simp
theorem someOf_one (a : Option Bool) : someOf 1 [a] = a := by rcases a with _ | _ | _ <;> decide
theorem someOf_two (a : Option Bool) : someOf 2 [a, a] = a := by rcases a with _ | _ | _ <;> decide
theorem cnt_not (l : List (Option Bool)) : cntT (l.map (·.map (!·))) = cntF l ∧ cntF (l.map (·.map (!·))) = cntT l := by
  induction l with
  | nil => simp [cntT, cntF]
  | cons a l ih =>
    rw [List.map_cons, cntT_cons, cntF_cons, cntT_cons, cntF_cons, ih.1, ih.2]
    rcases a with _ | _ | _ <;> simp
/-- some of many is not so just if enough of their nots are so -/
theorem someOf_dual {k j : Nat} {l : List (Option Bool)} (h : k + j = l.length + 1) : someOf k l = (someOf j (l.map (·.map (!·)))).map (!·) := by
  obtain ⟨h1, h2⟩ := cnt_not l
  have h3 := cnt_le l
  unfold someOf
  rw [h1, h2, List.length_map]
  by_cases a : k ≤ cntT l
  · rw [if_pos a, if_neg (by omega), if_neg (by omega)]; rfl
  · rw [if_neg a]
    by_cases b : k ≤ l.length - cntF l
    · rw [if_pos b, if_neg (by omega), if_pos (by omega)]; rfl
    · rw [if_neg b, if_pos (by omega)]; rfl
theorem someOf_rev {k : Nat} {l : List (Option Bool)} : someOf k l.reverse = someOf k l := by
  unfold someOf cntT cntF
  simp
theorem someOf_less {k j : Nat} {l : List (Option Bool)} (h : someOf k l = some true) (hj : j ≤ k) : someOf j l = some true := by
  unfold someOf at h ⊢
  by_cases a : k ≤ cntT l
  · rw [if_pos (by omega)]
  · rw [if_neg a] at h
    split at h <;> simp at h
@[simp] theorem ne_ob {a b : Option Bool} : cop .ne (obP a) (obP b) = some (!decide (a = b)) := by
  rcases a with _ | _ | _ <;> rcases b with _ | _ | _ <;> decide
@[simp] theorem eq_ob {a b : Option Bool} : cop .eq (obP a) (obP b) = some (decide (a = b)) := by
  rcases a with _ | _ | _ <;> rcases b with _ | _ | _ <;> decide
@[simp] theorem res_ob {a : Option Bool} {S : Store} : res S (obP a) = obP a := by rcases a with _ | _ <;> rfl
@[simp] theorem ob_none {a : Option Bool} : (obP a = .none) = (a = none) := by rcases a with _ | _ <;> simp [obP]
@[simp] theorem is_true_ob {a : Option Bool} : cop .is (obP a) (.bool true) = some (decide (a = some true)) := by rcases a with _ | _ | _ <;> decide +kernel
@[simp] theorem isnot_true_ob {a : Option Bool} : cop .isnot (obP a) (.bool true) = some (!decide (a = some true)) := by rcases a with _ | _ | _ <;> decide +kernel
theorem wordOf_inj {a b : Option Bool} (h : wordOf a = wordOf b) : a = b := by
  rcases a with _ | _ | _ <;> rcases b with _ | _ | _ <;> first | rfl | (simp [wordOf] at h)
end Bt
end
section
set_option maxHeartbeats 1000000
namespace Bt
open PySem
/-- all conditions by what is seen and told -/
def kf (b : Book) (s t : List (Option Bool)) : List (Option Bool) := b.bets.map fun x => kn (byNm b.hs s) (byNm b.names t) x.cond
def bot (b : Book) : List (Option Bool) := List.replicate b.bets.length none
def it (b : Book) (s : List (Option Bool)) : Nat → List (Option Bool)
  | 0 => bot b
  | k + 1 => kf b s (it b s k)
/-- what is settled -/
def fin (b : Book) (s : List (Option Bool)) : List (Option Bool) := it b s b.bets.length
@[simp] theorem kf_len {b : Book} {s t : List (Option Bool)} : (kf b s t).length = b.bets.length := by simp [kf]
@[simp] theorem bot_len {b : Book} : (bot b).length = b.bets.length := by simp [bot]
@[simp] theorem it_len {b : Book} {s : List (Option Bool)} : ∀ {k : Nat}, (it b s k).length = b.bets.length
  | 0 => bot_len
  | _ + 1 => kf_len
@[simp] theorem fin_len {b : Book} {s : List (Option Bool)} : (fin b s).length = b.bets.length := it_len
theorem More.refl : ∀ l : List (Option Bool), More l l
  | [] => trivial
  | a :: l => ⟨.inr rfl, More.refl l⟩
theorem Le.trans {a b c : Option Bool} (h : Le a b) (h' : Le b c) : Le a c := by
  rcases h with rfl | rfl
  · exact .inl rfl
  · exact h'
theorem More.trans : ∀ {l m n : List (Option Bool)}, More l m → More m n → More l n
  | [], [], [], _, _ => trivial
  | a :: l, b :: m, c :: n, h, h' => ⟨Le.trans h.1 h'.1, More.trans h.2 h'.2⟩
theorem More.bot : ∀ (l : List (Option Bool)), More (List.replicate l.length none) l
  | [] => trivial
  | a :: l => ⟨.inl rfl, More.bot l⟩
theorem More.get : ∀ {l m : List (Option Bool)}, More l m → ∀ {i : Nat} {v : Bool}, l[i]? = some (some v) → m[i]? = some (some v)
  | [], [], _, i, v, h => by simp at h
  | a :: l, b :: m, h, 0, v, e => by
    simp at e
    subst e
    rcases h.1 with q | q
    · cases q
    · simp [q]
  | a :: l, b :: m, h, i + 1, v, e => by
    have := More.get h.2 (i := i) (v := v) (by simpa using e)
    simpa using this
theorem More.of : ∀ {l m : List (Option Bool)}, l.length = m.length → (∀ (i : Nat) (v : Bool), l[i]? = some (some v) → m[i]? = some (some v)) → More l m
  | [], [], _, _ => trivial
  | a :: l, b :: m, hl, h => by
    refine ⟨?_, More.of (by simpa using hl) fun i v e => by simpa using h (i + 1) v (by simpa using e)⟩
    cases a with
    | none => exact .inl rfl
    | some v =>
      have := h 0 v rfl
      exact .inr (by simpa using this)
theorem More.antisymm {l m : List (Option Bool)} (h : More l m) (h' : More m l) : l = m := by
  induction l generalizing m with
  | nil => cases m with
    | nil => rfl
    | cons b m => exact h.elim
  | cons a l ih =>
    cases m with
    | nil => exact h.elim
    | cons b m =>
      rw [ih h.2 h'.2]
      rcases h.1 with rfl | rfl
      · rcases h'.1 with rfl | e
        · rfl
        · rw [← e]
      · rfl
theorem kf_mono {b : Book} {s s' t t' : List (Option Bool)} (hs : More s s') (ht : More t t') : More (kf b s t) (kf b s' t') := by
  unfold kf
  generalize b.bets = l
  have h1 := byNm_mono (ks := b.hs) hs
  have h2 := byNm_mono (ks := b.names) ht
  induction l with
  | nil => exact trivial
  | cons x l ih => exact ⟨kn_mono h1 h2 x.cond, ih⟩
theorem bot_le {b : Book} {t : List (Option Bool)} (h : t.length = b.bets.length) : More (bot b) t := by
  have := More.bot t
  rw [h] at this
  exact this
theorem it_up {b : Book} {s : List (Option Bool)} : ∀ k : Nat, More (it b s k) (it b s (k + 1))
  | 0 => bot_le kf_len
  | k + 1 => kf_mono (More.refl s) (it_up k)
theorem it_mono {b : Book} {s s' : List (Option Bool)} (hs : More s s') : ∀ k : Nat, More (it b s k) (it b s' k)
  | 0 => More.refl _
  | k + 1 => kf_mono hs (it_mono hs k)
theorem fin_mono {b : Book} {s s' : List (Option Bool)} (hs : More s s') : More (fin b s) (fin b s') := it_mono hs _
/-- how many are open -/
def opn (t : List (Option Bool)) : Nat := t.countP fun o => decide (o = none)
theorem opn_cons (a : Option Bool) (l : List (Option Bool)) : opn (a :: l) = opn l + if a = none then 1 else 0 := by
  unfold opn; rw [List.countP_cons]; simp
theorem opn_lt : ∀ {l m : List (Option Bool)}, More l m → l ≠ m → opn m < opn l
  | [], [], _, h => absurd rfl h
  | a :: l, b :: m, h, hne => by
    rw [opn_cons, opn_cons]
    have hle : opn m ≤ opn l := by
      by_cases e : l = m
      · rw [e]; exact Nat.le_refl _
      · exact Nat.le_of_lt (opn_lt h.2 e)
    by_cases e : a = b
    · have := opn_lt h.2 (fun z => hne (by rw [e, z]))
      subst e
      omega
    · rcases h.1 with rfl | q
      · have : b ≠ none := fun z => e z.symm
        simp [this]
        omega
      · exact absurd q.symm e
theorem it_fix {b : Book} {s : List (Option Bool)} : ∀ k : Nat, it b s (k + 1) = it b s k ∨ opn (it b s k) + k ≤ b.bets.length
  | 0 => by
    refine .inr ?_
    have : opn (it b s 0) ≤ (it b s 0).length := List.countP_le_length
    rw [it_len] at this
    simpa using this
  | k + 1 => by
    rcases it_fix (b := b) (s := s) k with h | h
    · left
      show kf b s (it b s (k + 1)) = _
      rw [h]
      exact h
    · by_cases e : it b s (k + 1) = it b s k
      · left
        show kf b s (it b s (k + 1)) = _
        rw [e]; exact e
      · right
        have := opn_lt (it_up k) (fun z => e z.symm)
        omega
theorem it_stays {b : Book} {s : List (Option Bool)} {k : Nat} (h : it b s (k + 1) = it b s k) : ∀ j : Nat, it b s (k + j) = it b s k
  | 0 => rfl
  | j + 1 => by
    show kf b s (it b s (k + j)) = _
    rw [it_stays h j]
    exact h
/-- it stays -/
theorem kf_fin {b : Book} {s : List (Option Bool)} : kf b s (fin b s) = fin b s := by
  show it b s (b.bets.length + 1) = it b s b.bets.length
  rcases it_fix (b := b) (s := s) b.bets.length with h | h
  · exact h
  · have h0 : opn (it b s b.bets.length) = 0 := by omega
    by_cases e : it b s (b.bets.length + 1) = it b s b.bets.length
    · exact e
    · have := opn_lt (it_up (b := b) (s := s) b.bets.length) (fun z => e z.symm)
      omega
/-- the first k at which nothing changes is the end -/
theorem it_end {b : Book} {s : List (Option Bool)} {k : Nat} (h : it b s (k + 1) = it b s k) : it b s k = fin b s := by
  by_cases hk : k ≤ b.bets.length
  · have := it_stays h (b.bets.length - k)
    rw [show k + (b.bets.length - k) = b.bets.length by omega] at this
    exact this.symm
  · have := it_stays (kf_fin (b := b) (s := s)) (k - b.bets.length)
    rw [show b.bets.length + (k - b.bets.length) = k by omega] at this
    exact this
theorem it_le {b : Book} {s t : List (Option Bool)} (hl : t.length = b.bets.length) (h : More (kf b s t) t) : ∀ k : Nat, More (it b s k) t
  | 0 => bot_le hl
  | k + 1 => More.trans (kf_mono (More.refl s) (it_le hl h k)) h
/-- it is the least that stays -/
theorem fin_least {b : Book} {s t : List (Option Bool)} (hl : t.length = b.bets.length) (h : More (kf b s t) t) : More (fin b s) t := it_le hl h _
theorem it_le_fin {b : Book} {s : List (Option Bool)} (k : Nat) : More (it b s k) (fin b s) := it_le fin_len (by rw [kf_fin]; exact More.refl _) k
/-- one that was come to step by step, and can not go on, is it -/
theorem fin_of {b : Book} {s t : List (Option Bool)} (h1 : More t (fin b s)) (hl : t.length = b.bets.length) (h2 : ∀ (i : Nat) (v : Bool), (kf b s t)[i]? = some (some v) → t[i]? = some (some v)) : t = fin b s :=
  More.antisymm h1 (fin_least hl (More.of (by simp [hl]) h2))
end Bt
end
section
set_option maxHeartbeats 1000000
namespace Bt
open PySem
theorem dget_map_if {kvs : List (PV × PV)} {k v k' : PV} : dget (kvs.map fun kv => if kv.1 = k then (kv.1, v) else kv) k' = if k' = k then (dget kvs k').map (fun _ => v) else dget kvs k' := by
  induction kvs with
  | nil => simp
  | cons p kvs ih =>
    obtain ⟨a, u⟩ := p
    rw [List.map_cons]
    by_cases h : a = k
    · subst h
      simp only [if_true, dget_cons]
      by_cases e : a = k'
      · subst e; simp
      · have e' : ¬ k' = a := fun z => e z.symm
        rw [if_neg e, if_neg e', ih, if_neg e', if_neg e]
    · simp only [if_neg h, dget_cons]
      by_cases e : a = k'
      · subst e; simp [h]
      · rw [if_neg e, if_neg e, ih]
theorem any_dget {kvs : List (PV × PV)} {k : PV} : (kvs.any fun kv => decide (kv.1 = k)) = (dget kvs k).isSome := by
  induction kvs with
  | nil => rfl
  | cons p kvs ih =>
    obtain ⟨a, u⟩ := p
    rw [List.any_cons, dget_cons, ih]
    by_cases h : a = k <;> simp [h]
theorem dget_append {l m : List (PV × PV)} {k : PV} : dget (l ++ m) k = (dget l k).or (dget m k) := by
  induction l with
  | nil => simp
  | cons p l ih =>
    obtain ⟨a, u⟩ := p
    rw [List.cons_append, dget_cons, dget_cons, ih]
    by_cases h : a = k <;> simp [h]
theorem dget_dput {kvs : List (PV × PV)} {k v k' : PV} : dget (dput kvs k v) k' = if k' = k then some v else dget kvs k' := by
  unfold dput
  rw [any_dget]
  split
  · rename_i h
    rw [dget_map_if]
    by_cases e : k' = k
    · subst e
      rw [if_pos rfl, if_pos rfl]
      obtain ⟨u, hu⟩ := Option.isSome_iff_exists.mp h
      rw [hu]; rfl
    · rw [if_neg e, if_neg e]
  · rename_i h
    rw [dget_append, dget_cons, dget_nil]
    have h0 : dget kvs k = none := by cases e : dget kvs k with | none => rfl | some u => rw [e] at h; simp at h
    by_cases e : k' = k
    · subst e
      rw [h0]; simp
    · have e' : ¬ k = k' := fun z => e z.symm
      rw [if_neg e, if_neg e']; simp
theorem dput_length {kvs : List (PV × PV)} {k v : PV} : (dput kvs k v).length ≤ kvs.length + 1 := by
  unfold dput
  split <;> simp
theorem dget_merge : ∀ {fr kvs : List (PV × PV)} {k : PV}, (fr.map (·.1)).Nodup → dget (mergeP kvs fr) k = (dget fr k).or (dget kvs k)
  | [], kvs, k, _ => by simp
  | (a, v) :: fr, kvs, k, h => by
    rw [List.map_cons, List.nodup_cons] at h
    rw [mergeP_cons, dget_merge h.2, dget_dput, dget_cons]
    by_cases e : k = a
    · subst e
      rw [if_pos rfl, if_pos rfl, dget_none h.1]
      rfl
    · have e' : ¬ a = k := fun z => e z.symm
      rw [if_neg e, if_neg e']
theorem mergeP_length : ∀ {fr kvs : List (PV × PV)}, (mergeP kvs fr).length ≤ kvs.length + fr.length
  | [], kvs => by simp
  | (a, v) :: fr, kvs => by
    have h1 := mergeP_length (fr := fr) (kvs := dput kvs a v)
    have h2 := dput_length (kvs := kvs) (k := a) (v := v)
    rw [mergeP_cons, List.length_cons]
    omega
theorem byNm_get : ∀ {ks : List Str} {t : List (Option Bool)} {i : Nat} {k : Str} {o : Option Bool}, ks.Nodup → ks[i]? = some k → t[i]? = some o → byNm ks t k = o
  | [], _, _, _, _, _, h, _ => by simp at h
  | k0 :: ks, [], _, _, _, _, _, h => by simp at h
  | k0 :: ks, o0 :: t, 0, k, o, hn, h1, h2 => by
    simp at h1 h2
    subst h1 h2
    simp [byNm]
  | k0 :: ks, o0 :: t, i + 1, k, o, hn, h1, h2 => by
    rw [List.nodup_cons] at hn
    have hm : k ∈ ks := List.mem_of_getElem? (by simpa using h1)
    have hne : ¬ k = k0 := fun e => hn.1 (e ▸ hm)
    have := byNm_get hn.2 (i := i) (k := k) (o := o) (t := t) (by simpa using h1) (by simpa using h2)
    unfold byNm at this ⊢
    rw [List.zip_cons_cons, List.lookup_cons]
    have e : (k == k0) = false := by simpa using hne
    rw [e]
    exact this
theorem names_get {b : Book} {i : Nat} {x : Bet} (h : b.bets[i]? = some x) : b.names[i]? = some x.name := by
  simp [Book.names, h]
theorem byNm_kf {b : Book} (hb : b.Wl) {s t : List (Option Bool)} {x : Bet} (hx : x ∈ b.bets) : byNm b.names (kf b s t) x.name = kn (byNm b.hs s) (byNm b.names t) x.cond := by
  obtain ⟨i, hi⟩ := List.mem_iff_getElem?.mp hx
  exact byNm_get hb.bnd (names_get hi) (by simp [kf, hi])
def frL (b : Book) (s t : List (Option Bool)) (l : List Bet) : List (Str × Bool) := l.filterMap fun x => if byNm b.names t x.name = none then (kn (byNm b.hs s) (byNm b.names t) x.cond).map fun v => (x.name, v) else none
def frD (fr : List (Str × Bool)) : List (PV × PV) := fr.map fun q => (.str q.1, .str (wordOf (some q.2)))
theorem frL_mem {b : Book} {s t : List (Option Bool)} {l : List Bet} {q : Str × Bool} (h : q ∈ frL b s t l) : q.1 ∈ l.map (·.name) := by
  obtain ⟨x, hx, e⟩ := List.mem_filterMap.mp h
  split at e
  · obtain ⟨v, _, rfl⟩ := Option.map_eq_some_iff.mp e
    exact List.mem_map.mpr ⟨x, hx, rfl⟩
  · cases e
theorem frL_nd {b : Book} {s t : List (Option Bool)} : ∀ {l : List Bet}, (l.map (·.name)).Nodup → ((frL b s t l).map (·.1)).Nodup
  | [], _ => by simp [frL]
  | x :: l, h => by
    rw [List.map_cons, List.nodup_cons] at h
    have ih := frL_nd (b := b) (s := s) (t := t) h.2
    unfold frL at ih ⊢
    rw [List.filterMap_cons]
    split
    · exact ih
    · rename_i q hq
      split at hq
      · obtain ⟨v, _, rfl⟩ := Option.map_eq_some_iff.mp hq
        rw [List.map_cons, List.nodup_cons]
        refine ⟨fun m => ?_, ih⟩
        obtain ⟨q, hq, e⟩ := List.mem_map.mp m
        have := frL_mem (b := b) (s := s) (t := t) (l := l) hq
        rw [e] at this
        exact h.1 this
      · cases hq
theorem frL_len {b : Book} {s t : List (Option Bool)} {l : List Bet} : (frL b s t l).length ≤ l.length := List.length_filterMap_le _ _
theorem frD_get {b : Book} {s t : List (Option Bool)} : ∀ {l : List Bet}, (l.map (·.name)).Nodup → ∀ {x : Bet}, x ∈ l → dget (frD (frL b s t l)) (.str x.name) = if byNm b.names t x.name = none then (kn (byNm b.hs s) (byNm b.names t) x.cond).map (fun v => PV.str (wordOf (some v))) else none
  | [], _, x, h => by simp at h
  | y :: l, hn, x, h => by
    rw [List.map_cons, List.nodup_cons] at hn
    have hno : ∀ k ∉ l.map (·.name), dget (frD (frL b s t l)) (.str k) = none := fun k hk => by
      refine dget_none fun m => hk ?_
      unfold frD at m
      rw [List.map_map] at m
      obtain ⟨q, hq, e⟩ := List.mem_map.mp m
      have e : q.1 = k := PV.str.inj e
      rw [← e]
      exact frL_mem hq
    have ih := fun h => frD_get (b := b) (s := s) (t := t) hn.2 (x := x) h
    have hstep : frD (frL b s t (y :: l)) = (match (if byNm b.names t y.name = none then (kn (byNm b.hs s) (byNm b.names t) y.cond).map fun v => (y.name, v) else none) with
      | some q => (PV.str q.1, PV.str (wordOf (some q.2))) :: frD (frL b s t l)
      | none => frD (frL b s t l)) := by
      unfold frL frD
      rw [List.filterMap_cons]
      generalize (if byNm b.names t y.name = none then (kn (byNm b.hs s) (byNm b.names t) y.cond).map fun v => (y.name, v) else none) = o
      cases o <;> rfl
    rw [hstep]
    rcases List.mem_cons.mp h with rfl | h
    · by_cases e : byNm b.names t x.name = none
      · simp only [if_pos e]
        cases kn (byNm b.hs s) (byNm b.names t) x.cond with
        | none => exact hno _ hn.1
        | some v => simp
      · simp only [if_neg e]
        exact hno _ hn.1
    · have hne : ¬ y.name = x.name := fun e => hn.1 (e ▸ List.mem_map.mpr ⟨x, h, rfl⟩)
      rw [← ih h]
      split
      · rename_i q hq
        have : q.1 = y.name := by
          split at hq
          · obtain ⟨v, _, rfl⟩ := Option.map_eq_some_iff.mp hq; rfl
          · cases hq
        rw [dget_cons, this, if_neg (by simpa using hne)]
      · rfl
/-- the told dict -/
def TldD (b : Book) (t : List (Option Bool)) (T : List (PV × PV)) : Prop := ∀ x ∈ b.names, dget T (.str x) = some (.str (wordOf (byNm b.names t x)))
theorem TldD.step {b : Book} (hb : b.Wl) {s t : List (Option Bool)} {T : List (PV × PV)} (h : TldD b t T) (hl : t.length = b.bets.length) (snd : More t (kf b s t)) : TldD b (kf b s t) (mergeP T (frD (frL b s t b.bets))) := by
  intro nm hnm
  obtain ⟨x, hx, rfl⟩ := List.mem_map.mp hnm
  have hnd : (b.bets.map (·.name)).Nodup := hb.bnd
  rw [dget_merge (by
    have := nodup_str (frL_nd (b := b) (s := s) (t := t) hnd)
    unfold frD
    rw [List.map_map] at this ⊢
    exact this), frD_get hnd hx, h _ hnm, byNm_kf hb hx]
  have hle : Le (byNm b.names t x.name) (byNm b.names (kf b s t) x.name) := byNm_mono snd x.name
  rw [byNm_kf hb hx] at hle
  by_cases e : byNm b.names t x.name = none
  · rw [if_pos e, e]
    cases kn (byNm b.hs s) (byNm b.names t) x.cond with
    | none => rfl
    | some v => rfl
  · rw [if_neg e]
    rcases hle with z | z
    · exact absurd z e
    · rw [z]; rfl
theorem frL_nil {b : Book} (hb : b.Wl) {s t : List (Option Bool)} (hl : t.length = b.bets.length) (snd : More t (kf b s t)) : frL b s t b.bets = [] ↔ kf b s t = t := by
  constructor
  · intro h
    refine (More.antisymm snd (More.of (by simp [hl]) fun i v e => ?_)).symm
    have hi : i < b.bets.length := by
      have := (List.getElem?_eq_some_iff.mp e).1
      simpa using this
    have hx : b.bets[i]? = some b.bets[i] := List.getElem?_eq_getElem hi
    have ht : t[i]? = some t[i] := List.getElem?_eq_getElem (by omega)
    have hb1 := byNm_get hb.bnd (names_get hx) ht
    have hk : kn (byNm b.hs s) (byNm b.names t) b.bets[i].cond = some v := by
      simpa [kf, hx] using e
    cases hti : t[i] with
    | some w =>
      have := snd.get (i := i) (v := w) (by rw [ht, hti])
      rw [e] at this
      rw [ht, hti]
      simpa using this.symm
    | none =>
      exfalso
      have hm : (b.bets[i].name, v) ∈ frL b s t b.bets := by
        refine List.mem_filterMap.mpr ⟨b.bets[i], List.getElem_mem hi, ?_⟩
        rw [hb1, hti, if_pos rfl, hk]; rfl
      rw [h] at hm
      simp at hm
  · intro h
    unfold frL
    rw [List.filterMap_eq_nil_iff]
    intro x hx
    split
    · rename_i e
      have := byNm_kf hb (s := s) (t := t) hx
      rw [h, e] at this
      rw [← this]; rfl
    · rfl
end Bt
end
section
set_option maxHeartbeats 2000000
namespace Bt
open PySem
section
variable {S J : Store} {a c d x : Cell} {L : Store}
theorem get0 : (S ++ a :: L)[S.length]? = some a := by simp
theorem get1 : (S ++ a :: c :: L)[S.length + 1]? = some c := by simp
theorem getF : (S ++ a :: c :: (J ++ [d]))[S.length + 2 + J.length]? = some d := by
  rw [List.getElem?_append_right (by omega)]
  simp [show S.length + 2 + J.length - S.length = J.length + 2 by omega]
theorem set0 : (S ++ a :: L).set S.length x = S ++ x :: L := by simp
theorem set1 : (S ++ a :: c :: L).set (S.length + 1) x = S ++ a :: x :: L := by simp
theorem setF : (S ++ a :: c :: (J ++ [d])).set (S.length + 2 + J.length) x = S ++ a :: c :: (J ++ [x]) := by
  rw [List.set_append_right _ _ (by omega)]
  simp [show S.length + 2 + J.length - S.length = J.length + 2 by omega]
end
theorem unlock_one {S : Store} {f : Nat} {F : List (PV × PV)} (h : S[f]? = some (.dic false F)) : unlock (S.set f (.dic true F)) [f] = S := by
  have hlt := (List.getElem?_eq_some_iff.mp h).1
  show setLock (S.set f (.dic true F)) f false = S
  unfold setLock
  rw [List.getElem?_set_self hlt]
  simp only [List.set_set]
  have := (List.getElem?_eq_some_iff.mp h).2
  rw [← this]
  simp
theorem dcE_mapL {α : Type} {φ : Calls} {G : List PV} {ke ve : Ex} {tg : Tg} {F : α → PV} {ρ : Env} {S : Store} {ks : List Nat} {xs : List α} (k v : α → PV) (hl : xs.length ≤ 1000) (hf : ∀ x ∈ xs, ∃ ρ', assign tg (F x) ρ = some ρ' ∧ evE φ G ke ρ' S = .ok (k x) S ∧ evE φ G ve ρ' S = .ok (v x) S) (hi : ∀ x ∈ xs, isKey (k x) = true) (hn : (xs.map k).Nodup) :
    dcE φ G ke ve tg ρ { items := xs.map F, lock := ks } S = .ok (.dict (xs.map fun x => (k x, v x))) (unlock S ks) := by
  unfold dcE
  rw [if_pos (by rw [sizeLine_eq, List.length_map]; omega)]
  dsimp only
  rw [dcLoop_pure (fun x => (assign tg (F x) ρ).getD []) k v (fun x hx => by obtain ⟨ρ', e, _⟩ := hf x hx; rw [e]; rfl) (fun x hx => by obtain ⟨ρ', e, h1, _⟩ := hf x hx; rw [e]; exact h1) (fun x hx => by obtain ⟨ρ', e, _, h2⟩ := hf x hx; rw [e]; exact h2) hi, mergeP_nil_nd (by rw [List.map_map]; exact hn)]
  rfl
theorem upd_ref {S : Store} {a f : Nat} {T F : List (PV × PV)} (hne : f ≠ a) (h1 : S[a]? = some (.dic false T)) (h2 : S[f]? = some (.dic false F)) (hl : T.length + F.length ≤ 1000) : updAt S (.ref a) (.ref f) = some (S.set a (.dic false (mergeP T F))) := by
  simp only [updAt, h1, res, h2]
  rw [if_neg (by simpa using hne), if_pos (by rw [sizeLine_eq]; omega)]
theorem upd_dict {S : Store} {a : Nat} {T F : List (PV × PV)} (h1 : S[a]? = some (.dic false T)) (hl : T.length + F.length ≤ 1000) : updAt S (.ref a) (.dict F) = some (S.set a (.dic false (mergeP T F))) := by
  simp only [updAt, h1, res]
  rw [if_neg (by simp), if_pos (by rw [sizeLine_eq]; omega)]
theorem put_dic {S : Store} {a : Nat} {T : List (PV × PV)} {k : Str} {v : PV} (h1 : S[a]? = some (.dic false T)) (hl : T.length ≤ 1000) : putAt S (.ref a) (.str k) v = some (S.set a (.dic false (dput T (.str k) v))) := by
  simp only [putAt, h1]
  rw [if_pos (by simp [isKey]; rw [sizeLine_eq]; omega)]
/-- the names' first turns -/
def tnK (b : Book) (s : List (Option Bool)) (τ : Nat) (nm : Str) : Option Nat := (List.range (τ + 1)).find? fun k => (byNm b.names (it b s k) nm).isSome
def TrnD (b : Book) (s : List (Option Bool)) (τ : Nat) (U : List (PV × PV)) : Prop := ∀ nm ∈ b.names, dget U (.str nm) = (tnK b s τ nm).map fun k => .int (k : Nat)
def frU (τ : Nat) (fr : List (Str × Bool)) : List (PV × PV) := fr.map fun q => (.str q.1, .int (τ : Nat))
def whBody : List Sm := [.asg (.tp [(.nm 5), (.nm 6)]) (.tup [(.bin .add (.var 5) (.cst (.int 1))), (.br (.dic []))]), .forr (.nm 7) (.seq (.ix (.var 0) (.cst (.int 2)))) [.ifs (.cmp .eq (.ix (.var 3) (.ix (.var 7) (.cst (.int 0)))) (.cst (.str "open"))) [.asg (.nm 8) (.call 17 [(.var 2), (.var 3), (.ix (.var 7) (.cst (.int 5)))]), .ifs (.cmp .isnot (.var 8) (.cst .none)) [.put (.var 6) (.ix (.var 7) (.cst (.int 0))) (.won (.var 8))] []] []], .upd (.var 3) (.var 6), .upd (.var 4) (.dc (.var 9) (.var 5) (.nm 9) (.keys 6) [9])]
theorem steps_body : c_steps.body = [.par [2, 3, 4] [(.call 18 [(.var 0), (.var 1)]), (.br (.dc (.ix (.var 7) (.cst (.int 0))) (.cst (.str "open")) (.nm 7) (.seq (.ix (.var 0) (.cst (.int 2)))) [7])), (.br (.dic []))], .asg (.tp [(.nm 5), (.nm 6)]) (.tup [(.cst (.int 0)), (.cst (.bool true))]), .whil (.var 6) whBody, .ret (.tup [(.var 3), (.var 4)])] := rfl
section
variable {D : List Df} {G : List PV} {m : Nat} {S J : Store} {b : Book} {s t : List (Option Bool)} [Hd D f_turned_over c_turned_over] [Hd D f_known_of c_known_of]
def kD (b : Book) (s : List (Option Bool)) : PV := .dict ((b.hs.zip s).map fun p => (PV.str p.1, obP p.2))
/-- one turn -/
theorem turn_run (hb : b.Wl) (hs : s.length = b.hs.length) {T U : List (PV × PV)} {τ : Nat} {v6 v7 v8 v9 : Option PV} (hT : TldD b t T) (hTl : T.length ≤ 200) (hUl : U.length ≤ 200) (hm : 4 ≤ m) :
    ∃ v7' v8', exSs (callP D G (m + 1)) G whBody [some b.pv, some (seenP s), some (kD b s), some (.ref S.length), some (.ref (S.length + 1)), some (.int (τ : Nat)), v6, v7, v8, v9] (S ++ .dic false T :: .dic false U :: J) =
      .next [some b.pv, some (seenP s), some (kD b s), some (.ref S.length), some (.ref (S.length + 1)), some (.int ((τ : Int) + 1)), some (.ref (S.length + 2 + J.length)), v7', v8', v9] (S ++ .dic false (mergeP T (frD (frL b s t b.bets))) :: .dic false (mergeP U (frU (τ + 1) (frL b s t b.bets))) :: (J ++ [.dic false (frD (frL b s t b.bets))])) := by
  have hbl := hb.bl
  have hlen : (S ++ .dic false T :: .dic false U :: J).length = S.length + 2 + J.length := by simp; omega
  have happ : (S ++ .dic false T :: .dic false U :: J) ++ [.dic false []] = S ++ .dic false T :: .dic false U :: (J ++ [.dic false []]) := by simp
  have hsees : Sees b.hs b.names ((b.hs.zip s).map fun p => (PV.str p.1, obP p.2)) T (byNm b.hs s) (byNm b.names t) := ⟨fun h m => lookup_seen m hs hb.hnd, hT⟩
  simp [whBody, toRef, hlen, -List.append_assoc, happ]
  generalize hF : forE _ _ _ _ _ _ _ = o
  obtain ⟨ρ', S', rfl, v7', v8', rfl, rfl⟩ : ∃ ρ' S', o = .next ρ' S' ∧ ∃ v7' v8', ρ' = [some b.pv, some (seenP s), some (kD b s), some (.ref S.length), some (.ref (S.length + 1)), some (.int ((τ : Int) + 1)), some (.ref (S.length + 2 + J.length)), v7', v8', v9] ∧ S' = S ++ .dic false T :: .dic false U :: (J ++ [.dic false (frD (frL b s t (b.bets.take (b.bets.map Bet.pv).length)))]) := by
    rw [← hF]
    refine forE_inv (iv := { items := b.bets.map Bet.pv }) (fun j ρ' S' => ∃ v7' v8', ρ' = [some b.pv, some (seenP s), some (kD b s), some (.ref S.length), some (.ref (S.length + 1)), some (.int ((τ : Int) + 1)), some (.ref (S.length + 2 + J.length)), v7', v8', v9] ∧ S' = S ++ .dic false T :: .dic false U :: (J ++ [.dic false (frD (frL b s t (b.bets.take j)))])) rfl (fun _ _ _ _ => rfl) ?_ ⟨_, _, rfl, rfl⟩
    rintro j y ρ S1 hy ⟨v7', v8', rfl, rfl⟩
    simp only [List.getElem?_map] at hy
    obtain ⟨x, hx, rfl⟩ := Option.map_eq_some_iff.mp hy
    have hxm : x ∈ b.bets := List.mem_of_getElem? hx
    have hnm : x.name ∈ b.names := List.mem_map.mpr ⟨x, hxm, rfl⟩
    have hd := hT x.name hnm
    have hk := known_of_ref (D := D) (G := G) (S := S ++ .dic false T :: .dic false U :: (J ++ [.dic false (frD (frL b s t (b.bets.take j)))])) (sv := kD b s) (tv := .ref S.length) rfl (res_dic get0) hsees 4 m x.cond (hb.cond x hxm) hm
    have htk : b.bets.take (j + 1) = b.bets.take j ++ [x] := by rw [List.take_succ, hx]; rfl
    have hfr : frL b s t (b.bets.take j ++ [x]) = frL b s t (b.bets.take j) ++ (if byNm b.names t x.name = none then (kn (byNm b.hs s) (byNm b.names t) x.cond).map fun v => (x.name, v) else none).toList := by
      unfold frL
      rw [List.filterMap_append]
      congr 1
    refine ⟨_, rfl, ?_⟩
    by_cases ho : byNm b.names t x.name = none
    · rw [ho] at hd
      rw [if_pos ho] at hfr
      cases hv : kn (byNm b.hs s) (byNm b.names t) x.cond with
      | none =>
        rw [hv] at hk hfr
        have hk : _ = Res.ok PV.none _ := hk
        refine ex_next (by simp [res_dic get0, Bet.pv, hd, wordOf, hk]; first | exact ⟨rfl, rfl⟩ | rfl) ?_
        refine ⟨_, _, rfl, ?_⟩
        rw [htk, hfr]; simp
      | some v =>
        rw [hv] at hk hfr
        have hnew : PV.str x.name ∉ (frD (frL b s t (b.bets.take j))).map (·.1) := fun hm => by
          unfold frD at hm
          rw [List.map_map] at hm
          obtain ⟨q, hq, e⟩ := List.mem_map.mp hm
          have e : q.1 = x.name := PV.str.inj e
          have h1 := frL_mem hq
          rw [e] at h1
          obtain ⟨z, hz, e2⟩ := List.mem_map.mp h1
          obtain ⟨i, hi⟩ := List.mem_iff_getElem?.mp hz
          have hij : i < j := by
            have := (List.getElem?_eq_some_iff.mp hi).1
            rw [List.length_take] at this
            omega
          rw [List.getElem?_take_of_lt hij] at hi
          have e3 := names_get hi
          have e4 := names_get hx
          rw [e2] at e3
          have l1 := (List.getElem?_eq_some_iff.mp e3).1
          have l2 := (List.getElem?_eq_some_iff.mp e4).1
          have := (List.getElem_inj (i := i) (j := j) (h₀ := l1) (h₁ := l2) hb.bnd).mp (by rw [(List.getElem?_eq_some_iff.mp e3).2, (List.getElem?_eq_some_iff.mp e4).2])
          omega
        have hfl : (frD (frL b s t (b.bets.take j))).length ≤ 1000 := by
          have := frL_len (b := b) (s := s) (t := t) (l := b.bets.take j)
          simp only [frD, List.length_map]
          rw [List.length_take] at this
          omega
        have hk : _ = Res.ok (PV.bool v) _ := hk
        have hw : wordOf (some v) = if v = true then Str.ofString "won" else Str.ofString "lost" := by cases v <;> rfl
        refine ex_next (by simp [res_dic get0, Bet.pv, hd, wordOf, hk, put_dic getF hfl, setF, dput_new hnew]; first | exact ⟨rfl, rfl⟩ | rfl) ?_
        refine ⟨_, _, rfl, ?_⟩
        rw [htk, hfr]
        simp [frD, hw]
    · rw [if_neg ho] at hfr
      have hne : ¬ wordOf (byNm b.names t x.name) = "open" := by
        generalize byNm b.names t x.name = o at ho
        rcases o with _ | _ | _
        · exact absurd rfl ho
        · simp [wordOf]
        · simp [wordOf]
      refine ex_next (by simp [res_dic get0, Bet.pv, hd, hne]; first | exact ⟨rfl, rfl⟩ | rfl) ?_
      refine ⟨_, _, rfl, ?_⟩
      rw [htk, hfr]; simp
  have htl : b.bets.take (b.bets.map Bet.pv).length = b.bets := by simp
  rw [htl]
  generalize hfr : frL b s t b.bets = fr
  have hfl : fr.length ≤ 8 := by rw [← hfr]; exact Nat.le_trans frL_len hbl
  have hnd : ((fr.map fun q => PV.str q.1)).Nodup := by
    have := nodup_str (frL_nd (b := b) (s := s) (t := t) (l := b.bets) hb.bnd)
    rw [hfr, List.map_map] at this
    exact this
  have hne : S.length + 2 + J.length ≠ S.length := by omega
  have hne1 : S.length + 2 + J.length ≠ S.length + 1 := by omega
  have hfD : (frD fr).length = fr.length := by simp [frD]
  have u1 : updAt (S ++ .dic false T :: .dic false U :: (J ++ [.dic false (frD fr)])) (.ref S.length) (.ref (S.length + 2 + J.length)) = some (S ++ .dic false (mergeP T (frD fr)) :: .dic false U :: (J ++ [.dic false (frD fr)])) := by
    rw [upd_ref hne get0 getF (by omega), set0]
  have hkeys : (frD fr).map (·.1) = fr.map fun q => PV.str q.1 := by simp [frD]
  have kk : kKeys (.ref (S.length + 2 + J.length)) (S ++ .dic false (mergeP T (frD fr)) :: .dic false U :: (J ++ [.dic false (frD fr)])) = .ok { items := fr.map fun q => PV.str q.1, lock := [S.length + 2 + J.length] } ((S ++ Cell.dic false (mergeP T (frD fr)) :: Cell.dic false U :: (J ++ [Cell.dic false (frD fr)])).set (S.length + 2 + J.length) (.dic true (frD fr))) := by
    rw [kKeys_ref getF, hkeys]
  refine ⟨v7', v8', ?_⟩
  simp [openD_ref get0, u1, openD_ref get1, kk]
  rw [dcE_mapL (fun q : Str × Bool => .str q.1) (fun _ => .int ((τ : Int) + 1)) (by omega) (fun q hq => ⟨_, rfl, by simp, by simp⟩) (fun q hq => rfl) hnd, unlock_one getF]
  have hUf : (fr.map fun q : Str × Bool => (PV.str q.1, PV.int ((τ : Int) + 1))) = frU (τ + 1) fr := by simp [frU]
  rw [hUf]
  have hUfl : (frU (τ + 1) fr).length = fr.length := by simp [frU]
  simp [upd_dict get1 (show U.length + (frU (τ + 1) fr).length ≤ 1000 by omega), set1]
omit [Hd D f_turned_over c_turned_over] [Hd D f_known_of c_known_of] in
theorem up_some {nm : Str} {k : Nat} (h : (byNm b.names (it b s k) nm).isSome) : ∀ j : Nat, (byNm b.names (it b s (k + j)) nm).isSome
  | 0 => h
  | j + 1 => by
    have ih := up_some h j
    rcases byNm_mono (ks := b.names) (it_up (b := b) (s := s) (k + j)) nm with e | e
    · rw [e] at ih; cases ih
    · show (byNm b.names (it b s (k + j + 1)) nm).isSome
      rw [e]; exact ih
omit [Hd D f_turned_over c_turned_over] [Hd D f_known_of c_known_of] in
theorem tnK_some {nm : Str} {τ : Nat} : (tnK b s τ nm).isSome = (byNm b.names (it b s τ) nm).isSome := by
  unfold tnK
  rw [Bool.eq_iff_iff, List.find?_isSome]
  constructor
  · rintro ⟨k, hk, h⟩
    have hk : k < τ + 1 := List.mem_range.mp hk
    have := up_some h (τ - k)
    rwa [show k + (τ - k) = τ by omega] at this
  · intro h
    exact ⟨τ, List.mem_range.mpr (by omega), h⟩
omit [Hd D f_turned_over c_turned_over] [Hd D f_known_of c_known_of] in
theorem tn_step (hb : b.Wl) {τ : Nat} {U : List (PV × PV)} (h : TrnD b s τ U) : TrnD b s (τ + 1) (mergeP U (frU (τ + 1) (frL b s (it b s τ) b.bets))) := by
  intro nm hnm
  obtain ⟨x, hx, rfl⟩ := List.mem_map.mp hnm
  have hnd : (b.bets.map (·.name)).Nodup := hb.bnd
  have hn2 : ((frU (τ + 1) (frL b s (it b s τ) b.bets)).map (·.1)).Nodup := by
    have := nodup_str (frL_nd (b := b) (s := s) (t := it b s τ) hnd)
    unfold frU
    rw [List.map_map] at this ⊢
    exact this
  have hg : dget (frU (τ + 1) (frL b s (it b s τ) b.bets)) (.str x.name) = (dget (frD (frL b s (it b s τ) b.bets)) (.str x.name)).map fun _ => PV.int ((τ + 1 : Nat) : Int) := by
    generalize frL b s (it b s τ) b.bets = fr
    induction fr with
    | nil => rfl
    | cons q fr ih =>
      show dget ((PV.str q.1, PV.int ((τ + 1 : Nat) : Int)) :: frU (τ + 1) fr) _ = (dget ((PV.str q.1, PV.str (wordOf (some q.2))) :: frD fr) _).map _
      rw [dget_cons, dget_cons, ih]
      by_cases e : PV.str q.1 = PV.str x.name
      · rw [if_pos e, if_pos e]; rfl
      · rw [if_neg e, if_neg e]
  rw [dget_merge hn2, hg, frD_get hnd hx, h _ hnm]
  have hk : byNm b.names (it b s (τ + 1)) x.name = kn (byNm b.hs s) (byNm b.names (it b s τ)) x.cond := byNm_kf hb (s := s) (t := it b s τ) hx
  have htn : tnK b s (τ + 1) x.name = (tnK b s τ x.name).or (if (byNm b.names (it b s (τ + 1)) x.name).isSome then some (τ + 1) else none) := by
    unfold tnK
    rw [List.range_succ, List.find?_append]
    congr 1
    rw [List.find?_cons]
    cases (byNm b.names (it b s (τ + 1)) x.name).isSome <;> rfl
  have hs := tnK_some (b := b) (s := s) (nm := x.name) (τ := τ)
  rw [htn, hk]
  by_cases e : byNm b.names (it b s τ) x.name = none
  · rw [e] at hs
    have h0 : tnK b s τ x.name = none := by cases q : tnK b s τ x.name with | none => rfl | some k => rw [q] at hs; cases hs
    rw [if_pos e, h0]
    cases kn (byNm b.hs s) (byNm b.names (it b s τ)) x.cond with
    | none => rfl
    | some v => rfl
  · rw [if_neg e]
    have : (byNm b.names (it b s τ) x.name).isSome = true := by cases q : byNm b.names (it b s τ) x.name with | none => exact absurd q e | some v => rfl
    rw [this] at hs
    obtain ⟨k, hk⟩ := Option.isSome_iff_exists.mp hs
    rw [hk]; rfl
end
end Bt
end
section
set_option maxHeartbeats 2000000
namespace Bt
open PySem
section
variable {D : List Df} {G : List PV} {m : Nat} {S J : Store} {b : Book} {s t : List (Option Bool)} [Hd D f_turned_over c_turned_over] [Hd D f_known_of c_known_of]
theorem frD_isEmpty {fr : List (Str × Bool)} : (frD fr).isEmpty = fr.isEmpty := by cases fr <;> rfl
omit [Hd D f_turned_over c_turned_over] [Hd D f_known_of c_known_of] in
theorem truth_ref {S : Store} {f : Nat} {F : List (PV × PV)} (h : S[f]? = some (.dic false F)) : truthR S (.ref f) = .ok (!F.isEmpty) S := by
  unfold truthR
  rw [res_dic h]
  rfl
/-- the loop of steps -/
theorem while_steps (hb : b.Wl) (hs : s.length = b.hs.length) (hm : 4 ≤ m) : ∀ (k τ fuel : Nat) (T U : List (PV × PV)) (J : Store) (v6 : PV) (v7 v8 v9 : Option PV), opn (it b s τ) ≤ k → k + 2 ≤ fuel → τ + opn (it b s τ) ≤ b.bets.length →
    truthR (S ++ .dic false T :: .dic false U :: J) v6 = .ok true (S ++ .dic false T :: .dic false U :: J) → TldD b (it b s τ) T → TrnD b s τ U → T.length ≤ 8 * (τ + 1) → U.length ≤ 8 * (τ + 1) →
    ∃ T' U' J' v5 v6' v7' v8' v9' τ', whileE (callP D G (m + 1)) G (.var 6) whBody fuel [some b.pv, some (seenP s), some (kD b s), some (.ref S.length), some (.ref (S.length + 1)), some (.int (τ : Nat)), some v6, v7, v8, v9] (S ++ .dic false T :: .dic false U :: J) =
      .next [some b.pv, some (seenP s), some (kD b s), some (.ref S.length), some (.ref (S.length + 1)), v5, v6', v7', v8', v9'] (S ++ .dic false T' :: .dic false U' :: J') ∧ TldD b (fin b s) T' ∧ it b s (τ' + 1) = it b s τ' ∧ TrnD b s τ' U' ∧ T'.length ≤ 200
  | k, τ, 0, T, U, J, v6, v7, v8, v9, _, hf, _, _, _, _, _, _ => by omega
  | k, τ, fuel + 1, T, U, J, v6, v7, v8, v9, hk, hf, hτ, ht, hT, hU, hTl, hUl => by
    have hbl := hb.bl
    have hop : opn (it b s τ) ≤ b.bets.length := by omega
    obtain ⟨v7', v8', hr⟩ := turn_run (D := D) (G := G) (S := S) (J := J) (t := it b s τ) (τ := τ) (v6 := some v6) (v7 := v7) (v8 := v8) (v9 := v9) hb hs hT (by omega) (by omega) hm (U := U)
    have snd := it_up (b := b) (s := s) τ
    have hT' := hT.step hb (s := s) it_len snd
    have hU' := tn_step hb hU
    have hfl : (frL b s (it b s τ) b.bets).length ≤ 8 := Nat.le_trans frL_len hbl
    have l1 := mergeP_length (kvs := T) (fr := frD (frL b s (it b s τ) b.bets))
    have l2 := mergeP_length (kvs := U) (fr := frU (τ + 1) (frL b s (it b s τ) b.bets))
    have l3 : (frD (frL b s (it b s τ) b.bets)).length = (frL b s (it b s τ) b.bets).length := by simp [frD]
    have l4 : (frU (τ + 1) (frL b s (it b s τ) b.bets)).length = (frL b s (it b s τ) b.bets).length := by simp [frU]
    rw [while_go (S1 := S ++ .dic false T :: .dic false U :: J) (by simp [ht]) hr]
    by_cases hfr : frL b s (it b s τ) b.bets = []
    · have hfix := (frL_nil hb it_len snd).mp hfr
      have hend := it_end (b := b) (s := s) (k := τ) hfix
      obtain ⟨fuel, rfl⟩ : ∃ f, fuel = f + 1 := ⟨fuel - 1, by omega⟩
      rw [while_stop (S1 := S ++ .dic false (mergeP T (frD (frL b s (it b s τ) b.bets))) :: .dic false (mergeP U (frU (τ + 1) (frL b s (it b s τ) b.bets))) :: (J ++ [.dic false (frD (frL b s (it b s τ) b.bets))])) (by simp [truth_ref getF, hfr, frD])]
      refine ⟨_, _, _, _, _, _, _, _, τ + 1, rfl, ?_, ?_, hU', by omega⟩
      · have e : kf b s (it b s τ) = fin b s := by rw [hfix, hend]
        rw [← e]
        exact hT'
      · show kf b s (kf b s (it b s τ)) = kf b s (it b s τ)
        rw [hfix, hfix]
    · have hne : it b s τ ≠ it b s (τ + 1) := fun e => hfr ((frL_nil hb it_len snd).mpr e.symm)
      have hlt := opn_lt snd hne
      exact while_steps hb hs hm (k - 1) (τ + 1) fuel _ _ _ _ v7' v8' v9 (by omega) (by omega) (by omega) (by rw [truth_ref getF, frD_isEmpty]; cases hq : frL b s (it b s τ) b.bets with | nil => exact absurd hq hfr | cons q fr => rfl) hT' hU' (by omega) (by omega)
variable [Hd D f_by_name c_by_name] [Hd D f_steps c_steps]
theorem steps_eq (hb : b.Wl) (hs : s.length = b.hs.length) (hm : 5 ≤ m) : ∃ (T U : List (PV × PV)) (J : Store) (τ : Nat), callP D G (m + 1) f_steps [b.pv, seenP s] S = .ok (.tup [.ref S.length, .ref (S.length + 1)]) (S ++ .dic false T :: .dic false U :: J) ∧ TldD b (fin b s) T ∧ it b s (τ + 1) = it b s τ ∧ TrnD b s τ U ∧ T.length ≤ 200 := by
  obtain ⟨m, rfl⟩ : ∃ k, m = k + 1 := ⟨m - 1, by omega⟩
  have hbl := hb.bl
  have hkd := by_name_eq (D := D) (G := G) (S := S) (n := m) hb.hnd hs
  have e1 : (S ++ [Cell.dic false (b.bets.map fun x => (PV.str x.name, PV.str "open"))]) ++ [Cell.dic false []] = S ++ Cell.dic false (b.bets.map fun x => (PV.str x.name, PV.str "open")) :: Cell.dic false [] :: [] := by simp
  have hnd : (b.bets.map fun x => PV.str x.name).Nodup := by
    have := nodup_str hb.bnd
    rw [Book.names, List.map_map] at this
    exact this
  have hT0 : TldD b (it b s 0) (b.bets.map fun x => (PV.str x.name, PV.str "open")) := by
    intro nm hnm
    obtain ⟨x, hx, rfl⟩ := List.mem_map.mp hnm
    rw [dget_map (f := fun x : Bet => PV.str x.name) (g := fun _ => PV.str "open") hx hnd]
    obtain ⟨i, hi⟩ := List.mem_iff_getElem?.mp hx
    have hlt := (List.getElem?_eq_some_iff.mp hi).1
    rw [byNm_get hb.bnd (names_get hi) (t := it b s 0) (o := none) (by show (bot b)[i]? = _; unfold bot; rw [List.getElem?_replicate, if_pos hlt])]
    rfl
  have hU0 : TrnD b s 0 [] := by
    intro nm hnm
    obtain ⟨x, hx, rfl⟩ := List.mem_map.mp hnm
    obtain ⟨i, hi⟩ := List.mem_iff_getElem?.mp hx
    have hlt := (List.getElem?_eq_some_iff.mp hi).1
    have := byNm_get hb.bnd (names_get hi) (t := it b s 0) (o := none) (by show (bot b)[i]? = _; unfold bot; rw [List.getElem?_replicate, if_pos hlt])
    simp [tnK, this, List.find?_cons]
  have hop : opn (it b s 0) ≤ b.bets.length := by
    have : opn (it b s 0) ≤ (it b s 0).length := List.countP_le_length
    rwa [it_len] at this
  obtain ⟨T', U', J', v5, v6', v7', v8', v9', τ', hw, h1, h2, h3, h4⟩ := while_steps (D := D) (G := G) (S := S) (m := m) hb hs (by omega) b.bets.length 0 whileFuel _ [] [] (.bool true) none none none hop (by unfold whileFuel; omega) (by omega) rfl hT0 hU0 (by simp; omega) (by simp)
  have hw' : whileE (callP D G (m + 1)) G (.var 6) whBody whileFuel [some b.pv, some (seenP s), some (kD b s), some (.ref S.length), some (.ref (S.length + 1)), some (.int 0), some (.bool true), none, none, none] (S ++ .dic false (b.bets.map fun x => (PV.str x.name, PV.str "open")) :: .dic false [] :: []) = _ := hw
  refine ⟨T', U', J', τ', ?_, h1, h2, h3, h4⟩
  unfold kD at hw'
  rw [call_eq rfl, steps_body]
  simp [hkd, c_steps]
  rw [dcE_map _ (fun x : Bet => .str x.name) (fun _ => .str "open") (by omega) (fun x hx => by simp; rfl) (fun x hx => by simp [Bet.pv]) (fun x hx => by simp) (fun x hx => rfl) hnd]
  simp [toRef, -List.append_assoc, e1]
  simp [hw']
end
end Bt
end
section
set_option maxHeartbeats 2000000
namespace Bt
open PySem
theorem finish_app {S X : Store} {v : PV} (hlo : Lo S) (hv : v.pl = true) : finish S.length (.ok v (S ++ X)) = .ok v S := by
  unfold finish
  dsimp only
  split
  · rename_i h
    have : X = [] := by
      have : S.length + X.length = S.length := by simpa using h
      exact List.length_eq_zero_iff.mp (by omega)
    rw [this]; simp
  · rw [List.take_left, if_pos (List.all_eq_true.mpr fun c hc => hlo c hc), frz_pl _ _ v hv]
theorem byNm_all {ks : List Str} {t : List (Option Bool)} (hn : ks.Nodup) (hl : t.length = ks.length) : ks.map (byNm ks t) = t := by
  apply List.ext_getElem?
  intro i
  rw [List.getElem?_map]
  by_cases h : i < ks.length
  · have h1 := List.getElem?_eq_getElem h
    have h2 : t[i]? = some t[i] := List.getElem?_eq_getElem (by omega)
    rw [h1, h2]
    show some (byNm ks t ks[i]) = _
    rw [byNm_get hn h1 h2]
  · rw [List.getElem?_eq_none (by omega), List.getElem?_eq_none (by omega)]; rfl
theorem told_pl (t : List (Option Bool)) : (toldP t).pl = true := plL_iff.mpr fun x hx => by obtain ⟨o, _, rfl⟩ := List.mem_map.mp hx; rfl
theorem seen_pl (t : List (Option Bool)) : (seenP t).pl = true := plL_iff.mpr fun x hx => by obtain ⟨o, _, rfl⟩ := List.mem_map.mp hx; cases o <;> rfl
section
variable {D : List Df} {G : List PV} {m : Nat} {S J : Store} {b : Book} {s t : List (Option Bool)} [Hd D f_turned_over c_turned_over] [Hd D f_known_of c_known_of] [Hd D f_by_name c_by_name] [Hd D f_steps c_steps] [Hd D f_told_of c_told_of]
theorem told_of_eq (hb : b.Wl) (hs : s.length = b.hs.length) (hlo : Lo S) (hm : 6 ≤ m) : callP D G (m + 1) f_told_of [b.pv, seenP s] S = .ok (toldP (fin b s)) S := by
  obtain ⟨m, rfl⟩ : ∃ k, m = k + 1 := ⟨m - 1, by omega⟩
  have hbl := hb.bl
  obtain ⟨T, U, J, τ, e, hT, _, _, _⟩ := steps_eq (D := D) (G := G) (S := S) (m := m) hb hs (by omega)
  rw [call_eq rfl]
  simp [c_told_of, e]
  rw [compE_mapA (fun x : Bet => .str (wordOf (byNm b.names (fin b s) x.name))) (by omega) (fun x hx => ⟨_, rfl, by simp [Bet.pv, res_dic get0, hT x.name (List.mem_map.mpr ⟨x, hx, rfl⟩)]⟩)]
  have e2 : (b.bets.map fun x : Bet => PV.str (wordOf (byNm b.names (fin b s) x.name))) = (fin b s).map fun o => PV.str (wordOf o) := by
    conv => rhs; rw [← byNm_all hb.bnd (t := fin b s) (by simp [Book.names])]
    simp [Book.names]
  rw [e2]
  simp
  exact finish_app hlo (told_pl (fin b s))
variable [Hd D f_is_seen c_is_seen] [Hd D f_look_seen c_look_seen] [Hd D f_settled c_settled] [Hd D f_turns c_turns]
theorem settled_eq (hb : b.Wl) (hs : s.length = b.hs.length) (hlo : Lo S) (hm : 7 ≤ m) : callP D G (m + 1) f_settled [b.pv, seenP s] S = .ok (toldP (fin b s)) S := by
  obtain ⟨m, rfl⟩ : ∃ k, m = k + 2 := ⟨m - 2, by omega⟩
  have := hb.hl
  rw [call_eq rfl]
  simp [c_settled, look_seen_true hs (by omega), told_of_eq hb hs hlo (show 6 ≤ m + 1 by omega)]
def trnP : Option Nat → PV
  | none => .none
  | some k => .int (k : Nat)
theorem turns_eq (hb : b.Wl) (hs : s.length = b.hs.length) (hlo : Lo S) (hm : 7 ≤ m) : ∃ τ, it b s (τ + 1) = it b s τ ∧ callP D G (m + 1) f_turns [b.pv, seenP s] S = .ok (.tup (b.names.map fun nm => trnP (tnK b s τ nm))) S := by
  obtain ⟨m, rfl⟩ : ∃ k, m = k + 2 := ⟨m - 2, by omega⟩
  have hbl := hb.bl
  have := hb.hl
  obtain ⟨T, U, J, τ, e, _, hτ, hU, _⟩ := steps_eq (D := D) (G := G) (S := S) (m := m + 1) hb hs (by omega)
  refine ⟨τ, hτ, ?_⟩
  rw [call_eq rfl]
  simp [c_turns, look_seen_true hs (by omega), e]
  rw [compE_mapA (fun x : Bet => trnP (tnK b s τ x.name)) (by omega) (fun x hx => ⟨_, rfl, by
    have := hU x.name (List.mem_map.mpr ⟨x, hx, rfl⟩)
    simp [Bet.pv, res_dic get1, this]
    cases tnK b s τ x.name <;> rfl⟩)]
  simp
  have e2 : (b.bets.map fun x : Bet => trnP (tnK b s τ x.name)) = b.names.map fun nm => trnP (tnK b s τ nm) := by simp [Book.names]
  rw [e2]
  exact finish_app hlo (plL_iff.mpr fun x hx => by obtain ⟨o, _, rfl⟩ := List.mem_map.mp hx; cases tnK b s τ o <;> rfl)
end
end Bt
end
section
set_option maxHeartbeats 2000000
namespace Bt
open PySem
def voidW : Option Bool → Str
  | none => "void"
  | some true => "won"
  | some false => "lost"
def endP (t : List (Option Bool)) : PV := .tup (t.map fun o => .str (voidW o))
theorem end_pl (t : List (Option Bool)) : (endP t).pl = true := plL_iff.mpr fun x hx => by obtain ⟨o, _, rfl⟩ := List.mem_map.mp hx; rfl
theorem none_in : ∀ {t : List (Option Bool)}, cop .inn .none (.tup (t.map obP)) = some (decide (none ∈ t)) := by
  intro t
  show (if flatP .none && (t.map obP).all flatP then some ((t.map obP).any fun z => peq z .none) else none) = _
  have h1 : (t.map obP).all flatP = true := by
    rw [List.all_map, List.all_eq_true]
    intro o _
    cases o <;> rfl
  have h2 : ((t.map obP).any fun z => peq z .none) = decide (none ∈ t) := by
    induction t with
    | nil => rfl
    | cons o t ih =>
      rw [List.map_cons, List.any_cons]
      have ih := ih (by
        rw [List.all_map, List.all_eq_true]
        intro o _
        cases o <;> rfl)
      rw [ih]
      cases o with
      | none => simp [obP, peq]
      | some v => simp [obP, peq]
  rw [h1, h2]
  rfl
/-- a world, as what is seen -/
def wd (w : List Bool) : List (Option Bool) := w.map some
theorem wd_none (w : List Bool) : none ∉ wd w := by simp [wd]
section
variable {D : List Df} {G : List PV} {m : Nat} {S J : Store} {b : Book} {s t : List (Option Bool)} [Hd D f_turned_over c_turned_over] [Hd D f_known_of c_known_of] [Hd D f_by_name c_by_name] [Hd D f_steps c_steps] [Hd D f_told_of c_told_of] [Hd D f_ends_of c_ends_of]
theorem ends_of_eq (hb : b.Wl) (hs : s.length = b.hs.length) (hlo : Lo S) (hm : 7 ≤ m) : callP D G (m + 1) f_ends_of [b.pv, seenP s] S = .ok (endP (fin b s)) S := by
  obtain ⟨m, rfl⟩ : ∃ k, m = k + 1 := ⟨m - 1, by omega⟩
  have hbl := hb.bl
  rw [call_eq rfl]
  have e0 : res S (toldP (fin b s)) = .tup ((fin b s).map fun o => .str (wordOf o)) := rfl
  have e1 : guardOf S (toldP (fin b s)) = [] := rfl
  simp [c_ends_of, told_of_eq hb hs hlo (show 6 ≤ m by omega), e0, e1]
  rw [compE_mapA (fun o => .str (voidW o)) (by rw [fin_len]; omega) (fun o ho => ⟨_, rfl, by rcases o with _ | _ | _ <;> simp [wordOf, voidW]⟩)]
  simp [endP]
variable [Hd D f_is_seen c_is_seen] [Hd D f_look_world c_look_world] [Hd D f_results c_results]
theorem look_world_true (hs : s.length = b.hs.length) (h6 : s.length ≤ 1000) (hw : none ∉ s) : callP D G (m + 2) f_look_world [b.pv, seenP s] S = .ok .none S := by
  rw [call_eq rfl]
  have e0 : res S (seenP s) = .tup (s.map obP) := rfl
  simp [c_look_world, is_seen_true hs h6, e0, none_in, hw]
theorem results_eq (hb : b.Wl) (hs : s.length = b.hs.length) (hw : none ∉ s) (hlo : Lo S) (hm : 8 ≤ m) : callP D G (m + 1) f_results [b.pv, seenP s] S = .ok (endP (fin b s)) S := by
  obtain ⟨m, rfl⟩ : ∃ k, m = k + 2 := ⟨m - 2, by omega⟩
  have := hb.hl
  rw [call_eq rfl]
  simp [c_results, look_world_true hs (by omega) hw, ends_of_eq hb hs hlo (show 7 ≤ m + 1 by omega)]
end
end Bt
end
section
set_option maxHeartbeats 2000000
namespace Bt
open PySem
theorem compLoop_true {α : Type} {F : α → PV} {tg : Tg} {ρ : Env} {el : Env → Store → Res PV} {S : Store} (f : α → PV) {xs : List α} (hf : ∀ x ∈ xs, ∃ ρ', assign tg (F x) ρ = some ρ' ∧ el ρ' S = .ok (f x) S) : compLoop [] tg ρ (fun _ S => .ok true S) el (xs.map F) S = .ok (xs.map f) S := by
  have := comp_pure (tst := fun _ S => Res.ok true S) (el := el) (F := F) (tg := tg) (ρ := ρ) (S := S) (fun x => (assign tg (F x) ρ).getD []) (fun _ => true) f (xs := xs) (fun x hx => by obtain ⟨ρ', e, _⟩ := hf x hx; rw [e]; rfl) (fun _ _ => rfl) (fun x hx _ => by obtain ⟨ρ', e, h⟩ := hf x hx; rw [e]; exact h)
  rw [this, List.filter_eq_self.mpr fun _ _ => rfl]
theorem comp2_pure {α : Type} {F : α → PV} {tg : Tg} {ρ : Env} {inner : Env → Store → Res (List PV)} {S : Store} (g : α → List PV) : ∀ {xs : List α}, (∀ x ∈ xs, ∃ ρ', assign tg (F x) ρ = some ρ' ∧ inner ρ' S = .ok (g x) S) → comp2Loop [] tg ρ inner (xs.map F) S = .ok (xs.flatMap g) S
  | [], _ => by simp [comp2Loop, guardOk]
  | x :: xs, h => by
    obtain ⟨ρ', e1, e2⟩ := h x List.mem_cons_self
    have ih := comp2_pure g (xs := xs) (fun y hy => h y (List.mem_cons_of_mem _ hy))
    simp [comp2Loop, guardOk, e1, e2, ih]
/-- two clauses -/
theorem comp2E_map {α β : Type} {φ : Calls} {G : List PV} {elt : Ex} {tg tg2 : Tg} {it2 : It} {own2 : List Nat} {F : α → PV} {F2 : α → β → PV} {ρ : Env} {S : Store} {xs : List α} (ys : α → List β) (f : α → β → PV) (hl : (xs.flatMap ys).length ≤ 1000)
    (hf : ∀ x ∈ xs, ∃ ρ', assign tg (F x) ρ = some ρ' ∧ evI φ G it2 ρ' S = .ok { items := (ys x).map (F2 x) } S ∧ ∀ y ∈ ys x, ∃ ρ2, assign tg2 (F2 x y) (wipeP ρ' own2) = some ρ2 ∧ evE φ G elt ρ2 S = .ok (f x y) S) :
    comp2E φ G elt tg tg2 it2 own2 ρ { items := xs.map F } S = .ok (.list (xs.flatMap fun x => (ys x).map (f x))) S := by
  unfold comp2E
  dsimp only
  rw [comp2_pure (fun x => (ys x).map (f x)) (fun x hx => ?_)]
  · have e : (xs.flatMap fun x => (ys x).map (f x)).length = (xs.flatMap ys).length := by
      simp [List.length_flatMap]
    simp only [bind_ok]
    rw [if_pos (by rw [e, sizeLine_eq]; omega)]
    rfl
  · obtain ⟨ρ', e1, e2, h3⟩ := hf x hx
    refine ⟨ρ', e1, ?_⟩
    rw [e2]
    simp only [bind_ok, List.isEmpty_nil, if_true]
    exact compLoop_true (f x) h3
theorem forLoop_cons {iv : Items} {tg : Tg} {bd : Env → Store → Out} {x : PV} {xs : List PV} {ρ ρ1 ρ2 : Env} {S S2 : Store} {o : Out} (hg : iv.guard = []) (h1 : assign tg x ρ = some ρ1) (h2 : bd ρ1 S = .next ρ2 S2) (h3 : forLoop iv tg bd xs ρ2 S2 = o) : forLoop iv tg bd (x :: xs) ρ S = o := by
  unfold forLoop
  simp only [hg, guardOk, List.all_nil, if_true, h1, h2, h3]
def chs : Option Bool → List Bool
  | none => [false, true]
  | some v => [v]
def fitL : List (Option Bool) → List (List Bool) → List (List Bool)
  | [], acc => acc
  | o :: s, acc => fitL s (acc.flatMap fun row => (chs o).map fun v => row ++ [v])
def wdP (w : List Bool) : PV := .tup (w.map .bool)
theorem wdP_seen (w : List Bool) : wdP w = seenP (wd w) := by simp [wdP, seenP, wd, obP]
theorem chs_len (o : Option Bool) : (chs o).length ≤ 2 := by cases o <;> simp [chs]
section
variable {D : List Df} {G : List PV} {m : Nat} {S J : Store} {b : Book} {s t : List (Option Bool)} [Hd D f_fits_of c_fits_of]
theorem add_tup {xs ys : List PV} (h : xs.length + ys.length ≤ 1000) : bop .add (.tup xs) (.tup ys) = some (.tup (xs ++ ys)) := by
  show (if xs.length + ys.length ≤ sizeLine then some (PV.tup (xs ++ ys)) else none) = _
  rw [if_pos (by rw [sizeLine_eq]; omega)]
omit [Hd D f_fits_of c_fits_of] in
theorem fit_loop (S : Store) (φ : Calls) (iv : Items) (hg : iv.guard = []) (hk : iv.lock = []) : ∀ (s : List (Option Bool)) (acc : List (List Bool)) (v0 : PV) (v2 v3 v4 : Option PV), acc.length * 2 ^ s.length ≤ 500 → (∀ r ∈ acc, r.length + s.length ≤ 100) →
    ∃ v2', forLoop iv (.nm 2) (exSs φ G [.asg (.nm 1) (.lc2 (.bin .add (.var 3) (.tup [(.var 4)])) (.nm 3) (.seq (.var 1)) (.nm 4) (.seq (.ite (.cmp .is (.var 2) (.cst .none)) (.lst [(.cst (.bool false)), (.cst (.bool true))]) (.lst [(.var 2)]))) [3, 4] [4])]) (s.map obP) [some v0, some (.list (acc.map wdP)), v2, v3, v4] S = .next [some v0, some (.list ((fitL s acc).map wdP)), v2', v3, v4] S
  | [], acc, v0, v2, v3, v4, _, _ => by
    refine ⟨v2, ?_⟩
    unfold forLoop
    simp [guardOk, hg, hk, fitL, unlock]
  | o :: s, acc, v0, v2, v3, v4, hl, hr => by
    have hpow : 2 ^ (s.length + 1) = 2 * 2 ^ s.length := by rw [Nat.pow_succ]; omega
    have hlen : (acc.flatMap fun row => (chs o).map fun v => row ++ [v]).length ≤ acc.length * 2 := by
      clear hl hr
      induction acc with
      | nil => simp
      | cons r acc ih =>
        rw [List.flatMap_cons, List.length_append, List.length_map, List.length_cons]
        have := chs_len o
        omega
    have hp1 : 1 ≤ 2 ^ s.length := Nat.one_le_two_pow
    rw [List.length_cons, hpow] at hl
    have h2 : acc.length * 2 * 2 ^ s.length ≤ 500 := by rw [Nat.mul_assoc]; exact hl
    have h3 : acc.length * 2 ≤ 500 := Nat.le_trans (Nat.le_mul_of_pos_right _ hp1) h2
    obtain ⟨v2', ih⟩ := fit_loop S φ iv hg hk s (acc.flatMap fun row => (chs o).map fun v => row ++ [v]) v0 (some (obP o)) v3 v4 (Nat.le_trans (Nat.mul_le_mul_right _ hlen) h2) (fun r hrm => by
      obtain ⟨r0, h0, hrm⟩ := List.mem_flatMap.mp hrm
      obtain ⟨v, _, rfl⟩ := List.mem_map.mp hrm
      have := hr r0 h0
      simp at this ⊢
      omega)
    refine ⟨v2', ?_⟩
    have body : exSs φ G [.asg (.nm 1) (.lc2 (.bin .add (.var 3) (.tup [(.var 4)])) (.nm 3) (.seq (.var 1)) (.nm 4) (.seq (.ite (.cmp .is (.var 2) (.cst .none)) (.lst [(.cst (.bool false)), (.cst (.bool true))]) (.lst [(.var 2)]))) [3, 4] [4])] [some v0, some (.list (acc.map wdP)), some (obP o), v3, v4] S = .next [some v0, some (.list ((acc.flatMap fun row => (chs o).map fun v => row ++ [v]).map wdP)), some (obP o), v3, v4] S := by
      simp
      rw [comp2E_map (F2 := fun _ v => .bool v) (fun _ => chs o) (fun row v => wdP (row ++ [v])) (by
        have : (acc.flatMap fun _ => chs o).length ≤ acc.length * 2 := by
          clear hl hr hlen ih h2 h3
          induction acc with
          | nil => simp
          | cons r acc ih =>
            rw [List.flatMap_cons, List.length_append, List.length_cons]
            have := chs_len o
            omega
        omega) (fun row hrow => ⟨_, rfl, by rcases o with _ | _ <;> simp [obP, chs], fun v hv => ⟨_, rfl, by
          have := hr row hrow
          simp [wdP, add_tup (xs := row.map PV.bool) (ys := [PV.bool v]) (by simp at this ⊢; omega)]⟩⟩)]
      simp [List.map_flatMap]
      rfl
    exact forLoop_cons hg rfl body ih
theorem fits_of_eq (h : 2 ^ s.length ≤ 500) (h2 : s.length ≤ 100) : callP D G (m + 1) f_fits_of [seenP s] S = .ok (.tup ((fitL s [[]]).map wdP)) S := by
  rw [call_eq rfl]
  have e0 : res S (seenP s) = .tup (s.map obP) := rfl
  have e1 : guardOf S (seenP s) = [] := rfl
  obtain ⟨v2', hl⟩ := fit_loop (G := G) S (callP D G m) { items := s.map obP } rfl rfl s [[]] (seenP s) none none none (by simpa using h) (by simpa using h2)
  have hl' : forE (callP D G m) G (.nm 2) [.asg (.nm 1) (.lc2 (.bin .add (.var 3) (.tup [(.var 4)])) (.nm 3) (.seq (.var 1)) (.nm 4) (.seq (.ite (.cmp .is (.var 2) (.cst .none)) (.lst [(.cst (.bool false)), (.cst (.bool true))]) (.lst [(.var 2)]))) [3, 4] [4])] [some (seenP s), some (.list [.tup []]), none, none, none] { items := s.map obP } S = _ := hl
  simp [c_fits_of, e0, e1, hl']
omit [Hd D f_fits_of c_fits_of] in
theorem fitL_mem : ∀ {s : List (Option Bool)} {acc : List (List Bool)} {w : List Bool}, w ∈ fitL s acc → ∃ r ∈ acc, ∃ u, w = r ++ u ∧ More s (wd u)
  | [], acc, w, h => ⟨w, h, [], by simp, trivial⟩
  | o :: s, acc, w, h => by
    obtain ⟨r, hr, u, rfl, hu⟩ := fitL_mem (s := s) h
    obtain ⟨r0, h0, hr⟩ := List.mem_flatMap.mp hr
    obtain ⟨v, hv, rfl⟩ := List.mem_map.mp hr
    refine ⟨r0, h0, v :: u, by simp, ?_, hu⟩
    cases o with
    | none => exact .inl rfl
    | some o => simp [chs] at hv; subst hv; exact .inr rfl
variable [Hd D f_is_seen c_is_seen] [Hd D f_look_seen c_look_seen] [Hd D f_fitting c_fitting]
theorem fitting_eq (hs : s.length = b.hs.length) (h6 : s.length ≤ 6) : callP D G (m + 3) f_fitting [b.pv, seenP s] S = .ok (.tup ((fitL s [[]]).map wdP)) S := by
  have hp : 2 ^ s.length ≤ 2 ^ 6 := Nat.pow_le_pow_right (by decide) h6
  rw [call_eq rfl]
  simp [c_fitting, look_seen_true hs (by omega), fits_of_eq (D := D) (G := G) (m := m + 1) (S := S) (s := s) (by omega) (by omega)]
end
end Bt
end
section
set_option maxHeartbeats 2000000
namespace Bt
open PySem
theorem compE_filterL {α : Type} {φ : Calls} {G : List PV} {elt : Ex} {tg : Tg} {ifs : List Ex} {F : α → PV} {ρ : Env} {S : Store} {ks : List Nat} {xs : List α} (t : α → Bool) (f : α → PV) (hl : xs.length ≤ 1000) (hf : ∀ x ∈ xs, ∃ ρ', assign tg (F x) ρ = some ρ' ∧ evTs φ G ifs ρ' S = .ok (t x) S ∧ (t x = true → evE φ G elt ρ' S = .ok (f x) S)) : compE φ G elt tg ifs ρ { items := xs.map F, lock := ks } S = .ok (.list ((xs.filter t).map f)) (unlock S ks) := by
  unfold compE
  rw [if_pos (by rw [sizeLine_eq, List.length_map]; omega)]
  dsimp only
  rw [comp_pure (fun x => (assign tg (F x) ρ).getD []) t f (fun x hx => by obtain ⟨ρ', e, _⟩ := hf x hx; rw [e]; rfl) (fun x hx => by obtain ⟨ρ', e, h1, _⟩ := hf x hx; rw [e]; exact h1) (fun x hx ht => by obtain ⟨ρ', e, _, h2⟩ := hf x hx; rw [e]; exact h2 ht)]
  rfl
/-- names that rise -/
def Ris (l : List Str) : Prop := l.Pairwise fun a b => cop .lt (.str a) (.str b) = some true
theorem Ris.sub {l m : List Str} (h : Ris m) (hs : l.Sublist m) : Ris l := List.Pairwise.sublist hs h
theorem ris_letters : Ris letters := by
  unfold Ris letters
  decide
@[simp] theorem slice1_tup {x : PV} {xs : List PV} : slice (.tup (x :: xs)) (some 1) none = some (.tup xs) := by
  simp [slice, cut, edge]
@[simp] theorem slice1_nil : slice (.tup []) (some 1) none = some (.tup []) := by
  simp [slice, cut, edge]
theorem Ris.zip : ∀ {l : List Str}, Ris l → ∀ p ∈ l.zip (l.drop 1), cop .lt (.str p.1) (.str p.2) = some true
  | [], _, p, h => by simp at h
  | [a], _, p, h => by simp at h
  | a :: c :: l, hr, p, h => by
    have hr' := List.pairwise_cons.mp hr
    rw [List.drop_succ_cons, List.drop_zero, List.zip_cons_cons] at h
    rcases List.mem_cons.mp h with rfl | h
    · exact hr'.1 c List.mem_cons_self
    · exact Ris.zip (l := c :: l) hr'.2 p (by simpa using h)
section
variable {D : List Df} {G : List PV} {m : Nat} {S J : Store} {b : Book} {s t : List (Option Bool)} [Hd D f_is_rising c_is_rising]
theorem is_rising_true {l : List Str} (h : Ris l) (hl : l.length ≤ 1000) : callP D G (m + 1) f_is_rising [.tup (l.map .str)] S = .ok (.bool true) S := by
  rw [call_eq rfl]
  have e : slice (.tup (l.map .str)) (some 1) none = some (.tup ((l.drop 1).map .str)) := by cases l <;> simp
  simp [c_is_rising, e, -List.drop_one, -List.map_drop]
  rw [compE_mapA (fun _ => .bool true) (by simp; omega) (fun p hp => ⟨_, rfl, by simp [h.zip p hp]⟩)]
  simp
/-- told, but a lot open -/
def opnd (b : Book) (t : List (Option Bool)) (lot : List Str) : List (Option Bool) := b.names.map fun nm => if nm ∈ lot then none else byNm b.names t nm
omit [Hd D f_is_rising c_is_rising] in
@[simp] theorem opnd_len {lot : List Str} : (opnd b t lot).length = b.bets.length := by simp [opnd, Book.names]
omit [Hd D f_is_rising c_is_rising] in
theorem byNm_opnd (hb : b.Wl) {lot : List Str} {nm : Str} (h : nm ∈ b.names) : byNm b.names (opnd b t lot) nm = if nm ∈ lot then none else byNm b.names t nm := by
  obtain ⟨i, hi⟩ := List.mem_iff_getElem?.mp h
  exact byNm_get hb.bnd hi (by simp [opnd, hi])
omit [Hd D f_is_rising c_is_rising] in
theorem TldD.open (hb : b.Wl) {T : List (PV × PV)} {lot : List Str} (h : TldD b t T) (hn : lot.Nodup) : TldD b (opnd b t lot) (mergeP T (lot.map fun x => (PV.str x, PV.str "open"))) := by
  intro nm hnm
  rw [dget_merge (by rw [List.map_map]; exact nodup_str hn), byNm_opnd hb hnm]
  by_cases e : nm ∈ lot
  · rw [dget_map (f := PV.str) (g := fun _ => PV.str "open") e (nodup_str hn), if_pos e]
    rfl
  · rw [dget_none (by rw [List.map_map]; intro hm; obtain ⟨x, hx, e'⟩ := List.mem_map.mp hm; exact e (PV.str.inj e' ▸ hx)), if_neg e]
    exact h nm hnm
omit [Hd D f_is_rising c_is_rising] in
theorem Ris.nodup {l : List Str} (h : Ris l) : l.Nodup := by
  refine List.Pairwise.imp (fun {a c} h e => ?_) h
  subst e
  have : ltv (.str a) (.str a) = some true := h
  simp [ltv] at this
  exact absurd this (Array.lt_irrefl _)
variable [Hd D f_turned_over c_turned_over] [Hd D f_known_of c_known_of] [Hd D f_by_name c_by_name] [Hd D f_steps c_steps] [Hd D f_names_of c_names_of] [Hd D f_is_seen c_is_seen] [Hd D f_look_seen c_look_seen] [Hd D f_is_closed c_is_closed]
theorem is_closed_eq (hb : b.Wl) (hs : s.length = b.hs.length) (hlo : Lo S) (hm : 7 ≤ m) {lot : List Str} (hr : Ris lot) (hin : ∀ x ∈ lot, x ∈ b.names) (hll : lot.length ≤ 500) :
    callP D G (m + 1) f_is_closed [b.pv, seenP s, .tup (lot.map .str)] S = .ok (.bool ((b.bets.filter fun x => decide (x.name ∈ lot)).all fun x => decide (kn (byNm b.hs s) (byNm b.names (opnd b (fin b s) lot)) x.cond = none))) S := by
  obtain ⟨m, rfl⟩ : ∃ k, m = k + 2 := ⟨m - 2, by omega⟩
  have hbl := hb.bl
  have := hb.hl
  obtain ⟨T, U, J, τ, e, hT, _, _, hTl⟩ := steps_eq (D := D) (G := G) (S := S) (m := m + 1) hb hs (by omega)
  rw [call_eq rfl]
  simp [c_is_closed, look_seen_true hs (by omega)]
  rw [compE_mapA (fun _ => .bool true) (by omega) (fun x hx => ⟨_, rfl, by simp [names_of_eq (D := D) (G := G) (S := S) (n := m + 1) (b := b) (by omega), hin x hx]⟩)]
  simp [is_rising_true hr (by omega), by_name_eq hb.hnd hs, e, openD_ref get0]
  rw [dcE_map _ (fun x : Str => .str x) (fun _ => .str "open") (by omega) (fun x hx => by simp; rfl) (fun x hx => by simp) (fun x hx => by simp) (fun x hx => rfl) (nodup_str hr.nodup)]
  simp [upd_dict get0 (show T.length + (lot.map fun x => (PV.str x, PV.str "open")).length ≤ 1000 by simp; omega)]
  have hT' := hT.open hb hr.nodup
  rw [compE_filterA (fun x : Bet => decide (x.name ∈ lot)) (fun x : Bet => .bool (decide (kn (byNm b.hs s) (byNm b.names (opnd b (fin b s) lot)) x.cond = none))) (by omega) (fun x hx => ⟨_, rfl, by simp [Bet.pv]; split <;> simp_all, fun _ => by
    have := known_of_ref (D := D) (G := G) (S := S ++ .dic false (mergeP T (lot.map fun x => (PV.str x, PV.str "open"))) :: .dic false U :: J) (sv := .dict ((b.hs.zip s).map fun p => (PV.str p.1, obP p.2))) (tv := .ref S.length) (hs := b.hs) (bs := b.names) rfl (res_dic get0) ⟨fun h m => lookup_seen m hs hb.hnd, hT'⟩ 4 (m + 1) x.cond (hb.cond x hx) (by omega)
    simp [Bet.pv, this]⟩)]
  simp [fun (v : Bool) X => finish_app (S := S) (X := X) (v := .bool v) hlo rfl]
end
end Bt
end
section
set_option maxHeartbeats 2000000
namespace Bt
open PySem
/-- what is told behind a walk -/
def tl (b : Book) (f : List (Nat × Bool)) : List (Option Bool) := f.foldl (fun t q => t.set q.1 (some q.2)) (bot b)
theorem tl_snoc {b : Book} {f : List (Nat × Bool)} {q : Nat × Bool} : tl b (f ++ [q]) = (tl b f).set q.1 (some q.2) := by simp [tl]
@[simp] theorem tl_len {b : Book} {f : List (Nat × Bool)} : (tl b f).length = b.bets.length := by
  unfold tl
  have : ∀ (f : List (Nat × Bool)) (t : List (Option Bool)), (f.foldl (fun t q => t.set q.1 (some q.2)) t).length = t.length := by
    intro f
    induction f with
    | nil => intro t; rfl
    | cons q f ih => intro t; rw [List.foldl_cons, ih]; simp
  rw [this]; simp
/-- each is so, or not so, when those ahead are told -/
inductive Wk (b : Book) (s : List (Option Bool)) : List (Nat × Bool) → Prop
  | nil : Wk b s []
  | snoc {f : List (Nat × Bool)} {i : Nat} {v : Bool} : Wk b s f → (tl b f)[i]? = some none → (kf b s (tl b f))[i]? = some (some v) → Wk b s (f ++ [(i, v)])
theorem set_more {t : List (Option Bool)} {i : Nat} {v : Bool} (h : t[i]? = some none) : More t (t.set i (some v)) := by
  refine More.of (by simp) fun j w e => ?_
  by_cases hj : i = j
  · subst hj; rw [h] at e; cases e
  · rw [List.getElem?_set_ne hj]; exact e
theorem get_set {t : List (Option Bool)} {i j : Nat} {v w : Bool} (h : (t.set i (some v))[j]? = some (some w)) : (i = j ∧ v = w) ∨ t[j]? = some (some w) := by
  by_cases hj : i = j
  · subst hj
    rw [List.getElem?_set_self' ] at h
    cases e : t[i]? with
    | none => rw [e] at h; cases h
    | some o => rw [e] at h; left; exact ⟨rfl, by simpa using h⟩
  · rw [List.getElem?_set_ne hj] at h; exact .inr h
theorem Wk.up {b : Book} {s : List (Option Bool)} {f : List (Nat × Bool)} (h : Wk b s f) : More (tl b f) (kf b s (tl b f)) := by
  induction h with
  | nil => exact bot_le (by simp)
  | @snoc f i v h h1 h2 ih =>
    rw [tl_snoc]
    have hm := kf_mono (b := b) (More.refl s) (set_more (v := v) h1)
    refine More.of (by simp) fun j w e => ?_
    rcases get_set e with ⟨rfl, rfl⟩ | e
    · exact hm.get h2
    · exact hm.get (ih.get e)
theorem Wk.le {b : Book} {s : List (Option Bool)} {f : List (Nat × Bool)} (h : Wk b s f) : More (tl b f) (fin b s) := by
  induction h with
  | nil => exact bot_le (by simp)
  | @snoc f i v h h1 h2 ih =>
    rw [tl_snoc]
    have hm := kf_mono (b := b) (More.refl s) ih
    rw [kf_fin] at hm
    refine More.of (by simp) fun j w e => ?_
    rcases get_set e with ⟨rfl, rfl⟩ | e
    · exact hm.get h2
    · exact ih.get e
theorem opn_set {t : List (Option Bool)} {i : Nat} {v : Bool} (h : t[i]? = some none) : opn (t.set i (some v)) + 1 = opn t := by
  induction t generalizing i with
  | nil => simp at h
  | cons a t ih =>
    cases i with
    | zero => simp at h; subst h; rw [List.set_cons_zero, opn_cons, opn_cons]; simp
    | succ i => rw [List.set_cons_succ, opn_cons, opn_cons, ← ih (by simpa using h)]; omega
theorem opn_bot {b : Book} : opn (bot b) = b.bets.length := by
  unfold opn bot
  rw [List.countP_replicate]; simp
theorem Wk.len {b : Book} {s : List (Option Bool)} {f : List (Nat × Bool)} (h : Wk b s f) : f.length + opn (tl b f) = b.bets.length := by
  induction h with
  | nil => simp [tl, opn_bot]
  | @snoc f i v h h1 h2 ih =>
    rw [tl_snoc]
    have := opn_set (v := v) h1
    simp; omega
theorem Wk.at {b : Book} {s : List (Option Bool)} {f : List (Nat × Bool)} (h : Wk b s f) : ∀ {j i : Nat} {v : Bool}, f[j]? = some (i, v) → (tl b (f.take j))[i]? = some none ∧ (kf b s (tl b (f.take j)))[i]? = some (some v) := by
  induction h with
  | nil => intro j i v e; simp at e
  | @snoc f i v h h1 h2 ih =>
    intro j i' v' e
    by_cases hj : j < f.length
    · rw [List.getElem?_append_left hj] at e
      rw [List.take_append_of_le_length (by omega)]
      exact ih e
    · rw [List.getElem?_append_right (by omega)] at e
      have h0 : j - f.length = 0 := by
        have := (List.getElem?_eq_some_iff.mp e).1
        simpa using this
      have hj : j = f.length := by omega
      subst hj
      rw [h0] at e
      simp at e
      obtain ⟨rfl, rfl⟩ := e
      rw [List.take_append_of_le_length (by omega), List.take_length]
      exact ⟨h1, h2⟩
/-- a walk that can not go on ends in what is settled -/
theorem Wk.end_ {b : Book} {s : List (Option Bool)} {f : List (Nat × Bool)} (h : Wk b s f) (he : ∀ i : Nat, (tl b f)[i]? = some none → (kf b s (tl b f))[i]? = some none) : tl b f = fin b s := by
  refine fin_of h.le (by simp) fun i v e => ?_
  have hi : i < (tl b f).length := by
    have := (List.getElem?_eq_some_iff.mp e).1
    simpa using this
  cases hq : (tl b f)[i]? with
  | none => rw [List.getElem?_eq_getElem hi] at hq; cases hq
  | some o =>
    cases o with
    | none => rw [he i hq] at e; cases e
    | some w => rw [h.up.get hq] at e; rw [← e]
def nmAt (b : Book) (i : Nat) : Str := (b.names[i]?).getD ""
def entP (b : Book) (q : Nat × Bool) : PV := .tup [.str (nmAt b q.1), .str (wordOf (some q.2))]
theorem nmAt_eq {b : Book} {i : Nat} {x : Bet} (h : b.bets[i]? = some x) : nmAt b i = x.name := by simp [nmAt, names_get h]
theorem kf_at {b : Book} {s t : List (Option Bool)} {i : Nat} {x : Bet} (h : b.bets[i]? = some x) : (kf b s t)[i]? = some (kn (byNm b.hs s) (byNm b.names t) x.cond) := by simp [kf, h]
/-- told by names, as a dict -/
def tdD (b : Book) (t : List (Option Bool)) : List (PV × PV) := (b.names.zip t).map fun p => (PV.str p.1, PV.str (wordOf p.2))
theorem tdD_get {b : Book} (hb : b.Wl) {t : List (Option Bool)} (hl : t.length = b.bets.length) {x : Str} (hx : x ∈ b.names) : dget (tdD b t) (.str x) = some (.str (wordOf (byNm b.names t x))) := lookup_told hx (by simpa [Book.names] using hl) hb.bnd
theorem tdD_keys {b : Book} {t : List (Option Bool)} (hl : t.length = b.bets.length) : (tdD b t).map (·.1) = b.names.map .str := by
  unfold tdD
  rw [List.map_map]
  have : ((fun x : PV × PV => x.1) ∘ fun p : Str × Option Bool => (PV.str p.1, PV.str (wordOf p.2))) = PV.str ∘ Prod.fst := rfl
  rw [this, ← List.map_map, List.map_fst_zip (by simp [Book.names]; omega)]
theorem dput_zip : ∀ {ks : List Str} {t : List (Option Bool)} {i : Nat} {k : Str} {o : Option Bool}, ks.Nodup → t.length = ks.length → ks[i]? = some k → dput ((ks.zip t).map fun p => (PV.str p.1, PV.str (wordOf p.2))) (.str k) (.str (wordOf o)) = (ks.zip (t.set i o)).map fun p => (PV.str p.1, PV.str (wordOf p.2))
  | [], _, _, _, _, _, _, h => by simp at h
  | k0 :: ks, [], _, _, _, _, h, _ => by simp at h
  | k0 :: ks, a :: t, 0, k, o, hn, hl, h => by
    simp at h
    subst h
    rw [List.nodup_cons] at hn
    rw [List.zip_cons_cons, List.map_cons, dput_cons, if_pos rfl, List.set_cons_zero, List.zip_cons_cons, List.map_cons]
    congr 1
    rw [List.map_map]
    apply List.map_congr_left
    intro p hp
    have : p.1 ∈ ks := (List.of_mem_zip hp).1
    have hne : ¬ p.1 = k0 := fun e => hn.1 (e ▸ this)
    simp [hne]
  | k0 :: ks, a :: t, i + 1, k, o, hn, hl, h => by
    rw [List.nodup_cons] at hn
    have hk : k ∈ ks := List.mem_of_getElem? (by simpa using h)
    have hne : ¬ k0 = k := fun e => hn.1 (e ▸ hk)
    rw [List.zip_cons_cons, List.map_cons, dput_cons, if_neg (by simpa using hne), dput_zip hn.2 (by simpa using hl) (by simpa using h), List.set_cons_succ, List.zip_cons_cons, List.map_cons]
theorem tdD_put {b : Book} (hb : b.Wl) {t : List (Option Bool)} (hl : t.length = b.bets.length) {i : Nat} {x : Bet} (hx : b.bets[i]? = some x) {o : Option Bool} : dput (tdD b t) (.str x.name) (.str (wordOf o)) = tdD b (t.set i o) := dput_zip hb.bnd (by simpa [Book.names] using hl) (names_get hx)
theorem unlock_app {S X : Store} {F : List (PV × PV)} : unlock (S ++ .dic true F :: X) [S.length] = S ++ .dic false F :: X := by
  show setLock _ _ false = _
  unfold setLock
  rw [get0]
  simp only
  rw [set0]
theorem byNm_at {b : Book} (hb : b.Wl) {t : List (Option Bool)} {i : Nat} {x : Bet} {o : Option Bool} (hx : b.bets[i]? = some x) (h : t[i]? = some o) : byNm b.names t x.name = o := byNm_get hb.bnd (names_get hx) h
theorem tdD_bot {b : Book} : tdD b (bot b) = b.bets.map fun x => (PV.str x.name, PV.str "open") := by
  unfold tdD bot Book.names
  generalize b.bets = l
  induction l with
  | nil => rfl
  | cons x l ih => simp [List.replicate_succ, ih]; rfl
@[simp] theorem tdD_length {b : Book} {t : List (Option Bool)} : (tdD b t).length ≤ b.bets.length := by
  simp [tdD, Book.names]; omega
section
variable {D : List Df} {G : List PV} {m : Nat} {S J : Store} {b : Book} {s t : List (Option Bool)} [Hd D f_names_of c_names_of] [Hd D f_is_entry c_is_entry]
theorem is_entry_true (hb : b.bets.length ≤ 1000) {q : Nat × Bool} (hq : q.1 < b.bets.length) : callP D G (m + 2) f_is_entry [b.pv, entP b q] S = .ok (.bool true) S := by
  have hx : b.bets[q.1]? = some b.bets[q.1] := List.getElem?_eq_getElem hq
  have hn : nmAt b q.1 ∈ b.names := by rw [nmAt_eq hx]; exact List.mem_map.mpr ⟨_, List.getElem_mem hq, rfl⟩
  have e : [PV.str (nmAt b q.1), PV.str (wordOf (some q.2))] = [nmAt b q.1, wordOf (some q.2)].map PV.str := rfl
  have e3 : cop .inn (.str (wordOf (some q.2))) (.tup [.str "won", .str "lost"]) = some true := by cases q.2 <;> decide
  have e4 : biv .all [.list [.bool true, .bool true]] = some (.bool true) := rfl
  rw [call_eq rfl]
  simp [c_is_entry, entP]
  rw [e, compE_mapA (fun _ => .bool true) (by simp) (fun x hx => ⟨_, rfl, by simp⟩)]
  simp [names_of_eq hb, hn, e3, e4]
variable [Hd D f_turned_over c_turned_over] [Hd D f_known_of c_known_of] [Hd D f_by_name c_by_name] [Hd D f_is_seen c_is_seen] [Hd D f_look_seen c_look_seen] [Hd D f_is_order c_is_order]
theorem is_order_true (hb : b.Wl) (hs : s.length = b.hs.length) (hlo : Lo S) (hm : 7 ≤ m) {f : List (Nat × Bool)} (hw : Wk b s f) (he : kf b s (tl b f) = tl b f) :
    callP D G (m + 1) f_is_order [b.pv, seenP s, .tup (f.map (entP b))] S = .ok (.bool true) S := by
  obtain ⟨m, rfl⟩ : ∃ k, m = k + 2 := ⟨m - 2, by omega⟩
  have hbl := hb.bl
  have hhl := hb.hl
  have hfl := hw.len
  have hnd : (b.bets.map fun x => PV.str x.name).Nodup := by
    have := nodup_str hb.bnd
    rw [Book.names, List.map_map] at this
    exact this
  rw [call_eq rfl]
  simp [c_is_order, look_seen_true hs (by omega)]
  rw [compE_mapA (fun _ => .bool true) (by omega) (fun q hq => ⟨_, rfl, by
    obtain ⟨j, hj⟩ := List.mem_iff_getElem?.mp hq
    have h1 := (hw.at (i := q.1) (v := q.2) hj).1
    have h2 := (List.getElem?_eq_some_iff.mp h1).1
    simp [is_entry_true (D := D) (G := G) (S := S) (m := m) (b := b) (by omega) (q := q) (by simpa using h2)]⟩)]
  simp [by_name_eq hb.hnd hs]
  rw [dcE_map _ (fun x : Bet => .str x.name) (fun _ => .str "open") (by omega) (fun x hx => by simp; rfl) (fun x hx => by simp [Bet.pv]) (fun x hx => by simp) (fun x hx => rfl) hnd, ← tdD_bot]
  simp [toRef]
  rw [dcE_map _ (fun x : Bet => .str x.name) (fun x : Bet => x.cond.pv) (by omega) (fun x hx => by simp; rfl) (fun x hx => by simp [Bet.pv]) (fun x hx => by simp [Bet.pv]) (fun x hx => rfl) hnd]
  simp
  have hcd : ∀ {i : Nat} {x : Bet}, b.bets[i]? = some x → dget (b.bets.map fun x => (PV.str x.name, x.cond.pv)) (.str x.name) = some x.cond.pv := fun hx => dget_map (f := fun x : Bet => PV.str x.name) (g := fun x : Bet => x.cond.pv) (List.mem_of_getElem? hx) hnd
  have hkn : ∀ (l : Bool) (t : List (Option Bool)) (x : Bet), t.length = b.bets.length → x ∈ b.bets → callP D G (m + 2) f_known_of [.dict ((b.hs.zip s).map fun p => (PV.str p.1, obP p.2)), .ref S.length, x.cond.pv] (S ++ [.dic l (tdD b t)]) = .ok (obP (kn (byNm b.hs s) (byNm b.names t) x.cond)) (S ++ [.dic l (tdD b t)]) := fun l t x ht hx =>
    known_of_ref (D := D) (G := G) (S := S ++ [.dic l (tdD b t)]) (sv := .dict ((b.hs.zip s).map fun p => (PV.str p.1, obP p.2))) (tv := .ref S.length) (hs := b.hs) (bs := b.names) rfl (res_dic get0) ⟨fun h m => lookup_seen m hs hb.hnd, fun x hx => tdD_get hb ht hx⟩ 4 (m + 1) x.cond (hb.cond x hx) (by omega)
  generalize hF : forE _ _ _ _ _ _ _ = o
  obtain ⟨ρ', S', rfl, rfl, v6, v7, v8, rfl⟩ : ∃ ρ' S', o = .next ρ' S' ∧ S' = S ++ [.dic false (tdD b (tl b (f.take (f.map (entP b)).length)))] ∧ ∃ v6 v7 v8 : Option PV, ρ' = [some b.pv, some (seenP s), some (.tup (f.map (entP b))), some (.dict (b.bets.map fun x => (PV.str x.name, x.cond.pv))), some (.dict ((b.hs.zip s).map fun p => (PV.str p.1, obP p.2))), some (.ref S.length), v6, v7, v8, none, none] := by
    rw [← hF]
    refine forE_inv (iv := { items := f.map (entP b) }) (fun j ρ' S' => S' = S ++ [.dic false (tdD b (tl b (f.take j)))] ∧ ∃ v6 v7 v8 : Option PV, ρ' = [some b.pv, some (seenP s), some (.tup (f.map (entP b))), some (.dict (b.bets.map fun x => (PV.str x.name, x.cond.pv))), some (.dict ((b.hs.zip s).map fun p => (PV.str p.1, obP p.2))), some (.ref S.length), v6, v7, v8, none, none]) rfl (fun _ _ _ _ => rfl) ?_ ⟨rfl, _, _, _, rfl⟩
    rintro j e ρ S1 hx ⟨rfl, v6, v7, v8, rfl⟩
    simp only [List.getElem?_map] at hx
    obtain ⟨⟨i, v⟩, hj, rfl⟩ := Option.map_eq_some_iff.mp hx
    obtain ⟨h1, h2⟩ := hw.at hj
    have htk : f.take (j + 1) = f.take j ++ [(i, v)] := by rw [List.take_succ, hj]; rfl
    have hi : i < b.bets.length := by
      have := (List.getElem?_eq_some_iff.mp h1).1
      simpa using this
    have hxb : b.bets[i]? = some b.bets[i] := List.getElem?_eq_getElem hi
    generalize hxe : b.bets[i] = x at hxb
    have hxm : x ∈ b.bets := List.mem_of_getElem? hxb
    have hk := hkn false (tl b (f.take j)) x (by simp) hxm
    rw [kf_at hxb] at h2
    have h2 : kn (byNm b.hs s) (byNm b.names (tl b (f.take j))) x.cond = some v := by simpa using h2
    rw [h2] at hk
    have hk : _ = Res.ok (PV.bool v) _ := hk
    have ho : byNm b.names (tl b (f.take j)) x.name = none := byNm_at hb hxb h1
    have hg := tdD_get hb (t := tl b (f.take j)) (by simp) (x := x.name) (List.mem_map.mpr ⟨x, hxm, rfl⟩)
    rw [ho] at hg
    have hw : wordOf (some v) = if v = true then Str.ofString "won" else Str.ofString "lost" := by cases v <;> rfl
    have hwn : wordOf none = Str.ofString "open" := rfl
    refine ⟨_, rfl, ?_⟩
    refine ex_next (by simp [nmAt_eq hxb, hcd hxb, hk, res_dic get0, hg, hwn, hw, put_dic get0 (show (tdD b (tl b (f.take j))).length ≤ 1000 by have := tdD_length (b := b) (t := tl b (f.take j)); omega)]; first | exact ⟨rfl, rfl⟩ | rfl) ?_
    refine ⟨?_, _, _, _, rfl⟩
    rw [← hw, tdD_put hb (by simp) hxb, htk, tl_snoc]
  have hft : f.take (f.map (entP b)).length = f := by simp
  rw [hft]
  simp [kKeys_ref get0, tdD_keys]
  rw [compE_filterL (fun nm : Str => decide (byNm b.names (tl b f) nm = none)) (fun _ => .bool true) (by simp [Book.names]; omega) (fun nm hnm => ⟨_, rfl, by
      simp [res_dic get0, tdD_get hb (t := tl b f) (by simp) hnm]
      rcases byNm b.names (tl b f) nm with _ | _ | _ <;> simp [wordOf], fun ht => by
      obtain ⟨x, hx, rfl⟩ := List.mem_map.mp hnm
      obtain ⟨i, hi⟩ := List.mem_iff_getElem?.mp hx
      have ht : byNm b.names (tl b f) x.name = none := by simpa using ht
      have hk := hkn true (tl b f) x (by simp) hx
      rw [← byNm_kf hb hx, he, ht] at hk
      have hk : _ = Res.ok PV.none _ := hk
      simp [hcd hi, hk]⟩)]
  rw [unlock_app]
  simp
  rw [show (b.names.all fun _ => true) = true from by simp]
  exact finish_app (v := .bool true) hlo rfl
end
end Bt
end
section
set_option maxHeartbeats 2000000
namespace Bt
open PySem
def leftOf (b : Book) (t : List (Option Bool)) : List Str := ((b.names.zip t).filter fun p => decide (p.2 = none)).map (·.1)
theorem zip_byNm {b : Book} (hb : b.Wl) {t : List (Option Bool)} (hl : t.length = b.bets.length) {p : Str × Option Bool} (h : p ∈ b.names.zip t) : p.1 ∈ b.names ∧ byNm b.names t p.1 = p.2 := by
  obtain ⟨i, hi⟩ := List.mem_iff_getElem?.mp h
  rw [List.getElem?_zip_eq_some] at hi
  exact ⟨List.mem_of_getElem? hi.1, byNm_get hb.bnd hi.1 hi.2⟩
theorem mem_zip {b : Book} (hb : b.Wl) {t : List (Option Bool)} (hl : t.length = b.bets.length) {nm : Str} (h : nm ∈ b.names) : (nm, byNm b.names t nm) ∈ b.names.zip t := by
  obtain ⟨i, hi⟩ := List.mem_iff_getElem?.mp h
  have h1 := (List.getElem?_eq_some_iff.mp hi).1
  have h3 : i < t.length := by simp [Book.names] at h1; omega
  have h2 : t[i]? = some t[i] := List.getElem?_eq_getElem h3
  rw [byNm_get hb.bnd hi h2]
  refine List.mem_iff_getElem?.mpr ⟨i, ?_⟩
  rw [List.getElem?_zip_eq_some]
  exact ⟨hi, h2⟩
theorem mem_left {b : Book} (hb : b.Wl) {t : List (Option Bool)} (hl : t.length = b.bets.length) {nm : Str} : nm ∈ leftOf b t ↔ nm ∈ b.names ∧ byNm b.names t nm = none := by
  unfold leftOf
  constructor
  · intro h
    obtain ⟨p, hp, rfl⟩ := List.mem_map.mp h
    obtain ⟨hp, h0⟩ := List.mem_filter.mp hp
    obtain ⟨h1, h2⟩ := zip_byNm hb hl hp
    exact ⟨h1, h2.trans (by simpa using h0)⟩
  · rintro ⟨h1, h2⟩
    have := mem_zip hb hl h1
    rw [h2] at this
    exact List.mem_map.mpr ⟨_, List.mem_filter.mpr ⟨this, by simp⟩, rfl⟩
theorem left_sub {b : Book} {t : List (Option Bool)} (hl : t.length = b.bets.length) : (leftOf b t).Sublist b.names := by
  unfold leftOf
  have h : ((b.names.zip t).filter fun p => decide (p.2 = none)).Sublist (b.names.zip t) := List.filter_sublist
  have h2 := h.map Prod.fst
  rwa [List.map_fst_zip (by simp [Book.names]; omega)] at h2
/-- what is left is closed -/
theorem left_closed {b : Book} (hb : b.Wl) {s : List (Option Bool)} : ((b.bets.filter fun x => decide (x.name ∈ leftOf b (fin b s))).all fun x => decide (kn (byNm b.hs s) (byNm b.names (opnd b (fin b s) (leftOf b (fin b s)))) x.cond = none)) = true := by
  have e : opnd b (fin b s) (leftOf b (fin b s)) = fin b s := by
    unfold opnd
    conv => rhs; rw [← byNm_all hb.bnd (t := fin b s) (by simp [Book.names])]
    apply List.map_congr_left
    intro nm hnm
    split
    · rename_i h
      exact ((mem_left hb (by simp)).mp h).2.symm
    · rfl
  rw [e, List.all_eq_true]
  intro x hx
  obtain ⟨hx, hl⟩ := List.mem_filter.mp hx
  have hl : x.name ∈ leftOf b (fin b s) := by simpa using hl
  have := byNm_kf hb (s := s) (t := fin b s) hx
  rw [kf_fin, ((mem_left hb (by simp)).mp hl).2] at this
  simp [← this]
/-- a lot closed that has no open one in it has no bet on a happening -/
theorem closed_is {b : Book} (hb : b.Wl) {s : List (Option Bool)} {lot : List Str} (h : ((b.bets.filter fun x => decide (x.name ∈ lot)).all fun x => decide (kn (byNm b.hs s) (byNm b.names (opnd b (fin b s) lot)) x.cond = none)) = true) (hd : ∀ nm ∈ lot, nm ∉ leftOf b (fin b s)) {x : Bet} (hx : x ∈ b.bets) (hxl : x.name ∈ lot) : ∀ hh, x.cond ≠ .isH hh := by
  intro hh e
  have h1 := List.all_eq_true.mp h x (List.mem_filter.mpr ⟨hx, by simpa using hxl⟩)
  rw [e] at h1
  have h1 : byNm b.hs s hh = none := of_decide_eq_true h1
  refine hd _ hxl ((mem_left hb (by simp)).mpr ⟨List.mem_map.mpr ⟨x, hx, rfl⟩, ?_⟩)
  have := byNm_kf hb (s := s) (t := fin b s) hx
  rw [kf_fin] at this
  rw [this, e]
  exact h1
theorem kn_congr {hs bs : List Str} {sn tn sn' tn' : Str → Option Bool} (h1 : ∀ x ∈ hs, sn x = sn' x) (h2 : ∀ x ∈ bs, tn x = tn' x) : ∀ (d : Nat) (c : Cd), Wf hs bs d c → kn sn tn c = kn sn' tn' c
  | 0, _, h => h.elim
  | d + 1, .isH x, h => h1 x h
  | d + 1, .won x, h => h2 x h
  | d + 1, .lost x, h => by show (tn x).map _ = (tn' x).map _; rw [h2 x h]
  | d + 1, .not c, h => by show (kn sn tn c).map _ = (kn sn' tn' c).map _; rw [kn_congr h1 h2 d c h]
  | d + 1, .some k cs, h => by
    show someOf k (knL sn tn cs) = someOf k (knL sn' tn' cs)
    rw [knL_map, knL_map]
    congr 1
    exact List.map_congr_left fun c hc => kn_congr h1 h2 d c (h.2.2.2 c hc)
def wide (b : Book) (x : Bet) : Book := { b with bets := b.bets ++ [x] }
theorem wide_it {b : Book} (hb : b.Wl) {x : Bet} (hx : x.name ∉ b.names) (s : List (Option Bool)) : ∀ k : Nat, ∃ o, it (wide b x) s k = it b s k ++ [o]
  | 0 => ⟨none, by simp [it, bot, wide, List.replicate_succ']⟩
  | k + 1 => by
    obtain ⟨o, e⟩ := wide_it hb hx s k
    refine ⟨kn (byNm b.hs s) (byNm (wide b x).names (it (wide b x) s k)) x.cond, ?_⟩
    show kf (wide b x) s (it (wide b x) s k) = kf b s (it b s k) ++ _
    unfold kf
    have e1 : (wide b x).bets = b.bets ++ [x] := rfl
    have e2 : (wide b x).hs = b.hs := rfl
    rw [e1, e2, List.map_append]
    congr 1
    apply List.map_congr_left
    intro y hy
    refine kn_congr (hs := b.hs) (bs := b.names) (fun _ _ => rfl) (fun nm hnm => ?_) 4 y.cond (hb.cond y hy)
    obtain ⟨i, hi⟩ := List.mem_iff_getElem?.mp hnm
    have hl := (List.getElem?_eq_some_iff.mp hi).1
    have hl2 : i < (it b s k).length := by simpa [Book.names] using hl
    have hn : (wide b x).names.Nodup := by
      have : (wide b x).names = b.names ++ [x.name] := by simp [wide, Book.names]
      rw [this, List.nodup_append]
      exact ⟨hb.bnd, by simp, fun a ha c hc e => hx (by simp at hc; rw [← hc, ← e]; exact ha)⟩
    have hi' : (wide b x).names[i]? = some nm := by
      have : (wide b x).names = b.names ++ [x.name] := by simp [wide, Book.names]
      rw [this, List.getElem?_append_left hl]; exact hi
    have ht := List.getElem?_eq_getElem hl2
    rw [byNm_get hb.bnd hi ht, byNm_get hn hi' (t := it (wide b x) s k) (o := (it b s k)[i]) (by rw [e, List.getElem?_append_left hl2]; exact ht)]
theorem wide_fin {b : Book} (hb : b.Wl) {x : Bet} (hx : x.name ∉ b.names) (s : List (Option Bool)) : ∃ o, fin (wide b x) s = fin b s ++ [o] := by
  obtain ⟨o, e⟩ := wide_it hb hx s (b.bets.length + 1)
  refine ⟨o, ?_⟩
  have e1 : fin (wide b x) s = it (wide b x) s (b.bets.length + 1) := by simp [fin, wide]
  have e2 : it b s (b.bets.length + 1) = fin b s := kf_fin
  rw [e1, e, e2]
theorem Wf.names {hs bs bs' : List Str} (h : ∀ x ∈ bs, x ∈ bs') : ∀ (d : Nat) (c : Cd), Wf hs bs d c → Wf hs bs' d c
  | 0, _, w => w.elim
  | d + 1, .isH x, w => w
  | d + 1, .won x, w => h x w
  | d + 1, .lost x, w => h x w
  | d + 1, .not c, w => Wf.names h d c w
  | d + 1, .some k cs, w => ⟨w.1, w.2.1, w.2.2.1, fun c hc => Wf.names h d c (w.2.2.2 c hc)⟩
theorem wide_wl {b : Book} (hb : b.Wl) {x : Bet} (hx : x.name ∉ b.names) (hl : b.bets.length ≤ 7) (hc : Wf b.hs (b.names ++ [x.name]) 4 x.cond) : (wide b x).Wl := by
  have e : (wide b x).names = b.names ++ [x.name] := by simp [wide, Book.names]
  refine ⟨hb.hnd, ?_, hb.hl, by simp [wide]; omega, fun y hy => ?_⟩
  · rw [e, List.nodup_append]
    exact ⟨hb.bnd, by simp, fun a ha c hc e => hx (by simp at hc; rw [← hc, ← e]; exact ha)⟩
  · rw [e]
    rcases List.mem_append.mp hy with hy | hy
    · exact Wf.names (fun z hz => List.mem_append_left _ hz) 4 _ (hb.cond y hy)
    · simp at hy; subst hy; exact hc
theorem TwS.split {L : Nat} {S X S' : Store} (hS : 2 ≤ S.length) (h : TwS L (S ++ X) S') : ∃ S1, S' = S1 ++ X ∧ S1.length = S.length ∧ (∀ i, 2 ≤ i → S1[i]? = S[i]?) ∧ Town L S1 := by
  have hl := h.len
  rw [List.length_append] at hl
  refine ⟨S'.take S.length, ?_, by simp; omega, fun i hi => ?_, ?_⟩
  · conv => lhs; rw [← List.take_append_drop S.length S']
    congr 1
    apply List.ext_getElem?
    intro i
    rw [List.getElem?_drop, h.rest _ (by omega), List.getElem?_append_right (by omega)]
    congr 1; omega
  · by_cases hi2 : i < S.length
    · rw [List.getElem?_take_of_lt hi2, h.rest i hi, List.getElem?_append_left hi2]
    · rw [List.getElem?_eq_none (by simp; omega), List.getElem?_eq_none (by omega)]
  · obtain ⟨r, c, e0, e1, hr⟩ := h.town
    exact ⟨r, c, by rw [List.getElem?_take_of_lt (by omega)]; exact e0, by rw [List.getElem?_take_of_lt (by omega)]; exact e1, hr⟩
theorem Town.app {L : Nat} {S X : Store} (h : Town L S) : Town L (S ++ X) := by
  have hl := town_len h
  obtain ⟨r, c, e0, e1, hr⟩ := h
  exact ⟨r, c, by rw [List.getElem?_append_left (by omega)]; exact e0, by rw [List.getElem?_append_left (by omega)]; exact e1, hr⟩
theorem TwS.of {L : Nat} {S S' : Store} (h1 : S'.length = S.length) (h2 : ∀ i, 2 ≤ i → S'[i]? = S[i]?) (h3 : Town L S') : TwS L S S' := ⟨h3, h1, h2⟩
/-- a draw over a store with more behind -/
theorem draw_app {D : List Df} {G : List PV} {ns : List Int} {n : Nat} {S X : Store} [Hd D f_law_draw c_law_draw] (hL : ns.length ≤ 63) {many : Int} (h1 : 1 ≤ many) (h2 : many < 1073741824) (ht : Town ns.length S) : ∃ (m : Int) (S' : Store), callP D G (n + 1) f_law_draw [.scr ns, .ref 1, .int many] (S ++ X) = .ok (.int m) (S' ++ X) ∧ 0 ≤ m ∧ m < many ∧ TwS ns.length S S' := by
  obtain ⟨m, S', e, m0, m1, t⟩ := draw_eq (D := D) (G := G) (n := n) hL h1 h2 (ht.app (X := X))
  obtain ⟨S1, rfl, l1, r1, t1⟩ := t.split (town_len ht)
  exact ⟨m, S1, e, m0, m1, TwS.of l1 r1 t1⟩
theorem dOkL_ints {l : List Nat} {n : Nat} : dOkL n (l.map fun i => PV.int (i : Nat)) = true := by
  induction l with
  | nil => rfl
  | cons x l ih => show (dOk n (.int (x : Nat)) && dOkL n (l.map fun i => PV.int (i : Nat))) = true; rw [ih]; cases n <;> rfl
theorem eq_listnil {xs : List PV} (h : dOkL 63 xs = true) : cop .eq (.list xs) (.list []) = some xs.isEmpty := by
  show (if (dOkL 63 xs) && dOk 64 (.list []) then some (peq (.list xs) (.list [])) else none) = _
  rw [h, if_pos (by rfl)]
  cases xs <;> rfl
theorem ne_listnil {xs : List PV} (h : dOkL 63 xs = true) : cop .ne (.list xs) (.list []) = some (!xs.isEmpty) := by
  show (cop .eq (.list xs) (.list [])).map (!·) = _
  rw [eq_listnil h]; rfl
theorem eq_tupnil {xs : List PV} (h : dOkL 63 xs = true) : cop .eq (.tup xs) (.tup []) = some xs.isEmpty := by
  show (if (dOkL 63 xs) && dOk 64 (.tup []) then some (peq (.tup xs) (.tup [])) else none) = _
  rw [h, if_pos (by rfl)]
  cases xs <;> rfl
theorem ne_tupnil {xs : List PV} (h : dOkL 63 xs = true) : cop .ne (.tup xs) (.tup []) = some (!xs.isEmpty) := by
  show (cop .eq (.tup xs) (.tup [])).map (!·) = _
  rw [eq_tupnil h]; rfl
theorem peqL_strs : ∀ {l m : List Str}, peqL (l.map PV.str) (m.map PV.str) = decide (l = m)
  | [], [] => by simp [peqL]
  | [], _ :: _ => by simp [peqL]
  | _ :: _, [] => by simp [peqL]
  | a :: l, c :: m => by
    rw [List.map_cons, List.map_cons]
    show (peq (.str a) (.str c) && peqL (l.map PV.str) (m.map PV.str)) = _
    rw [peqL_strs]
    show ((a == c) && _) = _
    by_cases h : a = c <;> by_cases h' : l = m <;> simp [h, h']
theorem eq_strs {l m : List Str} : cop .eq (.tup (l.map PV.str)) (.tup (m.map PV.str)) = some (decide (l = m)) := by
  show (if (dOkL 63 (l.map PV.str)) && (dOkL 63 (m.map PV.str)) then some (peqL (l.map PV.str) (m.map PV.str)) else none) = _
  rw [dOk_strs, dOk_strs, peqL_strs]; rfl
theorem ne_strs {l m : List Str} : cop .ne (.tup (l.map PV.str)) (.tup (m.map PV.str)) = some (!decide (l = m)) := by
  show (cop .eq (.tup (l.map PV.str)) (.tup (m.map PV.str))).map (!·) = _
  rw [eq_strs]; rfl
theorem words_inj : ∀ {l m : List (Option Bool)}, l.map wordOf = m.map wordOf → l = m
  | [], [], _ => rfl
  | [], _ :: _, h => by simp at h
  | _ :: _, [], h => by simp at h
  | a :: l, c :: m, h => by
    rw [List.map_cons, List.map_cons, List.cons.injEq] at h
    rw [wordOf_inj h.1, words_inj h.2]
theorem toldP_map (t : List (Option Bool)) : toldP t = .tup ((t.map wordOf).map PV.str) := by simp [toldP]
theorem ne_told {l m : List (Option Bool)} : cop .ne (toldP l) (toldP m) = some (!decide (l = m)) := by
  rw [toldP_map, toldP_map, ne_strs]
  by_cases h : l = m
  · subst h; simp
  · have : ¬ l.map wordOf = m.map wordOf := fun e => h (words_inj e)
    simp [h, this]
@[simp] theorem res_told {t : List (Option Bool)} {S : Store} : res S (toldP t) = toldP t := rfl
@[simp] theorem res_seen {t : List (Option Bool)} {S : Store} : res S (seenP t) = seenP t := rfl
@[simp] theorem res_end {t : List (Option Bool)} {S : Store} : res S (endP t) = endP t := rfl
end Bt
end
section
set_option maxHeartbeats 2000000
namespace Bt
open PySem
def All2 {α β : Type} (R : α → β → Prop) : List α → List β → Prop
  | [], [] => True
  | x :: xs, y :: ys => R x y ∧ All2 R xs ys
  | _, _ => False
theorem All2.length {α β : Type} {R : α → β → Prop} : ∀ {xs : List α} {ys : List β}, All2 R xs ys → ys.length = xs.length
  | [], [], _ => rfl
  | x :: xs, y :: ys, h => by simp [All2.length h.2]
theorem All2.imp {α β : Type} {R Q : α → β → Prop} (hi : ∀ x y, R x y → Q x y) : ∀ {xs : List α} {ys : List β}, All2 R xs ys → All2 Q xs ys
  | [], [], _ => trivial
  | x :: xs, y :: ys, h => ⟨hi _ _ h.1, All2.imp hi h.2⟩
theorem All2.more {s s' : List (Option Bool)} (h : All2 (fun a b => a = none ∨ b = a) s s') : More s s' := by
  induction s generalizing s' with
  | nil => cases s' with
    | nil => trivial
    | cons b s' => exact h.elim
  | cons a s ih => cases s' with
    | nil => exact h.elim
    | cons b s' => exact ⟨h.1, ih h.2⟩
section
variable {φ : Calls} {G : List PV} {tg : Tg} {ρ : Env} {S : Store}
theorem comp_inv2 {α Y : Type} {F : α → PV} {tst : Env → Store → Res Bool} {el : Env → Store → Res PV} (val : Y → PV) (R : α → Y → Prop) (P : Store → Prop) (ht : ∀ ρ S, tst ρ S = .ok true S) : ∀ {xs : List α} {S : Store}, (∀ x ∈ xs, ∃ ρ', assign tg (F x) ρ = some ρ' ∧ ∀ S, P S → ∃ y S', el ρ' S = .ok (val y) S' ∧ R x y ∧ P S') → P S → ∃ (ys : List Y) (S' : Store), compLoop [] tg ρ tst el (xs.map F) S = .ok (ys.map val) S' ∧ All2 R xs ys ∧ P S'
  | [], S, _, h => ⟨[], S, by simp [compLoop, guardOk], trivial, h⟩
  | x :: xs, S, hf, h => by
    obtain ⟨ρ', e0, hf0⟩ := hf x List.mem_cons_self
    obtain ⟨y, S1, e1, r1, p1⟩ := hf0 S h
    obtain ⟨ys, S2, e2, r2, p2⟩ := comp_inv2 (F := F) (tst := tst) (el := el) val R P ht (xs := xs) (S := S1) (fun y hy => hf y (List.mem_cons_of_mem _ hy)) p1
    exact ⟨y :: ys, S2, by simp [compLoop, guardOk, e0, ht, e1, e2], ⟨r1, r2⟩, p2⟩
/-- a comprehension that draws, entry by entry -/
theorem compE_inv2 {α Y : Type} {F : α → PV} {elt : Ex} {xs : List α} (val : Y → PV) (R : α → Y → Prop) (P : Store → Prop) (hl : xs.length ≤ 1000) (hf : ∀ x ∈ xs, ∃ ρ', assign tg (F x) ρ = some ρ' ∧ ∀ S, P S → ∃ y S', evE φ G elt ρ' S = .ok (val y) S' ∧ R x y ∧ P S') (h : P S) : ∃ (ys : List Y) (S' : Store), compE φ G elt tg [] ρ { items := xs.map F } S = .ok (.list (ys.map val)) S' ∧ All2 R xs ys ∧ P S' := by
  obtain ⟨ys, S', e, r, p⟩ := comp_inv2 (tst := evTs φ G []) (el := evE φ G elt) (tg := tg) (ρ := ρ) (F := F) val R P (fun _ _ => by simp) hf h
  refine ⟨ys, S', ?_, r, p⟩
  unfold compE
  rw [if_pos (by rw [sizeLine_eq, List.length_map]; omega), e]
  rfl
theorem comp_filt {α : Type} {F : α → PV} {tst : Env → Store → Res Bool} {el : Env → Store → Res PV} (f : α → PV) (P : Store → Prop) : ∀ {xs : List α} {S : Store}, (∀ x ∈ xs, ∃ ρ', assign tg (F x) ρ = some ρ' ∧ ∀ S, P S → ∃ t S', tst ρ' S = .ok t S' ∧ P S' ∧ (t = true → el ρ' S' = .ok (f x) S')) → P S → ∃ (ys : List α) (S' : Store), compLoop [] tg ρ tst el (xs.map F) S = .ok (ys.map f) S' ∧ ys.Sublist xs ∧ P S'
  | [], S, _, h => ⟨[], S, by simp [compLoop, guardOk], .slnil, h⟩
  | x :: xs, S, hf, h => by
    obtain ⟨ρ', e0, hf0⟩ := hf x List.mem_cons_self
    obtain ⟨t, S1, e1, p1, e3⟩ := hf0 S h
    obtain ⟨ys, S2, e2, r2, p2⟩ := comp_filt (F := F) (tst := tst) (el := el) f P (xs := xs) (S := S1) (fun y hy => hf y (List.mem_cons_of_mem _ hy)) p1
    cases t with
    | true => exact ⟨x :: ys, S2, by simp [compLoop, guardOk, e0, e1, e2, e3 rfl], r2.cons₂ x, p2⟩
    | false => exact ⟨ys, S2, by simp [compLoop, guardOk, e0, e1, e2], r2.cons x, p2⟩
/-- a comprehension whose test draws -/
theorem compE_filt {α : Type} {F : α → PV} {elt : Ex} {ifs : List Ex} {xs : List α} (f : α → PV) (P : Store → Prop) (hl : xs.length ≤ 1000) (hf : ∀ x ∈ xs, ∃ ρ', assign tg (F x) ρ = some ρ' ∧ ∀ S, P S → ∃ t S', evTs φ G ifs ρ' S = .ok t S' ∧ P S' ∧ (t = true → evE φ G elt ρ' S' = .ok (f x) S')) (h : P S) : ∃ (ys : List α) (S' : Store), compE φ G elt tg ifs ρ { items := xs.map F } S = .ok (.list (ys.map f)) S' ∧ ys.Sublist xs ∧ P S' := by
  obtain ⟨ys, S', e, r, p⟩ := comp_filt (tst := evTs φ G ifs) (el := evE φ G elt) (tg := tg) (ρ := ρ) (F := F) f P hf h
  refine ⟨ys, S', ?_, r, p⟩
  unfold compE
  rw [if_pos (by rw [sizeLine_eq, List.length_map]; omega), e]
  rfl
end
def negV : PV → Option PV
  | .int i => some (.int (-i))
  | _ => none
@[simp] theorem negV_int {i : Int} : negV (.int i) = some (.int (-i)) := rfl
def kNeg (v : PV) (S : Store) : Res PV := Res.ofO (negV v) S
@[simp] theorem kNeg_eq {v : PV} {S : Store} : kNeg v S = Res.ofO (negV v) S := rfl
@[simp] theorem e_neg {φ : Calls} {G : List PV} {a : Ex} {ρ : Env} {S : Store} : evE φ G (.neg a) ρ S = (evE φ G a ρ S).bind kNeg := by
  conv => lhs; unfold evE
  congr 1; funext v S; cases v <;> rfl
theorem add_list {xs ys : List PV} (h : xs.length + ys.length ≤ 1000) : bop .add (.list xs) (.list ys) = some (.list (xs ++ ys)) := by
  show (if xs.length + ys.length ≤ sizeLine then some (PV.list (xs ++ ys)) else none) = _
  rw [if_pos (by rw [sizeLine_eq]; omega)]
theorem More.zip : ∀ {l m : List (Option Bool)}, More l m → ∀ p ∈ l.zip m, Le p.1 p.2
  | [], [], _, p, h => by simp at h
  | a :: l, b :: m, hm, p, h => by
    rw [List.zip_cons_cons] at h
    rcases List.mem_cons.mp h with rfl | h
    · exact hm.1
    · exact More.zip hm.2 p h
theorem wd_len {s : List (Option Bool)} {w : List Bool} (h : More s (wd w)) : (wd w).length = s.length := h.length
theorem fit_more {s : List (Option Bool)} {w : List Bool} (h : w ∈ fitL s [[]]) : More s (wd w) := by
  obtain ⟨r, hr, u, rfl, hu⟩ := fitL_mem h
  simp at hr; subst hr
  simpa using hu
end Bt
end
section
set_option maxHeartbeats 4000000
namespace Bt
open PySem
mutual
/-- data: whole numbers, truths, None, texts, lists and tuples of such -/
def PV.dat : PV → Bool
  | .none | .bool _ | .int _ | .str _ => true
  | .tup xs => datL xs
  | .list xs => datL xs
  | .dict _ | .ref _ | .exc _ _ | .fn _ | .scr _ => false
def datL : List PV → Bool
  | [] => true
  | x :: xs => x.dat && datL xs
end
theorem datL_iff {xs : List PV} : datL xs = true ↔ ∀ x ∈ xs, x.dat = true := by
  induction xs with
  | nil => simp [datL]
  | cons x xs ih => simp [datL, ih]
theorem dat_res {x : PV} {S : Store} (h : x.dat = true) : res S x = x := by
  cases x <;> first | rfl | (simp [PV.dat] at h)
def PV.isTup : PV → Bool
  | .tup _ => true
  | _ => false
def PV.isStr : PV → Bool
  | .str _ => true
  | _ => false
def PV.isBool : PV → Bool
  | .bool _ => true
  | _ => false
def PV.isInt : PV → Bool
  | .int _ | .bool _ => true
  | _ => false
theorem dat_tup {x : PV} (h : x.dat = true) : biv (.isinst .tuple) [x] = some (.bool x.isTup) := by
  cases x <;> first | rfl | (simp [PV.dat] at h)
theorem dat_str {x : PV} (h : x.dat = true) : biv (.isinst .str) [x] = some (.bool x.isStr) := by
  cases x <;> first | rfl | (simp [PV.dat] at h)
theorem dat_bool {x : PV} (h : x.dat = true) : biv (.isinst .bool) [x] = some (.bool x.isBool) := by
  cases x <;> first | rfl | (simp [PV.dat] at h)
theorem dat_int {x : PV} (h : x.dat = true) : biv (.isinst .int) [x] = some (.bool x.isInt) := by
  cases x <;> first | rfl | (simp [PV.dat] at h)
/-- None or a truth -/
def PV.isOb : PV → Bool
  | .none | .bool _ => true
  | _ => false
def isSeenB (n : Nat) : PV → Bool
  | .tup xs => decide (xs.length = n) && xs.all PV.isOb
  | _ => false
def isWorldB (n : Nat) : PV → Bool
  | .tup xs => decide (xs.length = n) && xs.all PV.isBool
  | _ => false
def isWordB : PV → Bool
  | .str w => decide (w = "lost" ∨ w = "open" ∨ w = "won")
  | _ => false
def isToldB (n : Nat) : PV → Bool
  | .tup xs => decide (xs.length = n) && xs.all isWordB
  | _ => false
section
variable {D : List Df} {G : List PV} {n : Nat} {S : Store} {b : Book} {x : PV}
theorem is_seen_eq [Hd D f_is_seen c_is_seen] (hx : x.dat = true) (hl : b.hs.length ≤ 1000) : callP D G (n + 1) f_is_seen [b.pv, x] S = .ok (.bool (isSeenB b.hs.length x)) S := by
  rw [call_eq rfl]
  have e0 : ∀ X, res X b.pv = .tup [stP b.hs, stP people, .tup (b.bets.map Bet.pv)] := fun X => rfl
  cases x with
  | tup xs =>
    by_cases h : xs.length = b.hs.length
    · simp [c_is_seen, e0, stP, isSeenB, h]
      have em : xs = xs.map id := by simp
      rw [em, compE_mapA (fun x => .bool x.isOb) (by omega) (fun y hy => ⟨_, rfl, by
        have hd := datL_iff.mp hx y hy
        cases y <;> first | (simp [PV.isOb]; done) | (simp [PV.dat] at hd)⟩)]
      simp
    · have h' : ¬ ((xs.length : Int) = (b.hs.length : Int)) := by omega
      simp [c_is_seen, e0, stP, isSeenB, h, h']
  | none => simp [c_is_seen, isSeenB]
  | bool v => simp [c_is_seen, isSeenB]
  | int i => simp [c_is_seen, isSeenB]
  | str z => simp [c_is_seen, isSeenB]
  | list xs => simp [c_is_seen, isSeenB]
  | _ => simp [PV.dat] at hx
theorem look_seen_no [Hd D f_is_seen c_is_seen] [Hd D f_look_seen c_look_seen] (hx : x.dat = true) (hl : b.hs.length ≤ 1000) (h : isSeenB b.hs.length x = false) : callP D G (n + 2) f_look_seen [b.pv, x] S = .exc (.exc 0 []) S := by
  rw [call_eq rfl]
  simp [c_look_seen, is_seen_eq hx hl, h]
theorem look_seen_yes [Hd D f_is_seen c_is_seen] [Hd D f_look_seen c_look_seen] (hx : x.dat = true) (hl : b.hs.length ≤ 1000) (h : isSeenB b.hs.length x = true) : callP D G (n + 2) f_look_seen [b.pv, x] S = .ok .none S := by
  rw [call_eq rfl]
  simp [c_look_seen, is_seen_eq hx hl, h]
theorem none_in_ob {xs : List PV} (h : xs.all PV.isOb = true) : cop .inn .none (.tup xs) = some (!xs.all PV.isBool) := by
  have hf : xs.all flatP = true := by
    rw [List.all_eq_true] at h ⊢
    intro y hy
    have := h y hy
    cases y <;> first | rfl | (simp [PV.isOb] at this)
  show (if flatP .none && xs.all flatP then some (xs.any fun z => peq z .none) else none) = _
  rw [hf]
  have : (xs.any fun z => peq z .none) = !xs.all PV.isBool := by
    induction xs with
    | nil => rfl
    | cons y xs ih =>
      simp only [List.all_cons, Bool.and_eq_true] at h hf
      rw [List.any_cons, List.all_cons, ih h.2 hf.2]
      have := h.1
      cases y <;> first | (simp [peq, PV.isBool]; done) | (simp [PV.isOb] at this)
  rw [this]
  rfl
theorem look_world_no [Hd D f_is_seen c_is_seen] [Hd D f_look_world c_look_world] (hx : x.dat = true) (hl : b.hs.length ≤ 1000) (h : isWorldB b.hs.length x = false) : callP D G (n + 2) f_look_world [b.pv, x] S = .exc (.exc 3 []) S := by
  rw [call_eq rfl]
  cases hs : isSeenB b.hs.length x with
  | false => simp [c_look_world, is_seen_eq hx hl, hs]
  | true =>
    cases x with
    | tup xs =>
      simp only [isSeenB, Bool.and_eq_true, decide_eq_true_eq] at hs
      simp only [isWorldB, hs.1, decide_true, Bool.true_and] at h
      have hq : isSeenB b.hs.length (.tup xs) = true := by simp only [isSeenB, hs.1, hs.2]; simp
      simp [c_look_world, is_seen_eq hx hl, hq, none_in_ob hs.2, h]
    | _ => simp [isSeenB] at hs
theorem are_told_eq [Hd D f_are_told c_are_told] [Gd G 2 statesP] (hx : x.dat = true) (hl : b.bets.length ≤ 1000) : callP D G (n + 1) f_are_told [b.pv, x] S = .ok (.bool (isToldB b.bets.length x)) S := by
  rw [call_eq rfl]
  have e0 : ∀ X, res X b.pv = .tup [stP b.hs, stP people, .tup (b.bets.map Bet.pv)] := fun X => rfl
  cases x with
  | tup xs =>
    by_cases h : xs.length = b.bets.length
    · simp [c_are_told, e0, stP, isToldB, h]
      have em : xs = xs.map id := by simp
      rw [em, compE_mapA (fun x => .bool (isWordB x)) (by omega) (fun y hy => ⟨_, rfl, by
        have hd := datL_iff.mp hx y hy
        have hin : ∀ z : Str, cop .inn (.str z) statesP = some (decide (z = "lost" ∨ z = "open" ∨ z = "won")) := fun z => by
          have := @in_tup z ["lost", "open", "won"]
          simpa [statesP] using this
        cases y with
        | str z => simp [isWordB, glo_eq, hin, statesP] at *; simp [hin]
        | _ => first | (simp [isWordB]; done) | (simp [PV.dat] at hd)⟩)]
      simp
    · have h' : ¬ ((xs.length : Int) = (b.bets.length : Int)) := by omega
      simp [c_are_told, e0, stP, isToldB, h, h']
  | none => simp [c_are_told, isToldB]
  | bool v => simp [c_are_told, isToldB]
  | int i => simp [c_are_told, isToldB]
  | str z => simp [c_are_told, isToldB]
  | list xs => simp [c_are_told, isToldB]
  | _ => simp [PV.dat] at hx
end
end Bt
end
section
set_option maxHeartbeats 4000000
namespace Bt
open PySem
def isKnownB (names : List Str) : PV → Bool
  | .str z => decide (z ∈ names)
  | _ => false
def isNumB (a c : Int) : PV → Bool
  | .int i => decide (a ≤ i) && decide (i ≤ c)
  | _ => false
def condNames (hs bs : List Str) (w : Str) : List Str := if w = "is" then hs else if w = "won" then bs else if w = "lost" then bs else []
def isCondB (hs bs : List Str) : Nat → PV → Bool
  | 0, _ => false
  | d + 1, .tup [.str w, x] => if w = "not" then isCondB hs bs d x else isKnownB (condNames hs bs w) x
  | d + 1, .tup [.str w, y, .tup cs] => decide (w = "some") && decide (1 ≤ cs.length) && decide (cs.length ≤ 4) && isNumB 1 cs.length y && cs.all (isCondB hs bs d)
  | _ + 1, _ => false
section
variable {D : List Df} {G : List PV} {S : Store} {x : PV}
theorem is_known_eq {n : Nat} [Hd D f_is_known c_is_known] {names : List Str} (hx : x.dat = true) : callP D G (n + 1) f_is_known [.tup (names.map .str), x] S = .ok (.bool (isKnownB names x)) S := by
  rw [call_eq rfl]
  cases x with
  | str z => simp [c_is_known, isKnownB]
  | none => simp [c_is_known, isKnownB]
  | bool v => simp [c_is_known, isKnownB]
  | int i => simp [c_is_known, isKnownB]
  | tup xs => simp [c_is_known, isKnownB]
  | list xs => simp [c_is_known, isKnownB]
  | _ => simp [PV.dat] at hx
theorem is_known_eqL {n : Nat} [Hd D f_is_known c_is_known] {names : List Str} (hx : x.dat = true) : callP D G (n + 1) f_is_known [.list (names.map .str), x] S = .ok (.bool (isKnownB names x)) S := by
  rw [call_eq rfl]
  cases x with
  | str z => simp [c_is_known, isKnownB]
  | none => simp [c_is_known, isKnownB]
  | bool v => simp [c_is_known, isKnownB]
  | int i => simp [c_is_known, isKnownB]
  | tup xs => simp [c_is_known, isKnownB]
  | list xs => simp [c_is_known, isKnownB]
  | _ => simp [PV.dat] at hx
theorem is_num_eq {n : Nat} [Hd D f_is_number c_is_number] {a c : Int} (hx : x.dat = true) : callP D G (n + 1) f_is_number [x, .int a, .int c] S = .ok (.bool (isNumB a c x)) S := by
  rw [call_eq rfl]
  cases x with
  | int i => by_cases h : a ≤ i <;> simp [c_is_number, isNumB, h]
  | none => simp [c_is_number, isNumB]
  | bool v => simp [c_is_number, isNumB]
  | str i => simp [c_is_number, isNumB]
  | tup xs => simp [c_is_number, isNumB]
  | list xs => simp [c_is_number, isNumB]
  | _ => simp [PV.dat] at hx
theorem notin23 {k : Nat} : cop .notin (.int (k : Nat)) (.tup [.int 2, .int 3]) = some (!(decide (k = 2) || decide (k = 3))) := by
  show (cop .inn (.int (k : Nat)) (.tup [.int 2, .int 3])).map (!·) = _
  have : cop .inn (.int (k : Nat)) (.tup [.int 2, .int 3]) = some (decide (k = 2) || decide (k = 3)) := by
    show some (((2 : Int) == (k : Nat)) || (((3 : Int) == (k : Nat)) || false)) = _
    congr 1
    by_cases h2 : k = 2
    · subst h2; rfl
    · by_cases h3 : k = 3
      · subst h3; rfl
      · have e2 : ((2 : Int) == (k : Nat)) = false := by simp; omega
        have e3 : ((3 : Int) == (k : Nat)) = false := by simp; omega
        simp [h2, h3, e2, e3]
  rw [this]; rfl
theorem len_dat {xs : List PV} : xs = [] ∨ (∃ a, xs = [a]) ∨ (∃ a b, xs = [a, b]) ∨ (∃ a b c, xs = [a, b, c]) ∨ 4 ≤ xs.length := by
  match xs with
  | [] => exact .inl rfl
  | [a] => exact .inr (.inl ⟨a, rfl⟩)
  | [a, b] => exact .inr (.inr (.inl ⟨a, b, rfl⟩))
  | [a, b, c] => exact .inr (.inr (.inr (.inl ⟨a, b, c, rfl⟩)))
  | a :: b :: c :: d :: r => exact .inr (.inr (.inr (.inr (by simp))))
theorem is_condition_of_eq [Hd D f_is_number c_is_number] [Hd D f_is_known c_is_known] [Hd D f_is_condition_of c_is_condition_of] {hs bs : List Str} : ∀ (d n : Nat) (x : PV), x.dat = true → d ≤ n →
    callP D G (n + 2) f_is_condition_of [.tup (hs.map .str), .list (bs.map .str), x, .int (d : Nat)] S = .ok (.bool (isCondB hs bs d x)) S
  | d, n, .none, _, _ => by rw [call_eq rfl]; cases d <;> simp [c_is_condition_of, isCondB]
  | d, n, .bool v, _, _ => by rw [call_eq rfl]; cases d <;> simp [c_is_condition_of, isCondB]
  | d, n, .int i, _, _ => by rw [call_eq rfl]; cases d <;> simp [c_is_condition_of, isCondB]
  | d, n, .str z, _, _ => by rw [call_eq rfl]; cases d <;> simp [c_is_condition_of, isCondB]
  | d, n, .list xs, _, _ => by rw [call_eq rfl]; cases d <;> simp [c_is_condition_of, isCondB]
  | d, n, .tup xs, hx, hn => by
    rw [call_eq rfl]
    have hx' := datL_iff.mp hx
    rcases len_dat (xs := xs) with rfl | ⟨a, rfl⟩ | ⟨a, c, rfl⟩ | ⟨a, c, e, rfl⟩ | h4
    · have := notin23 (k := 0)
      cases d <;> simp [c_is_condition_of, isCondB] at this ⊢ <;> simp [this]
    · have := notin23 (k := 1)
      cases d <;> simp [c_is_condition_of, isCondB] at this ⊢ <;> simp [this]
    · have h23 : cop .notin (.int 2) (.tup [.int 2, .int 3]) = some false := rfl
      have ha := hx' a (by simp)
      have hc := hx' c (by simp)
      cases a with
      | str w =>
        cases d with
        | zero => simp [c_is_condition_of, isCondB, h23]
        | succ d =>
          obtain ⟨n, rfl⟩ : ∃ k, n = k + 1 := ⟨n - 1, by omega⟩
          have hd0 : ¬ (((d + 1 : Nat) : Int) = 0) := by omega
          have hd1 : ((d + 1 : Nat) : Int) - 1 = (d : Nat) := by omega
          by_cases hw : w = "not"
          · subst hw
            simp [c_is_condition_of, isCondB, h23, -Int.natCast_add, hd0, hd1, is_condition_of_eq d n c hc (by omega)]
          · by_cases h1 : w = "is"
            · subst h1
              simp [c_is_condition_of, isCondB, h23, -Int.natCast_add, hd0, condNames, is_known_eq hc]
            · by_cases h2 : w = "won"
              · subst h2
                simp [c_is_condition_of, isCondB, h23, -Int.natCast_add, hd0, condNames, is_known_eqL hc]
              · by_cases h3 : w = "lost"
                · subst h3
                  simp [c_is_condition_of, isCondB, h23, -Int.natCast_add, hd0, condNames, is_known_eqL hc]
                · have k1 : ¬ Str.ofString "is" = w := fun e => h1 e.symm
                  have k2 : ¬ Str.ofString "won" = w := fun e => h2 e.symm
                  have k3 : ¬ Str.ofString "lost" = w := fun e => h3 e.symm
                  have hk := is_known_eq (D := D) (G := G) (S := S) (n := n + 1) (x := c) (names := []) hc
                  rw [List.map_nil] at hk
                  simp [c_is_condition_of, isCondB, h23, -Int.natCast_add, hd0, condNames, hw, h1, h2, h3, k1, k2, k3, hk]
      | _ => first | (simp [PV.dat] at ha; done) | (cases d <;> simp [c_is_condition_of, isCondB, h23])
    · have h23 : cop .notin (.int 3) (.tup [.int 2, .int 3]) = some false := rfl
      have ha := hx' a (by simp)
      have hc := hx' c (by simp)
      have he := hx' e (by simp)
      cases a with
      | str w =>
        cases d with
        | zero => simp [c_is_condition_of, isCondB, h23]
        | succ d =>
          obtain ⟨n, rfl⟩ : ∃ k, n = k + 1 := ⟨n - 1, by omega⟩
          have hd0 : ¬ (((d + 1 : Nat) : Int) = 0) := by omega
          have hd1 : ((d + 1 : Nat) : Int) - 1 = (d : Nat) := by omega
          by_cases hw : w = "some"
          · subst hw
            cases e with
            | tup cs =>
              by_cases l1 : 1 ≤ cs.length
              · by_cases l4 : cs.length ≤ 4
                · have j1 : (1 : Int) ≤ (cs.length : Nat) := by omega
                  have j4 : ((cs.length : Nat) : Int) ≤ 4 := by omega
                  cases hnum : isNumB 1 cs.length c with
                  | false => simp [c_is_condition_of, isCondB, h23, -Int.natCast_add, hd0, j1, j4, is_num_eq hc, hnum]
                  | true =>
                    simp [c_is_condition_of, isCondB, h23, -Int.natCast_add, hd0, j1, j4, l1, l4, is_num_eq hc, hnum]
                    have em : cs = cs.map id := by simp
                    have hcs := datL_iff.mp he
                    rw [em, compE_mapA (fun y => .bool (isCondB hs bs d y)) (by omega) (fun y hy => ⟨_, rfl, by
                      simp [-Int.natCast_add, hd1, is_condition_of_eq d n y (hcs y hy) (by omega)]⟩)]
                    simp
                · have j1 : (1 : Int) ≤ (cs.length : Nat) := by omega
                  have j4 : ¬ ((cs.length : Nat) : Int) ≤ 4 := by omega
                  simp [c_is_condition_of, isCondB, h23, -Int.natCast_add, hd0, j1, j4, l4]
              · have j1 : ¬ (1 : Int) ≤ (cs.length : Nat) := by omega
                simp [c_is_condition_of, isCondB, h23, -Int.natCast_add, hd0, j1, l1]
            | _ => first | (simp [PV.dat] at he; done) | simp [c_is_condition_of, isCondB, h23, -Int.natCast_add, hd0]
          · cases e <;> simp [c_is_condition_of, isCondB, h23, -Int.natCast_add, hd0, hw]
      | _ => first | (simp [PV.dat] at ha; done) | (cases d <;> simp [c_is_condition_of, isCondB, h23])
    · have h23 := notin23 (k := xs.length)
      have e2 : ¬ xs.length = 2 := by omega
      have e3 : ¬ xs.length = 3 := by omega
      simp [e2, e3] at h23
      have hf : isCondB hs bs d (.tup xs) = false := by
        match xs, h4 with
        | a :: b :: c :: e :: r, _ => cases d <;> simp [isCondB]
      simp [c_is_condition_of, h23, hf]
end
end Bt
end
section
set_option maxHeartbeats 4000000
namespace Bt
open PySem
theorem cntT_filter (l : List (Option Bool)) : (l.filter fun o => decide (o = some true)).length = cntT l := by rw [cntT, List.countP_eq_length_filter]
theorem cntF_filter (l : List (Option Bool)) : (l.filter fun o => !decide (o = some false)).length = l.length - cntF l := by
  have : (l.filter fun o => !decide (o = some false)).length + cntF l = l.length := by
    induction l with
    | nil => rfl
    | cons a l ih =>
      rw [cntF_cons, List.filter_cons, List.length_cons]
      by_cases h : a = some false <;> simp [h] <;> omega
  omega
@[simp] theorem isnot_false_ob {a : Option Bool} : cop .isnot (obP a) (.bool false) = some (!decide (a = some false)) := by rcases a with _ | _ | _ <;> decide +kernel
section
variable {D : List Df} {G : List PV} {n : Nat} {S : Store}
theorem law_is_eq [Hd D f_law_is c_law_is] {a c : Bool} : callP D G (n + 1) f_law_is [.bool a, .bool c] S = .ok (.bool (decide (a = c))) S := by
  rw [call_eq rfl]
  simp [c_law_is]
theorem law_value_eq [Hd D f_law_value c_law_value] {hs bs : List Str} {sd td : List (PV × PV)} {sn tn : Str → Option Bool} {sv tv : PV} (hsv : res S sv = .dict sd) (htv : res S tv = .dict td) (sees : Sees hs bs sd td sn tn) : ∀ (d n : Nat) (c : Cd), Wf hs bs d c → d ≤ n →
    callP D G (n + 1) f_law_value [sv, tv, c.pv] S = .ok (obP (kn sn tn c)) S
  | 0, n, c, h, _ => h.elim
  | d + 1, n, c, h, hn => by
    obtain ⟨n, rfl⟩ : ∃ k, n = k + 1 := ⟨n - 1, by omega⟩
    rw [call_eq rfl]
    cases c with
    | isH hh => simp [c_law_value, Cd.pv, hsv, htv, sees.seen hh h, kn]
    | won b =>
      simp [c_law_value, Cd.pv, hsv, htv, sees.told b h, kn]
      cases tn b with
      | none => simp [wordOf, obP]
      | some x => cases x <;> simp [wordOf, obP]
    | lost b =>
      simp [c_law_value, Cd.pv, hsv, htv, sees.told b h, kn]
      cases tn b with
      | none => simp [wordOf, obP]
      | some x => cases x <;> simp [wordOf, obP]
    | not c =>
      simp [c_law_value, Cd.pv, hsv, htv, kn, law_value_eq hsv htv sees d n c h (by omega)]
      cases kn sn tn c with
      | none => simp [obP]
      | some v => simp [obP]
    | some k cs =>
      obtain ⟨k1, k2, k3, k4⟩ := h
      simp [c_law_value, Cd.pv, hsv, htv, kn, pvL_map]
      rw [compE_mapA (fun c => obP (kn sn tn c)) (by omega) (fun c hc => ⟨_, rfl, by simp [law_value_eq hsv htv sees d n c (k4 c hc) (by omega)]⟩)]
      rw [knL_map]
      have e : (cs.map fun c => obP (kn sn tn c)) = (cs.map (kn sn tn)).map obP := by simp
      rw [e]
      have hl : (cs.map (kn sn tn)).length ≤ 4 := by simp; omega
      have hcl := cnt_le (cs.map (kn sn tn))
      generalize cs.map (kn sn tn) = l at *
      simp [-List.map_map]
      rw [compE_filterA (fun o : Option Bool => decide (o = some true)) obP (by omega) (fun o ho => ⟨_, rfl, by rcases o with _ | _ | _ <;> simp [obP], fun _ => by simp⟩)]
      simp [cntT_filter, -List.map_map]
      unfold someOf
      by_cases hk : k ≤ cntT l
      · have hk' : ((k : Int) ≤ (cntT l : Nat)) := by omega
        simp [hk, hk', obP]
      · have hk' : ¬ ((k : Int) ≤ (cntT l : Nat)) := by omega
        simp [hk, hk', -List.map_map]
        rw [compE_filterA (fun o : Option Bool => !decide (o = some false)) obP (by omega) (fun o ho => ⟨_, rfl, by rcases o with _ | _ | _ <;> simp [obP], fun _ => by simp⟩)]
        simp [cntF_filter, -List.map_map]
        by_cases hj : k ≤ l.length - cntF l
        · have hj' : ¬ (((l.length - cntF l : Nat) : Int) < (k : Nat)) := by omega
          simp [hj, hj', obP]
        · have hj' : (((l.length - cntF l : Nat) : Int) < (k : Nat)) := by omega
          simp [hj, hj', obP]
variable {b : Book} [Hd D f_is_number c_is_number] [Hd D f_is_known c_is_known] [Hd D f_is_condition_of c_is_condition_of] [Hd D f_names_of c_names_of] [Hd D f_is_condition c_is_condition] [Gd G 1 (.int 4)] [Hd D f_is_seen c_is_seen] [Hd D f_look_seen c_look_seen] [Hd D f_are_told c_are_told] [Gd G 2 statesP] [Hd D f_value_of c_value_of]
theorem is_condition_eq {x : PV} (hx : x.dat = true) (hb : b.bets.length ≤ 1000) : callP D G (n + 7) f_is_condition [b.pv, x] S = .ok (.bool (isCondB b.hs b.names 4 x)) S := by
  rw [call_eq rfl]
  have := is_condition_of_eq (D := D) (G := G) (S := S) (hs := b.hs) (bs := b.names) 4 (n + 4) x hx (by omega)
  rw [show ((4 : Nat) : Int) = 4 from rfl] at this
  simp [c_is_condition, names_of_eq hb, glo_eq, this]
theorem value_no_seen {x t c : PV} (hx : x.dat = true) (hl : b.hs.length ≤ 1000) (h : isSeenB b.hs.length x = false) : callP D G (n + 3) f_value_of [b.pv, x, t, c] S = .exc (.exc 0 []) S := by
  rw [call_eq rfl]
  simp [c_value_of, look_seen_no hx hl h]
theorem value_no_told {x t c : PV} (hx : x.dat = true) (ht : t.dat = true) (hl : b.hs.length ≤ 1000) (hbl : b.bets.length ≤ 1000) (h : isSeenB b.hs.length x = true) (h2 : isToldB b.bets.length t = false) : callP D G (n + 3) f_value_of [b.pv, x, t, c] S = .exc (.exc 1 []) S := by
  rw [call_eq rfl]
  simp [c_value_of, look_seen_yes hx hl h, are_told_eq ht hbl, h2]
theorem value_no_cond {x t c : PV} (hx : x.dat = true) (ht : t.dat = true) (hc : c.dat = true) (hl : b.hs.length ≤ 1000) (hbl : b.bets.length ≤ 1000) (h : isSeenB b.hs.length x = true) (h2 : isToldB b.bets.length t = true) (h3 : isCondB b.hs b.names 4 c = false) : callP D G (n + 8) f_value_of [b.pv, x, t, c] S = .exc (.exc 2 []) S := by
  rw [call_eq rfl]
  simp [c_value_of, look_seen_yes hx hl h, are_told_eq ht hbl, h2, is_condition_eq hc hbl, h3]
end
theorem seen_dat (s : List (Option Bool)) : (seenP s).dat = true := datL_iff.mpr fun x hx => by obtain ⟨o, _, rfl⟩ := List.mem_map.mp hx; cases o <;> rfl
theorem told_dat (s : List (Option Bool)) : (toldP s).dat = true := datL_iff.mpr fun x hx => by obtain ⟨o, _, rfl⟩ := List.mem_map.mp hx; rfl
theorem seen_isB {s : List (Option Bool)} {n : Nat} : isSeenB n (seenP s) = decide (s.length = n) := by
  have : (s.map obP).all PV.isOb = true := by
    rw [List.all_map, List.all_eq_true]
    intro o _
    cases o <;> rfl
  simp only [isSeenB, seenP, List.length_map, this, Bool.and_true]
theorem told_isB {s : List (Option Bool)} {n : Nat} : isToldB n (toldP s) = decide (s.length = n) := by
  have : (s.map fun o => PV.str (wordOf o)).all isWordB = true := by
    rw [List.all_map, List.all_eq_true]
    intro o _
    rcases o with _ | _ | _ <;> decide
  simp only [isToldB, toldP, List.length_map, this, Bool.and_true]
end Bt
end
section
set_option maxHeartbeats 4000000
namespace Bt
open PySem
mutual
theorem PV.lo_mono {n m : Nat} (h : n ≤ m) : ∀ x : PV, x.lo n = true → x.lo m = true
  | .none, _ => by simp [PV.lo]
  | .bool _, _ => by simp [PV.lo]
  | .int _, _ => by simp [PV.lo]
  | .str _, _ => by simp [PV.lo]
  | .fn _, _ => by simp [PV.lo]
  | .scr _, _ => by simp [PV.lo]
  | .ref k, q => by simp only [PV.lo, decide_eq_true_eq] at q ⊢; omega
  | .tup xs, q => loL_mono h xs q
  | .list xs, q => loL_mono h xs q
  | .dict kvs, q => loD_mono h kvs q
  | .exc _ fs, q => loF_mono h fs q
theorem loL_mono {n m : Nat} (h : n ≤ m) : ∀ xs : List PV, loL n xs = true → loL m xs = true
  | [], _ => rfl
  | x :: xs, q => by
    obtain ⟨q1, q2⟩ := Bool.and_eq_true_iff.mp (show (x.lo n && loL n xs) = true from q)
    show (x.lo m && loL m xs) = true
    rw [PV.lo_mono h x q1, loL_mono h xs q2]; rfl
theorem loD_mono {n m : Nat} (h : n ≤ m) : ∀ xs : List (PV × PV), loD n xs = true → loD m xs = true
  | [], _ => rfl
  | (k, v) :: xs, q => by
    obtain ⟨q1, q2⟩ := Bool.and_eq_true_iff.mp (show (k.lo n && v.lo n && loD n xs) = true from q)
    obtain ⟨q3, q4⟩ := Bool.and_eq_true_iff.mp q1
    show (k.lo m && v.lo m && loD m xs) = true
    rw [PV.lo_mono h k q3, PV.lo_mono h v q4, loD_mono h xs q2]; rfl
theorem loF_mono {n m : Nat} (h : n ≤ m) : ∀ xs : List (Str × PV), loF n xs = true → loF m xs = true
  | [], _ => rfl
  | (k, v) :: xs, q => by
    obtain ⟨q1, q2⟩ := Bool.and_eq_true_iff.mp (show (v.lo n && loF n xs) = true from q)
    show (v.lo m && loF m xs) = true
    rw [PV.lo_mono h v q1, loF_mono h xs q2]; rfl
end
theorem Cell.lo_mono {n m : Nat} (h : n ≤ m) {c : Cell} (q : c.lo n = true) : c.lo m = true := by
  cases c with
  | lst xs => exact loL_mono h xs q
  | dic l kvs => exact loD_mono h kvs q
theorem Lo.all {S : Store} (h : Lo S) : S.all (Cell.lo S.length) = true := List.all_eq_true.mpr h
theorem Lo.push {S : Store} (h : Lo S) {c : Cell} (hc : c.lo (S.length + 1) = true) : Lo (S ++ [c]) := by
  intro d hd
  rw [List.length_append]
  rcases List.mem_append.mp hd with hd | hd
  · exact Cell.lo_mono (by simp) (h d hd)
  · rw [List.mem_singleton.mp hd]; exact hc
mutual
theorem dat_lo {n : Nat} : ∀ x : PV, x.dat = true → x.lo n = true
  | .none, _ => by simp [PV.lo]
  | .bool _, _ => by simp [PV.lo]
  | .int _, _ => by simp [PV.lo]
  | .str _, _ => by simp [PV.lo]
  | .tup xs, q => datL_lo xs q
  | .list xs, q => datL_lo xs q
theorem datL_lo {n : Nat} : ∀ xs : List PV, datL xs = true → loL n xs = true
  | [], _ => rfl
  | x :: xs, q => by
    obtain ⟨q1, q2⟩ := Bool.and_eq_true_iff.mp (show (x.dat && datL xs) = true from q)
    show (x.lo n && loL n xs) = true
    rw [dat_lo x q1, datL_lo xs q2]; rfl
end
theorem Lo.set {S : Store} (h : Lo S) {k : Nat} {c : Cell} (hc : c.lo S.length = true) : Lo (S.set k c) := by
  intro d hd
  rw [List.length_set]
  rcases List.mem_or_eq_of_mem_set hd with hd | rfl
  · exact h d hd
  · exact hc
theorem town_lo0 {L : Nat} {S : Store} (h : Town L S) (h2 : S.length = 2) : Lo S := by
  obtain ⟨r, c, e0, e1, hr⟩ := h
  intro cl hc
  obtain ⟨i, hi⟩ := List.mem_iff_getElem?.mp hc
  match i, hi with
  | 0, hi => rw [e0] at hi; cases hi; exact hr.lo
  | 1, hi => rw [e1] at hi; cases hi; simp [townC, Cell.lo, loD, PV.lo, h2]
  | i + 2, hi => have := (List.getElem?_eq_some_iff.mp hi).1; omega
theorem dzip_st {ks : List Str} {α : Type} {vs : List α} {f : α → PV} (hn : ks.Nodup) (hl : vs.length = ks.length) : dzipV (.tup (ks.map .str)) (.tup (vs.map f)) = some (.dict ((ks.zip vs).map fun p => (.str p.1, f p.2))) := by
  have h1 := @pairsP_map (Str × α) (fun p => .str p.1) (fun p => f p.2) (fun _ => rfl) (ks.zip vs)
  have h2 : (((ks.zip vs).map fun p => (PV.str p.1, f p.2)).map (·.1)).Nodup := by
    rw [List.map_map]
    have : ((fun x : PV × PV => x.1) ∘ fun p : Str × α => (PV.str p.1, f p.2)) = PV.str ∘ Prod.fst := rfl
    rw [this, ← List.map_map, List.map_fst_zip (by omega)]
    exact nodup_str hn
  simp [dzipV, h1, mergeP_nil_nd h2]
/-- a heard refusal -/
theorem hear_no {S : Store} {c : Nat} {w : Str} (h : Lo S) (hw : hearW[c]? = some w) : hearR (.exc (.exc c []) S) = .ok (.tup [.str w]) S := hearX_eq h.all hw
end Bt
end
section
set_option maxHeartbeats 4000000
namespace Bt
open PySem
theorem dlst_map {α : Type} {f g : α → PV} (hk : ∀ x, isKey (f x) = true) {l : List α} (hn : (l.map f).Nodup) : dlstV (.list (l.map fun x => .tup [f x, g x])) = some (.dict (l.map fun x => (f x, g x))) := by
  have h1 := @pairsP_map α f g hk l
  have h2 : ((l.map fun x => (f x, g x)).map (·.1)).Nodup := by rw [List.map_map]; exact hn
  simp [dlstV, h1, mergeP_nil_nd h2]
mutual
theorem dOk_up {n m : Nat} (h : n ≤ m) : ∀ x : PV, dOk n x = true → dOk m x = true
  | .none, _ => by unfold dOk; rfl
  | .bool _, _ => by unfold dOk; rfl
  | .int _, _ => by unfold dOk; rfl
  | .str _, _ => by unfold dOk; rfl
  | .tup xs, q => by
    cases n with
    | zero => simp [dOk] at q
    | succ n =>
      obtain ⟨m, rfl⟩ : ∃ k, m = k + 1 := ⟨m - 1, by omega⟩
      have q : dOkL n xs = true := by unfold dOk at q; exact q
      have := dOkL_up (show n ≤ m by omega) xs q
      unfold dOk
      exact this
  | .list xs, q => by
    cases n with
    | zero => simp [dOk] at q
    | succ n =>
      obtain ⟨m, rfl⟩ : ∃ k, m = k + 1 := ⟨m - 1, by omega⟩
      have q : dOkL n xs = true := by unfold dOk at q; exact q
      have := dOkL_up (show n ≤ m by omega) xs q
      unfold dOk
      exact this
  | .dict _, q => by simp [dOk] at q
  | .ref _, q => by simp [dOk] at q
  | .exc _ _, q => by simp [dOk] at q
  | .fn _, q => by simp [dOk] at q
  | .scr _, q => by simp [dOk] at q
theorem dOkL_up {n m : Nat} (h : n ≤ m) : ∀ xs : List PV, dOkL n xs = true → dOkL m xs = true
  | [], _ => rfl
  | x :: xs, q => by
    obtain ⟨q1, q2⟩ := Bool.and_eq_true_iff.mp (show (dOk n x && dOkL n xs) = true from q)
    show (dOk m x && dOkL m xs) = true
    rw [dOk_up h x q1, dOkL_up h xs q2]; rfl
end
theorem dOkL_iff {n : Nat} {xs : List PV} : dOkL n xs = true ↔ ∀ x ∈ xs, dOk n x = true := by
  induction xs with
  | nil => simp [dOkL]
  | cons x xs ih => rw [show dOkL n (x :: xs) = (dOk n x && dOkL n xs) from rfl, Bool.and_eq_true, ih]; simp
theorem dOk_tup {n : Nat} {xs : List PV} : dOk (n + 1) (.tup xs) = dOkL n xs := by conv => lhs; unfold dOk
theorem dOk_lst {n : Nat} {xs : List PV} : dOk (n + 1) (.list xs) = dOkL n xs := by conv => lhs; unfold dOk
theorem dOk_flat {n : Nat} {x : PV} (h : flatP x = true) : dOk n x = true := by
  cases x <;> first | (unfold dOk; rfl) | (simp [flatP] at h)
theorem cd_ok {hs bs : List Str} : ∀ (d : Nat) (c : Cd), Wf hs bs d c → dOk (2 * d) c.pv = true
  | 0, _, h => h.elim
  | d + 1, .isH h, _ => by rw [show 2 * (d + 1) = 2 * d + 1 + 1 by omega, Cd.pv, dOk_tup]; exact dOkL_iff.mpr fun x hx => dOk_flat (by simp at hx; rcases hx with rfl | rfl <;> rfl)
  | d + 1, .won h, _ => by rw [show 2 * (d + 1) = 2 * d + 1 + 1 by omega, Cd.pv, dOk_tup]; exact dOkL_iff.mpr fun x hx => dOk_flat (by simp at hx; rcases hx with rfl | rfl <;> rfl)
  | d + 1, .lost h, _ => by rw [show 2 * (d + 1) = 2 * d + 1 + 1 by omega, Cd.pv, dOk_tup]; exact dOkL_iff.mpr fun x hx => dOk_flat (by simp at hx; rcases hx with rfl | rfl <;> rfl)
  | d + 1, .not c, h => by
    rw [show 2 * (d + 1) = 2 * d + 1 + 1 by omega, Cd.pv, dOk_tup]
    refine dOkL_iff.mpr fun x hx => ?_
    simp at hx
    rcases hx with rfl | rfl
    · exact dOk_flat rfl
    · exact dOk_up (by omega) _ (cd_ok d c h)
  | d + 1, .some k cs, h => by
    rw [show 2 * (d + 1) = 2 * d + 1 + 1 by omega, Cd.pv, dOk_tup, pvL_map]
    refine dOkL_iff.mpr fun x hx => ?_
    simp at hx
    rcases hx with rfl | rfl | rfl
    · exact dOk_flat rfl
    · exact dOk_flat rfl
    · rw [dOk_tup]
      refine dOkL_iff.mpr fun x hx => ?_
      obtain ⟨c, hc, rfl⟩ := List.mem_map.mp hx
      exact cd_ok d c (h.2.2.2 c hc)
theorem bet_ok {b : Book} (hb : b.Wl) {x : Bet} (hx : x ∈ b.bets) : dOk 9 x.pv = true := by
  rw [Bet.pv, dOk_tup]
  refine dOkL_iff.mpr fun y hy => ?_
  simp at hy
  rcases hy with rfl | rfl | rfl | rfl | rfl | rfl
  · exact dOk_flat rfl
  · exact dOk_flat rfl
  · exact dOk_flat rfl
  · exact dOk_flat rfl
  · exact dOk_flat rfl
  · exact cd_ok 4 x.cond (hb.cond x hx)
theorem item_last {xs : List PV} {y : PV} : item (.list (xs ++ [y])) (.int (-1)) = some y := by
  show (place (xs ++ [y]).length (-1)).bind ((xs ++ [y])[·]?) = _
  have : place (xs ++ [y]).length (-1) = some xs.length := by
    unfold place
    rw [if_neg (by omega), if_pos (by simp; omega)]
    congr 1
    simp
    omega
  rw [this]
  simp
theorem finish_dic {S : Store} {T : List (PV × PV)} (hlo : Lo S) (hT : loD S.length T = true) {X : Store} : finish S.length (.ok (.ref S.length) (S ++ .dic false T :: X)) = .ok (.dict T) S := by
  unfold finish
  dsimp only
  rw [if_neg (by simp), List.take_left, if_pos hlo.all]
  have : frz S.length (S ++ .dic false T :: X) (.ref S.length) = some (.dict T) := by
    unfold frz
    rw [if_neg (by omega), get0]
    simp only [hT, if_true]
  rw [this]
theorem tdD_lo {b : Book} {t : List (Option Bool)} {n : Nat} : loD n (tdD b t) = true := by
  unfold tdD
  generalize b.names.zip t = l
  induction l with
  | nil => rfl
  | cons p l ih => simp [loD, PV.lo, ih]
/-- the bets that can be settled -/
def rdyB (b : Book) (s t : List (Option Bool)) : List Bet := (b.bets.filter fun x => decide (byNm b.names t x.name = none)).filter fun x => !decide (kn (byNm b.hs s) (byNm b.names t) x.cond = none)
theorem rdyB_mem {b : Book} (hb : b.Wl) {s t : List (Option Bool)} (hl : t.length = b.bets.length) {x : Bet} (h : x ∈ rdyB b s t) : ∃ (i : Nat) (v : Bool), b.bets[i]? = some x ∧ t[i]? = some none ∧ (kf b s t)[i]? = some (some v) ∧ kn (byNm b.hs s) (byNm b.names t) x.cond = some v := by
  obtain ⟨h1, h2⟩ := List.mem_filter.mp h
  obtain ⟨h3, h4⟩ := List.mem_filter.mp h1
  obtain ⟨i, hi⟩ := List.mem_iff_getElem?.mp h3
  have hil := (List.getElem?_eq_some_iff.mp hi).1
  have ht : t[i]? = some t[i] := List.getElem?_eq_getElem (by omega)
  have h4 : byNm b.names t x.name = none := by simpa using h4
  rw [byNm_at hb hi ht] at h4
  have hk := kf_at (b := b) (s := s) (t := t) hi
  cases hv : kn (byNm b.hs s) (byNm b.names t) x.cond with
  | none => rw [hv] at h2; simp at h2
  | some v => exact ⟨i, v, hi, by rw [ht, h4], by rw [hk, hv], rfl⟩
theorem rdyB_nil {b : Book} (hb : b.Wl) {s : List (Option Bool)} {f : List (Nat × Bool)} (hw : Wk b s f) (h : rdyB b s (tl b f) = []) : tl b f = fin b s := by
  refine hw.end_ fun i hi => ?_
  have hil : i < b.bets.length := by have := (List.getElem?_eq_some_iff.mp hi).1; simpa using this
  have hx : b.bets[i]? = some b.bets[i] := List.getElem?_eq_getElem hil
  rw [kf_at hx]
  cases hv : kn (byNm b.hs s) (byNm b.names (tl b f)) b.bets[i].cond with
  | none => rfl
  | some v =>
    exfalso
    have hm : b.bets[i] ∈ rdyB b s (tl b f) := List.mem_filter.mpr ⟨List.mem_filter.mpr ⟨List.getElem_mem hil, by simpa using byNm_at hb hx hi⟩, by simp [hv]⟩
    rw [h] at hm
    simp at hm
section
variable {D : List Df} {G : List PV} {m : Nat} {S : Store} {b : Book} {s : List (Option Bool)} [Hd D f_law_value c_law_value]
def lsBody : List Sm := match c_law_settled.body with
  | [_, .whil _ b] => b
  | _ => []
theorem ls_body : c_law_settled.body = [.asg (.tp [(.nm 2), (.nm 3)]) (.tup [(.dzip (.ix (.var 0) (.cst (.int 0))) (.var 1)), (.br (.dlst (.lc (.tup [(.ix (.var 6) (.cst (.int 0))), (.cst (.str "open"))]) (.nm 6) (.seq (.ix (.var 0) (.cst (.int 2)))) [] [6])))]), .whil (.cst (.bool true)) lsBody] := rfl
theorem ls_loop (hb : b.Wl) (hs : s.length = b.hs.length) (hm : 4 ≤ m) : ∀ (k fuel : Nat) (f : List (Nat × Bool)) (v4 v5 v6 : Option PV), Wk b s f → opn (tl b f) ≤ k → k + 1 ≤ fuel →
    whileE (callP D G (m + 1)) G (.cst (.bool true)) lsBody fuel [some b.pv, some (seenP s), some (kD b s), some (.ref S.length), v4, v5, v6] (S ++ [.dic false (tdD b (tl b f))]) = .ret (.ref S.length) (S ++ [.dic false (tdD b (fin b s))])
  | k, 0, f, v4, v5, v6, hw, ho, hf => by omega
  | k, fuel + 1, f, v4, v5, v6, hw, ho, hf => by
    have hbl := hb.bl
    generalize ht : tl b f = t at *
    have htl : t.length = b.bets.length := by rw [← ht]; simp
    have e0 : ∀ X, res X b.pv = .tup [stP b.hs, stP people, .tup (b.bets.map Bet.pv)] := fun X => rfl
    have hkn : ∀ x ∈ b.bets, callP D G (m + 1) f_law_value [kD b s, .ref S.length, x.cond.pv] (S ++ [.dic false (tdD b t)]) = .ok (obP (kn (byNm b.hs s) (byNm b.names t) x.cond)) (S ++ [.dic false (tdD b t)]) := fun x hx =>
      law_value_eq (D := D) (G := G) (S := S ++ [.dic false (tdD b t)]) (sv := kD b s) (tv := .ref S.length) (hs := b.hs) (bs := b.names) rfl (res_dic get0) ⟨fun h m => lookup_seen m hs hb.hnd, fun x hx => tdD_get hb htl hx⟩ 4 m x.cond (hb.cond x hx) hm
    have body1 : ∀ R, R = rdyB b s t → exSs (callP D G (m + 1)) G lsBody [some b.pv, some (seenP s), some (kD b s), some (.ref S.length), v4, v5, v6] (S ++ [.dic false (tdD b t)]) =
        exSs (callP D G (m + 1)) G (lsBody.drop 2) [some b.pv, some (seenP s), some (kD b s), some (.ref S.length), some (.list ((b.bets.filter fun x => decide (byNm b.names t x.name = none)).map Bet.pv)), some (.list (R.map Bet.pv)), v6] (S ++ [.dic false (tdD b t)]) := by
      rintro R rfl
      simp [lsBody, c_law_settled, e0]
      rw [compE_filterA (fun x : Bet => decide (byNm b.names t x.name = none)) Bet.pv (by omega) (fun x hx => ⟨_, rfl, by
        simp [Bet.pv, res_dic get0, tdD_get hb htl (List.mem_map.mpr ⟨x, hx, rfl⟩)]
        rcases byNm b.names t x.name with _ | _ | _ <;> simp [wordOf], fun _ => by simp⟩)]
      simp
      rw [compE_filterA (fun x : Bet => !decide (kn (byNm b.hs s) (byNm b.names t) x.cond = none)) Bet.pv (by have := List.length_filter_le (fun x : Bet => decide (byNm b.names t x.name = none)) b.bets; omega) (fun x hx => ⟨_, rfl, by
        have hxm := (List.mem_filter.mp hx).1
        have := hkn x hxm
        cases hq : kn (byNm b.hs s) (byNm b.names t) x.cond <;> (rw [hq] at this; simp [Bet.pv, this, obP]), fun _ => by simp⟩)]
      simp [rdyB]
    have hdk : dOkL 63 ((rdyB b s t).map Bet.pv) = true := dOkL_iff.mpr fun y hy => by
      obtain ⟨x, hx, rfl⟩ := List.mem_map.mp hy
      exact dOk_up (by omega) _ (bet_ok hb (List.mem_filter.mp (List.mem_filter.mp hx).1).1)
    cases hR : rdyB b s t with
    | nil =>
      have hfin : t = fin b s := by rw [← ht]; exact rdyB_nil hb hw (by rw [ht]; exact hR)
      have enn : cop .eq (.list []) (.list []) = some true := rfl
      rw [while_ret (S1 := S ++ [.dic false (tdD b t)]) (by simp) (by rw [body1 _ hR.symm]; simp [lsBody, c_law_settled, enn]; exact ⟨rfl, rfl⟩), hfin]
    | cons x0 R0 =>
      obtain ⟨R', x, hRx⟩ : ∃ R' x, x0 :: R0 = R' ++ [x] := ⟨_, _, (List.dropLast_concat_getLast (List.cons_ne_nil x0 R0)).symm⟩
      rw [hRx] at hR
      obtain ⟨i, v, hi, hti, hki, hkv⟩ := rdyB_mem hb htl (x := x) (by rw [hR]; simp)
      have hxm : x ∈ b.bets := List.mem_of_getElem? hi
      have hk := hkn x hxm
      rw [hkv] at hk
      have hk : _ = Res.ok (PV.bool v) _ := hk
      have hne : cop .eq (.list ((R' ++ [x]).map Bet.pv)) (.list []) = some false := by
        rw [eq_listnil (by rw [← hR]; exact hdk)]
        simp
      have hlast : item (.list ((R' ++ [x]).map Bet.pv)) (.int (-1)) = some x.pv := by rw [List.map_append]; exact item_last
      have hwv : (if v = true then Res.ok (PV.str "won") (S ++ [.dic false (tdD b t)]) else Res.ok (PV.str "lost") (S ++ [.dic false (tdD b t)])) = Res.ok (PV.str (wordOf (some v))) (S ++ [.dic false (tdD b t)]) := by cases v <;> rfl
      have hput : Bt.putAt (S ++ [.dic false (tdD b t)]) (.ref S.length) (.str x.name) (.str (wordOf (some v))) = some (S ++ [.dic false (tdD b (t.set i (some v)))]) := by
        rw [put_dic get0 (by have := tdD_length (b := b) (t := t); omega), set0, tdD_put hb htl hi]
      have hw' : Wk b s (f ++ [(i, v)]) := hw.snoc (by rw [ht]; exact hti) (by rw [ht]; exact hki)
      have htl' : tl b (f ++ [(i, v)]) = t.set i (some v) := by rw [tl_snoc, ht]
      have ih := ls_loop hb hs hm (k - 1) fuel (f ++ [(i, v)]) (some (.list ((b.bets.filter fun x => decide (byNm b.names t x.name = none)).map Bet.pv))) (some (.list ((R' ++ [x]).map Bet.pv))) v6 hw' (by
        have l1 := hw.len
        have l2 := hw'.len
        rw [ht] at l1
        simp at l2
        omega) (by
        have := opn_set (v := v) hti
        omega)
      rw [htl'] at ih
      rw [while_go (S1 := S ++ [.dic false (tdD b t)]) (by simp) (by
        rw [body1 _ hR.symm]
        simp [lsBody, c_law_settled, hne, hlast, Bet.pv, hk, hwv, hput, -List.map_append]
        exact ⟨rfl, rfl⟩)]
      exact ih
variable [Hd D f_law_settled c_law_settled]
theorem law_settled_eq (hb : b.Wl) (hs : s.length = b.hs.length) (hlo : Lo S) (hm : 5 ≤ m) : callP D G (m + 1) f_law_settled [b.pv, seenP s] S = .ok (.dict (tdD b (fin b s))) S := by
  obtain ⟨m, rfl⟩ : ∃ k, m = k + 1 := ⟨m - 1, by omega⟩
  have hbl := hb.bl
  have e0 : ∀ X, res X b.pv = .tup [stP b.hs, stP people, .tup (b.bets.map Bet.pv)] := fun X => rfl
  have dz1 : dzipV (.tup (b.hs.map .str)) (seenP s) = some (kD b s) := dzip_st hb.hnd hs
  have hnd : (b.bets.map fun x => PV.str x.name).Nodup := by
    have := nodup_str hb.bnd
    rw [Book.names, List.map_map] at this
    exact this
  have hl := ls_loop (D := D) (G := G) (S := S) (m := m) hb hs (by omega) b.bets.length whileFuel [] none none none Wk.nil (by simp [tl, opn_bot]) (by unfold whileFuel; omega)
  have e1 : tl b [] = bot b := rfl
  rw [e1, tdD_bot] at hl
  rw [call_eq rfl, ls_body]
  simp [c_law_settled, e0, stP, dz1]
  rw [compE_mapA (fun x : Bet => .tup [.str x.name, .str "open"]) (by omega) (fun x hx => ⟨_, rfl, by simp [Bet.pv]⟩)]
  simp [dlst_map (f := fun x : Bet => PV.str x.name) (g := fun _ => PV.str "open") (fun _ => rfl) hnd, toRef, hl]
  exact finish_dic hlo tdD_lo
variable [Hd D f_law_ends c_law_ends]
theorem law_ends_eq (hb : b.Wl) (hs : s.length = b.hs.length) (hlo : Lo S) (hm : 6 ≤ m) : callP D G (m + 1) f_law_ends [b.pv, seenP s] S = .ok (endP (fin b s)) S := by
  obtain ⟨m, rfl⟩ : ∃ k, m = k + 1 := ⟨m - 1, by omega⟩
  have hbl := hb.bl
  have e0 : ∀ X, res X b.pv = .tup [stP b.hs, stP people, .tup (b.bets.map Bet.pv)] := fun X => rfl
  rw [call_eq rfl]
  simp [c_law_ends, law_settled_eq hb hs hlo (show 5 ≤ m by omega), e0]
  rw [compE_mapA (fun x : Bet => .str (voidW (byNm b.names (fin b s) x.name))) (by omega) (fun x hx => ⟨_, rfl, by
    have hg := tdD_get hb (t := fin b s) (by simp) (x := x.name) (List.mem_map.mpr ⟨x, hx, rfl⟩)
    simp [Bet.pv, hg]
    rcases byNm b.names (fin b s) x.name with _ | _ | _ <;> simp [wordOf, voidW]⟩)]
  have e2 : (b.bets.map fun x : Bet => PV.str (voidW (byNm b.names (fin b s) x.name))) = (fin b s).map fun o => PV.str (voidW o) := by
    conv => rhs; rw [← byNm_all hb.bnd (t := fin b s) (by simp [Book.names])]
    simp [Book.names]
  rw [e2]
  simp [endP]
end
end Bt
end
section
set_option maxHeartbeats 4000000
namespace Bt
open PySem
section
variable {D : List Df} {G : List PV} {n m : Nat} {S : Store} {b : Book} {ns : List Int} {x : PV}
theorem a_world_eq [Hd D f_law_draw c_law_draw] [Hd D f_law_a_world c_law_a_world] (hL : ns.length ≤ 63) (hb : b.hs.length ≤ 1000) (ht : Town ns.length S) : ∃ (w : List Bool) (S' : Store), callP D G (n + 2) f_law_a_world [.scr ns, .ref 1, b.pv] S = .ok (seenP (wd w)) S' ∧ w.length = b.hs.length ∧ TwS ns.length S S' := by
  rw [call_eq rfl]
  have e0 : ∀ X, res X b.pv = .tup [stP b.hs, stP people, .tup (b.bets.map Bet.pv)] := fun X => rfl
  simp [c_law_a_world, e0, stP]
  generalize hC : compE _ _ _ _ _ _ _ _ = r
  obtain ⟨w, S', rfl, hm, t'⟩ : ∃ (ys : List Bool) (S' : Store), r = .ok (.list (ys.map PV.bool)) S' ∧ All2 (fun _ _ => True) b.hs ys ∧ TwS ns.length S S' := by
    rw [← hC]
    refine compE_inv2 PV.bool _ (TwS ns.length S) (by omega) (fun x hx => ⟨_, rfl, fun S1 t1 => ?_⟩) (TwS.refl ht)
    obtain ⟨m, S2, e, m0, m1, t2⟩ := draw_eq (D := D) (G := G) (n := n) hL (many := 2) (by omega) (by omega) t1.town
    exact ⟨decide (m = 0), S2, by simp [e], trivial, t1.trans t2⟩
  refine ⟨w, S', ?_, hm.length, t'⟩
  have e1 : PV.tup (w.map PV.bool) = seenP (wd w) := wdP_seen w
  simp [t'.len, e1]
variable [Hd D f_is_seen c_is_seen]
theorem settled_no [Hd D f_look_seen c_look_seen] [Hd D f_settled c_settled] (hx : x.dat = true) (hl : b.hs.length ≤ 1000) (h : isSeenB b.hs.length x = false) : callP D G (n + 3) f_settled [b.pv, x] S = .exc (.exc 0 []) S := by
  rw [call_eq rfl]
  simp [c_settled, look_seen_no hx hl h]
theorem turns_no [Hd D f_look_seen c_look_seen] [Hd D f_turns c_turns] (hx : x.dat = true) (hl : b.hs.length ≤ 1000) (h : isSeenB b.hs.length x = false) : callP D G (n + 3) f_turns [b.pv, x] S = .exc (.exc 0 []) S := by
  rw [call_eq rfl]
  simp [c_turns, look_seen_no hx hl h]
theorem results_no [Hd D f_look_world c_look_world] [Hd D f_results c_results] (hx : x.dat = true) (hl : b.hs.length ≤ 1000) (h : isWorldB b.hs.length x = false) : callP D G (n + 3) f_results [b.pv, x] S = .exc (.exc 3 []) S := by
  rw [call_eq rfl]
  simp [c_results, look_world_no hx hl h]
end
theorem it_after {b : Book} {s : List (Option Bool)} {τ : Nat} (h : it b s (τ + 1) = it b s τ) {k : Nat} (hk : τ ≤ k) : it b s k = it b s τ := by
  have := it_stays h (k - τ)
  rwa [show τ + (k - τ) = k by omega] at this
theorem tnK_more {b : Book} {s : List (Option Bool)} {τ N : Nat} (h : it b s (τ + 1) = it b s τ) (hN : τ ≤ N) (nm : Str) : tnK b s N nm = tnK b s τ nm := by
  have key : ∀ j, tnK b s (τ + j) nm = tnK b s τ nm := by
    intro j
    induction j with
    | zero => rfl
    | succ j ih =>
      have htn : tnK b s (τ + (j + 1)) nm = (tnK b s (τ + j) nm).or (if (byNm b.names (it b s (τ + j + 1)) nm).isSome then some (τ + j + 1) else none) := by
        unfold tnK
        rw [show τ + (j + 1) + 1 = (τ + j + 1) + 1 by omega, List.range_succ, List.find?_append]
        congr 1
        rw [List.find?_cons]
        cases (byNm b.names (it b s (τ + j + 1)) nm).isSome <;> rfl
      rw [htn, ih]
      cases hq : tnK b s τ nm with
      | some k => rfl
      | none =>
        have h1 := tnK_some (b := b) (s := s) (nm := nm) (τ := τ)
        rw [hq] at h1
        rw [it_after h (show τ ≤ τ + j + 1 by omega), ← h1]
        rfl
  have := key (N - τ)
  rwa [show τ + (N - τ) = N by omega] at this
theorem tnK_same {b : Book} {s : List (Option Bool)} {τ σ : Nat} (h : it b s (τ + 1) = it b s τ) (h' : it b s (σ + 1) = it b s σ) (nm : Str) : tnK b s τ nm = tnK b s σ nm := by
  rcases Nat.le_total τ σ with q | q
  · exact (tnK_more h q nm).symm
  · exact tnK_more h' q nm
end Bt
end
section
set_option maxHeartbeats 4000000
namespace Bt
open PySem
abbrev lettersP : PV := .str "abcdefghijklmnopqrstuvwxyz"
def nameB (w : Str) : Bool := decide (1 ≤ w.length) && decide (w.length ≤ 8) && w.cps.toList.all fun c => decide (c ∈ (("abcdefghijklmnopqrstuvwxyz" : Str)).cps.toList)
def isNameB : PV → Bool
  | .str w => nameB w
  | _ => false
def risB (l : List Str) : Bool := (l.zip (l.drop 1)).all fun p => decide (p.1.cps.toList < p.2.cps.toList)
def strsOf : List PV → List Str
  | [] => []
  | .str w :: r => w :: strsOf r
  | _ :: r => strsOf r
def strsL : PV → List Str
  | .tup xs => strsOf xs
  | _ => []
def areNamesB (a c : Int) : PV → Bool
  | .tup xs => decide (a ≤ (xs.length : Nat)) && decide ((xs.length : Nat) ≤ c) && xs.all isNameB && risB (strsOf xs)
  | _ => false
def isBetB (hs ps bs : List Str) : PV → Bool
  | .tup [a, p, q, s, y, c] => isNameB a && isKnownB ps p && isKnownB ps q && !(decide (p = q)) && isNumB 1 999 s && isNumB 1 999 y && isCondB hs bs 4 c
  | _ => false
def headP : PV → PV
  | .tup (x :: _) => x
  | _ => .none
def fullB : PV → Bool
  | .tup (_ :: _) => true
  | _ => false
def isBookB : PV → Bool
  | .tup [hs, ps, .tup bs] => areNamesB 1 6 hs && areNamesB 2 5 ps && decide (bs.length ≤ 8) && bs.all fullB && (bs.map headP).all isNameB && risB (strsOf (bs.map headP)) && bs.all (isBetB (strsL hs) (strsL ps) (strsOf (bs.map headP)))
  | _ => false
theorem strs_all : ∀ {xs : List PV}, xs.all isNameB = true → xs = (strsOf xs).map .str
  | [], _ => rfl
  | .str w :: r, h => by
    have : r.all isNameB = true := by simp at h ⊢; exact h.2
    show _ = PV.str w :: (strsOf r).map .str
    rw [← strs_all this]
  | .none :: r, h => by simp [isNameB] at h
  | .bool _ :: r, h => by simp [isNameB] at h
  | .int _ :: r, h => by simp [isNameB] at h
  | .tup _ :: r, h => by simp [isNameB] at h
  | .list _ :: r, h => by simp [isNameB] at h
  | .dict _ :: r, h => by simp [isNameB] at h
  | .ref _ :: r, h => by simp [isNameB] at h
  | .exc _ _ :: r, h => by simp [isNameB] at h
  | .fn _ :: r, h => by simp [isNameB] at h
  | .scr _ :: r, h => by simp [isNameB] at h
@[simp] theorem strsOf_map {l : List Str} : strsOf (l.map .str) = l := by
  induction l with
  | nil => rfl
  | cons x l ih => show x :: strsOf (l.map .str) = _; rw [ih]
section
variable {D : List Df} {G : List PV} {n : Nat} {S : Store} {x : PV}
theorem is_name_eq [Hd D f_is_name c_is_name] [Gd G 0 lettersP] (hx : x.dat = true) : callP D G (n + 1) f_is_name [x] S = .ok (.bool (isNameB x)) S := by
  rw [call_eq rfl]
  cases x with
  | str w =>
    by_cases h1 : 1 ≤ w.length
    · by_cases h8 : w.length ≤ 8
      · have hl : w.cps.toList.length ≤ 8 := h8
        have i1 : (1 : Int) ≤ (w.length : Nat) := by omega
        have i8 : ((w.length : Nat) : Int) ≤ 8 := by omega
        have hs : seqOf (.str w) = some (w.cps.toList.map fun c => .str ⟨#[c]⟩) := rfl
        have hg : guardOf S (.str w) = [] := rfl
        have hG : G[0]? = some lettersP := Gd.h
        have hin : ∀ c : Nat, cop .inn (.str ⟨#[c]⟩) lettersP = some (decide (c ∈ (("abcdefghijklmnopqrstuvwxyz" : Str)).cps.toList)) := fun c => rfl
        simp [c_is_name, i1, i8, hs, hg]
        rw [compE_mapA (fun c => .bool (decide (c ∈ (("abcdefghijklmnopqrstuvwxyz" : Str)).cps.toList))) (by omega) (fun c hc => ⟨_, rfl, by simp [hG, hin, -Array.mem_toList_iff]⟩)]
        simp [isNameB, nameB, h1, h8]
      · have i8 : ¬ ((w.length : Nat) : Int) ≤ 8 := by omega
        by_cases i1 : (1 : Int) ≤ (w.length : Nat) <;> simp [c_is_name, i1, i8, isNameB, nameB, h8]
    · have i1 : ¬ (1 : Int) ≤ (w.length : Nat) := by omega
      simp [c_is_name, i1, isNameB, nameB, h1]
  | none => simp [c_is_name, isNameB]
  | bool v => simp [c_is_name, isNameB]
  | int i => simp [c_is_name, isNameB]
  | tup xs => simp [c_is_name, isNameB]
  | list xs => simp [c_is_name, isNameB]
  | _ => simp [PV.dat] at hx
theorem lt_str {x y : Str} : cop .lt (.str x) (.str y) = some (decide (x.cps.toList < y.cps.toList)) := rfl
theorem is_rising_eq [Hd D f_is_rising c_is_rising] {l : List Str} (hl : l.length ≤ 1000) : callP D G (n + 1) f_is_rising [.tup (l.map .str)] S = .ok (.bool (risB l)) S := by
  rw [call_eq rfl]
  have e : slice (.tup (l.map .str)) (some 1) none = some (.tup ((l.drop 1).map .str)) := by cases l <;> simp
  simp [c_is_rising, e, -List.drop_one, -List.map_drop]
  rw [compE_mapA (fun p : Str × Str => .bool (decide (p.1.cps.toList < p.2.cps.toList))) (by simp; omega) (fun p hp => ⟨_, rfl, by simp [lt_str]⟩)]
  simp [risB]
theorem is_rising_eqL [Hd D f_is_rising c_is_rising] {l : List Str} (hl : l.length ≤ 1000) : callP D G (n + 1) f_is_rising [.list (l.map .str)] S = .ok (.bool (risB l)) S := by
  rw [call_eq rfl]
  have e : slice (.list (l.map .str)) (some 1) none = some (.list ((l.drop 1).map .str)) := by
    show some (PV.list (cut (l.map .str) (some 1) none)) = _
    have : cut (l.map PV.str) (some 1) none = (l.drop 1).map PV.str := by
      cases l with
      | nil => rfl
      | cons a l => simp [cut, edge, List.take_of_length_le]
    rw [this]
  simp [c_is_rising, e, -List.drop_one, -List.map_drop]
  rw [compE_mapA (fun p : Str × Str => .bool (decide (p.1.cps.toList < p.2.cps.toList))) (by simp; omega) (fun p hp => ⟨_, rfl, by simp [lt_str]⟩)]
  simp [risB]
theorem are_names_eq [Hd D f_is_name c_is_name] [Gd G 0 lettersP] [Hd D f_is_rising c_is_rising] [Hd D f_are_names c_are_names] (hx : x.dat = true) {a c : Int} (hc : c ≤ 100) : callP D G (n + 2) f_are_names [x, .int a, .int c] S = .ok (.bool (areNamesB a c x)) S := by
  rw [call_eq rfl]
  cases x with
  | tup xs =>
    have hx' := datL_iff.mp hx
    by_cases h1 : a ≤ (xs.length : Nat)
    · by_cases h8 : ((xs.length : Nat) : Int) ≤ c
      · simp [c_are_names, h1, h8]
        have hm : xs = xs.map id := by simp
        rw [hm, compE_mapA (fun x => .bool (isNameB x)) (by omega) (fun x hq => ⟨_, rfl, by simp [is_name_eq (D := D) (G := G) (S := S) (n := n) (hx' x hq)]⟩), ← hm]
        cases ha : xs.all isNameB with
        | false => simp [ha, areNamesB]
        | true =>
          have hr := is_rising_eq (D := D) (G := G) (S := S) (n := n) (l := strsOf xs) (by
            have := congrArg List.length (strs_all ha)
            rw [List.length_map] at this
            omega)
          rw [← strs_all ha] at hr
          simp [ha, areNamesB, hr, h1, h8]
      · by_cases h1 : a ≤ (xs.length : Nat) <;> simp [c_are_names, h1, h8, areNamesB]
    · simp [c_are_names, h1, areNamesB]
  | none => simp [c_are_names, areNamesB]
  | bool v => simp [c_are_names, areNamesB]
  | int i => simp [c_are_names, areNamesB]
  | str xs => simp [c_are_names, areNamesB]
  | list xs => simp [c_are_names, areNamesB]
  | _ => simp [PV.dat] at hx
theorem len6 {xs : List PV} (h : xs.length = 6) : ∃ a b c d e f, xs = [a, b, c, d, e, f] := by
  match xs, h with
  | [a, b, c, d, e, f], _ => exact ⟨a, b, c, d, e, f, rfl⟩
theorem isBetB_len {hs ps bs : List Str} {xs : List PV} (h : ¬ xs.length = 6) : isBetB hs ps bs (.tup xs) = false := by
  unfold isBetB
  split
  · rename_i q; cases q; simp at h
  · rfl
theorem eq_strv {x y : Str} : cop .eq (.str x) (.str y) = some (decide (x = y)) := by
  show some (x == y) = _
  by_cases h : x = y <;> simp [h]
theorem is_bet_eq [Hd D f_is_number c_is_number] [Hd D f_is_known c_is_known] [Hd D f_is_condition_of c_is_condition_of] [Hd D f_is_name c_is_name] [Gd G 0 lettersP] [Gd G 1 (.int 4)] [Hd D f_is_bet c_is_bet] (hx : x.dat = true) {hs ps bs : List Str} (hn : 5 ≤ n) :
    callP D G (n + 2) f_is_bet [.tup (hs.map .str), .tup (ps.map .str), .list (bs.map .str), x] S = .ok (.bool (isBetB hs ps bs x)) S := by
  rw [call_eq rfl]
  obtain ⟨n, rfl⟩ : ∃ k, n = k + 1 := ⟨n - 1, by omega⟩
  cases x with
  | tup xs =>
    have hx' := datL_iff.mp hx
    by_cases h6 : xs.length = 6
    · obtain ⟨a, p, q, s, y, c, rfl⟩ := len6 h6
      have hG : G[1]? = some (.int 4) := Gd.h
      have n1 := is_name_eq (D := D) (G := G) (S := S) (n := n + 1) (hx' a (by simp))
      have n2 := is_known_eq (D := D) (G := G) (S := S) (n := n + 1) (names := ps) (hx' p (by simp))
      have n3 := is_known_eq (D := D) (G := G) (S := S) (n := n + 1) (names := ps) (hx' q (by simp))
      have n4 := is_num_eq (D := D) (G := G) (S := S) (n := n + 1) (a := 1) (c := 999) (hx' s (by simp))
      have n5 := is_num_eq (D := D) (G := G) (S := S) (n := n + 1) (a := 1) (c := 999) (hx' y (by simp))
      have n6 := is_condition_of_eq (D := D) (G := G) (S := S) (hs := hs) (bs := bs) 4 n c (hx' c (by simp)) (by omega)
      have n6 : callP D G (n + 2) f_is_condition_of [.tup (hs.map .str), .list (bs.map .str), c, .int 4] S = .ok (.bool (isCondB hs bs 4 c)) S := n6
      cases k1 : isNameB a with
      | false => simp [c_is_bet, n1, k1, isBetB]
      | true =>
        cases k2 : isKnownB ps p with
        | false => simp [c_is_bet, n1, k1, n2, k2, isBetB]
        | true =>
          cases k3 : isKnownB ps q with
          | false => simp [c_is_bet, n1, k1, n2, k2, n3, k3, isBetB]
          | true =>
            cases p with
            | str p =>
              cases q with
              | str q =>
                by_cases hpq : p = q
                · subst hpq
                  simp [c_is_bet, n1, k1, n2, k2, n3, k3, isBetB]
                · cases k4 : isNumB 1 999 s with
                  | false => simp [c_is_bet, n1, k1, n2, k2, n3, k3, hpq, n4, k4, isBetB]
                  | true =>
                    cases k5 : isNumB 1 999 y with
                    | false => simp [c_is_bet, n1, k1, n2, k2, n3, k3, hpq, n4, k4, n5, k5, isBetB]
                    | true => simp [c_is_bet, n1, k1, n2, k2, n3, k3, hpq, n4, k4, n5, k5, isBetB, hG, n6]
              | _ => simp [isKnownB] at k3
            | _ => simp [isKnownB] at k2
    · have h6' : ¬ (((xs.length : Nat) : Int) = 6) := by omega
      simp [c_is_bet, h6', isBetB_len h6, h6]
  | none => simp [c_is_bet, isBetB]
  | bool v => simp [c_is_bet, isBetB]
  | int i => simp [c_is_bet, isBetB]
  | str xs => simp [c_is_bet, isBetB]
  | list xs => simp [c_is_bet, isBetB]
  | _ => simp [PV.dat] at hx
theorem len3 {xs : List PV} (h : xs.length = 3) : ∃ a b c, xs = [a, b, c] := by
  match xs, h with
  | [a, b, c], _ => exact ⟨a, b, c, rfl⟩
theorem isBookB_len {xs : List PV} (h : ¬ xs.length = 3) : isBookB (.tup xs) = false := by
  unfold isBookB
  split
  · rename_i q; cases q; simp at h
  · rfl
def tupP : PV → PV
  | .tup xs => .tup xs
  | _ => .bool false
theorem tupP_tru {x : PV} : tru (tupP x) = fullB x := by
  cases x with
  | tup xs => cases xs <;> rfl
  | _ => rfl
theorem all_tupP {xs : List PV} (h : dOkL 63 xs = true) : biv .all [.list (xs.map tupP)] = some (.bool (xs.all fullB)) := by
  show (if dOkL 63 (xs.map tupP) then some (PV.bool ((xs.map tupP).all tru)) else none) = _
  rw [if_pos (dOkL_iff.mpr fun y hy => by
    obtain ⟨x, hx, rfl⟩ := List.mem_map.mp hy
    have := dOkL_iff.mp h x hx
    cases x with
    | tup xs => exact this
    | _ => exact dOk_flat rfl), List.all_map]
  congr 3
  funext x
  exact tupP_tru
theorem names_pv {a c : Int} {x : PV} (h : areNamesB a c x = true) : x = .tup ((strsL x).map .str) := by
  cases x with
  | tup xs =>
    simp only [areNamesB, Bool.and_eq_true] at h
    show _ = PV.tup ((strsOf xs).map .str)
    rw [← strs_all h.1.2]
  | _ => simp [areNamesB] at h
theorem is_book_eq [Hd D f_is_number c_is_number] [Hd D f_is_known c_is_known] [Hd D f_is_condition_of c_is_condition_of] [Hd D f_is_name c_is_name] [Gd G 0 lettersP] [Gd G 1 (.int 4)] [Hd D f_is_bet c_is_bet] [Hd D f_is_rising c_is_rising] [Hd D f_are_names c_are_names] [Hd D f_is_book c_is_book] (hx : x.dat = true) (hd : dOk 60 x = true) (hn : 7 ≤ n) :
    callP D G (n + 1) f_is_book [x] S = .ok (.bool (isBookB x)) S := by
  rw [call_eq rfl]
  obtain ⟨n, rfl⟩ : ∃ k, n = k + 2 := ⟨n - 2, by omega⟩
  cases x with
  | tup xs =>
    have hx' := datL_iff.mp hx
    by_cases h3 : xs.length = 3
    · obtain ⟨hs, ps, bt, rfl⟩ := len3 h3
      have n1 := are_names_eq (D := D) (G := G) (S := S) (n := n) (a := 1) (c := 6) (hx' hs (by simp)) (by omega)
      have n2 := are_names_eq (D := D) (G := G) (S := S) (n := n) (a := 2) (c := 5) (hx' ps (by simp)) (by omega)
      have hbt := hx' bt (by simp)
      have hdt : dOk 59 bt = true := dOkL_iff.mp (show dOkL 59 [hs, ps, bt] = true by rw [← dOk_tup]; exact hd) bt (by simp)
      cases k1 : areNamesB 1 6 hs with
      | false => cases bt <;> simp [c_is_book, n1, k1, isBookB]
      | true =>
        cases k2 : areNamesB 2 5 ps with
        | false => cases bt <;> simp [c_is_book, n1, k1, n2, k2, isBookB]
        | true =>
          cases bt with
          | tup bs =>
            have hb' := datL_iff.mp hbt
            have hdb : dOkL 63 bs = true := dOkL_up (by omega) _ (show dOkL 58 bs = true by rw [← dOk_tup]; exact hdt)
            by_cases h8 : bs.length ≤ 8
            · have h8' : ¬ ((8 : Int) < (bs.length : Nat)) := by omega
              have hm : bs = bs.map id := by simp
              simp [c_is_book, n1, k1, n2, k2, h8']
              have c1 : ∀ ρ : Env, ρ.length = 7 → compE (callP D G (n + 2)) G (.and (.bi (.isinst .tuple) [.var 5]) (.var 5)) (.nm 5) [] ρ { items := bs } S = .ok (.list (bs.map tupP)) S := by
                intro ρ hρ
                have := compE_mapA (φ := callP D G (n + 2)) (G := G) (elt := .and (.bi (.isinst .tuple) [.var 5]) (.var 5)) (tg := .nm 5) (ρ := ρ) (S := S) (F := id) (xs := bs) tupP (by omega) (fun y hy => by
                  refine ⟨ρ.set 5 (some y), by simp [assign, hρ], ?_⟩
                  have := hb' y hy
                  cases y with
                  | tup ys => simp [hρ, tupP]
                  | none => simp [hρ, tupP]
                  | bool v => simp [hρ, tupP]
                  | int i => simp [hρ, tupP]
                  | str ys => simp [hρ, tupP]
                  | list ys => simp [hρ, tupP]
                  | _ => simp [PV.dat] at this)
                rwa [← hm] at this
              rw [c1 _ rfl]
              cases k3 : bs.all fullB with
              | false => simp [all_tupP hdb, isBookB, k3, -List.all_eq_true, -List.all_eq_false]
              | true =>
                have c2 : ∀ ρ : Env, ρ.length = 7 → compE (callP D G (n + 2)) G (.ix (.var 5) (.cst (.int 0))) (.nm 5) [] ρ { items := bs } S = .ok (.list (bs.map headP)) S := by
                  intro ρ hρ
                  have := compE_mapA (φ := callP D G (n + 2)) (G := G) (elt := .ix (.var 5) (.cst (.int 0))) (tg := .nm 5) (ρ := ρ) (S := S) (F := id) (xs := bs) headP (by omega) (fun y hy => by
                    refine ⟨ρ.set 5 (some y), by simp [assign, hρ], ?_⟩
                    have := List.all_eq_true.mp k3 y hy
                    cases y with
                    | tup ys =>
                      cases ys with
                      | nil => simp [fullB] at this
                      | cons z ys => simp [hρ, headP]
                    | _ => simp [fullB] at this)
                  rwa [← hm] at this
                have hhd : ∀ z ∈ bs.map headP, z.dat = true := fun z hz => by
                  obtain ⟨y, hy, rfl⟩ := List.mem_map.mp hz
                  have hyd := hb' y hy
                  cases y with
                  | tup ys =>
                    cases ys with
                    | nil => rfl
                    | cons z ys => exact datL_iff.mp hyd z (by simp)
                  | _ => rfl
                have hhl : (bs.map headP).length ≤ 8 := by simpa using h8
                simp [all_tupP hdb, k3]
                rw [c2 _ rfl]
                generalize hnm : bs.map headP = nms at *
                have c3 : ∀ ρ : Env, ρ.length = 7 → compE (callP D G (n + 2)) G (.call 1 [(.var 6)]) (.nm 6) [] ρ { items := nms } S = .ok (.list (nms.map fun z => .bool (isNameB z))) S := by
                  intro ρ hρ
                  have hm2 : nms = nms.map id := by simp
                  have := compE_mapA (φ := callP D G (n + 2)) (G := G) (elt := .call 1 [(.var 6)]) (tg := .nm 6) (ρ := ρ) (S := S) (F := id) (xs := nms) (fun z => .bool (isNameB z)) (by omega) (fun y hy => by
                    refine ⟨ρ.set 6 (some y), by simp [assign, hρ], ?_⟩
                    simp [hρ, is_name_eq (D := D) (G := G) (S := S) (n := n + 1) (hhd y hy)])
                  rwa [← hm2] at this
                simp
                rw [c3 _ rfl]
                cases k4 : nms.all isNameB with
                | false => simp [isBookB, k4, hnm, -List.all_eq_true, -List.all_eq_false]
                | true =>
                  have e4 := strs_all k4
                  have hl4 : (strsOf nms).length ≤ 8 := by
                    have := congrArg List.length e4
                    rw [List.length_map] at this
                    omega
                  have hr := is_rising_eqL (D := D) (G := G) (S := S) (n := n + 1) (l := strsOf nms) (by omega)
                  rw [← e4] at hr
                  cases k5 : risB (strsOf nms) with
                  | false => simp [isBookB, hr, k4, k5, hnm]
                  | true =>
                    have c4 : ∀ v0 v4 v5 v6 : Option PV, compE (callP D G (n + 2)) G (.call 6 [(.var 2), (.var 3), (.var 1), (.var 5)]) (.nm 5) [] [v0, some (.list nms), some hs, some ps, v4, v5, v6] { items := bs } S = .ok (.list (bs.map fun z => .bool (isBetB (strsL hs) (strsL ps) (strsOf nms) z))) S := by
                      intro v0 v4 v5 v6
                      have := compE_mapA (φ := callP D G (n + 2)) (G := G) (elt := .call 6 [(.var 2), (.var 3), (.var 1), (.var 5)]) (tg := .nm 5) (ρ := [v0, some (.list nms), some hs, some ps, v4, v5, v6]) (S := S) (F := id) (xs := bs) (fun z => .bool (isBetB (strsL hs) (strsL ps) (strsOf nms) z)) (by omega) (fun y hy => by
                        refine ⟨[v0, some (.list nms), some hs, some ps, v4, some y, v6], rfl, ?_⟩
                        have hbq := is_bet_eq (D := D) (G := G) (S := S) (n := n) (hs := strsL hs) (ps := strsL ps) (bs := strsOf nms) (hb' y hy) (by omega)
                        rw [← names_pv k1, ← names_pv k2, ← e4] at hbq
                        simp [hbq])
                      rwa [← hm] at this
                    simp [k4, hr, k5]
                    rw [c4]
                    simp [isBookB, k1, k2, k3, hnm, k4, k5, h8]
            · have h8' : (8 : Int) < (bs.length : Nat) := by omega
              simp [c_is_book, n1, k1, n2, k2, h8', h8, isBookB]
          | none => simp [c_is_book, n1, k1, n2, k2, isBookB]
          | bool v => simp [c_is_book, n1, k1, n2, k2, isBookB]
          | int i => simp [c_is_book, n1, k1, n2, k2, isBookB]
          | str xs => simp [c_is_book, n1, k1, n2, k2, isBookB]
          | list xs => simp [c_is_book, n1, k1, n2, k2, isBookB]
          | _ => simp [PV.dat] at hbt
    · have h3' : ¬ (((xs.length : Nat) : Int) = 3) := by omega
      simp [c_is_book, h3', isBookB_len h3, h3]
  | none => simp [c_is_book, isBookB]
  | bool v => simp [c_is_book, isBookB]
  | int i => simp [c_is_book, isBookB]
  | str xs => simp [c_is_book, isBookB]
  | list xs => simp [c_is_book, isBookB]
  | _ => simp [PV.dat] at hx
end
end Bt
end
section
set_option maxHeartbeats 0
namespace K01
open PySem Bt
def c_look_seen : Df := { np := 2, nv := 2, keep := false, body := [.ifs (.not (.call 10 [(.var 0), (.var 1)])) [.never] []] }
def e_look_seen : Ent := ⟨"look_seen", ["book", "seen"], ["book", "seen"], c_look_seen⟩
def c_law_spoilt : Df := { np := 1, nv := 5, keep := false, body := [.asg (.nm 1) (.br (.lst [])),
    .ifs (.not (.bi (.isinst .tuple) [(.var 0)])) [.ret (.var 1)] [],
    .forr (.tp [(.nm 2), (.nm 3)]) (.enum (.var 0)) [.forr (.nm 4) (.seq (.bin .add (.lst [(.cst (.str "!")), (.tup [(.cst (.str "!"))]), (.neg (.cst (.int 1))), (.lst [])]) (.call 104 [(.var 3)]))) [.app (.var 1) (.bin .add (.bin .add (.sl (.var 0) none (some (.var 2))) (.tup [(.var 4)])) (.sl (.var 0) (some (.bin .add (.var 2) (.cst (.int 1)))) none))]],
    .ret (.bin .add (.var 1) (.lst [(.bi .list [(.var 0)]), (.bin .add (.var 0) (.tup [(.cst (.str "!"))])), (.bin .add (.var 0) (.tup [(.neg (.cst (.int 1)))]))]))] }
def e_law_spoilt : Ent := ⟨"_law_spoilt", ["thing_here"], ["thing_here", "found", "place", "one", "odd"], c_law_spoilt⟩
def c_law_deep : Df := { np := 1, nv := 3, keep := false, body := [.asg (.nm 1) (.tup [(.cst (.str "is")), (.cst (.str "wet"))]),
    .forr (.nm 2) (.rng1 (.bin .sub (.var 0) (.cst (.int 1)))) [.asg (.nm 1) (.tup [(.cst (.str "not")), (.var 1)])],
    .ret (.var 1)] }
def e_law_deep : Ent := ⟨"_law_deep", ["many"], ["many", "found", "k"], c_law_deep⟩
def c_law_conditions : Df := { np := 2, nv := 6, keep := false, body := [.asg (.nm 2) (.br (.lst [(.tup [(.cst (.str "is")), (.cst (.str "wet"))]), (.tup [(.cst (.str "won")), (.var 1)]), (.tup [(.cst (.str "lost")), (.var 1)]), (.call 105 [(.cst (.int 4))]), (.tup [(.cst (.str "some")), (.cst (.int 4)), (.bin .mul (.tup [(.tup [(.cst (.str "is")), (.cst (.str "wet"))])]) (.cst (.int 4)))])])),
    .app (.var 2) (.tup [(.cst (.str "some")), (.cst (.int 1)), (.tup [(.tup [(.cst (.str "not")), (.tup [(.cst (.str "some")), (.cst (.int 1)), (.tup [(.tup [(.cst (.str "won")), (.var 1)])])])])])]),
    .asg (.nm 3) (.br (.lst [(.cst .none), (.cst (.int 3)), (.tup []), (.cst (.str "wet")), (.tup [(.cst (.str "is"))]), (.tup [(.cst (.str "is")), (.cst (.str "ann"))]), (.tup [(.cst (.str "is")), (.var 1), (.cst (.int 1))]), (.tup [(.cst (.str "won")), (.cst (.str "zz"))]), (.tup [(.cst (.str "lost")), (.cst (.str "wet"))])])),
    .asg (.nm 3) (.br (.lbin .add (.var 3) (.lst [(.tup [(.cst (.str "is")), (.cst .none)]), (.call 105 [(.cst (.int 5))])]))),
    .asg (.nm 4) (.tup [(.tup [(.cst (.str "is")), (.cst (.str "wet"))])]),
    .asg (.nm 3) (.br (.lbin .add (.var 3) (.lst [(.tup [(.cst (.str "some")), (.cst (.int 0)), (.var 4)]), (.tup [(.cst (.str "some")), (.cst (.int 2)), (.var 4)]), (.tup [(.cst (.str "some")), (.cst (.int 1)), (.tup [])]), (.tup [(.cst (.str "some")), (.cst (.bool true)), (.var 4)]), (.tup [(.cst (.str "some")), (.cst (.int 5)), (.bin .mul (.var 4) (.cst (.int 5)))])]))),
    .asg (.nm 3) (.br (.lbin .add (.var 3) (.lst [(.tup [(.cst (.str "some")), (.cst (.int 1)), (.lst [(.tup [(.cst (.str "is")), (.cst (.str "wet"))])])]), (.lst [(.cst (.str "is")), (.cst (.str "wet"))]), (.tup [(.cst (.str "not")), (.cst (.str "wet"))]), (.tup [(.cst (.str "all")), (.tup [(.cst (.str "is")), (.cst (.str "wet"))])])]))),
    .app (.var 3) (.tup [(.cst (.str "some")), (.cst (.int 1)), (.tup [(.tup [(.cst (.str "not")), (.tup [(.cst (.str "not")), (.tup [(.cst (.str "not")), (.tup [(.cst (.str "is")), (.cst (.str "wet"))])])])])])]),
    .ifs (.cmp .ne (.lc (.var 5) (.nm 5) (.seq (.var 2)) [(.not (.call 98 [(.call 9 [(.var 0), (.var 5)]), (.cst (.bool true))]))] [5]) (.lst [])) [.ret (.cst (.bool false))] [],
    .ret (.cmp .eq (.lc (.var 5) (.nm 5) (.seq (.var 3)) [(.not (.call 98 [(.call 9 [(.var 0), (.var 5)]), (.cst (.bool false))]))] [5]) (.lst []))] }
def e_law_conditions : Ent := ⟨"_law_conditions", ["book", "name"], ["book", "name", "good", "bad", "one", "thing_here"], c_law_conditions⟩
def c_law_seen : Df := { np := 3, nv := 7, keep := false, body := [.forr (.nm 3) (.seq (.tup [(.tup []), (.tup [(.cst (.str "wet")), (.cst (.str "dry"))]), (.tup [(.cst (.str "wet")), (.cst (.str "wet"))]), (.lst [(.cst (.str "wet"))]), (.tup [(.cst (.str "Wet"))])])) [.ifs (.call 7 [(.tup [(.var 3), (.tup [(.cst (.str "ann")), (.cst (.str "bob"))]), (.tup [])])]) [.ret (.cst (.bool false))] []],
    .asg (.nm 4) (.bi .tuple [(.lc (.ix (.lst [(.cst .none), (.cst (.bool true)), (.cst (.bool false))]) (.call 99 [(.var 0), (.var 1), (.cst (.int 3))])) (.nm 6) (.seq (.ix (.var 2) (.cst (.int 0)))) [] [6])]),
    .ifs (.or (.not (.call 98 [(.call 10 [(.var 2), (.var 4)]), (.cst (.bool true))])) (.cmp .ne (.call 14 [(.var 2), (.var 4)]) (.bi .tuple [(.call 103 [(.var 4)])]))) [.ret (.cst (.bool false))] [],
    .forr (.nm 5) (.seq (.tup [(.cst .none), (.bi .list [(.var 4)]), (.bin .add (.var 4) (.tup [(.cst .none)])), (.sl (.var 4) (some (.cst (.int 1))) none), (.bin .mul (.tup [(.cst (.int 1))]) (.bi .len [(.var 4)])), (.bin .mul (.tup [(.cst (.str "so"))]) (.bi .len [(.var 4)]))])) [.ifs (.not (.call 98 [(.call 10 [(.var 2), (.var 5)]), (.cst (.bool false))])) [.ret (.cst (.bool false))] []],
    .ifs (.cmp .ne (.call 13 [(.var 2)]) (.bi .tuple [(.call 103 [(.bin .mul (.tup [(.cst .none)]) (.bi .len [(.ix (.var 2) (.cst (.int 0)))]))])])) [.ret (.cst (.bool false))] [],
    .ret (.cst (.bool true))] }
def e_law_seen : Ent := ⟨"_law_seen", ["script", "town", "book"], ["script", "town", "book", "happenings", "seen", "odd", "one"], c_law_seen⟩
def c_law : Df := { np := 1, nv := 13, keep := false, body := [.asg (.nm 1) (.call 100 []),
    .asg (.nm 2) (.call 102 [(.var 0), (.var 1), (.cst (.int 3))]),
    .ifs (.not (.call 98 [(.call 7 [(.var 2)]), (.cst (.bool true))])) [.ret (.cst (.bool false))] [],
    .ifs (.cmp .ne (.lc (.var 11) (.nm 11) (.seq (.call 104 [(.var 2)])) [(.not (.call 98 [(.call 7 [(.var 11)]), (.cst (.bool false))]))] [11]) (.lst [])) [.ret (.cst (.bool false))] [],
    .asg (.nm 3) (.ix (.lst [(.cst (.str "a")), (.cst (.str "abcdefgh")), (.cst (.str "zed"))]) (.call 99 [(.var 0), (.var 1), (.cst (.int 3))])),
    .asg (.nm 4) (.tup [(.var 3), (.cst (.str "ann")), (.cst (.str "bob")), (.cst (.int 999)), (.cst (.int 1)), (.tup [(.cst (.str "is")), (.cst (.str "wet"))])]),
    .forr (.nm 5) (.rng1 (.cst (.int 3))) [.ifs (.not (.call 98 [(.call 7 [(.tup [(.tup [(.cst (.str "wet"))]), (.tup [(.cst (.str "ann")), (.cst (.str "bob"))]), (.tup [(.var 4)])])]), (.cst (.bool true))])) [.ret (.cst (.bool false))] [], .ifs (.call 7 [(.tup [(.tup [(.cst (.str "wet"))]), (.tup [(.cst (.str "ann"))]), (.tup [(.var 4)])])]) [.ret (.cst (.bool false))] []],
    .asg (.nm 6) (.bi .tuple [(.lc (.tup [(.bin .add (.cst (.str "n")) (.var 12)), (.cst (.str "ann")), (.cst (.str "bob")), (.cst (.int 1)), (.cst (.int 999)), (.tup [(.cst (.str "lost")), (.cst (.str "na"))])]) (.nm 12) (.seq (.cst (.str "abcdefgh"))) [] [12])]),
    .ifs (.not (.call 7 [(.tup [(.tup [(.cst (.str "wet"))]), (.tup [(.cst (.str "ann")), (.cst (.str "bob"))]), (.var 6)])])) [.ret (.cst (.bool false))] [],
    .ifs (.call 7 [(.tup [(.tup [(.cst (.str "wet"))]), (.tup [(.cst (.str "ann")), (.cst (.str "bob"))]), (.bin .add (.var 6) (.tup [(.bin .add (.tup [(.cst (.str "z"))]) (.sl (.var 4) (some (.cst (.int 1))) none))]))])]) [.ret (.cst (.bool false))] [],
    .asg (.nm 7) (.tup [(.cst (.str "a")), (.cst (.str "b")), (.cst (.str "c")), (.cst (.str "d")), (.cst (.str "e")), (.cst (.str "f"))]),
    .ifs (.or (.not (.call 7 [(.tup [(.var 7), (.sl (.var 7) none (some (.cst (.int 5)))), (.tup [])])])) (.or (.call 7 [(.tup [(.bin .add (.var 7) (.tup [(.cst (.str "g"))])), (.sl (.var 7) none (some (.cst (.int 2)))), (.tup [])])]) (.call 7 [(.tup [(.var 7), (.var 7), (.tup [])])]))) [.ret (.cst (.bool false))] [],
    .asg (.nm 8) (.lst [(.tup [(.cst (.int 3)), (.cst (.int 0))]), (.tup [(.cst (.int 3)), (.cst (.int 1000))]), (.tup [(.cst (.int 4)), (.cst (.int 0))]), (.tup [(.cst (.int 4)), (.cst (.int 1000))]), (.tup [(.cst (.int 3)), (.cst (.bool true))]), (.tup [(.cst (.int 1)), (.cst (.str "bob"))]), (.tup [(.cst (.int 1)), (.cst (.str "zz"))]), (.tup [(.cst (.int 0)), (.cst (.str "A"))]), (.tup [(.cst (.int 0)), (.cst (.str ""))])]),
    .forr (.tp [(.nm 9), (.nm 10)]) (.seq (.bin .add (.var 8) (.lst [(.tup [(.cst (.int 0)), (.bin .add (.var 3) (.cst (.str "abcdefgh")))])]))) [.ifs (.call 7 [(.tup [(.tup [(.cst (.str "wet"))]), (.tup [(.cst (.str "ann")), (.cst (.str "bob"))]), (.tup [(.bin .add (.bin .add (.sl (.var 4) none (some (.var 9))) (.tup [(.var 10)])) (.sl (.var 4) (some (.bin .add (.var 9) (.cst (.int 1)))) none))])])]) [.ret (.cst (.bool false))] []],
    .ifs (.not (.call 107 [(.var 0), (.var 1), (.var 2)])) [.ret (.cst (.bool false))] [],
    .ret (.call 106 [(.tup [(.tup [(.cst (.str "wet"))]), (.tup [(.cst (.str "ann")), (.cst (.str "bob"))]), (.tup [(.var 4)])]), (.var 3)])] }
def e_law : Ent := ⟨"law", ["script"], ["script", "town", "book", "name", "bet", "k", "many", "six", "odds", "place", "odd", "thing_here", "sign"], c_law⟩
def es : List (Option Ent) := [some e_is_number, some e_is_name, some e_is_rising, some e_are_names, some e_is_known, some e_is_condition_of, some e_is_bet, some e_is_book, some e_names_of, some e_is_condition, some e_is_seen, some e_look_seen, some e_fits_of, some e_worlds, some e_fitting, none, none, none, none, none, none, none, none, none, none, none, none, none, none, none, none, none, none, none, none, none, none, none, none, none, none, none, none, none, none, none, none, none, none, none, none, none, none, none, none, none, none, none, none, none, none, none, none, none, none, none, none, none, none, none, none, none, none, none, none, none, none, none, none, none, none, none, none, none, none, none, none, none, none, none, none, none, none, none, none, none, none, none, some e_law_is, some e_law_draw, some e_law_begun, some e_law_a_condition, some e_law_a_book, some e_law_worlds, some e_law_spoilt, some e_law_deep, some e_law_conditions, some e_law_seen, some e_law]
def gs : List (Option (Str × PV)) := [some ("LETTERS", (.str "abcdefghijklmnopqrstuvwxyz")), some ("DEEP", (.int 4)), none, none, none]
abbrev D : List Df := es.map dOf
abbrev G : List PV := gs.map gOf
instance : Hd D f_is_number c_is_number := ⟨rfl⟩
instance : Hd D f_is_name c_is_name := ⟨rfl⟩
instance : Hd D f_is_rising c_is_rising := ⟨rfl⟩
instance : Hd D f_are_names c_are_names := ⟨rfl⟩
instance : Hd D f_is_known c_is_known := ⟨rfl⟩
instance : Hd D f_is_condition_of c_is_condition_of := ⟨rfl⟩
instance : Hd D f_is_bet c_is_bet := ⟨rfl⟩
instance : Hd D f_is_book c_is_book := ⟨rfl⟩
instance : Hd D f_names_of c_names_of := ⟨rfl⟩
instance : Hd D f_is_condition c_is_condition := ⟨rfl⟩
instance : Hd D f_is_seen c_is_seen := ⟨rfl⟩
instance : Hd D f_look_seen c_look_seen := ⟨rfl⟩
instance : Hd D f_fits_of c_fits_of := ⟨rfl⟩
instance : Hd D f_worlds c_worlds := ⟨rfl⟩
instance : Hd D f_fitting c_fitting := ⟨rfl⟩
instance : Hd D f_law_is c_law_is := ⟨rfl⟩
instance : Hd D f_law_draw c_law_draw := ⟨rfl⟩
instance : Hd D f_law_begun c_law_begun := ⟨rfl⟩
instance : Hd D f_law_a_condition c_law_a_condition := ⟨rfl⟩
instance : Hd D f_law_a_book c_law_a_book := ⟨rfl⟩
instance : Hd D f_law_worlds c_law_worlds := ⟨rfl⟩
instance : Hd D f_law_spoilt c_law_spoilt := ⟨rfl⟩
instance : Hd D f_law_deep c_law_deep := ⟨rfl⟩
instance : Hd D f_law_conditions c_law_conditions := ⟨rfl⟩
instance : Hd D f_law_seen c_law_seen := ⟨rfl⟩
instance : Hd D f_law c_law := ⟨rfl⟩
instance : Gd G 0 (.str "abcdefghijklmnopqrstuvwxyz") := ⟨rfl⟩
instance : Gd G 1 (.int 4) := ⟨rfl⟩
end K01
end
section
set_option maxHeartbeats 4000000
namespace K01
open PySem Bt
variable {n : Nat} {S : Store}
def oddsP : List PV := [.str "!", .tup [.str "!"], .int (-1), .list []]
mutual
def spo : PV → List PV
  | .tup xs => spoL [] xs ++ [.list xs, .tup (xs ++ [.str "!"]), .tup (xs ++ [.int (-1)])]
  | _ => []
def spoL : List PV → List PV → List PV
  | _, [] => []
  | pre, x :: xs => (oddsP ++ spo x).map (fun o => .tup (pre ++ o :: xs)) ++ spoL (pre ++ [x]) xs
end
theorem spo_tup {xs : List PV} : spo (.tup xs) = spoL [] xs ++ [.list xs, .tup (xs ++ [.str "!"]), .tup (xs ++ [.int (-1)])] := by conv => lhs; unfold spo
theorem spoL_nil {pre : List PV} : spoL pre [] = [] := by conv => lhs; unfold spoL
theorem spoL_cons {pre xs : List PV} {x : PV} : spoL pre (x :: xs) = (oddsP ++ spo x).map (fun o => .tup (pre ++ o :: xs)) ++ spoL (pre ++ [x]) xs := by conv => lhs; unfold spoL
theorem spo_not {x : PV} (h : x.isTup = false) : spo x = [] := by
  cases x <;> first | (unfold spo; rfl) | (simp [PV.isTup] at h)
theorem spoL_mem : ∀ {xs pre : List PV} {y : PV}, y ∈ spoL pre xs → ∃ l x r o, xs = l ++ x :: r ∧ (o ∈ oddsP ∨ o ∈ spo x) ∧ y = .tup (pre ++ (l ++ o :: r))
  | [], pre, y, h => by rw [spoL_nil] at h; simp at h
  | x :: xs, pre, y, h => by
    rw [spoL_cons] at h
    rcases List.mem_append.mp h with h | h
    · obtain ⟨o, ho, rfl⟩ := List.mem_map.mp h
      exact ⟨[], x, xs, o, rfl, List.mem_append.mp ho, rfl⟩
    · obtain ⟨l, z, r, o, rfl, ho, rfl⟩ := spoL_mem h
      exact ⟨x :: l, z, r, o, rfl, ho, by simp⟩
theorem spoL_len : ∀ {xs pre : List PV}, 4 * xs.length ≤ (spoL pre xs).length ∧ ∀ x ∈ xs, (spo x).length + 4 ≤ (spoL pre xs).length
  | [], pre => by simp
  | x :: xs, pre => by
    rw [spoL_cons]
    have ih := spoL_len (xs := xs) (pre := pre ++ [x])
    simp only [List.length_append, List.length_map, List.length_cons]
    have : oddsP.length = 4 := rfl
    refine ⟨by omega, fun y hy => ?_⟩
    rcases List.mem_cons.mp hy with rfl | hy
    · omega
    · have := ih.2 y hy
      omega
theorem odds_dat : ∀ o ∈ oddsP, o.dat = true := by
  intro o h
  simp only [oddsP, List.mem_cons, List.not_mem_nil, or_false] at h
  rcases h with rfl | rfl | rfl | rfl <;> rfl
theorem spo_dat : ∀ (d : Nat) (x : PV), dOk d x = true → x.dat = true → ∀ y ∈ spo x, y.dat = true ∧ dOk (d + 1) y = true := by
  intro d
  induction d with
  | zero =>
    intro x h hx y hy
    cases hq : x.isTup with
    | false => rw [spo_not hq] at hy; simp at hy
    | true => cases x <;> simp [PV.isTup] at hq; simp [dOk] at h
  | succ d ih =>
    intro x h hx y hy
    cases x with
    | tup xs =>
      have h' := dOkL_iff.mp (show dOkL d xs = true by rw [← dOk_tup]; exact h)
      have hx' := datL_iff.mp hx
      rw [spo_tup] at hy
      have app : ∀ z : PV, z.dat = true → flatP z = true → PV.dat (.tup (xs ++ [z])) = true ∧ dOk (d + 1 + 1) (.tup (xs ++ [z])) = true := fun z hz hf => ⟨datL_iff.mpr fun w hw => by
        rcases List.mem_append.mp hw with hw | hw
        · exact hx' w hw
        · rw [List.mem_singleton.mp hw]; exact hz, by
        rw [dOk_tup]
        refine dOkL_iff.mpr fun w hw => ?_
        rcases List.mem_append.mp hw with hw | hw
        · exact dOk_up (by omega) _ (h' w hw)
        · rw [List.mem_singleton.mp hw]; exact dOk_flat hf⟩
      rcases List.mem_append.mp hy with hy | hy
      · obtain ⟨l, x, r, o, rfl, ho, rfl⟩ := spoL_mem hy
        have ho' : o.dat = true ∧ dOk (d + 1) o = true := by
          rcases ho with ho | ho
          · refine ⟨odds_dat o ho, ?_⟩
            simp only [oddsP, List.mem_cons, List.not_mem_nil, or_false] at ho
            rcases ho with rfl | rfl | rfl | rfl
            · exact dOk_flat rfl
            · rw [dOk_tup]; exact dOkL_iff.mpr fun w hw => by rw [List.mem_singleton.mp hw]; exact dOk_flat rfl
            · exact dOk_flat rfl
            · rw [dOk_lst]; rfl
          · exact ih x (h' x (by simp)) (hx' x (by simp)) o ho
        constructor
        · refine datL_iff.mpr fun w hw => ?_
          simp at hw
          rcases hw with hw | rfl | hw
          · exact hx' w (by simp [hw])
          · exact ho'.1
          · exact hx' w (by simp [hw])
        · rw [dOk_tup]
          refine dOkL_iff.mpr fun w hw => ?_
          simp at hw
          rcases hw with hw | rfl | hw
          · exact dOk_up (by omega) _ (h' w (by simp [hw]))
          · exact ho'.2
          · exact dOk_up (by omega) _ (h' w (by simp [hw]))
      · simp at hy
        rcases hy with rfl | rfl | rfl
        · exact ⟨hx, by rw [dOk_lst]; exact dOkL_iff.mpr fun w hw => dOk_up (by omega) _ (h' w hw)⟩
        · exact app _ rfl rfl
        · exact app _ rfl rfl
    | _ => rw [spo_not rfl] at hy; simp at hy
theorem add_tupB {xs ys : List PV} (h : xs.length + ys.length ≤ 1000000) : bop .add (.tup xs) (.tup ys) = some (.tup (xs ++ ys)) := by
  show (if xs.length + ys.length ≤ sizeLine then some (PV.tup (xs ++ ys)) else none) = _
  rw [if_pos (by rw [sizeLine_eq]; omega)]
theorem add_listB {xs ys : List PV} (h : xs.length + ys.length ≤ 1000000) : bop .add (.list xs) (.list ys) = some (.list (xs ++ ys)) := by
  show (if xs.length + ys.length ≤ sizeLine then some (PV.list (xs ++ ys)) else none) = _
  rw [if_pos (by rw [sizeLine_eq]; omega)]
theorem app_lstB {S : Store} {xs : List PV} {k : Nat} {v : PV} (h : S[k]? = some (.lst xs)) (hl : xs.length ≤ 1000000) : appAt S (.ref k) v = some (S.set k (.lst (xs ++ [v]))) := by
  unfold appAt
  simp only [h]
  rw [if_pos (by rw [sizeLine_eq]; omega)]
theorem sl_to {xs : List PV} {j : Nat} (h : j ≤ xs.length) : slice (.tup xs) none (some (j : Nat)) = some (.tup (xs.take j)) := by
  show some (PV.tup (cut xs none (some (j : Nat)))) = _
  congr 2
  unfold cut edge
  simp
  rw [if_neg (by omega)]
  simp
theorem sl_from {xs : List PV} {j : Nat} (h : j ≤ xs.length) : slice (.tup xs) (some (j : Nat)) none = some (.tup (xs.drop j)) := by
  show some (PV.tup (cut xs (some (j : Nat)) none)) = _
  congr 2
  unfold cut edge
  simp
  rw [if_neg (by omega)]
  rw [Nat.min_eq_left h, List.take_of_length_le (by simp)]
theorem enumP_get : ∀ {xs : List PV} {i j : Nat} {y : PV}, (enumP i xs)[j]? = some y → ∃ x, xs[j]? = some x ∧ y = .tup [.int (i + j : Nat), x]
  | [], i, j, y, h => by simp [enumP] at h
  | x :: xs, i, 0, y, h => by simp [enumP] at h; exact ⟨x, rfl, h.symm⟩
  | x :: xs, i, j + 1, y, h => by
    have h : (enumP (i + 1) xs)[j]? = some y := by simpa [enumP] using h
    obtain ⟨z, hz, e⟩ := enumP_get h
    exact ⟨z, by simpa using hz, by rw [e]; congr 3; omega⟩
theorem finish_lstv {S X : Store} {xs : List PV} (hlo : Lo S) (h : datL xs = true) : Bt.finish S.length (.ok (.list xs) (S ++ X)) = .ok (.list xs) S := by
  cases X with
  | nil => rw [List.append_nil]; exact finish_same _ _
  | cons c X =>
    unfold Bt.finish
    dsimp only
    rw [if_neg (by simp), List.take_left, if_pos hlo.all]
    have : frz S.length (S ++ c :: X) (.list xs) = some (.list xs) := by
      unfold frz
      rw [if_pos (datL_lo xs h)]
    rw [this]
theorem finish_lst {S X : Store} {xs : List PV} (hlo : Lo S) (h : datL xs = true) : Bt.finish S.length (.ok (.ref S.length) (S ++ .lst xs :: X)) = .ok (.list xs) S := by
  unfold Bt.finish
  dsimp only
  rw [if_neg (by simp), List.take_left, if_pos hlo.all]
  have : frz S.length (S ++ .lst xs :: X) (.ref S.length) = some (.list xs) := by
    unfold frz
    rw [if_neg (by omega), get0]
    simp only [datL_lo xs h, if_true]
  rw [this]
theorem enumP_len : ∀ {xs : List PV} {i : Nat}, (enumP i xs).length = xs.length
  | [], _ => rfl
  | x :: xs, i => by rw [enumP, List.length_cons, enumP_len, List.length_cons]
theorem spoL_next {xs : List PV} {j : Nat} {x : PV} (h : xs[j]? = some x) : spoL (xs.take j) (xs.drop j) = (oddsP ++ spo x).map (fun o => .tup (xs.take j ++ o :: xs.drop (j + 1))) ++ spoL (xs.take (j + 1)) (xs.drop (j + 1)) := by
  have hj := (List.getElem?_eq_some_iff.mp h).1
  have e : xs.drop j = x :: xs.drop (j + 1) := by
    rw [List.drop_eq_getElem_cons hj, (List.getElem?_eq_some_iff.mp h).2]
  rw [e, spoL_cons, List.take_succ, h]
  rfl
theorem spoilt_eq : ∀ (d n : Nat) (x : PV) (S : Store), x.dat = true → dOk d x = true → (spo x).length ≤ 10000 → d ≤ n → Lo S → callP D G (n + 1) f_law_spoilt [x] S = .ok (.list (spo x)) S := by
  intro d
  induction d with
  | zero =>
    intro n x S hx hd _ _ hlo
    have hq : x.isTup = false := by cases x <;> first | rfl | (simp [dOk] at hd)
    rw [call_eq rfl, spo_not hq]
    have := dat_tup hx
    rw [hq] at this
    simp [c_law_spoilt, this, toRef, dat_res hx]
    exact finish_lst hlo rfl
  | succ d ih =>
    intro n x S hx hd hl hn hlo
    cases hq : x.isTup with
    | false =>
      rw [call_eq rfl, spo_not hq]
      have := dat_tup hx
      rw [hq] at this
      simp [c_law_spoilt, this, toRef, dat_res hx]
      exact finish_lst hlo rfl
    | true =>
      obtain ⟨xs, rfl⟩ : ∃ xs, x = .tup xs := by cases x <;> first | exact ⟨_, rfl⟩ | (simp [PV.isTup] at hq)
      obtain ⟨n, rfl⟩ : ∃ k, n = k + 1 := ⟨n - 1, by omega⟩
      have h' := dOkL_iff.mp (show dOkL d xs = true by rw [← dOk_tup]; exact hd)
      have hx' := datL_iff.mp hx
      have hsd := spo_dat _ _ hd hx
      rw [spo_tup] at hl hsd
      have hL := spoL_len (xs := xs) (pre := [])
      simp at hl
      rw [call_eq rfl]
      simp [c_law_spoilt, toRef]
      generalize hF : forE _ _ _ _ _ _ _ = o
      let P : Nat → Bt.Env → Store → Prop := fun j ρ' S' => ∃ acc v2 v3 v4, ρ' = [some (.tup xs), some (.ref S.length), v2, v3, v4] ∧ S' = S ++ [.lst acc] ∧ acc ++ spoL (xs.take j) (xs.drop j) = spoL [] xs ∧ datL acc = true
      obtain ⟨ρ', S', rfl, acc, v2, v3, v4, rfl, rfl, hacc, _⟩ : ∃ ρ' S', o = .next ρ' S' ∧ P (enumP 0 xs).length ρ' S' := by
        rw [← hF]
        refine forE_inv (iv := { items := enumP 0 xs }) P rfl (fun _ _ _ _ => rfl) ?_ ⟨[], _, _, _, rfl, rfl, by simp, rfl⟩
        rintro j y ρ S1 hy ⟨acc, v2, v3, v4, rfl, rfl, hacc, hda⟩
        obtain ⟨x, hxj, rfl⟩ := enumP_get hy
        have hj := (List.getElem?_eq_some_iff.mp hxj).1
        have hxm : x ∈ xs := List.mem_of_getElem? hxj
        have hlx := hL.2 x hxm
        have hal : acc.length ≤ 9997 := by
          have := congrArg List.length hacc
          rw [List.length_append] at this
          omega
        rw [spoL_next hxj, ← List.append_assoc] at hacc
        have e1 := ih n x (S ++ [.lst acc]) (hx' x hxm) (h' x hxm) (by omega) (by omega) (hlo.push (c := .lst acc) (datL_lo acc hda))
        have e2 : bop .add (.list [.str "!", .tup [.str "!"], .int (-1), .list []]) (.list (spo x)) = some (.list (oddsP ++ spo x)) := add_listB (by simp; omega)
        refine ⟨_, rfl, ?_⟩
        have hpre : acc ++ (oddsP ++ spo x).map (fun o => .tup (xs.take j ++ o :: xs.drop (j + 1))) ++ spoL (xs.take (j + 1)) (xs.drop (j + 1)) = spoL [] xs := hacc
        have hdn : datL (acc ++ (oddsP ++ spo x).map (fun o => .tup (xs.take j ++ o :: xs.drop (j + 1)))) = true := datL_iff.mpr fun z hz => (hsd z (List.mem_append.mpr (.inl (by rw [← hpre]; exact List.mem_append.mpr (.inl hz))))).1
        have hll := congrArg List.length hpre
        simp only [List.length_append, List.length_map] at hll
        generalize hits : oddsP ++ spo x = its at *
        have itl : its.length = oddsP.length + (spo x).length := by rw [← hits, List.length_append]
        simp [e1, e2]
        generalize hF : forE _ _ _ _ _ _ _ = o
        let P2 : Nat → Bt.Env → Store → Prop := fun i ρ' S' => ∃ v4, ρ' = [some (.tup xs), some (.ref S.length), some (.int (j : Nat)), some x, v4] ∧ S' = S ++ [.lst (acc ++ (its.take i).map (fun o => .tup (xs.take j ++ o :: xs.drop (j + 1))))]
        obtain ⟨ρ', S', rfl, w4, rfl, rfl⟩ : ∃ ρ' S', o = .next ρ' S' ∧ P2 its.length ρ' S' := by
          rw [← hF]
          refine forE_inv (iv := { items := its }) P2 rfl (fun _ _ _ _ => rfl) ?_ ⟨_, rfl, by simp⟩
          rintro i y ρ S1 hy ⟨w4, rfl, rfl⟩
          refine ⟨_, rfl, ?_⟩
          have hi := (List.getElem?_eq_some_iff.mp hy).1
          have s1 := sl_to (xs := xs) (j := j) (by omega)
          have s2 := sl_from (xs := xs) (j := j + 1) (by omega)
          have s2 : slice (.tup xs) (some ((j : Int) + 1)) none = _ := s2
          have a1 : bop .add (.tup (xs.take j)) (.tup [y]) = some (.tup (xs.take j ++ [y])) := add_tupB (by simp; omega)
          have a2 : bop .add (.tup (xs.take j ++ [y])) (.tup (xs.drop (j + 1))) = some (.tup (xs.take j ++ [y] ++ xs.drop (j + 1))) := add_tupB (by simp; omega)
          have htk : its.take (i + 1) = its.take i ++ [y] := by rw [List.take_succ, hy]; rfl
          have hA2 : acc ++ (its.take (i + 1)).map (fun o => PV.tup (xs.take j ++ o :: xs.drop (j + 1))) = (acc ++ (its.take i).map (fun o => PV.tup (xs.take j ++ o :: xs.drop (j + 1)))) ++ [.tup (xs.take j ++ [y] ++ xs.drop (j + 1))] := by rw [htk]; simp
          show ∃ ρ2 S2, _ ∧ ∃ v4, _ ∧ S2 = S ++ [.lst (acc ++ (its.take (i + 1)).map (fun o => .tup (xs.take j ++ o :: xs.drop (j + 1))))]
          rw [hA2]
          have hAl : (acc ++ (its.take i).map (fun o => PV.tup (xs.take j ++ o :: xs.drop (j + 1)))).length ≤ 100000 := by simp; omega
          generalize acc ++ (its.take i).map (fun o => PV.tup (xs.take j ++ o :: xs.drop (j + 1))) = A at *
          have ap : ∀ v, appAt (S ++ [.lst A]) (.ref S.length) v = some (S ++ [.lst (A ++ [v])]) := fun v => by rw [app_lstB get0 (by omega), set0]
          have rl : res (S ++ [.lst A]) (.ref S.length) = .list A := res_lst get0
          refine ex_next (by simp [s1, s2, a1, a2, ap, rl, meKind, -List.append_assoc]; first | exact ⟨rfl, rfl⟩ | rfl) ?_
          exact ⟨_, rfl, by simp⟩
        refine ⟨_, _, by simp; first | exact ⟨rfl, rfl⟩ | rfl, ?_⟩
        exact ⟨_, _, _, _, rfl, rfl, hpre, hdn⟩
      have hel : (enumP 0 xs).length = xs.length := enumP_len
      rw [hel, List.take_length, List.drop_length, spoL_nil, List.append_nil] at hacc
      subst hacc
      have a1 : bop .add (.tup xs) (.tup [.str "!"]) = some (.tup (xs ++ [.str "!"])) := add_tupB (by simp; omega)
      have a2 : bop .add (.tup xs) (.tup [.int (-1)]) = some (.tup (xs ++ [.int (-1)])) := add_tupB (by simp; omega)
      have a3 : bop .add (.list (spoL [] xs)) (.list [.list xs, .tup (xs ++ [.str "!"]), .tup (xs ++ [.int (-1)])]) = some (.list (spoL [] xs ++ [.list xs, .tup (xs ++ [.str "!"]), .tup (xs ++ [.int (-1)])])) := add_listB (by simp; omega)
      have rl : res (S ++ [.lst (spoL [] xs)]) (.ref S.length) = .list (spoL [] xs) := res_lst get0
      have lst1 : biv .list [.tup xs] = some (.list xs) := rfl
      simp [rl, a1, a2, a3, lst1]
      rw [spo_tup]
      exact finish_lstv hlo (datL_iff.mpr fun z hz => (hsd z hz).1)
end K01
end
section
set_option maxHeartbeats 4000000
namespace K01
open PySem Bt
variable {hs ps bs : List Str}
theorem bang_name : nameB "!" = false := by decide
theorem odds_cases {o : PV} (h : o ∈ oddsP) : o = .str "!" ∨ o = .tup [.str "!"] ∨ o = .int (-1) ∨ o = .list [] := by
  simpa only [oddsP, List.mem_cons, List.not_mem_nil, or_false] using h
theorem odds_name {o : PV} (h : o ∈ oddsP) : isNameB o = false := by
  rcases odds_cases h with rfl | rfl | rfl | rfl <;> first | exact bang_name | rfl
theorem odds_known {o : PV} (h : o ∈ oddsP) (hb : ("!" : Str) ∉ ps) : isKnownB ps o = false := by
  rcases odds_cases h with rfl | rfl | rfl | rfl
  · simp [isKnownB]; exact hb
  · rfl
  · rfl
  · rfl
theorem odds_num {o : PV} (h : o ∈ oddsP) {c : Int} : isNumB 1 c o = false := by
  rcases odds_cases h with rfl | rfl | rfl | rfl <;> first | rfl | simp [isNumB]
theorem odds_cond {o : PV} (h : o ∈ oddsP) (d : Nat) : isCondB hs bs d o = false := by
  rcases odds_cases h with rfl | rfl | rfl | rfl <;> cases d <;> simp [isCondB]
theorem bang_odds : PV.str "!" ∈ oddsP := by simp [oddsP]
theorem all_no {α : Type} {f : α → Bool} {l r : List α} {o : α} (h : f o = false) : (l ++ o :: r).all f = false := by
  rw [List.all_append, List.all_cons, h]
  simp
/-- names spoilt are none -/
theorem names_spo {l : List Str} {a c : Int} : ∀ y ∈ spo (.tup (l.map .str)), areNamesB a c y = false := by
  intro y hy
  have key : ∀ (p q : List PV) (o : PV), isNameB o = false → areNamesB a c (.tup (p ++ o :: q)) = false := fun p q o ho => by
    simp only [areNamesB]
    rw [all_no ho]
    simp
  rw [spo_tup] at hy
  rcases List.mem_append.mp hy with hy | hy
  · obtain ⟨p, x, q, o, e, ho, rfl⟩ := spoL_mem hy
    refine key _ _ _ ?_
    rcases ho with ho | ho
    · exact odds_name ho
    · have : x ∈ l.map PV.str := by rw [e]; simp
      obtain ⟨w, _, rfl⟩ := List.mem_map.mp this
      rw [spo_not rfl] at ho
      simp at ho
  · simp only [List.mem_cons, List.not_mem_nil, or_false] at hy
    rcases hy with rfl | rfl | rfl
    · rfl
    · exact key _ [] _ bang_name
    · exact key _ [] _ rfl
theorem cond2 {d : Nat} {x y : PV} (hx : ∀ w, x = .str w → (w = "not" → isCondB hs bs d y = false) ∧ (w ≠ "not" → isKnownB (condNames hs bs w) y = false)) : isCondB hs bs (d + 1) (.tup [x, y]) = false := by
  cases x with
  | str w =>
    have := hx w rfl
    simp only [isCondB]
    split
    · exact this.1 ‹_›
    · exact this.2 ‹_›
  | _ => simp [isCondB]
theorem cond3 {d : Nat} {x y z : PV} (h : x = .str "some" → ∀ k, y = .int k → ∀ cs, z = .tup cs → isNumB 1 cs.length (.int k) = false ∨ cs.all (isCondB hs bs d) = false) : isCondB hs bs (d + 1) (.tup [x, y, z]) = false := by
  cases x with
  | str w =>
    cases z with
    | tup cs =>
      simp only [isCondB]
      by_cases hw : w = "some"
      · subst hw
        cases y with
        | int k =>
          rcases h rfl k rfl cs rfl with q | q
          · rw [q]; simp
          · rw [q]; simp
        | _ => simp [isNumB]
      · simp [hw]
    | _ => simp [isCondB]
  | _ => simp [isCondB]
theorem cond4 {d : Nat} {x y z w : PV} {r : List PV} : isCondB hs bs d (.tup (x :: y :: z :: w :: r)) = false := by
  cases d <;> simp [isCondB]
theorem spo2 {x y : PV} : spo (.tup [x, y]) = (oddsP ++ spo x).map (fun o => .tup [o, y]) ++ ((oddsP ++ spo y).map (fun o => .tup [x, o]) ++ [.list [x, y], .tup [x, y, .str "!"], .tup [x, y, .int (-1)]]) := by
  rw [spo_tup, spoL_cons, spoL_cons, spoL_nil]
  simp
theorem spo3 {x y z : PV} : spo (.tup [x, y, z]) = (oddsP ++ spo x).map (fun o => .tup [o, y, z]) ++ ((oddsP ++ spo y).map (fun o => .tup [x, o, z]) ++ ((oddsP ++ spo z).map (fun o => .tup [x, y, o]) ++ [.list [x, y, z], .tup [x, y, z, .str "!"], .tup [x, y, z, .int (-1)]])) := by
  rw [spo_tup, spoL_cons, spoL_cons, spoL_cons, spoL_nil]
  simp
theorem bang_no {names : List Str} : isKnownB [] (.str "!") = false := by decide
theorem cond_leaf {w z : Str} (h1 : ("!" : Str) ∉ hs) (h2 : ("!" : Str) ∉ bs) (hw : w = "is" ∨ w = "won" ∨ w = "lost") : ∀ d, ∀ y ∈ spo (.tup [.str w, .str z]), isCondB hs bs d y = false := by
  intro d y hy
  cases d with
  | zero => simp [isCondB]
  | succ d =>
    have hcn : ("!" : Str) ∉ condNames hs bs w := by
      rcases hw with rfl | rfl | rfl
      · exact h1
      · exact h2
      · exact h2
    have hnn : w ≠ "not" := by rcases hw with rfl | rfl | rfl <;> decide
    have hns : w ≠ "some" := by rcases hw with rfl | rfl | rfl <;> decide
    rw [spo2, spo_not rfl, spo_not rfl] at hy
    simp only [List.append_nil, List.mem_append, List.mem_map] at hy
    rcases hy with ⟨o, ho, rfl⟩ | ⟨o, ho, rfl⟩ | hy
    · refine cond2 fun w' e => ?_
      have : w' = "!" := by
        rcases odds_cases ho with rfl | rfl | rfl | rfl <;> cases e
        rfl
      subst this
      exact ⟨fun h => absurd h (by decide), fun _ => rfl⟩
    · refine cond2 fun w' e => ?_
      cases e
      exact ⟨fun h => absurd h hnn, fun _ => odds_known ho hcn⟩
    · simp only [List.mem_cons, List.not_mem_nil, or_false] at hy
      rcases hy with rfl | rfl | rfl
      · simp [isCondB]
      · exact cond3 fun e => absurd (PV.str.inj e) hns
      · exact cond3 fun e => absurd (PV.str.inj e) hns
theorem cond_spo (h1 : ("!" : Str) ∉ hs) (h2 : ("!" : Str) ∉ bs) : ∀ (n : Nat) (c : Cd), dOk n c.pv = true → ∀ d, ∀ y ∈ spo c.pv, isCondB hs bs d y = false := by
  intro n
  induction n using Nat.strongRecOn with
  | _ n ih =>
    intro c hn d y hy
    cases d with
    | zero => simp [isCondB]
    | succ d =>
      cases c with
      | isH h => exact cond_leaf h1 h2 (.inl rfl) _ y (by rw [Cd.pv] at hy; exact hy)
      | won h => exact cond_leaf h1 h2 (.inr (.inl rfl)) _ y (by rw [Cd.pv] at hy; exact hy)
      | lost h => exact cond_leaf h1 h2 (.inr (.inr rfl)) _ y (by rw [Cd.pv] at hy; exact hy)
      | not c =>
        rw [Cd.pv] at hy hn
        obtain ⟨n, rfl⟩ : ∃ k, n = k + 1 := by cases n with | zero => simp [dOk] at hn | succ n => exact ⟨n, rfl⟩
        have hc : dOk n c.pv = true := dOkL_iff.mp (show dOkL n _ = true by rw [← dOk_tup]; exact hn) _ (by simp)
        rw [spo2, spo_not rfl] at hy
        simp only [List.append_nil, List.mem_append, List.mem_map] at hy
        rcases hy with ⟨o, ho, rfl⟩ | ⟨o, ho, rfl⟩ | hy
        · refine cond2 fun w' e => ?_
          have : w' = "!" := by
            rcases odds_cases ho with rfl | rfl | rfl | rfl <;> cases e
            rfl
          subst this
          exact ⟨fun h => absurd h (by decide), fun _ => by cases c.pv <;> rfl⟩
        · refine cond2 fun w' e => ?_
          cases e
          refine ⟨fun _ => ?_, fun h => absurd rfl h⟩
          rcases ho with ho | ho
          · exact odds_cond ho d
          · exact ih n (by omega) c hc d o ho
        · simp only [List.mem_cons, List.not_mem_nil, or_false] at hy
          rcases hy with rfl | rfl | rfl
          · simp [isCondB]
          · exact cond3 fun e => absurd (PV.str.inj e) (by decide)
          · exact cond3 fun e => absurd (PV.str.inj e) (by decide)
      | some k cs =>
        rw [Cd.pv, pvL_map] at hy hn
        obtain ⟨n, rfl⟩ : ∃ k, n = k + 1 := by cases n with | zero => simp [dOk] at hn | succ n => exact ⟨n, rfl⟩
        have hc : dOk n (.tup (cs.map Cd.pv)) = true := dOkL_iff.mp (show dOkL n _ = true by rw [← dOk_tup]; exact hn) _ (by simp)
        obtain ⟨n, rfl⟩ : ∃ k, n = k + 1 := by cases n with | zero => simp [dOk] at hc | succ n => exact ⟨n, rfl⟩
        have hcs := dOkL_iff.mp (show dOkL n _ = true by rw [← dOk_tup]; exact hc)
        rw [spo3, spo_not rfl, spo_not rfl] at hy
        simp only [List.append_nil, List.mem_append, List.mem_map] at hy
        rcases hy with ⟨o, ho, rfl⟩ | ⟨o, ho, rfl⟩ | ⟨o, ho, rfl⟩ | hy
        · refine cond3 fun e => ?_
          rcases odds_cases ho with rfl | rfl | rfl | rfl
          · exact absurd (PV.str.inj e) (by decide)
          · cases e
          · cases e
          · cases e
        · exact cond3 fun _ k' e _ _ => .inl (e ▸ odds_num ho)
        · refine cond3 fun _ _ _ cs' e => .inr ?_
          rcases ho with ho | ho
          · rcases odds_cases ho with rfl | rfl | rfl | rfl
            · cases e
            · cases e
              simp [odds_cond bang_odds]
            · cases e
            · cases e
          · rw [spo_tup] at ho
            rcases List.mem_append.mp ho with ho | ho
            · obtain ⟨p, x, q, z, e2, hz, rfl⟩ := spoL_mem ho
              cases e
              refine all_no ?_
              rcases hz with hz | hz
              · exact odds_cond hz d
              · have hx : x ∈ cs.map Cd.pv := by rw [e2]; simp
                obtain ⟨c', hc', rfl⟩ := List.mem_map.mp hx
                exact ih n (by omega) c' (hcs _ hx) d z hz
            · simp only [List.mem_cons, List.not_mem_nil, or_false] at ho
              rcases ho with rfl | rfl | rfl
              · cases e
              · cases e
                exact all_no (odds_cond bang_odds d)
              · cases e
                exact all_no (odds_cond (by simp [oddsP]) d)
        · simp only [List.mem_cons, List.not_mem_nil, or_false] at hy
          rcases hy with rfl | rfl | rfl
          · simp [isCondB]
          · exact cond4
          · exact cond4
theorem spo6 {a b c d e f : PV} : spo (.tup [a, b, c, d, e, f]) = (oddsP ++ spo a).map (fun o => .tup [o, b, c, d, e, f]) ++ ((oddsP ++ spo b).map (fun o => .tup [a, o, c, d, e, f]) ++ ((oddsP ++ spo c).map (fun o => .tup [a, b, o, d, e, f]) ++ ((oddsP ++ spo d).map (fun o => .tup [a, b, c, o, e, f]) ++ ((oddsP ++ spo e).map (fun o => .tup [a, b, c, d, o, f]) ++ ((oddsP ++ spo f).map (fun o => .tup [a, b, c, d, e, o]) ++ [.list [a, b, c, d, e, f], .tup [a, b, c, d, e, f, .str "!"], .tup [a, b, c, d, e, f, .int (-1)]]))))) := by
  rw [spo_tup, spoL_cons, spoL_cons, spoL_cons, spoL_cons, spoL_cons, spoL_cons, spoL_nil]
  simp
theorem bet_spo (h1 : ("!" : Str) ∉ hs) (h2 : ("!" : Str) ∉ bs) (h3 : ("!" : Str) ∉ ps) {x : Bet} {n : Nat} (hx : dOk n x.cond.pv = true) : ∀ y ∈ spo x.pv, isBetB hs ps bs y = false := by
  intro y hy
  rw [Bet.pv, spo6, spo_not (x := .str _) rfl, spo_not (x := .str _) rfl, spo_not (x := .str _) rfl, spo_not (x := .int _) rfl, spo_not (x := .int _) rfl] at hy
  simp only [List.append_nil, List.mem_append, List.mem_map] at hy
  rcases hy with ⟨o, ho, rfl⟩ | ⟨o, ho, rfl⟩ | ⟨o, ho, rfl⟩ | ⟨o, ho, rfl⟩ | ⟨o, ho, rfl⟩ | ⟨o, ho, rfl⟩ | hy
  · simp [isBetB, odds_name ho]
  · simp [isBetB, odds_known ho h3]
  · simp [isBetB, odds_known ho h3]
  · simp [isBetB, odds_num ho]
  · simp [isBetB, odds_num ho]
  · have : isCondB hs bs 4 o = false := by
      rcases ho with ho | ho
      · exact odds_cond ho 4
      · exact cond_spo h1 h2 n x.cond hx 4 o ho
    simp [isBetB, this]
  · simp only [List.mem_cons, List.not_mem_nil, or_false] at hy
    rcases hy with rfl | rfl | rfl <;> rfl
theorem bang_strs {xs : List PV} (h : xs.all isNameB = true) : ("!" : Str) ∉ strsOf xs := by
  intro hm
  have e := strs_all h
  have : PV.str "!" ∈ xs := by rw [e]; exact List.mem_map.mpr ⟨_, hm, rfl⟩
  have := List.all_eq_true.mp h _ this
  rw [show isNameB (.str "!") = nameB "!" from rfl, bang_name] at this
  cases this
theorem bang_l {a c : Int} {x : PV} (h : areNamesB a c x = true) : ("!" : Str) ∉ strsL x := by
  cases x with
  | tup xs =>
    simp only [areNamesB, Bool.and_eq_true] at h
    exact bang_strs h.1.2
  | _ => simp [areNamesB] at h
theorem book_bets {x y : PV} {p q : List PV} {o : PV} (ho : fullB o = false ∨ isNameB (headP o) = false ∨ ∀ hs ps bs, ("!" : Str) ∉ hs → ("!" : Str) ∉ ps → ("!" : Str) ∉ bs → isBetB hs ps bs o = false) : isBookB (.tup [x, y, .tup (p ++ o :: q)]) = false := by
  simp only [isBookB]
  cases k1 : areNamesB 1 6 x with
  | false => simp
  | true =>
    cases k2 : areNamesB 2 5 y with
    | false => simp
    | true =>
      rcases ho with ho | ho | ho
      · rw [all_no ho]; simp
      · have : ((p ++ o :: q).map headP).all isNameB = false := by
          rw [List.map_append, List.map_cons]
          exact all_no ho
        rw [this]; simp
      · cases k3 : ((p ++ o :: q).map headP).all isNameB with
        | false => simp
        | true =>
          have : (p ++ o :: q).all (isBetB (strsL x) (strsL y) (strsOf ((p ++ o :: q).map headP))) = false := all_no (ho _ _ _ (bang_l k1) (bang_l k2) (bang_strs k3))
          rw [this]; simp
theorem book_spo {b : Book} {n : Nat} (hb : ∀ x ∈ b.bets, dOk n x.cond.pv = true) : ∀ y ∈ spo b.pv, isBookB y = false := by
  intro y hy
  rw [Book.pv, spo3] at hy
  simp only [List.mem_append, List.mem_map] at hy
  rcases hy with ⟨o, ho, rfl⟩ | ⟨o, ho, rfl⟩ | ⟨o, ho, rfl⟩ | hy
  · have : areNamesB 1 6 o = false := by
      rcases ho with ho | ho
      · rcases odds_cases ho with rfl | rfl | rfl | rfl <;> first | rfl | decide
      · exact names_spo o ho
    simp [isBookB, this]
  · have : areNamesB 2 5 o = false := by
      rcases ho with ho | ho
      · rcases odds_cases ho with rfl | rfl | rfl | rfl <;> first | rfl | decide
      · exact names_spo o ho
    simp [isBookB, this]
  · rcases ho with ho | ho
    · rcases odds_cases ho with rfl | rfl | rfl | rfl
      · simp [isBookB]
      · exact book_bets (p := []) (q := []) (.inl rfl)
      · simp [isBookB]
      · simp [isBookB]
    · rw [spo_tup] at ho
      rcases List.mem_append.mp ho with ho | ho
      · obtain ⟨p, x, q, z, e2, hz, rfl⟩ := spoL_mem ho
        refine book_bets ?_
        rcases hz with hz | hz
        · rcases odds_cases hz with rfl | rfl | rfl | rfl
          · exact .inl rfl
          · exact .inr (.inl bang_name)
          · exact .inl rfl
          · exact .inl rfl
        · have hx : x ∈ b.bets.map Bet.pv := by rw [e2]; simp
          obtain ⟨t, ht, rfl⟩ := List.mem_map.mp hx
          exact .inr (.inr fun hs ps bs a1 a2 a3 => bet_spo a1 a3 a2 (hb t ht) z hz)
      · simp only [List.mem_cons, List.not_mem_nil, or_false] at ho
        rcases ho with rfl | rfl | rfl
        · simp [isBookB]
        · exact book_bets (.inl rfl)
        · exact book_bets (.inl rfl)
  · simp only [List.mem_cons, List.not_mem_nil, or_false] at hy
    rcases hy with rfl | rfl | rfl
    · simp [isBookB]
    · exact isBookB_len (by simp)
    · exact isBookB_len (by simp)
theorem cond_true : ∀ {d d' : Nat} {c : Cd}, Wf hs bs d c → d ≤ d' → isCondB hs bs d' c.pv = true
  | 0, _, _, h, _ => h.elim
  | d + 1, 0, _, _, h => by omega
  | d + 1, d' + 1, .isH h, hw, _ => by
    have hw : h ∈ hs := hw
    rw [Cd.pv]; simp [isCondB, condNames, isKnownB, hw]
  | d + 1, d' + 1, .won h, hw, _ => by
    have hw : h ∈ bs := hw
    rw [Cd.pv]; simp [isCondB, condNames, isKnownB, hw]
  | d + 1, d' + 1, .lost h, hw, _ => by
    have hw : h ∈ bs := hw
    rw [Cd.pv]; simp [isCondB, condNames, isKnownB, hw]
  | d + 1, d' + 1, .not c, hw, hd => by
    rw [Cd.pv]
    have := cond_true (c := c) (d := d) (d' := d') hw (by omega)
    simp [isCondB, this]
  | d + 1, d' + 1, .some k cs, hw, hd => by
    rw [Cd.pv, pvL_map]
    obtain ⟨k1, k2, k3, k4⟩ := hw
    have h1 : (cs.map Cd.pv).all (isCondB hs bs d') = true := List.all_eq_true.mpr fun y hy => by
      obtain ⟨c, hc, rfl⟩ := List.mem_map.mp hy
      exact cond_true (k4 c hc) (by omega)
    simp only [isCondB, h1, isNumB, List.length_map]
    simp
    omega
theorem book_true {b : Book} (hb : b.Ok 3) : isBookB b.pv = true := by
  obtain ⟨⟨k, k1, k2, ek⟩, ⟨j, j1, j2, ej⟩, hbs⟩ := hb
  have hhd : (b.bets.map Bet.pv).map headP = b.names.map .str := by
    rw [List.map_map, Book.names, List.map_map]
    rfl
  have hbl : b.bets.length = b.names.length := by simp [Book.names]
  have a1 : areNamesB 1 6 (stP b.hs) = true := by
    rw [ek]
    have : k = 1 ∨ k = 2 ∨ k = 3 ∨ k = 4 := by omega
    rcases this with rfl | rfl | rfl | rfl <;> decide +kernel
  have a2 : areNamesB 2 5 (stP people) = true := by decide +kernel
  have a3 : (b.names.map PV.str).all isNameB = true ∧ risB b.names = true ∧ b.names.length ≤ 8 := by
    rw [ej]
    have : j = 1 ∨ j = 2 ∨ j = 3 := by omega
    rcases this with rfl | rfl | rfl <;> decide +kernel
  have a4 : (b.bets.map Bet.pv).all fullB = true := List.all_eq_true.mpr fun y hy => by
    obtain ⟨x, hx, rfl⟩ := List.mem_map.mp hy
    rfl
  have e1 : strsL (stP b.hs) = b.hs := strsOf_map
  have e2 : strsL (stP people) = people := strsOf_map
  have a5 : (b.bets.map Bet.pv).all (isBetB b.hs people b.names) = true := List.all_eq_true.mpr fun y hy => by
    obtain ⟨x, hx, rfl⟩ := List.mem_map.mp hy
    obtain ⟨q1, q2, q3, q4, q5, q6⟩ := hbs x hx
    have n1 : nameB x.name = true := List.all_eq_true.mp a3.1 (.str x.name) (List.mem_map.mpr ⟨x.name, List.mem_map.mpr ⟨x, hx, rfl⟩, rfl⟩)
    have c1 := cond_true q6 (show 3 ≤ 4 by omega)
    simp only [Bet.pv, isBetB, c1, isNameB, n1, isKnownB, isNumB]
    simp [q1, q2, q3]
    omega
  rw [Book.pv]
  simp only [isBookB, hhd, strsOf_map, a1, a2, a3.1, a3.2.1, a4, e1, e2, a5]
  simp [hbl]
  omega
end K01
end
section
set_option maxHeartbeats 4000000
namespace K01
open PySem Bt
variable {hs ps bs : List Str} {n : Nat} {S : Store}
theorem spoL_le {M : Nat} : ∀ {xs pre : List PV}, (∀ x ∈ xs, (spo x).length ≤ M) → (spoL pre xs).length ≤ xs.length * (M + 4)
  | [], _, _ => by rw [spoL_nil]; simp
  | x :: xs, pre, h => by
    rw [spoL_cons]
    have ih := spoL_le (xs := xs) (pre := pre ++ [x]) fun y hy => h y (by simp [hy])
    have := h x (by simp)
    have h4 : oddsP.length = 4 := rfl
    simp only [List.length_append, List.length_map, List.length_cons, Nat.succ_mul]
    omega
theorem spo_le {M : Nat} {xs : List PV} (h : ∀ x ∈ xs, (spo x).length ≤ M) : (spo (.tup xs)).length ≤ xs.length * (M + 4) + 3 := by
  rw [spo_tup, List.length_append]
  have := spoL_le (pre := []) h
  simp
  omega
def cb : Nat → Nat
  | 0 => 0
  | d + 1 => 4 * cb d + 40
theorem cond_le : ∀ {d : Nat} {c : Cd}, Wf hs bs d c → (spo c.pv).length ≤ cb d
  | 0, _, h => h.elim
  | d + 1, .isH h, _ => by
    rw [Cd.pv]
    have := spo_le (M := 0) (xs := [.str "is", .str h]) (fun x hx => by simp at hx; rcases hx with rfl | rfl <;> (rw [spo_not rfl]; simp))
    simp [cb] at this ⊢
    omega
  | d + 1, .won h, _ => by
    rw [Cd.pv]
    have := spo_le (M := 0) (xs := [.str "won", .str h]) (fun x hx => by simp at hx; rcases hx with rfl | rfl <;> (rw [spo_not rfl]; simp))
    simp [cb] at this ⊢
    omega
  | d + 1, .lost h, _ => by
    rw [Cd.pv]
    have := spo_le (M := 0) (xs := [.str "lost", .str h]) (fun x hx => by simp at hx; rcases hx with rfl | rfl <;> (rw [spo_not rfl]; simp))
    simp [cb] at this ⊢
    omega
  | d + 1, .not c, h => by
    rw [Cd.pv]
    have ih := cond_le (d := d) (c := c) h
    have := spo_le (M := cb d) (xs := [.str "not", c.pv]) (fun x hx => by
      simp at hx
      rcases hx with rfl | rfl
      · rw [spo_not rfl]; simp
      · exact ih)
    simp [cb] at this ⊢
    omega
  | d + 1, .some k cs, h => by
    rw [Cd.pv, pvL_map]
    obtain ⟨k1, k2, k3, k4⟩ := h
    have h1 := spo_le (M := cb d) (xs := cs.map Cd.pv) (fun x hx => by
      obtain ⟨c, hc, rfl⟩ := List.mem_map.mp hx
      exact cond_le (k4 c hc))
    rw [List.length_map] at h1
    have h2 : cs.length * (cb d + 4) ≤ 4 * (cb d + 4) := Nat.mul_le_mul_right _ k3
    have h4 : oddsP.length = 4 := rfl
    rw [spo3, spo_not (x := .str _) rfl, spo_not (x := .int _) rfl]
    simp only [List.length_append, List.length_map, List.length_cons, List.length_nil, cb, h4]
    omega
theorem book_le {b : Book} (hb : b.Ok 3) : (spo b.pv).length ≤ 10000 := by
  obtain ⟨⟨k, k1, k2, ek⟩, ⟨j, j1, j2, ej⟩, hbs⟩ := hb
  have hbl : b.bets.length = b.names.length := by simp [Book.names]
  have hjl : b.names.length ≤ 3 := by rw [ej, List.length_take]; omega
  have hkl : b.hs.length ≤ 4 := by rw [ek, List.length_take]; omega
  have h4 : oddsP.length = 4 := rfl
  have c3 : cb 3 = 840 := rfl
  have st : ∀ l : List Str, (spo (stP l)).length ≤ l.length * 4 + 3 := fun l => by
    have := spo_le (M := 0) (xs := l.map PV.str) (fun x hx => by obtain ⟨w, _, rfl⟩ := List.mem_map.mp hx; rw [spo_not rfl]; simp)
    rw [List.length_map] at this
    exact this
  have s1 := st b.hs
  have s2 := st people
  have pl : people.length = 3 := rfl
  have s3 := spo_le (M := 1000) (xs := b.bets.map Bet.pv) (fun x hx => by
    obtain ⟨t, ht, rfl⟩ := List.mem_map.mp hx
    have := cond_le (hbs t ht).cond
    rw [Bet.pv, spo6, spo_not (x := .str _) rfl, spo_not (x := .str _) rfl, spo_not (x := .str _) rfl, spo_not (x := .int _) rfl, spo_not (x := .int _) rfl]
    simp only [List.length_append, List.length_map, List.length_cons, List.length_nil, h4]
    omega)
  rw [List.length_map] at s3
  rw [Book.pv, spo3]
  simp only [List.length_append, List.length_map, List.length_cons, List.length_nil, h4]
  omega
def deepP : Nat → PV
  | 0 => .tup [.str "is", .str "wet"]
  | k + 1 => .tup [.str "not", deepP k]
theorem deep4 : callP D G (n + 1) f_law_deep [.int 4] S = .ok (deepP 3) S := by
  rw [call_eq rfl]
  have hr : rngOf (.int 3) = some { items := (List.range 3).map fun i => .int (i : Nat) } := rngOf_nat (n := 3) (by omega)
  simp [c_law_deep]
  simp only [hr, ofO_some, ofR_ok]
  generalize hF : forE _ _ _ _ _ _ _ = o
  let P : Nat → Bt.Env → Store → Prop := fun j ρ' S' => ∃ v2, ρ' = [some (.int 4), some (deepP j), v2] ∧ S' = S
  obtain ⟨ρ', S', rfl, v2, rfl, rfl⟩ : ∃ ρ' S', o = .next ρ' S' ∧ P 3 ρ' S' := by
    rw [← hF]
    refine forE_inv (iv := { items := (List.range 3).map fun i => PV.int (i : Nat) }) P rfl (fun _ _ _ _ => rfl) ?_ ⟨_, rfl, rfl⟩
    rintro j y ρ S1 hy ⟨v2, rfl, rfl⟩
    refine ⟨_, rfl, ?_⟩
    refine ex_next (by simp; first | exact ⟨rfl, rfl⟩ | rfl) ?_
    exact ⟨_, rfl, rfl⟩
  simp
theorem deep5 : callP D G (n + 1) f_law_deep [.int 5] S = .ok (deepP 4) S := by
  rw [call_eq rfl]
  have hr : rngOf (.int 4) = some { items := (List.range 4).map fun i => .int (i : Nat) } := rngOf_nat (n := 4) (by omega)
  simp [c_law_deep]
  simp only [hr, ofO_some, ofR_ok]
  generalize hF : forE _ _ _ _ _ _ _ = o
  let P : Nat → Bt.Env → Store → Prop := fun j ρ' S' => ∃ v2, ρ' = [some (.int 5), some (deepP j), v2] ∧ S' = S
  obtain ⟨ρ', S', rfl, v2, rfl, rfl⟩ : ∃ ρ' S', o = .next ρ' S' ∧ P 4 ρ' S' := by
    rw [← hF]
    refine forE_inv (iv := { items := (List.range 4).map fun i => PV.int (i : Nat) }) P rfl (fun _ _ _ _ => rfl) ?_ ⟨_, rfl, rfl⟩
    rintro j y ρ S1 hy ⟨v2, rfl, rfl⟩
    refine ⟨_, rfl, ?_⟩
    refine ex_next (by simp; first | exact ⟨rfl, rfl⟩ | rfl) ?_
    exact ⟨_, rfl, rfl⟩
  simp
end K01
end
section
set_option maxHeartbeats 4000000
namespace K01
open PySem Bt
variable {n : Nat} {S : Store}
theorem compLoop_none {g : List (Nat × Cell)} {tg : Tg} {ρ : Bt.Env} {tst : Bt.Env → Store → Res Bool} {el : Bt.Env → Store → Res PV} (hg : guardOk S g = true) : ∀ {xs : List PV}, (∀ x ∈ xs, ∃ ρ', Bt.assign tg x ρ = some ρ' ∧ tst ρ' S = .ok false S) → compLoop g tg ρ tst el xs S = .ok [] S
  | [], _ => by unfold compLoop; rw [if_pos hg]
  | x :: xs, h => by
    obtain ⟨ρ', e1, e2⟩ := h x (by simp)
    unfold compLoop
    rw [if_pos hg, e1]
    dsimp only
    rw [e2]
    exact compLoop_none hg fun y hy => h y (by simp [hy])
theorem compE_none {φ : Calls} {G : List PV} {elt : Ex} {tg : Tg} {ifs : List Ex} {ρ : Bt.Env} {g : List (Nat × Cell)} {xs : List PV} (hg : guardOk S g = true) (hl : xs.length ≤ 100000) (hf : ∀ x ∈ xs, ∃ ρ', Bt.assign tg x ρ = some ρ' ∧ evTs φ G ifs ρ' S = .ok false S) : compE φ G elt tg ifs ρ { items := xs, guard := g } S = .ok (.list []) S := by
  unfold compE
  rw [if_pos (by show xs.length ≤ _; rw [sizeLine_eq]; omega)]
  dsimp only
  rw [compLoop_none hg hf]
  rfl
theorem res_at {L : Store} {k : Nat} {xs : List PV} (h : L[k]? = some (.lst xs)) : res (S ++ L) (.ref (S.length + k)) = .list xs := res_lst (by rw [List.getElem?_append_right (by omega)]; simpa using h)
theorem app_at {L : Store} {k : Nat} {xs : List PV} {v : PV} (h : L[k]? = some (.lst xs)) (hl : xs.length ≤ 100000) : appAt (S ++ L) (.ref (S.length + k)) v = some (S ++ L.set k (.lst (xs ++ [v]))) := by
  rw [app_lstB (xs := xs) (by rw [List.getElem?_append_right (by omega)]; simpa using h) (by omega), List.set_append_right _ _ (by omega)]
  simp
theorem guard_self (v : PV) : guardOk S (guardOf S v) = true := by
  cases v with
  | ref k =>
    simp only [guardOf]
    cases h : S[k]? with
    | none => rfl
    | some c => simp [guardOk, h]
  | _ => rfl
/-- the book by hand -/
def betP (w : Str) : PV := .tup [.str w, .str "ann", .str "bob", .int 999, .int 1, .tup [.str "is", .str "wet"]]
def bkP (w : Str) : PV := .tup [.tup [.str "wet"], .tup [.str "ann", .str "bob"], .tup [betP w]]
theorem names_of_bk {w : Str} : callP D G (n + 1) f_names_of [bkP w] S = .ok (.list [.str w]) S := by
  rw [call_eq rfl]
  have e0 : ∀ X, res X (bkP w) = .tup [.tup [.str "wet"], .tup [.str "ann", .str "bob"], .tup [betP w]] := fun X => rfl
  have hm : ([betP w] : List PV) = [w].map betP := rfl
  simp [c_names_of, e0]
  rw [hm, compE_mapA (fun x : Str => .str x) (by simp) (fun x hx => ⟨_, rfl, by simp [betP]⟩)]
  simp
theorem is_condition_bk {w : Str} {x : PV} (hx : x.dat = true) (hn : 6 ≤ n) : callP D G (n + 1) f_is_condition [bkP w, x] S = .ok (.bool (isCondB ["wet"] [w] 4 x)) S := by
  rw [call_eq rfl]
  obtain ⟨n, rfl⟩ : ∃ k, n = k + 2 := ⟨n - 2, by omega⟩
  have e0 : ∀ X, res X (bkP w) = .tup [.tup [.str "wet"], .tup [.str "ann", .str "bob"], .tup [betP w]] := fun X => rfl
  have hG : G[1]? = some (.int 4) := Gd.h
  have h := is_condition_of_eq (D := D) (G := G) (S := S) (hs := ["wet"]) (bs := [w]) 4 n x hx (by omega)
  have h : callP D G (n + 2) f_is_condition_of [.tup [.str "wet"], .list [.str w], x, .int 4] S = .ok (.bool (isCondB ["wet"] [w] 4 x)) S := h
  simp [c_is_condition, e0, names_of_bk, hG, h]
def goodP (w : Str) : List PV := [.tup [.str "is", .str "wet"], .tup [.str "won", .str w], .tup [.str "lost", .str w], deepP 3, .tup [.str "some", .int 4, .tup [.tup [.str "is", .str "wet"], .tup [.str "is", .str "wet"], .tup [.str "is", .str "wet"], .tup [.str "is", .str "wet"]]],
  .tup [.str "some", .int 1, .tup [.tup [.str "not", .tup [.str "some", .int 1, .tup [.tup [.str "won", .str w]]]]]]]
def oneP : PV := .tup [.tup [.str "is", .str "wet"]]
def badP (w : Str) : List PV := [.none, .int 3, .tup [], .str "wet", .tup [.str "is"], .tup [.str "is", .str "ann"], .tup [.str "is", .str w, .int 1], .tup [.str "won", .str "zz"], .tup [.str "lost", .str "wet"],
  .tup [.str "is", .none], deepP 4, .tup [.str "some", .int 0, oneP], .tup [.str "some", .int 2, oneP], .tup [.str "some", .int 1, .tup []], .tup [.str "some", .bool true, oneP],
  .tup [.str "some", .int 5, .tup [.tup [.str "is", .str "wet"], .tup [.str "is", .str "wet"], .tup [.str "is", .str "wet"], .tup [.str "is", .str "wet"], .tup [.str "is", .str "wet"]]],
  .tup [.str "some", .int 1, .list [.tup [.str "is", .str "wet"]]], .list [.str "is", .str "wet"], .tup [.str "not", .str "wet"], .tup [.str "all", .tup [.str "is", .str "wet"]],
  .tup [.str "some", .int 1, .tup [.tup [.str "not", .tup [.str "not", .tup [.str "not", .tup [.str "is", .str "wet"]]]]]]]
theorem good_all (w : Str) (hw : w = "a" ∨ w = "abcdefgh" ∨ w = "zed") : (goodP w).all (fun x => x.dat && isCondB ["wet"] [w] 4 x) = true := by
  rcases hw with rfl | rfl | rfl <;> decide +kernel
theorem bad_all (w : Str) (hw : w = "a" ∨ w = "abcdefgh" ∨ w = "zed") : (badP w).all (fun x => x.dat && !isCondB ["wet"] [w] 4 x) = true := by
  rcases hw with rfl | rfl | rfl <;> decide +kernel
theorem conditions_eq {w : Str} (hw : w = "a" ∨ w = "abcdefgh" ∨ w = "zed") (hlo : Lo S) (hn : 8 ≤ n) : callP D G (n + 1) f_law_conditions [bkP w, .str w] S = .ok (.bool true) S := by
  obtain ⟨n, rfl⟩ : ∃ k, n = k + 1 := ⟨n - 1, by omega⟩
  have hgd := List.all_eq_true.mp (good_all w hw)
  have hbd := List.all_eq_true.mp (bad_all w hw)
  rw [call_eq rfl]
  have m4 : bop .mul (.tup [.tup [.str "is", .str "wet"]]) (.int 4) = some (.tup [.tup [.str "is", .str "wet"], .tup [.str "is", .str "wet"], .tup [.str "is", .str "wet"], .tup [.str "is", .str "wet"]]) := rfl
  have m5 : bop .mul (.tup [.tup [.str "is", .str "wet"]]) (.int 5) = some (.tup [.tup [.str "is", .str "wet"], .tup [.str "is", .str "wet"], .tup [.str "is", .str "wet"], .tup [.str "is", .str "wet"], .tup [.str "is", .str "wet"]]) := rfl
  have r0 : ∀ (xs : List PV) (L : Store), res (S ++ .lst xs :: L) (.ref S.length) = .list xs := fun xs L => res_at (k := 0) rfl
  have r1 : ∀ (c : Cell) (xs : List PV) (L : Store), res (S ++ c :: .lst xs :: L) (.ref (S.length + 1)) = .list xs := fun c xs L => res_at (k := 1) rfl
  have r2 : ∀ (c d : Cell) (xs : List PV) (L : Store), res (S ++ c :: d :: .lst xs :: L) (.ref (S.length + 2)) = .list xs := fun c d xs L => res_at (k := 2) rfl
  have r3 : ∀ (c d e : Cell) (xs : List PV) (L : Store), res (S ++ c :: d :: e :: .lst xs :: L) (.ref (S.length + 3)) = .list xs := fun c d e xs L => res_at (k := 3) rfl
  have r4 : ∀ (c d e f : Cell) (xs : List PV) (L : Store), res (S ++ c :: d :: e :: f :: .lst xs :: L) (.ref (S.length + 4)) = .list xs := fun c d e f xs L => res_at (k := 4) rfl
  have ap0 : ∀ (xs : List PV) (v : PV), xs.length ≤ 1000 → appAt (S ++ [.lst xs]) (.ref S.length) v = some (S ++ [.lst (xs ++ [v])]) := fun xs v h => app_at (k := 0) rfl (by omega)
  have ap4 : ∀ (c d e f : Cell) (xs : List PV) (v : PV), xs.length ≤ 1000 → appAt (S ++ [c, d, e, f, .lst xs]) (.ref (S.length + 4)) v = some (S ++ [c, d, e, f, .lst (xs ++ [v])]) := fun c d e f xs v h => app_at (k := 4) rfl (by omega)
  have lb : ∀ xs ys : List PV, xs.length + ys.length ≤ 1000 → lbop .add (.list xs) (.list ys) = some (.list (xs ++ ys)) := fun xs ys h => by
    show (if xs.length + ys.length ≤ sizeLine then some (PV.list (xs ++ ys)) else none) = _
    rw [if_pos (by rw [sizeLine_eq]; omega)]
  simp [c_law_conditions, deep4, deep5, toRef, m4, m5, r0, r1, r2, r3, r4, ap0, ap4, lb, meKind]
  rw [compE_none (guard_self _) (by simp) (fun x hx => ⟨_, rfl, by
    have h1 := hgd x hx
    rw [Bool.and_eq_true] at h1
    simp [is_condition_bk (n := n) (S := _) (w := w) h1.1 (by omega), h1.2, law_is_eq]⟩)]
  have enn : cop .ne (.list []) (.list []) = some false := rfl
  have een : cop .eq (.list []) (.list []) = some true := rfl
  simp [enn, r4]
  rw [compE_none (guard_self _) (by simp) (fun x hx => ⟨_, rfl, by
    have h1 := hbd x hx
    rw [Bool.and_eq_true, Bool.not_eq_true'] at h1
    simp [is_condition_bk (n := n) (S := _) (w := w) h1.1 (by omega), h1.2, law_is_eq]⟩)]
  simp [een]
  exact finish_app hlo rfl
end K01
end
section
set_option maxHeartbeats 4000000
namespace Bt
open PySem
theorem fitL_snoc {o : Option Bool} : ∀ {s : List (Option Bool)} {acc : List (List Bool)}, fitL (s ++ [o]) acc = (fitL s acc).flatMap fun row => (chs o).map fun v => row ++ [v]
  | [], acc => rfl
  | p :: s, acc => by
    show fitL (s ++ [o]) _ = _
    rw [fitL_snoc]
    rfl
theorem flat_len {o : Option Bool} : ∀ {acc : List (List Bool)}, (acc.flatMap fun row => (chs o).map fun v => row ++ [v]).length ≤ acc.length * 2
  | [] => by simp
  | r :: acc => by
    rw [List.flatMap_cons, List.length_append, List.length_map, List.length_cons]
    have := chs_len o
    have := flat_len (o := o) (acc := acc)
    omega
theorem fitL_len : ∀ {s : List (Option Bool)} {acc : List (List Bool)}, (fitL s acc).length ≤ acc.length * 2 ^ s.length
  | [], acc => by simp [fitL]
  | o :: s, acc => by
    have h1 := fitL_len (s := s) (acc := acc.flatMap fun row => (chs o).map fun v => row ++ [v])
    have h2 := flat_len (o := o) (acc := acc)
    show (fitL s _).length ≤ _
    rw [List.length_cons, Nat.pow_succ, Nat.mul_comm (2 ^ s.length) 2, ← Nat.mul_assoc]
    exact Nat.le_trans h1 (Nat.mul_le_mul_right _ h2)
theorem fitL_row {s : List (Option Bool)} {r : List Bool} (h : r ∈ fitL s [[]]) : r.length = s.length := by
  obtain ⟨r0, h0, u, rfl, hu⟩ := fitL_mem h
  rw [List.mem_singleton.mp h0, List.nil_append]
  have := hu.length
  simpa [wd] using this
section
variable {D : List Df} {G : List PV} {m : Nat} {S : Store} {s : List (Option Bool)} [Hd D f_law_worlds c_law_worlds]
theorem in_pair {o : Option Bool} {v : Bool} : cop .inn (obP o) (.tup [.none, .bool v]) = some (decide (v ∈ chs o)) := by
  rcases o with _ | _ | _ <;> cases v <;> rfl
theorem law_worlds_eq (h6 : s.length ≤ 8) : callP D G (m + 1) f_law_worlds [seenP s] S = .ok (.list ((fitL s [[]]).map wdP)) S := by
  rw [call_eq rfl]
  have e0 : res S (seenP s) = .tup (s.map obP) := rfl
  have e1 : guardOf S (seenP s) = [] := rfl
  simp [c_law_worlds, e0, e1]
  generalize hF : forE _ _ _ _ _ _ _ = o
  let P : Nat → Bt.Env → Store → Prop := fun j ρ' S' => S' = S ∧ ∃ v2 v3 v4 v5, ρ' = [some (seenP s), some (.list ((fitL (s.take j) [[]]).map wdP)), v2, v3, v4, v5]
  obtain ⟨ρ', S', rfl, rfl, v2, v3, v4, v5, rfl⟩ : ∃ ρ' S', o = .next ρ' S' ∧ P (s.map obP).length ρ' S' := by
    rw [← hF]
    refine forE_inv (iv := { items := s.map obP }) P rfl (fun _ _ _ _ => rfl) ?_ ⟨rfl, _, _, _, _, rfl⟩
    rintro j y ρ S1 hy ⟨rfl, v2, v3, v4, v5, rfl⟩
    rw [List.getElem?_map] at hy
    obtain ⟨o, ho, rfl⟩ := Option.map_eq_some_iff.mp hy
    have hj := (List.getElem?_eq_some_iff.mp ho).1
    have htk : s.take (j + 1) = s.take j ++ [o] := by rw [List.take_succ, ho]; rfl
    refine ⟨_, rfl, ?_⟩
    show ∃ ρ2 S2, _ ∧ (S2 = S1 ∧ ∃ v2 v3 v4 v5, ρ2 = [some (seenP s), some (.list ((fitL (s.take (j + 1)) [[]]).map wdP)), v2, v3, v4, v5])
    rw [htk, fitL_snoc]
    have hrow : ∀ r ∈ fitL (s.take j) [[]], r.length ≤ 8 := fun r hr => by
      have := fitL_row hr
      rw [List.length_take] at this
      omega
    have hlen : (fitL (s.take j) [[]]).length ≤ 256 := by
      have h1 := fitL_len (s := s.take j) (acc := [[]])
      have h2 : 2 ^ (s.take j).length ≤ 2 ^ 8 := Nat.pow_le_pow_right (by decide) (by rw [List.length_take]; omega)
      rw [List.length_singleton, Nat.one_mul] at h1
      omega
    generalize fitL (s.take j) [[]] = A at *
    simp
    generalize hF2 : forE _ _ _ _ _ _ _ = o2
    let P2 : Nat → Bt.Env → Store → Prop := fun i ρ' S' => S' = S1 ∧ ∃ v4, ρ' = [some (seenP s), some (.list (A.map wdP)), some (obP o), some (.list (((A.take i).flatMap fun row => (chs o).map fun v => row ++ [v]).map wdP)), v4, v5]
    obtain ⟨ρ', S', rfl, rfl, w4, rfl⟩ : ∃ ρ' S', o2 = .next ρ' S' ∧ P2 (A.map wdP).length ρ' S' := by
      rw [← hF2]
      refine forE_inv (iv := { items := A.map wdP }) P2 rfl (fun _ _ _ _ => rfl) ?_ ⟨rfl, _, rfl⟩
      rintro i y ρ S2 hy ⟨rfl, w4, rfl⟩
      rw [List.getElem?_map] at hy
      obtain ⟨r, hr, rfl⟩ := Option.map_eq_some_iff.mp hy
      have hrl := hrow r (List.mem_of_getElem? hr)
      have htk2 : A.take (i + 1) = A.take i ++ [r] := by rw [List.take_succ, hr]; rfl
      refine ⟨_, rfl, ?_⟩
      show ∃ ρ2 S3, _ ∧ (S3 = S2 ∧ ∃ v4, ρ2 = [some (seenP s), some (.list (A.map wdP)), some (obP o), some (.list (((A.take (i + 1)).flatMap fun row => (chs o).map fun v => row ++ [v]).map wdP)), v4, v5])
      have hfl := flat_len (o := o) (acc := A.take i)
      rw [List.length_take] at hfl
      have hB : ((A.take (i + 1)).flatMap fun row => (chs o).map fun v => row ++ [v]).map wdP = ((A.take i).flatMap fun row => (chs o).map fun v => row ++ [v]).map wdP ++ ((chs o).map fun v => wdP (r ++ [v])) := by
        rw [htk2, List.flatMap_append, List.map_append]
        simp
      rw [hB]
      have hBl : (((A.take i).flatMap fun row => (chs o).map fun v => row ++ [v]).map wdP).length ≤ 512 := by rw [List.length_map]; omega
      generalize ((A.take i).flatMap fun row => (chs o).map fun v => row ++ [v]).map wdP = B at *
      have hcmp : ∀ ρ : Env, ρ = [some (seenP s), some (.list (A.map wdP)), some (obP o), some (.list B), some (wdP r), none] → compE (callP D G m) G (.bin .add (.var 4) (.tup [(.var 5)])) (.nm 5) [(.cmp .inn (.var 2) (.tup [(.cst .none), (.var 5)]))] ρ { items := [.bool false, .bool true] } S2 = .ok (.list ((chs o).map fun v => wdP (r ++ [v]))) S2 := by
        rintro ρ rfl
        have := compE_filterA (φ := callP D G m) (G := G) (elt := .bin .add (.var 4) (.tup [(.var 5)])) (tg := .nm 5) (ifs := [(.cmp .inn (.var 2) (.tup [(.cst .none), (.var 5)]))]) (ρ := [some (seenP s), some (.list (A.map wdP)), some (obP o), some (.list B), some (wdP r), none]) (S := S2) (F := PV.bool) (xs := [false, true]) (fun v => decide (v ∈ chs o)) (fun v => wdP (r ++ [v])) (by simp) (fun v hv => ⟨_, rfl, by simp [in_pair]; by_cases q : v ∈ chs o <;> simp [q], fun _ => by simp [wdP, add_tup (xs := r.map PV.bool) (ys := [PV.bool v]) (by simp; omega)]⟩)
        have e : [false, true].filter (fun v => decide (v ∈ chs o)) = chs o := by rcases o with _ | _ | _ <;> decide
        rw [e] at this
        exact this
      have hadd : bop .add (.list B) (.list ((chs o).map fun v => wdP (r ++ [v]))) = some (.list (B ++ (chs o).map fun v => wdP (r ++ [v]))) := add_list (by have := chs_len o; simp; omega)
      refine ex_next (by simp [hcmp, hadd]; first | exact ⟨rfl, rfl⟩ | rfl) ?_
      exact ⟨rfl, _, rfl⟩
    have hAl : A.take (A.map wdP).length = A := by rw [List.length_map, List.take_length]
    rw [hAl]
    refine ex_next (by simp; first | exact ⟨rfl, rfl⟩ | rfl) ?_
    exact ⟨rfl, _, _, _, _, rfl⟩
  simp
end
end Bt
end
section
set_option maxHeartbeats 4000000
namespace K01
open PySem Bt
variable {n : Nat} {S : Store} {ns : List Int} {b : Book} {s : List (Option Bool)}
theorem peqL_bools : ∀ {w : List Bool}, peqL (w.map PV.bool) (w.map PV.bool) = true
  | [] => rfl
  | v :: w => by
    show (peq (.bool v) (.bool v) && peqL (w.map PV.bool) (w.map PV.bool)) = true
    rw [peqL_bools]
    cases v <;> rfl
theorem peqL_wds : ∀ {l : List (List Bool)}, peqL (l.map wdP) (l.map wdP) = true
  | [] => rfl
  | w :: l => by
    show (peq (wdP w) (wdP w) && peqL (l.map wdP) (l.map wdP)) = true
    rw [peqL_wds, show peq (wdP w) (wdP w) = true from peqL_bools]
    rfl
theorem ne_wds {l : List (List Bool)} : cop .ne (.tup (l.map wdP)) (.tup (l.map wdP)) = some false := by
  have h1 : dOkL 63 (l.map wdP) = true := dOkL_iff.mpr fun x hx => by
    obtain ⟨w, _, rfl⟩ := List.mem_map.mp hx
    rw [wdP, dOk_tup]
    exact dOkL_iff.mpr fun y hy => by obtain ⟨v, _, rfl⟩ := List.mem_map.mp hy; exact dOk_flat rfl
  show ((if (dOkL 63 (l.map wdP)) && (dOkL 63 (l.map wdP)) then some (peqL (l.map wdP) (l.map wdP)) else none)).map (!·) = _
  rw [h1, peqL_wds]; rfl
theorem mul_tup {x : PV} {k : Nat} (h1 : 1 ≤ k) (h2 : k ≤ 1000) : bop .mul (.tup [x]) (.int (k : Nat)) = some (.tup (List.replicate k x)) := by
  show (if [x] ≠ [] ∧ 1 ≤ (k : Int) ∧ (k : Int) ≤ 1000 ∧ [x].length ≤ 1000 then some (PV.tup (List.replicate (k : Int).toNat [x]).flatten) else none) = _
  rw [if_pos ⟨by simp, by omega, by omega, by simp⟩]
  have : (List.replicate (k : Int).toNat [x]).flatten = List.replicate k x := by
    simp
  rw [this]
theorem fitting_here (hs : s.length = b.hs.length) (h6 : s.length ≤ 6) : callP D G (n + 3) f_fitting [b.pv, seenP s] S = .ok (.tup ((fitL s [[]]).map wdP)) S := by
  have hp : 2 ^ s.length ≤ 2 ^ 6 := Nat.pow_le_pow_right (by decide) h6
  have i1 := is_seen_eq (D := D) (G := G) (n := n) (S := S) (b := b) (x := seenP s) (seen_dat s) (by omega)
  have i2 : isSeenB b.hs.length (seenP s) = true := by rw [seen_isB]; simpa using hs
  rw [i2] at i1
  have l1 : callP D G (n + 2) f_look_seen [b.pv, seenP s] S = .ok .none S := by
    rw [call_eq rfl]
    simp [c_look_seen, i1]
  rw [call_eq rfl]
  simp [c_fitting, l1, fits_of_eq (D := D) (G := G) (m := n + 1) (S := S) (s := s) (by omega) (by omega)]
def hapsP : List PV := [.tup [], .tup [.str "wet", .str "dry"], .tup [.str "wet", .str "wet"], .list [.str "wet"], .tup [.str "Wet"]]
theorem haps_all : hapsP.all (fun h => (PV.tup [h, .tup [.str "ann", .str "bob"], .tup []]).dat && dOk 60 (.tup [h, .tup [.str "ann", .str "bob"], .tup []]) && !isBookB (.tup [h, .tup [.str "ann", .str "bob"], .tup []])) = true := by decide +kernel
theorem seen_law_eq (hL : ns.length ≤ 63) (hb : b.hs.length ≤ 6) (hb1 : 1 ≤ b.hs.length) (ht : Town ns.length S) (hlo : Lo S) (hn : 10 ≤ n) : ∃ S', callP D G (n + 1) f_law_seen [.scr ns, .ref 1, b.pv] S = .ok (.bool true) S' ∧ TwS ns.length S S' := by
  obtain ⟨n, rfl⟩ : ∃ k, n = k + 3 := ⟨n - 3, by omega⟩
  rw [call_eq rfl]
  have e0 : ∀ X, res X b.pv = .tup [stP b.hs, stP people, .tup (b.bets.map Bet.pv)] := fun X => rfl
  have hh := List.all_eq_true.mp haps_all
  simp [c_law_seen]
  generalize hF : forE _ _ _ _ _ _ _ = o
  let P : Nat → Bt.Env → Store → Prop := fun _ ρ' S' => S' = S ∧ ∃ v3, ρ' = [some (.scr ns), some (.ref 1), some b.pv, v3, none, none, none]
  obtain ⟨ρ', S', rfl, rfl, v3, rfl⟩ : ∃ ρ' S', o = .next ρ' S' ∧ P 5 ρ' S' := by
    rw [← hF]
    refine forE_inv (iv := { items := hapsP }) P rfl (fun _ _ _ _ => rfl) ?_ ⟨rfl, _, rfl⟩
    rintro j y ρ S1 hy ⟨rfl, v3, rfl⟩
    have h1 := hh y (List.mem_of_getElem? hy)
    rw [Bool.and_eq_true, Bool.and_eq_true, Bool.not_eq_true'] at h1
    refine ⟨_, rfl, ?_⟩
    refine ex_next (by simp [is_book_eq (D := D) (G := G) (S := S1) (n := n + 2) h1.1.1 h1.1.2 (by omega), h1.2]; first | exact ⟨rfl, rfl⟩ | rfl) ?_
    exact ⟨rfl, _, rfl⟩
  simp [e0, stP]
  generalize hC : compE _ _ _ _ _ _ _ _ = r
  obtain ⟨s, S2, rfl, hm, t2⟩ : ∃ (ys : List (Option Bool)) (S2 : Store), r = .ok (.list (ys.map obP)) S2 ∧ All2 (fun _ _ => True) b.hs ys ∧ TwS ns.length S' S2 := by
    rw [← hC]
    refine compE_inv2 obP _ (TwS ns.length S') (by omega) (fun x hx => ⟨_, rfl, fun S1 t1 => ?_⟩) (TwS.refl ht)
    obtain ⟨m, S2, e, m0, m1, t2⟩ := draw_eq (D := D) (G := G) (n := n + 2) hL (many := 3) (by omega) (by omega) t1.town
    have : m = 0 ∨ m = 1 ∨ m = 2 := by omega
    rcases this with rfl | rfl | rfl
    · exact ⟨none, S2, by simp [e]; rfl, trivial, t1.trans t2⟩
    · exact ⟨some true, S2, by simp [e]; rfl, trivial, t1.trans t2⟩
    · exact ⟨some false, S2, by simp [e]; rfl, trivial, t1.trans t2⟩
  have sl := hm.length
  have es : PV.tup (s.map obP) = seenP s := rfl
  have sd := seen_dat s
  have f1 := fitting_here (n := n) (S := S2) (b := b) (s := s) (by omega) (by omega)
  have w1 := law_worlds_eq (D := D) (G := G) (m := n + 2) (S := S2) (s := s) (by omega)
  have i1 := is_seen_eq (D := D) (G := G) (n := n + 2) (S := S2) (b := b) (x := seenP s) sd (by omega)
  have i2 : isSeenB b.hs.length (seenP s) = true := by rw [seen_isB]; simpa using by omega
  rw [i2] at i1
  have tl : ∀ l : List (List Bool), biv .tuple [.list (l.map wdP)] = some (.tup (l.map wdP)) := fun l => rfl
  have ls : biv .list [seenP s] = some (.list (s.map obP)) := rfl
  have ln : biv .len [seenP s] = some (.int (b.hs.length : Nat)) := by
    show some (PV.int ((s.map obP).length : Nat)) = _
    rw [List.length_map, sl]
  have as1 : bop .add (seenP s) (.tup [.none]) = some (.tup (s.map obP ++ [.none])) := add_tup (by simp; omega)
  obtain ⟨s', esl, sl'⟩ : ∃ s' : List (Option Bool), slice (seenP s) (some 1) none = some (.tup (s'.map obP)) ∧ s'.length + 1 = b.hs.length := by
    cases s with
    | nil => simp at sl; omega
    | cons a l => exact ⟨l, slice1_tup, by simpa using sl⟩
  have m1 := fun x => mul_tup (x := x) (k := b.hs.length) hb1 (by omega)
  have hodd : ∀ y ∈ ([PV.none, .list (s.map obP), .tup (s.map obP ++ [.none]), .tup (s'.map obP), .tup (List.replicate b.hs.length (.int 1)), .tup (List.replicate b.hs.length (.str "so"))] : List PV), y.dat = true ∧ isSeenB b.hs.length y = false := by
    intro y hy
    simp only [List.mem_cons, List.not_mem_nil, or_false] at hy
    rcases hy with rfl | rfl | rfl | rfl | rfl | rfl
    · exact ⟨rfl, rfl⟩
    · exact ⟨sd, rfl⟩
    · refine ⟨datL_iff.mpr fun x hx => ?_, ?_⟩
      · rcases List.mem_append.mp hx with hx | hx
        · exact datL_iff.mp sd x hx
        · rw [List.mem_singleton.mp hx]; rfl
      · simp [isSeenB]; intro h; omega
    · refine ⟨seen_dat s', ?_⟩
      simp [isSeenB]; intro h; omega
    · refine ⟨datL_iff.mpr fun x hx => by rw [(List.mem_replicate.mp hx).2]; rfl, ?_⟩
      obtain ⟨k, hk⟩ : ∃ k, b.hs.length = k + 1 := ⟨b.hs.length - 1, by omega⟩
      rw [hk, List.replicate_succ]
      simp [isSeenB, PV.isOb]
    · refine ⟨datL_iff.mpr fun x hx => by rw [(List.mem_replicate.mp hx).2]; rfl, ?_⟩
      obtain ⟨k, hk⟩ : ∃ k, b.hs.length = k + 1 := ⟨b.hs.length - 1, by omega⟩
      rw [hk, List.replicate_succ]
      simp [isSeenB, PV.isOb]
  simp [es, i1, law_is_eq, f1, w1, tl, ne_wds, ls, ln, as1, esl, m1]
  generalize hF : forE _ _ _ _ _ _ _ = o
  let P2 : Nat → Bt.Env → Store → Prop := fun _ ρ' S' => S' = S2 ∧ ∃ v5, ρ' = [some (.scr ns), some (.ref 1), some b.pv, v3, some (seenP s), v5, none]
  obtain ⟨ρ', S3, rfl, rfl, v5, rfl⟩ : ∃ ρ' S', o = .next ρ' S' ∧ P2 0 ρ' S' := by
    rw [← hF]
    refine forE_inv (iv := { items := [PV.none, .list (s.map obP), .tup (s.map obP ++ [.none]), .tup (s'.map obP), .tup (List.replicate b.hs.length (.int 1)), .tup (List.replicate b.hs.length (.str "so"))] }) P2 rfl (fun _ _ _ _ => rfl) ?_ ⟨rfl, _, rfl⟩
    rintro j y ρ S4 hy ⟨rfl, v5, rfl⟩
    obtain ⟨y1, y2⟩ := hodd y (List.mem_of_getElem? hy)
    refine ⟨_, rfl, ?_⟩
    refine ex_next (by simp [is_seen_eq (D := D) (G := G) (n := n + 2) (S := S4) (b := b) y1 (by omega), y2, law_is_eq]; first | exact ⟨rfl, rfl⟩ | rfl) ?_
    exact ⟨rfl, _, rfl⟩
  have ernp : PV.tup (List.replicate b.hs.length PV.none) = seenP (List.replicate b.hs.length none) := by simp [seenP, obP]
  have w2 := law_worlds_eq (D := D) (G := G) (m := n + 2) (S := S3) (s := List.replicate b.hs.length none) (by simp; omega)
  have hp : 2 ^ (List.replicate b.hs.length (none : Option Bool)).length ≤ 2 ^ 6 := Nat.pow_le_pow_right (by decide) (by simpa using hb)
  have f2 := fits_of_eq (D := D) (G := G) (m := n + 1) (S := S3) (s := List.replicate b.hs.length none) (by omega) (by simp; omega)
  have wb : callP D G (n + 3) f_worlds [b.pv] S3 = .ok (.tup ((fitL (List.replicate b.hs.length none) [[]]).map wdP)) S3 := by
    rw [call_eq rfl]
    simp [c_worlds, e0, stP, m1, ernp, f2]
  refine ⟨S3, ?_, t2⟩
  simp [wb, e0, stP, m1, ernp, w2, tl, ne_wds, t2.len]
end K01
end
section
set_option maxHeartbeats 8000000
namespace K01
open PySem Bt
variable {n : Nat} {S : Store} {ns : List Int}
theorem dOk_dat : ∀ (n : Nat) (x : PV), dOk n x = true → x.dat = true := by
  intro n
  induction n with
  | zero => intro x h; cases x <;> first | rfl | (simp [dOk] at h)
  | succ n ih =>
    intro x h
    cases x with
    | tup xs => rw [dOk_tup] at h; exact datL_iff.mpr fun y hy => ih y (dOkL_iff.mp h y hy)
    | list xs => rw [dOk_lst] at h; exact datL_iff.mpr fun y hy => ih y (dOkL_iff.mp h y hy)
    | none => rfl
    | bool _ => rfl
    | int _ => rfl
    | str _ => rfl
    | _ => simp [dOk] at h
theorem book_dat {b : Book} (hb : b.Ok 3) : b.pv.dat = true ∧ dOk 11 b.pv = true ∧ ∀ x ∈ b.bets, dOk 8 x.cond.pv = true := by
  have wl := hb.wl (by omega)
  have hc : ∀ x ∈ b.bets, dOk 8 x.cond.pv = true := fun x hx => cd_ok 4 x.cond (wl.cond x hx)
  have hst : ∀ l : List Str, dOk 10 (stP l) = true := fun l => by
    rw [stP, dOk_tup]
    exact dOkL_iff.mpr fun y hy => by obtain ⟨w, _, rfl⟩ := List.mem_map.mp hy; exact dOk_flat rfl
  have hd : dOk 11 b.pv = true := by
    rw [Book.pv, dOk_tup]
    refine dOkL_iff.mpr fun y hy => ?_
    simp at hy
    rcases hy with rfl | rfl | rfl
    · exact hst _
    · exact hst _
    · rw [dOk_tup]
      refine dOkL_iff.mpr fun y hy => ?_
      obtain ⟨x, hx, rfl⟩ := List.mem_map.mp hy
      exact dOk_up (by omega) _ (bet_ok wl hx)
  exact ⟨dOk_dat _ _ hd, hd, hc⟩
theorem bk_eq {x : PV} {v : Bool} (h : (x.dat && dOk 60 x && (isBookB x == v)) = true) : callP D G 19 f_is_book [x] S = .ok (.bool v) S := by
  rw [Bool.and_eq_true, Bool.and_eq_true, beq_iff_eq] at h
  rw [is_book_eq (D := D) (G := G) (S := S) (n := 18) h.1.1 h.1.2 (by omega), h.2]
def wetP : PV := .tup [.str "wet"]
def abP : PV := .tup [.str "ann", .str "bob"]
def manyP : List PV := (["na", "nb", "nc", "nd", "ne", "nf", "ng", "nh"] : List Str).map fun w => .tup [.str w, .str "ann", .str "bob", .int 1, .int 999, .tup [.str "lost", .str "na"]]
def sixP : List PV := (["a", "b", "c", "d", "e", "f"] : List Str).map .str
def okB (v : Bool) (x : PV) : Bool := x.dat && dOk 60 x && (isBookB x == v)
theorem hand_all (w : Str) (hw : w = "a" ∨ w = "abcdefgh" ∨ w = "zed") :
    (okB true (.tup [wetP, abP, .tup [betP w]]) && okB false (.tup [wetP, .tup [.str "ann"], .tup [betP w]])) = true := by
  rcases hw with rfl | rfl | rfl <;> decide +kernel
theorem hand_many : okB true (.tup [wetP, abP, .tup manyP]) = true := by decide +kernel
def oddsL (w : Str) : List (Nat × PV) := [(3, .int 0), (3, .int 1000), (4, .int 0), (4, .int 1000), (3, .bool true), (1, .str "bob"), (1, .str "zz"), (0, .str "A"), (0, .str ""), (0, .str (w ++ "abcdefgh"))]
def betL (w : Str) : List PV := [.str w, .str "ann", .str "bob", .int 999, .int 1, .tup [.str "is", .str "wet"]]
def betT (w : Str) : List PV := (betL w).drop 1
theorem hand_odds (w : Str) (hw : w = "a" ∨ w = "abcdefgh" ∨ w = "zed") : (oddsL w).all (fun p => decide (p.1 + 1 ≤ 6) && okB false (.tup [wetP, abP, .tup [.tup ((betL w).take p.1 ++ [p.2] ++ (betL w).drop (p.1 + 1))]])) = true := by
  rcases hw with rfl | rfl | rfl <;> decide +kernel
theorem hand_nine (w : Str) (hw : w = "a" ∨ w = "abcdefgh" ∨ w = "zed") : okB false (.tup [wetP, abP, .tup (manyP ++ [.tup (.str "z" :: betT w)])]) = true := by
  rcases hw with rfl | rfl | rfl <;> decide +kernel
theorem hand_six : (okB true (.tup [.tup sixP, .tup (sixP.take 5), .tup []]) && okB false (.tup [.tup (sixP ++ [.str "g"]), .tup (sixP.take 2), .tup []]) && okB false (.tup [.tup sixP, .tup sixP, .tup []])) = true := by decide +kernel
theorem law_eq (hL : ns.length ≤ 63) : ∃ S, callP D G 20 f_law [.scr ns] [] = .ok (.bool true) S := by
  rw [call_eq rfl]
  obtain ⟨S0, e0, t0, l0⟩ := begun_eq (D := D) (G := G) (ns := ns) (n := 18)
  have lo0 := town_lo0 t0 l0
  obtain ⟨b, S1, e1, bok, t1⟩ := book_eq (D := D) (G := G) (n := 18) hL (most := 3) (by omega) (by omega) (by omega) t0 lo0
  have e1 : callP D G 19 f_law_a_book [.scr ns, .ref 1, .int 3] S0 = .ok b.pv S1 := e1
  have lo1 := lo0.tw t1
  obtain ⟨bd, bd20, bc⟩ := book_dat bok
  have i1 := is_book_eq (D := D) (G := G) (S := S1) (n := 18) bd (dOk_up (by omega) _ bd20) (by omega)
  rw [book_true bok] at i1
  have sp := spoilt_eq 11 18 b.pv S1 bd bd20 (book_le bok) (by omega) lo1
  have hsd := spo_dat 11 b.pv bd20 bd
  simp [c_law, e0, e1, i1, law_is_eq, sp]
  rw [compE_none (g := []) rfl (Nat.le_trans (book_le bok) (by omega)) (fun x hx => ⟨_, rfl, by
    obtain ⟨x1, x2⟩ := hsd x hx
    simp [is_book_eq (D := D) (G := G) (S := S1) (n := 18) x1 (dOk_up (by omega) _ x2) (by omega), book_spo bc x hx, law_is_eq]⟩)]
  have enn : cop .ne (.list []) (.list []) = some false := rfl
  obtain ⟨m, S2, e2, m0, m1, t2⟩ := draw_eq (D := D) (G := G) (n := 18) hL (many := 3) (by omega) (by omega) t1.town
  obtain ⟨w, hw, e3⟩ : ∃ w : Str, (w = "a" ∨ w = "abcdefgh" ∨ w = "zed") ∧ item (.list [.str "a", .str "abcdefgh", .str "zed"]) (.int m) = some (.str w) := by
    have : m = 0 ∨ m = 1 ∨ m = 2 := by omega
    rcases this with rfl | rfl | rfl
    · exact ⟨_, .inl rfl, rfl⟩
    · exact ⟨_, .inr (.inl rfl), rfl⟩
    · exact ⟨_, .inr (.inr rfl), rfl⟩
  have hbw : PV.tup [.str w, .str "ann", .str "bob", .int 999, .int 1, .tup [.str "is", .str "wet"]] = betP w := rfl
  have hr3 : rngOf (.int 3) = some { items := (List.range 3).map fun i => .int (i : Nat) } := rngOf_nat (n := 3) (by decide)
  have h1 := hand_all w hw
  rw [Bool.and_eq_true] at h1
  simp [enn, e2, e3, hbw]
  simp only [hr3, ofO_some, ofR_ok]
  generalize hF : forE _ _ _ _ _ _ _ = o
  let P : Nat → Bt.Env → Store → Prop := fun _ ρ' S' => S' = S2 ∧ ∃ v5, ρ' = [some (.scr ns), some (.ref 1), some b.pv, some (.str w), some (betP w), v5, none, none, none, none, none, none, none]
  obtain ⟨ρ', S3, rfl, rfl, v5, rfl⟩ : ∃ ρ' S', o = .next ρ' S' ∧ P 0 ρ' S' := by
    rw [← hF]
    refine forE_inv (iv := { items := (List.range 3).map fun i => .int (i : Nat) }) P rfl (fun _ _ _ _ => rfl) ?_ ⟨rfl, _, rfl⟩
    rintro j y ρ S4 hy ⟨rfl, v5, rfl⟩
    refine ⟨_, rfl, ?_⟩
    have k1 : callP D G 19 f_is_book [.tup [.tup [.str "wet"], .tup [.str "ann", .str "bob"], .tup [betP w]]] S4 = .ok (.bool true) S4 := bk_eq h1.1
    have k2 : callP D G 19 f_is_book [.tup [.tup [.str "wet"], .tup [.str "ann"], .tup [betP w]]] S4 = .ok (.bool false) S4 := bk_eq h1.2
    refine ex_next (by simp [k1, k2, law_is_eq]; first | exact ⟨rfl, rfl⟩ | rfl) ?_
    exact ⟨rfl, _, rfl⟩
  have hsq : seqOf (.str "abcdefgh") = some ((["a", "b", "c", "d", "e", "f", "g", "h"] : List Str).map .str) := by decide +kernel
  have hgs : guardOf S3 (.str "abcdefgh") = [] := rfl
  simp [hsq, hgs, -List.map_cons]
  rw [compE_mapA (fun c : Str => .tup [.str ("n" ++ c), .str "ann", .str "bob", .int 1, .int 999, .tup [.str "lost", .str "na"]]) (by simp) (fun c hc => ⟨_, rfl, by
    have : bop .add (.str "n") (.str c) = some (.str ("n" ++ c)) := by
      simp only [List.mem_cons, List.not_mem_nil, or_false] at hc
      rcases hc with rfl | rfl | rfl | rfl | rfl | rfl | rfl | rfl <;> rfl
    simp [this]⟩)]
  have hmn : ((["a", "b", "c", "d", "e", "f", "g", "h"] : List Str).map fun c => PV.tup [.str ("n" ++ c), .str "ann", .str "bob", .int 1, .int 999, .tup [.str "lost", .str "na"]]) = manyP := by decide +kernel
  rw [hmn]
  have kz : ∀ S, callP D G 19 f_is_book [.tup [.tup [.str "wet"], .tup [.str "ann", .str "bob"], .tup manyP]] S = .ok (.bool true) S := fun S => bk_eq hand_many
  have hbr : ∀ S, res S (betP w) = betP w := fun _ => rfl
  have sl1 : slice (betP w) (some 1) none = some (.tup (betT w)) := slice1_tup
  have ad1 : bop .add (.tup [.str "z"]) (.tup (betT w)) = some (.tup (.str "z" :: betT w)) := add_tup (by simp [betL, betT])
  have ad2 : bop .add (.tup manyP) (.tup [.tup (.str "z" :: betT w)]) = some (.tup (manyP ++ [.tup (.str "z" :: betT w)])) := add_tup (by simp [manyP])
  have k9 : ∀ S, callP D G 19 f_is_book [.tup [.tup [.str "wet"], .tup [.str "ann", .str "bob"], .tup (manyP ++ [.tup (.str "z" :: betT w)])]] S = .ok (.bool false) S := fun S => bk_eq (hand_nine w hw)
  have h6 := hand_six
  rw [Bool.and_eq_true, Bool.and_eq_true] at h6
  have k61 : ∀ S, callP D G 19 f_is_book [.tup [.tup sixP, .tup (sixP.take 5), .tup []]] S = .ok (.bool true) S := fun S => bk_eq h6.1.1
  have k62 : ∀ S, callP D G 19 f_is_book [.tup [.tup (sixP ++ [.str "g"]), .tup (sixP.take 2), .tup []]] S = .ok (.bool false) S := fun S => bk_eq h6.1.2
  have k63 : ∀ S, callP D G 19 f_is_book [.tup [.tup sixP, .tup sixP, .tup []]] S = .ok (.bool false) S := fun S => bk_eq h6.2
  have hsx : PV.tup [.str "a", .str "b", .str "c", .str "d", .str "e", .str "f"] = .tup sixP := rfl
  have s65 : slice (.tup sixP) none (some 5) = some (.tup (sixP.take 5)) := sl_to (j := 5) (by simp [sixP])
  have s62 : slice (.tup sixP) none (some 2) = some (.tup (sixP.take 2)) := sl_to (j := 2) (by simp [sixP])
  have a6 : bop .add (.tup sixP) (.tup [.str "g"]) = some (.tup (sixP ++ [.str "g"])) := add_tup (by simp [sixP])
  have aw : bop .add (.str w) (.str "abcdefgh") = some (.str (w ++ "abcdefgh")) := by rcases hw with rfl | rfl | rfl <;> rfl
  have odl : bop .add (.list [.tup [.int 3, .int 0], .tup [.int 3, .int 1000], .tup [.int 4, .int 0], .tup [.int 4, .int 1000], .tup [.int 3, .bool true], .tup [.int 1, .str "bob"], .tup [.int 1, .str "zz"], .tup [.int 0, .str "A"], .tup [.int 0, .str ""]]) (.list [.tup [.int 0, .str (w ++ "abcdefgh")]]) = some (.list ((oddsL w).map fun p => .tup [.int (p.1 : Nat), p.2])) := add_list (by simp)
  simp only [tuple_list, ofO_some, bind_ok, map_ok, kBi_eq, List.map_cons, List.map_nil, res_list]
  simp [kz, hbr, sl1, ad1, ad2, k9, hsx, s65, s62, a6, k61, k62, k63, aw, odl]
  generalize hF : forE _ _ _ _ _ _ _ = o
  have hod := List.all_eq_true.mp (hand_odds w hw)
  let P2 : Nat → Bt.Env → Store → Prop := fun _ ρ' S' => S' = S3 ∧ ∃ v8 v9 v10, ρ' = [some (.scr ns), some (.ref 1), some b.pv, some (.str w), some (betP w), v5, some (.tup manyP), some (.tup sixP), v8, v9, v10, none, none]
  obtain ⟨ρ', S4, rfl, rfl, v8, v9, v10, rfl⟩ : ∃ ρ' S', o = .next ρ' S' ∧ P2 0 ρ' S' := by
    rw [← hF]
    refine forE_inv (iv := { items := (oddsL w).map fun p => PV.tup [.int (p.1 : Nat), p.2] }) P2 rfl (fun _ _ _ _ => rfl) ?_ ⟨rfl, _, _, _, rfl⟩
    rintro j y ρ S4 hy ⟨rfl, v8, v9, v10, rfl⟩
    obtain ⟨p, hp, rfl⟩ := List.mem_map.mp (List.mem_of_getElem? hy)
    have hq := hod p hp
    rw [Bool.and_eq_true, decide_eq_true_eq] at hq
    have hbl : (betL w).length = 6 := rfl
    have s1 : slice (betP w) none (some (p.1 : Nat)) = some (.tup ((betL w).take p.1)) := sl_to (xs := betL w) (by omega)
    have s2 : slice (betP w) (some ((p.1 : Nat) + 1)) none = some (.tup ((betL w).drop (p.1 + 1))) := by
      have := sl_from (xs := betL w) (j := p.1 + 1) (by omega)
      rwa [show ((p.1 + 1 : Nat) : Int) = (p.1 : Int) + 1 by omega] at this
    have a1 : bop .add (.tup ((betL w).take p.1)) (.tup [p.2]) = some (.tup ((betL w).take p.1 ++ [p.2])) := add_tup (by simp; omega)
    have a2 : bop .add (.tup ((betL w).take p.1 ++ [p.2])) (.tup ((betL w).drop (p.1 + 1))) = some (.tup ((betL w).take p.1 ++ [p.2] ++ (betL w).drop (p.1 + 1))) := add_tup (by simp [hbl]; omega)
    have k1 : callP D G 19 f_is_book [.tup [.tup [.str "wet"], .tup [.str "ann", .str "bob"], .tup [.tup ((betL w).take p.1 ++ [p.2] ++ (betL w).drop (p.1 + 1))]]] S4 = .ok (.bool false) S4 := bk_eq hq.2
    generalize (betL w).take p.1 = l1 at *
    generalize (betL w).drop (p.1 + 1) = l2 at *
    generalize hl3 : l1 ++ [p.2] = l3 at *
    generalize hl4 : l3 ++ l2 = l4 at *
    have rs : ∀ S, res S p.2 = p.2 := fun S => by
      simp only [oddsL, List.mem_cons, List.not_mem_nil, or_false] at hp
      rcases hp with rfl | rfl | rfl | rfl | rfl | rfl | rfl | rfl | rfl | rfl <;> rfl
    refine ⟨[some (.scr ns), some (.ref 1), some b.pv, some (.str w), some (betP w), v5, some (.tup manyP), some (.tup sixP), v8, some (.int (p.1 : Nat)), some p.2, none, none], rfl, ?_⟩
    refine ex_next (by simp [hbr, s1, s2, a1, a2, k1]; first | exact ⟨rfl, rfl⟩ | rfl) ?_
    exact ⟨rfl, _, _, _, rfl⟩
  have lo4 := lo1.tw t2
  obtain ⟨kk, k1, k2, ehs⟩ := bok.hs
  have hh0 : 1 ≤ b.hs.length ∧ b.hs.length ≤ 6 := by
    rw [ehs, List.length_take]
    have : happs.length = 4 := rfl
    omega
  obtain ⟨S5, e5, t5⟩ := seen_law_eq (n := 18) (b := b) hL hh0.2 hh0.1 t2.town lo4 (by omega)
  have e6 := conditions_eq (n := 18) (S := S5) hw (lo4.tw t5) (by omega)
  have e6 : callP D G 19 f_law_conditions [.tup [.tup [.str "wet"], .tup [.str "ann", .str "bob"], .tup [betP w]], .str w] S5 = .ok (.bool true) S5 := e6
  simp [e5, e6]
  exact finish_law
end K01
end
section
set_option maxHeartbeats 0
namespace K01
open PySem PySem.Spec PyProof.Rows L2 Bt
abbrev R : PySem.W.OpenRow := PySem.W.OpenLaw.row PySem.Challenge.rw_betsonbets_k01_no_books
def top (i : Nat) : Stmt := PySem.Challenge.pw_betsonbets_k01_no_books.main.body.getD i (.Pass ⟨0, 0, 0, 0⟩)
def mkD (x : Str) (i : Nat) : He.DefD := ⟨(x, none), x, x, defArgs (top i), defBody (top i), defScope (top i), [], []⟩
def fn0 : List He.DefD := [mkD "is_number" 6, mkD "is_name" 7, mkD "is_rising" 8, mkD "are_names" 9, mkD "is_known" 10, mkD "is_condition_of" 11, mkD "is_bet" 12, mkD "is_book" 13, mkD "names_of" 14, mkD "is_condition" 15, mkD "is_seen" 16, mkD "look_seen" 17, mkD "fits_of" 18, mkD "worlds" 19, mkD "fitting" 20, mkD "_law_is" 22, mkD "_law_draw" 23, mkD "_law_begun" 24, mkD "_law_a_condition" 25, mkD "_law_a_book" 26, mkD "_law_worlds" 27, mkD "_law_spoilt" 28, mkD "_law_deep" 29, mkD "_law_conditions" 30, mkD "_law_seen" 31, mkD "law" 32]
def fn : List He.DefD := fn0
theorem chk : chkAll 0 (tabOf 0 es gs) es fn = true := by kernel_rfl
def loose0 : List Str := ["__name__", "BetError", "NoSeen", "LETTERS", "DEEP", "is_number", "is_name", "is_rising", "are_names", "is_known", "is_condition_of", "is_bet", "is_book", "names_of", "is_condition", "is_seen", "look_seen", "fits_of", "worlds", "fitting", "_law_is", "_law_draw", "_law_begun", "_law_a_condition", "_law_a_book", "_law_worlds", "_law_spoilt", "_law_deep", "_law_conditions", "_law_seen"]
def loose : List Str := loose0
abbrev hk : PySem.W.Hook := hookE 0 4 (faOf 0 es) fn gs
def ob (s : PySem.W.SharedT) : AlE := obE 0 4 (faOf 0 es) fn gs (HandSHeadRun.getT s)
theorem ob_eq (s : PySem.W.SharedT) : ob s = hk.obs s.abs := obE_eq (HandSHeadRun.getT_eq s)
theorem run (w : World) : HandSHeadRun.RunEq R (PySem.W.view R.prog [32]) hk ob 40000 loose w := by
  intro os
  kernel_rfl
end K01
end
section
set_option maxHeartbeats 0
open PySem PySem.W PySem.Calls PyProof.Rows
theorem PySem.Challenge.cw_betsonbets_k01_no_books_holds : PySem.Challenge.rw_betsonbets_k01_no_books.Holds := by
  w_on; o_law
  refine HandSHeadRun.head_any (r := OpenLaw.row PySem.Challenge.rw_betsonbets_k01_no_books) (q := view (OpenLaw.row PySem.Challenge.rw_betsonbets_k01_no_books).prog [32]) (H := K01.hk) (ob := K01.ob) (M := 40000) (loose := K01.loose) (d := HandSHeadRun.topDef (OpenLaw.row PySem.Challenge.rw_betsonbets_k01_no_books).prog 32) (kwd := []) K01.ob_eq
    (by kernel_rfl) (fun s => by kernel_rfl) K01.run (by kernel_rfl) (by kernel_rfl) (by kernel_rfl) (by rfl) (by first | assumption | decide +kernel) (by decide +kernel) ⟨rfl, rfl, rfl, rfl, rfl, by decide +kernel⟩ ?hw ?hc
  case hw => w_witness2
  case hc =>
    refine L2.walk_ofE (l := PySem.Challenge.rw_betsonbets_k01_no_books) (n := 63) (k := 20) (x := "script") (CX := L2.CX0) rfl (by decide) (by kernel_rfl) ⟨rfl, by decide, by decide⟩ ?F (fun _ _ _ _ z => z)
    intro w mg fa h Y G hmg0
    obtain ⟨K, KX, c, cg⟩ := Y
    have hmg : mg ("law" : PySem.Str) = some (.ref fa) := by
      have e : (HandSHeadRun.topDef (OpenLaw.row PySem.Challenge.rw_betsonbets_k01_no_books).prog 32).name = ("law" : PySem.Str) := by kernel_rfl
      rw [← e]
      exact hmg0
    have pg := Bt.pg_of (Tl := []) K01.chk KX G c cg
    obtain ⟨fd, sp, hb, hsp, hF⟩ := Bt.law_end (P := (PySem.Challenge.rw_betsonbets_k01_no_books).prog) (w := w) (n := 63) (k := 20) (f := Bt.f_law) pg rfl hmg fun ns hl => K01.law_eq hl
    exact ⟨K, fd, sp, KX, hb, hsp, hF⟩
end
